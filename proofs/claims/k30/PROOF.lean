import PyProof.Rows.All
import KE.KeyNested
import KE.SortData
import HandS.ForMost
import HandS.Wide
import HandS.Walk
import HandS.Zip
import HandS.TupAny
import HandS.TupMul
import HandS.IsInst
import HandS.Flow
import KE.KDictKeyed
import HandS.Deep
import HandS.Star
import KE.GoesMore
import KE.GoesEnum
import HandS.DictComp
import HandS.TupLen
import KE.KSortTup
import KE.DataCmp
import KE.KDictPairs
import KE.KDictZip
import HandS.Conv
import HandS.RaiseMore
import HandS.Words
import HandS.Ends
import Wide.All
import OpenK.AllK
import Wide.FinOn
import PySem.Challenge.RW_splitsums_k30_whole_matrices_of_rows
set_option Elab.async false
set_option linter.all false
/-! Clean: a small heap-light semantics of the Python fragment in use. Values D are data; lists are values (frozen) or owned by one slot (ol) or shared (ref). -/
namespace Cl
open PySem

inductive D where
  | non | bl (b : Bool) | int (i : Int) | str (x : Str)
  | tup (ds : List D) | lst (ds : List D) | dct (ks vs : List D)
  | ref (n : Nat)
  /-- a list of someone else's: read only by slices -/
  | frl (ds : List D)
  deriving Inhabited

/-- a slot's content: a value, an owned list, an owned dict -/
inductive Sl where
  | v (d : D) | ol (ds : List D) | od (ks vs : List D)
  deriving Inhabited

/-- shared objects -/
inductive CO where
  | lst (ds : List D)
  deriving Inhabited

abbrev CH := List CO
abbrev Env := List (Option Sl)

inductive R (α : Type) where
  | ok (a : α) (S : CH)
  | ex (x : D) (S : CH)

def Cm (α : Type) := CH → Option (R α)
namespace Cm
def pure (a : α) : Cm α := fun S => some (.ok a S)
def bind (m : Cm α) (f : α → Cm β) : Cm β := fun S =>
  match m S with
  | some (.ok a S') => f a S'
  | some (.ex x S') => some (.ex x S')
  | none => none
def fail : Cm α := fun _ => none
def lift (o : Option α) : Cm α := fun S => match o with | some a => some (.ok a S) | none => none
def heap : Cm CH := fun S => some (.ok S S)
instance : Monad Cm where
  pure := Cm.pure
  bind := Cm.bind
end Cm

inductive BI where
  | len | abs | tuple | list | sorted | all | any | sum | int | str | repr | max | min | dict
  deriving DecidableEq

inductive Ty where
  | int | bool | str | tuple | list | dict
  deriving DecidableEq

/-- targets -/
inductive G where
  | nm (i : Nat) | tup (gs : List G)

inductive E where
  | var (i : Nat) | glob (x : Str) | con (d : D)
  | bin (op : Operator) (a b : E) | neg (a : E) | not (a : E)
  | and (a b : E) | or (a b : E)
  | ite (c a b : E)
  | cmp (op : CmpOp) (a b : E) | chn (op op' : CmpOp) (a b c : E)
  | tup (es : List E) | lst (es : List E) | star (e : E)
  | dct (kvs : List E)
  | idx (a i : E) | slc (a : E) (lo hi : Option E)
  | rev (a : E)
  | call (f : Str) (es : List E)
  | bi (f : BI) (es : List E)
  | isi (a : E) (t : Ty)
  | get2 (a k d : E)
  | comp (own : List Nat) (elt : E) (g : G) (it : E) (ifs : List E)
  | comp2 (own own2 : List Nat) (elt : E) (g : G) (it : E) (g2 : G) (it2 : E)
  | dcomp (own : List Nat) (k v : E) (g : G) (it : E)
  | rng (es : List E) | zip (a b : E) | zip3 (a b e : E) | enum (a : E) | dzip (a b : E)
  | new (a : E)
  | indexOf (a x : E)

inductive Sm where
  | asg (g : G) (e : E) | own (i : Nat) (e : E)
  | par (i : Nat) (oi : Bool) (a : E) (j : Nat) (oj : Bool) (b : E)
  | set (o i e : E)
  | aug (i : Nat) (op : Operator) (e : E) | augS (o i : E) (op : Operator) (e : E)
  | app (i : Nat) (e : E) | ext (i : Nat) (e : E) | ins (i : Nat) (a e : E)
  | popA (g : G) (i : Nat) (a : E)
  | ite (c : E) (a b : List Sm)
  | whl (c : E) (b : List Sm)
  | for_ (g : G) (it : E) (b : List Sm)
  | ret (e : E) | retN | pass | brk | cnt | exp (e : E)
  | rais
  | frz (i : Nat)
  /-- forget slots -/
  | kil (is : List Nat)

/-! ### slots -/
def Env.at : Env → Nat → Option Sl
  | [], _ => none
  | x :: _, 0 => x
  | _ :: σ, i + 1 => Env.at σ i
def Env.put : Env → Nat → Option Sl → Env
  | [], _, _ => []
  | _ :: σ, 0, y => y :: σ
  | x :: σ, i + 1, y => x :: Env.put σ i y
def Env.wipe (σ : Env) : List Nat → Env
  | [] => σ
  | i :: is => (Env.wipe σ is).put i none

/-! ### values -/
mutual
def D.py : D → Option PyData
  | .non => some .none
  | .bl b => some (.bool b)
  | .int i => some (.int i)
  | .str x => some (.str x)
  | .tup ds => (D.pys ds).map .tuple
  | .lst ds => (D.pys ds).map .list
  | .dct _ _ => none
  | .ref _ => none
  | .frl _ => none
def D.pys : List D → Option (List PyData)
  | [] => some []
  | d :: ds => match D.py d, D.pys ds with
    | some p, some ps => some (p :: ps)
    | _, _ => none
end

/-- == of frozen data -/
def deq (a b : D) : Option Bool :=
  match a.py, b.py with
  | some p, some q => if SeqAt.shaped p = true ∧ SeqAt.shaped q = true then some (PyData.eqv p q) else none
  | _, _ => none

def truth : D → Option Bool
  | .non => some false
  | .bl b => some b
  | .int i => some (i != 0)
  | .str x => if x.length ≤ sizeLine then some (x.length != 0) else none
  | .tup ds => some (!ds.isEmpty)
  | .lst ds => some (!ds.isEmpty)
  | .dct _ _ => none
  | .ref _ => none
  | .frl _ => none

def item? (ds : List D) (i : Int) : Option D :=
  if 0 ≤ i then ds[i.toNat]? else if 0 ≤ i + ds.length then ds[(i + ds.length).toNat]? else none

def place? (n : Nat) (i : Int) : Option Nat :=
  if 0 ≤ i then (if i.toNat < n then some i.toNat else none) else if 0 ≤ i + n then some (i + n).toNat else none

/-- a slice's ends -/
def clip (n : Nat) (i : Int) : Nat := if i < 0 then (i + n).toNat else min i.toNat n
def cut {α : Type} (xs : List α) (lo hi : Option Int) : List α :=
  let a := match lo with | some i => clip xs.length i | none => 0
  let b := match hi with | some i => clip xs.length i | none => xs.length
  (xs.drop a).take (b - a)

/-! ### dicts: keys are whole numbers and texts, or tuples of such -/
mutual
def keyOf : D → Option NestedKey
  | .non => some .none
  | .int i => some (.num i)
  | .str x => some (.text x)
  | .tup ds => (keysOf ds).map .tup
  | .bl _ => none
  | .lst _ => none
  | .dct _ _ => none
  | .ref _ => none
  | .frl _ => none
def keysOf : List D → Option (List NestedKey)
  | [] => some []
  | d :: ds => match keyOf d, keysOf ds with
    | some k, some ks => some (k :: ks)
    | _, _ => none
end
/-- a tuple (true), a number or a text (false) -/
def kindN : NestedKey → Option Bool
  | .tup ks => if NestedKey.depthAll ks ≤ 7 then some true else none
  | .num _ => some false
  | .text _ => some false
  | .none => none
def kk (d : D) : Option Bool := (keyOf d).bind kindN
def dfind (k : D) : List D → List D → Option (Option D)
  | [], [] => if (kk k).isSome then some none else none
  | k' :: ks, v :: vs => if (kk k).isSome ∧ kk k' = kk k then (if keyOf k' = keyOf k then some (some v) else dfind k ks vs) else none
  | _, _ => none
def dput (k v : D) : List D → List D → Option (List D × List D)
  | [], [] => if (kk k).isSome then some ([k], [v]) else none
  | k' :: ks, v' :: vs => if (kk k).isSome ∧ kk k' = kk k then (if keyOf k' = keyOf k then some (k' :: ks, v :: vs) else (dput k v ks vs).map fun p => (k' :: p.1, v' :: p.2)) else none
  | _, _ => none

/-- a datum as a key -/
def enc (d : D) : PyData := d.py.getD .none
def hasPy (d : D) : Bool := d.py.isSome
def alikeL (ds : List D) : Bool := ds.all fun a => ds.all fun b => PySem.W.alike (enc a) (enc b)
def isTupC : D → Bool
  | .tup (_ :: _) => true
  | _ => false
def isFlat : D → Bool
  | .tup _ => false
  | .non => false
  | _ => true
def isNone : D → Bool
  | .non => true
  | _ => false
def sortD (ds : List D) : Option (List D) :=
  if ds.all hasPy && alikeL ds && (ds.all isTupC || ds.all isFlat || (decide (ds.length ≤ 1) && ds.all fun d => !isNone d)) && ds.all (fun d => decide ((enc d).depth ≤ 16)) && decide (ds.length ≤ 1000000) then some (ds.mergeSort (PySem.W.dataLe false enc)) else none

def mulOk (i j : Int) : Bool := decide (i.natAbs.log2 + j.natAbs.log2 < 1000000)
def divOk (j : Int) : Bool := decide (j ≠ 0) && decide (j.natAbs.log2 < 9000)

def repL (n : Int) (ds : List D) : List D := (List.replicate n.toNat ds).flatten

def binD : Operator → D → D → Option D
  | .Add, .int a, .int b => some (.int (a + b))
  | .Sub, .int a, .int b => some (.int (a - b))
  | .Mult, .int a, .int b => if mulOk a b then some (.int (a * b)) else none
  | .FloorDiv, .int a, .int b => if divOk b then some (.int (a.fdiv b)) else none
  | .Mod, .int a, .int b => if b = 0 then none else some (.int (a.fmod b))
  | .Pow, .int a, .int b => if 0 ≤ b ∧ b ≤ 1000000 ∧ a.natAbs < 2 ^ 64 then some (.int (a ^ b.toNat)) else none
  | .Add, .tup a, .tup b => if a.length + b.length ≤ 1000000 then some (.tup (a ++ b)) else none
  | .Add, .lst a, .lst b => if a.length + b.length ≤ 1000000 then some (.lst (a ++ b)) else none
  | .Mult, .lst a, .int n => if -1000000 ≤ n ∧ n ≤ 1000000 ∧ a.length * n.toNat ≤ 1000000 then some (.lst (repL n a)) else none
  | .Mult, .tup a, .int n => if -1000000 ≤ n ∧ n ≤ 1000 ∧ a.length ≤ 1000 then some (.tup (repL n a)) else none
  | .Add, .str a, .str b => if a.length + b.length ≤ 1000000 then some (.str (a ++ b)) else none
  | _, _, _ => none

/-- op=, of whole numbers -/
def ipD : Operator → D → D → Option D
  | .Add, .int a, .int b => some (.int (a + b))
  | .Sub, .int a, .int b => some (.int (a - b))
  | _, _, _ => none

def inL (x : D) : List D → Option Bool
  | [] => some false
  | y :: ys => match deq y x with
    | some true => some true
    | some false => inL x ys
    | none => none

def cmpD : CmpOp → D → D → Option Bool
  | .Eq, a, b => deq a b
  | .NotEq, a, b => (deq a b).map (!·)
  | .Lt, .int a, .int b => some (decide (a < b))
  | .LtE, .int a, .int b => some (decide (a ≤ b))
  | .Gt, .int a, .int b => some (decide (b < a))
  | .GtE, .int a, .int b => some (decide (b ≤ a))
  | .Is, a, .non => some (isNone a)
  | .IsNot, a, .non => some (!isNone a)
  | .In, x, .lst ds => inL x ds
  | .In, x, .tup ds => inL x ds
  | .NotIn, x, .lst ds => (inL x ds).map (!·)
  | .NotIn, x, .tup ds => (inL x ds).map (!·)
  | _, _, _ => none

def isTy : Ty → D → Option Bool
  | .int, d => match d with | .int _ => some true | .bl _ => some true | .ref _ => none | .frl _ => none | .dct _ _ => none | _ => some false
  | .bool, d => match d with | .bl _ => some true | .ref _ => none | .frl _ => none | .dct _ _ => none | _ => some false
  | .str, d => match d with | .str _ => some true | .ref _ => none | .frl _ => none | .dct _ _ => none | _ => some false
  | .tuple, d => match d with | .tup _ => some true | .ref _ => none | .frl _ => none | .dct _ _ => none | _ => some false
  | .list, d => match d with | .lst _ => some true | .ref _ => none | .frl _ => none | .dct _ _ => none | _ => some false
  | .dict, d => match d with | .ref _ => none | .frl _ => none | .dct _ _ => none | _ => some false

def ints? : List D → Option (List Int)
  | [] => some []
  | .int i :: ds => (ints? ds).map (i :: ·)
  | _ => none
def bools? : List D → Option (List Bool)
  | [] => some []
  | .bl i :: ds => (bools? ds).map (i :: ·)
  | _ => none

def reprD (d : D) : Option D :=
  match d.py with
  | some p => if p.showable = true ∧ SeqAt.shaped p = true ∧ p.shown.length ≤ sizeLine then some (.str p.shown) else none
  | none => none

/-- dict([(k, v), ..]) -/
def pairs? : List D → Option (List (D × D))
  | [] => some []
  | .tup [k, v] :: ds => (pairs? ds).map ((k, v) :: ·)
  | _ => none
def dputs : List (D × D) → List D → List D → Option (List D × List D)
  | [], ks, vs => some (ks, vs)
  | (k, v) :: r, ks, vs => match dput k v ks vs with
    | some p => dputs r p.1 p.2
    | none => none

def biD : BI → List D → Option D
  | .len, [.tup ds] => some (.int ds.length)
  | .len, [.lst ds] => some (.int ds.length)
  | .len, [.dct ks _] => some (.int ks.length)
  | .len, [.str x] => if x.length ≤ sizeLine then some (.int x.length) else none
  | .abs, [.int i] => some (.int (if i < 0 then -i else i))
  | .tuple, [.lst ds] => some (.tup ds)
  | .tuple, [.tup ds] => some (.tup ds)
  | .list, [.lst ds] => some (.lst ds)
  | .list, [.tup ds] => some (.lst ds)
  | .sorted, [.lst ds] => (sortD ds).map .lst
  | .sorted, [.tup ds] => (sortD ds).map .lst
  | .sorted, [.dct ks _] => (sortD ks).map .lst
  | .all, [.lst ds] => (bools? ds).map fun bs => .bl (bs.all id)
  | .any, [.lst ds] => (bools? ds).map fun bs => .bl (bs.any id)
  | .int, [.int i] => some (.int i)
  | .int, [.bl b] => some (.int (if b then 1 else 0))
  | .max, [.int i, .int j] => some (.int (if j > i then j else i))
  | .min, [.int i, .int j] => some (.int (if j < i then j else i))
  | .repr, [d] => reprD d
  | .dict, [.lst ds] => match pairs? ds with
    | some ps => if ds.length ≤ 1000000 then (dputs ps [] []).map fun p => .dct p.1 p.2 else none
    | none => none
  | _, _ => none

/-- a list's index of a datum -/
def indexD (x y : D) : Option D := match x with
  | .lst ds => match (D.lst ds).py, y.py with
    | some (.list ps), some q => if SeqAt.shaped (.list ps) = true ∧ SeqAt.shaped q = true then (ps.findIdx? fun z => PyData.eqv z q).map fun j : Nat => D.int (j : Int) else none
    | _, _ => none
  | _ => none
def zip3D (xs ys zs : List D) : List D := (xs.zip (ys.zip zs)).map fun p => .tup [p.1, p.2.1, p.2.2]

/-- what a list or a tuple holds -/
def seq? : D → Option (List D)
  | .tup ds => some ds
  | .lst ds => some ds
  | _ => none

def idxD (a i : D) : Option D :=
  match a, i with
  | .tup ds, .int i => item? ds i
  | .lst ds, .int i => item? ds i
  | .dct ks vs, k => match dfind k ks vs with
    | some (some v) => some v
    | _ => none
  | _, _ => none

def int? : D → Option Int
  | .int i => some i
  | _ => none

def slcD (a : D) (lo hi : Option Int) : Option D :=
  match a with
  | .tup ds => some (.tup (cut ds lo hi))
  | .lst ds => some (.lst (cut ds lo hi))
  | .frl ds => some (.lst (cut ds lo hi))
  | _ => none

/-- a range's items -/
def rngD : List D → Option (List D)
  | [.int n] => if n ≤ 1000000 ∧ -1000000 ≤ n then some ((List.range n.toNat).map fun i : Nat => .int (i : Int)) else none
  | [.int a, .int b] => if -1000000 ≤ a ∧ a ≤ 1000000 ∧ -1000000 ≤ b ∧ b ≤ 1000000 then some ((List.range (b - a).toNat).map fun i : Nat => .int (a + (i : Int))) else none
  | [.int a, .int b, .int c] => if c = -1 ∧ -1000000 ≤ a ∧ a ≤ 1000000 ∧ -1000000 ≤ b ∧ b ≤ 1000000 then some ((List.range (a - b).toNat).map fun i : Nat => .int (a - (i : Int))) else none
  | _ => none

mutual
def G.bind : G → D → Env → Option Env
  | .nm i, d, σ => some (σ.put i (some (.v d)))
  | .tup gs, d, σ => match d with
    | .tup ds => G.binds gs ds σ
    | .lst ds => G.binds gs ds σ
    | _ => none
def G.binds : List G → List D → Env → Option Env
  | [], [], σ => some σ
  | g :: gs, d :: ds, σ => match G.bind g d σ with
    | some σ' => G.binds gs ds σ'
    | none => none
  | _, _, _ => none
end

/-! ### loops -/
/-- a comprehension's turns -/
def compM (bind : D → Option Env) (test : Env → Cm Bool) (elt : Env → Cm D) : List D → Cm (List D)
  | [] => pure []
  | x :: xs => do
    let σ ← Cm.lift (bind x)
    let b ← test σ
    if b then do
      let y ← elt σ
      let ys ← compM bind test elt xs
      pure (y :: ys)
    else compM bind test elt xs
def comp2M (bind : D → Option Env) (inner : Env → Cm (List D)) : List D → Cm (List D)
  | [] => pure []
  | x :: xs => do
    let σ ← Cm.lift (bind x)
    let ys ← inner σ
    let zs ← comp2M bind inner xs
    pure (ys ++ zs)
def dcompM (bind : D → Option Env) (k v : Env → Cm D) : List D → List D → List D → Cm (List D × List D)
  | [], ks, vs => pure (ks, vs)
  | x :: xs, ks, vs => do
    let σ ← Cm.lift (bind x)
    let kd ← k σ
    let vd ← v σ
    let p ← Cm.lift (dput kd vd ks vs)
    dcompM bind k v xs p.1 p.2

/-- a module: what its names stand for, what calls of its defs give -/
structure Cfg where
  call : Str → List D → Cm D
  glob : Str → Option D

/-- the value of a slot where it is only looked at -/
def look (σ : Env) (i : Nat) : Option D :=
  match σ.at i with
  | some (.v d) => some d
  | some (.ol ds) => some (.lst ds)
  | some (.od ks vs) => some (.dct ks vs)
  | none => none
def val (σ : Env) (i : Nat) : Option D :=
  match σ.at i with
  | some (.v d) => some d
  | _ => none

/-- a shared list -/
def shared (d : D) (S : CH) : Option (List D) :=
  match d with
  | .ref n => match S[n]? with
    | some (.lst ds) => some ds
    | _ => none
  | _ => none

/-- reading through a reference -/
def deref (d : D) : Cm D := fun S =>
  match d with
  | .ref _ => (shared d S).map fun ds => .ok (.lst ds) S
  | _ => some (.ok d S)

def derefs : List D → Cm (List D)
  | [] => pure []
  | d :: ds => do let x ← deref d; let xs ← derefs ds; pure (x :: xs)

/-- pairs of a flat list -/
def pairUp : List D → Option (List (D × D))
  | [] => some []
  | [_] => none
  | k :: v :: r => (pairUp r).map ((k, v) :: ·)

/-- what an expression gives: as a value; as a test; where it is only looked at; walked; among arguments -/
structure Md where
  v : Cm D
  t : Cm Bool
  b : Cm D
  i : Cm (List D)
  s : Cm (List D)
  /-- walked, of values alone -/
  w : Cm (List D)
def Md.of (m : Cm D) : Md :=
  ⟨m, Cm.bind m fun x => Cm.lift (truth x), m, Cm.bind m fun x => Cm.lift (seq? x), Cm.bind m fun x => Cm.pure [x], Cm.bind m fun x => Cm.lift (seq? x)⟩
def Md.bad : Md := ⟨Cm.fail, Cm.fail, Cm.fail, Cm.fail, Cm.fail, Cm.fail⟩
/-- of a slot -/
def Md.slot (σ : Env) (k : Nat) : Md :=
  ⟨Cm.lift (val σ k), Cm.lift ((look σ k).bind truth), Cm.lift (look σ k), Cm.lift ((look σ k).bind seq?), Cm.bind (Cm.lift (val σ k)) fun x => Cm.pure [x], Cm.lift ((val σ k).bind seq?)⟩

mutual
def ev (c : Cfg) : E → Env → Md
  | .var i, σ => Md.slot σ i
  | .glob x, _ => Md.of (Cm.lift (c.glob x))
  | .con d, _ => Md.of (pure d)
  | .bin op a b, σ => Md.of do let x ← (ev c a σ).v; let y ← (ev c b σ).v; Cm.lift (binD op x y)
  | .neg a, σ => Md.of do let x ← (ev c a σ).v; Cm.lift ((int? x).map fun i => .int (-i))
  | .not a, σ => { Md.of (do let x ← (ev c a σ).v; match x with | .bl b => pure (.bl (!b)) | _ => Cm.fail) with t := do let b ← (ev c a σ).t; pure (!b) }
  | .and a b, σ => { Md.of (do
      let x ← (ev c a σ).v
      match x with
      | .bl true => (ev c b σ).v
      | .bl false => pure (.bl false)
      | _ => Cm.fail) with t := do if ← (ev c a σ).t then (ev c b σ).t else pure false }
  | .or a b, σ => { Md.of (do
      let x ← (ev c a σ).v
      match x with
      | .bl true => pure (.bl true)
      | .bl false => (ev c b σ).v
      | _ => Cm.fail) with t := do if ← (ev c a σ).t then pure true else (ev c b σ).t }
  | .ite t a b, σ => { Md.of (do if ← (ev c t σ).t then (ev c a σ).v else (ev c b σ).v) with t := Cm.fail }
  | .cmp op a b, σ => Md.of do let x ← (ev c a σ).b; let y ← (ev c b σ).b; let x' ← deref x; let y' ← deref y; Cm.lift ((cmpD op x' y').map .bl)
  | .chn op op' a b e, σ => { Md.of (do
    let x ← (ev c a σ).v
    let y ← (ev c b σ).v
    let t ← Cm.lift (cmpD op x y)
    if t then do let z ← (ev c e σ).v; Cm.lift ((cmpD op' y z).map .bl) else pure (.bl false)) with t := Cm.fail }
  | .tup es, σ => Md.of do let xs ← evs c es σ; pure (.tup xs)
  | .lst es, σ => Md.of do let xs ← evs c es σ; pure (.lst xs)
  | .star a, σ => { Md.bad with s := do let x ← (ev c a σ).b; let xs ← Cm.lift (seq? x); if xs.length ≤ 1000000 then pure xs else Cm.fail }
  | .dct kvs, σ => Md.of do
    let xs ← evs c kvs σ
    let ps ← Cm.lift (pairUp xs)
    let p ← Cm.lift (dputs ps [] [])
    pure (.dct p.1 p.2)
  | .idx a i, σ => Md.of do let x ← (ev c a σ).b; let y ← (ev c i σ).v; let x' ← deref x; Cm.lift (idxD x' y)
  | .slc a lo hi, σ => Md.of do
    let x ← (ev c a σ).b
    let l ← evO c lo σ
    let h ← evO c hi σ
    let x' ← deref x
    Cm.lift (slcD x' l h)
  | .rev a, σ => Md.of do
    let y ← (ev c a σ).b
    let x ← deref y
    match x with
    | .lst ds => pure (.lst ds.reverse)
    | .tup ds => pure (.tup ds.reverse)
    | _ => Cm.fail
  | .call f es, σ => Md.of do let xs ← evs c es σ; c.call f xs
  | .bi f es, σ => Md.of do let xs ← evBs c es σ; let xs' ← derefs xs; Cm.lift (biD f xs')
  | .isi a t, σ => Md.of do let x ← (ev c a σ).v; Cm.lift ((isTy t x).map .bl)
  | .get2 a k d, σ => Md.of do
    let x ← (ev c a σ).b
    let kd ← (ev c k σ).v
    let dd ← (ev c d σ).v
    match x with
    | .dct ks vs => Cm.lift ((dfind kd ks vs).map fun o => o.getD dd)
    | _ => Cm.fail
  | .comp own elt g it ifs, σ => Md.of do
    let xs ← (ev c it σ).i
    if xs.length ≤ 1000000 then do
      let ys ← compM (fun d => g.bind d (σ.wipe own)) (fun σ' => evIfs c ifs σ') (fun σ' => (ev c elt σ').v) xs
      pure (.lst ys)
    else Cm.fail
  | .comp2 own own2 elt g it g2 it2, σ => Md.of do
    let xs ← (ev c it σ).i
    let ys ← comp2M (fun d => g.bind d (σ.wipe own)) (fun σ' => do
      let zs ← (ev c it2 σ').w
      compM (fun d => g2.bind d (σ'.wipe own2)) (fun _ => pure true) (fun σ2 => (ev c elt σ2).v) zs) xs
    if ys.length ≤ 1000000 then pure (.lst ys) else Cm.fail
  | .dcomp own k v g it, σ => Md.of do
    let xs ← (ev c it σ).i
    if xs.length ≤ 1000000 then do
      let p ← dcompM (fun d => g.bind d (σ.wipe own)) (fun σ' => (ev c k σ').v) (fun σ' => (ev c v σ').v) xs [] []
      pure (.dct p.1 p.2)
    else Cm.fail
  | .rng es, σ => { Md.bad with
      i := do let xs ← evs c es σ; Cm.lift (rngD xs)
      w := do let xs ← evs c es σ; Cm.lift (rngD xs) }
  | .zip a b, σ => { Md.bad with
      i := do
        let x ← (ev c a σ).b
        let y ← (ev c b σ).b
        let xs ← Cm.lift (seq? x)
        let ys ← Cm.lift (seq? y)
        pure ((xs.zip ys).map fun p => .tup [p.1, p.2])
      w := do
        let x ← (ev c a σ).v
        let y ← (ev c b σ).v
        let xs ← Cm.lift (seq? x)
        let ys ← Cm.lift (seq? y)
        pure ((xs.zip ys).map fun p => .tup [p.1, p.2]) }
  | .zip3 a b e, σ => { Md.bad with
      i := do
        let x ← (ev c a σ).b
        let y ← (ev c b σ).b
        let z ← (ev c e σ).b
        let xs ← Cm.lift (seq? x)
        let ys ← Cm.lift (seq? y)
        let zs ← Cm.lift (seq? z)
        pure (zip3D xs ys zs)
      w := do
        let x ← (ev c a σ).v
        let y ← (ev c b σ).v
        let z ← (ev c e σ).v
        let xs ← Cm.lift (seq? x)
        let ys ← Cm.lift (seq? y)
        let zs ← Cm.lift (seq? z)
        pure (zip3D xs ys zs) }
  | .enum a, σ => { Md.bad with
      i := do
        let x ← (ev c a σ).b
        let xs ← Cm.lift (seq? x)
        pure (xs.zipIdx.map fun p => .tup [.int p.2, p.1])
      w := do
        let x ← (ev c a σ).v
        let xs ← Cm.lift (seq? x)
        pure (xs.zipIdx.map fun p => .tup [.int p.2, p.1]) }
  | .dzip a b, σ => Md.of do
    let x ← (ev c a σ).b
    let y ← (ev c b σ).b
    let xs ← Cm.lift (seq? x)
    let ys ← Cm.lift (seq? y)
    if xs.length ≤ 1000000 then do
      let p ← Cm.lift (dputs (xs.zip ys) [] [])
      pure (.dct p.1 p.2)
    else Cm.fail
  | .new a, σ => Md.of do
    let x ← (ev c a σ).v
    match x with
    | .lst ds => fun S => some (.ok (.ref S.length) (S ++ [.lst ds]))
    | _ => Cm.fail
  | .indexOf a e, σ => Md.of do let x ← (ev c a σ).b; let y ← (ev c e σ).v; Cm.lift (indexD x y)
/-- displays and arguments; a starred item is spread -/
def evs (c : Cfg) : List E → Env → Cm (List D)
  | [], _ => pure []
  | e :: es, σ => do let x ← (ev c e σ).s; let xs ← evs c es σ; pure (x ++ xs)
def evBs (c : Cfg) : List E → Env → Cm (List D)
  | [], _ => pure []
  | e :: es, σ => do let x ← (ev c e σ).b; let xs ← evBs c es σ; pure (x :: xs)
def evO (c : Cfg) : Option E → Env → Cm (Option Int)
  | none, _ => pure none
  | some e, σ => do let x ← (ev c e σ).v; let i ← Cm.lift (int? x); pure (some i)
def evIfs (c : Cfg) : List E → Env → Cm Bool
  | [], _ => pure true
  | e :: es, σ => do if ← (ev c e σ).t then evIfs c es σ else pure false
end

/-! ### statements -/
inductive Fl where
  | nx (σ : Env) | bk (σ : Env) | ct (σ : Env) | rt (d : D)

/-- owned contents of a fresh value -/
def owned : D → Option Sl
  | .lst ds => some (.ol ds)
  | .dct ks vs => some (.od ks vs)
  | _ => none
def slotOf (own : Bool) (d : D) : Option Sl := if own then owned d else some (.v d)

/-- while: the turns -/
def whlN (test : Env → Cm Bool) (body : Env → Cm Fl) : Nat → Env → Cm Fl
  | 0, _ => Cm.fail
  | n + 1, σ => do
    if ← test σ then do
      match ← body σ with
      | .nx σ' => whlN test body n σ'
      | .ct σ' => whlN test body n σ'
      | .bk σ' => pure (.nx σ')
      | .rt d => pure (.rt d)
    else pure (.nx σ)
open Classical in
noncomputable def whlM (test : Env → Cm Bool) (body : Env → Cm Fl) (σ : Env) : Cm Fl := fun S =>
  if h : ∃ n, (whlN test body n σ S).isSome then whlN test body (Classical.choose h) σ S else none

/-- for: the turns -/
def forM (bind : D → Env → Option Env) (body : Env → Cm Fl) : List D → Env → Cm Fl
  | [], σ => pure (.nx σ)
  | x :: xs, σ => do
    let σ1 ← Cm.lift (bind x σ)
    match ← body σ1 with
    | .nx σ' => forM bind body xs σ'
    | .ct σ' => forM bind body xs σ'
    | .bk σ' => pure (.nx σ')
    | .rt d => pure (.rt d)

/-- storing into a shared list -/
def storeRef (d i x : D) : Cm Unit := fun S =>
  match d, i with
  | .ref n, .int k => match S[n]? with
    | some (.lst ds) => (place? ds.length k).map fun j => .ok () (S.set n (.lst (ds.set j x)))
    | _ => none
  | _, _ => none
/-- storing into a slot's own list or dict -/
def storeSl (s : Sl) (i x : D) : Option Sl :=
  match s with
  | .ol ds => match i with
    | .int k => (place? ds.length k).map fun j => .ol (ds.set j x)
    | _ => none
  | .od ks vs => if ks.length ≤ 1000000 then (dput i x ks vs).map fun p => .od p.1 p.2 else none
  | .v _ => none
def storeAt (o : E) (σ : Env) (ov : Cm D) (i x : D) : Cm Env :=
  match o with
  | .var k => match σ.at k with
    | some (.v d) => do storeRef d i x; pure σ
    | some s => do let s' ← Cm.lift (storeSl s i x); pure (σ.put k (some s'))
    | none => Cm.fail
  | _ => do let d ← ov; storeRef d i x; pure σ

mutual
noncomputable def ex (c : Cfg) : Sm → Env → Cm Fl
  | .asg g e, σ => do let x ← (ev c e σ).v; let σ' ← Cm.lift (g.bind x σ); pure (.nx σ')
  | .own i e, σ => do let x ← (ev c e σ).v; let s ← Cm.lift (owned x); pure (.nx (σ.put i (some s)))
  | .par i oi a j oj b, σ => do
    let x ← (ev c a σ).v
    let y ← (ev c b σ).v
    let s ← Cm.lift (slotOf oi x)
    let t ← Cm.lift (slotOf oj y)
    pure (.nx ((σ.put i (some s)).put j (some t)))
  | .set o i e, σ => do
    let x ← (ev c e σ).v
    let k ← (ev c i σ).v
    let σ' ← storeAt o σ (ev c o σ).v k x
    pure (.nx σ')
  | .aug i op e, σ => do
    let x ← Cm.lift (val σ i)
    let y ← (ev c e σ).v
    let z ← Cm.lift (ipD op x y)
    pure (.nx (σ.put i (some (.v z))))
  | .augS o i op e, σ => do
    let a ← (ev c o σ).b
    let k ← (ev c i σ).v
    let a' ← deref a
    let x ← Cm.lift (idxD a' k)
    let y ← (ev c e σ).v
    let z ← Cm.lift (ipD op x y)
    let σ' ← storeAt o σ Cm.fail k z
    pure (.nx σ')
  | .app i e, σ => do
    let x ← (ev c e σ).v
    match σ.at i with
    | some (.ol ds) => if ds.length < 1000000 then pure (.nx (σ.put i (some (.ol (ds ++ [x]))))) else Cm.fail
    | _ => Cm.fail
  | .ext i e, σ => do
    let x ← (ev c e σ).v
    match σ.at i, x with
    | some (.ol ds), .lst xs => if ds.length + xs.length ≤ 1000000 then pure (.nx (σ.put i (some (.ol (ds ++ xs))))) else Cm.fail
    | _, _ => Cm.fail
  | .ins i a e, σ => do
    let k ← (ev c a σ).v
    let x ← (ev c e σ).v
    match σ.at i, k with
    | some (.ol ds), .int k => if 0 ≤ k ∧ k ≤ ds.length ∧ ds.length < 1000000 then pure (.nx (σ.put i (some (.ol (ds.take k.toNat ++ [x] ++ ds.drop k.toNat))))) else Cm.fail
    | _, _ => Cm.fail
  | .popA g i a, σ => do
    let k ← (ev c a σ).v
    match σ.at i, k with
    | some (.ol ds), .int k => match ds[k.toNat]? with
      | some x => if 0 ≤ k then do let σ' ← Cm.lift (g.bind x (σ.put i (some (.ol (ds.eraseIdx k.toNat))))); pure (.nx σ') else Cm.fail
      | none => Cm.fail
    | _, _ => Cm.fail
  | .ite t a b, σ => do if ← (ev c t σ).t then exs c a σ else exs c b σ
  | .whl t b, σ => whlM (fun σ => (ev c t σ).t) (fun σ => exs c b σ) σ
  | .for_ g it b, σ => do
    let xs ← (ev c it σ).w
    forM (fun d σ => g.bind d σ) (fun σ => exs c b σ) xs σ
  | .ret e, σ => do let x ← (ev c e σ).v; pure (.rt x)
  | .retN, _ => pure (.rt .non)
  | .pass, σ => pure (.nx σ)
  | .brk, σ => pure (.bk σ)
  | .cnt, σ => pure (.ct σ)
  | .exp e, σ => do let _ ← (ev c e σ).v; pure (.nx σ)
  | .rais, _ => Cm.fail
  | .frz i, σ => match σ.at i with
    | some (.ol ds) => pure (.nx (σ.put i (some (.v (.lst ds)))))
    | some (.od ks vs) => pure (.nx (σ.put i (some (.v (.dct ks vs)))))
    | _ => Cm.fail
  | .kil is, σ => pure (.nx (σ.wipe is))
noncomputable def exs (c : Cfg) : List Sm → Env → Cm Fl
  | [], σ => pure (.nx σ)
  | s :: ss, σ => do
    match ← ex c s σ with
    | .nx σ' => exs c ss σ'
    | .bk σ' => pure (.bk σ')
    | .ct σ' => pure (.ct σ')
    | .rt d => pure (.rt d)
end

/-! ### a module -/
structure Fn where
  params : Nat
  names : Nat
  body : List Sm

structure Mo where
  defs : Str → Option Fn
  glob : Str → Option D

/-- calls to a depth -/
noncomputable def Mo.call (m : Mo) : Nat → Str → List D → Cm D
  | 0, _, _ => Cm.fail
  | k + 1, f, args => match m.defs f with
    | none => Cm.fail
    | some fn => if args.length = fn.params then do
        match ← exs ⟨m.call k, m.glob⟩ fn.body (args.map (fun d => some (.v d)) ++ List.replicate (fn.names - fn.params) none) with
        | .nx _ => pure .non
        | .rt d => pure d
        | _ => Cm.fail
      else Cm.fail

end Cl

set_option Elab.async false
set_option linter.all false
set_option maxRecDepth 100000
/-! SoundA: how the small semantics' values and states lie in the abstract heap. -/
namespace Cl
open PySem PySem.Spec PyProof.Rows L2

/-- the written part, and the world (its hashes) -/
structure Fg where
  fr : PySem.W.Frag
  w : World
abbrev kx (X : Cx) : Fg := ⟨X.K, X.w⟩

/-- a tuple, a list among the module's own objects -/
def KTup (K : Fg) (a : Addr) (xs : List V) : Prop :=
  ∃ (o : Obj) (its : Array Value) (n : Nat), K.fr.lookup a = some o ∧ o.cls = .type "tuple" ∧ o.data = .seq its n ∧ its.size ≤ sizeLine ∧ Vals xs its.toList
def KLst (K : Fg) (a : Addr) (xs : List V) : Prop :=
  ∃ (o : Obj) (its : Array Value) (n : Nat), K.fr.lookup a = some o ∧ o.cls = .type "list" ∧ o.dict = none ∧ o.data = .seq its n ∧ its.size ≤ sizeLine ∧ Vals xs its.toList
def TupAt (K : Fg) (M : Addr → Prop) (H : Hp) (a : Addr) (xs : List V) : Prop := (H a = some (.tup xs) ∧ ¬ M a) ∨ KTup K a xs
def LstAt (M : Addr → Prop) (H : Hp) (a : Addr) (xs : List V) : Prop := H a = some (.lst xs) ∧ ¬ M a
def FrlAt (K : Fg) (M : Addr → Prop) (H : Hp) (a : Addr) (xs : List V) : Prop := ((∃ o, H a = some (.frz o (.lst xs))) ∧ ¬ M a) ∨ KLst K a xs

/-- at a stands a dict with these entries -/
def DI (w : World) (a : Addr) (ps : List (NestedKey × DictEntry)) (h : Heap) : Prop :=
  (a == sysModules) = false ∧ ps.length ≤ 16777216 ∧ (∃ ep, h.get? a = some { cls := .type "dict", data := .dict (ps.map (·.2)).toArray ep }) ∧ (∀ p ∈ ps, p.2.hash = p.1.hash w) ∧ (ps.map (·.1)).Nodup

mutual
/-- the value v is the datum d -/
inductive RV (K : Fg) (M : Addr → Prop) (ρ : List Addr) (H : Hp) : D → V → Prop
  | non : RV K M ρ H .non .non
  | bl (b : Bool) : RV K M ρ H (.bl b) (.bl b)
  | int (i : Int) : RV K M ρ H (.int i) (.int i)
  | str (x : Str) : RV K M ρ H (.str x) (.str x)
  | tup {a xs ds} : TupAt K M H a xs → RVs K M ρ H ds xs → RV K M ρ H (.tup ds) (.ref a)
  | lst {a xs ds} : LstAt M H a xs → RVs K M ρ H ds xs → RV K M ρ H (.lst ds) (.ref a)
  | ref {n a} : ρ[n]? = some a → RV K M ρ H (.ref n) (.ref a)
  | frl {a xs ds} : FrlAt K M H a xs → RVs K M ρ H ds xs → RV K M ρ H (.frl ds) (.ref a)
  | dct {a ps ks vs b} : H a = some (.ext (DI K.w a ps)) → ¬ M a → RVd K M ρ H b ks vs ps → RV K M ρ H (.dct ks vs) (.ref a)
inductive RVs (K : Fg) (M : Addr → Prop) (ρ : List Addr) (H : Hp) : List D → List V → Prop
  | nil : RVs K M ρ H [] []
  | cons {d v ds vs} : RV K M ρ H d v → RVs K M ρ H ds vs → RVs K M ρ H (d :: ds) (v :: vs)
inductive RVd (K : Fg) (M : Addr → Prop) (ρ : List Addr) (H : Hp) : Bool → List D → List D → List (NestedKey × DictEntry) → Prop
  | nil {b} : RVd K M ρ H b [] [] []
  | cons {b k d ks ds n e ps u v} : RV K M ρ H k u → RelV u e.key → RV K M ρ H d v → RelV v e.val → keyOf k = some n → kindN n = some b → RVd K M ρ H b ks ds ps → RVd K M ρ H b (k :: ks) (d :: ds) ((n, e) :: ps)
end

/-- what stays from one state to a later one -/
structure Ext (ρ : List Addr) (M : Addr → Prop) (H : Hp) (ρ' : List Addr) (M' : Addr → Prop) (H' : Hp) : Prop where
  keep : ∀ a o, H a = some o → ¬ M a → H' a = some o ∧ ¬ M' a
  mine : ∀ a, M a → a ∉ ρ → H' a = H a ∧ M' a ∧ a ∉ ρ'
  refs : ∀ (n : Nat) a, ρ[n]? = some a → ρ'[n]? = some a

section
variable {K : Fg} {M M' M2 : Addr → Prop} {ρ ρ' ρ2 : List Addr} {H H' H2 : Hp}

theorem Ext.refl : Ext ρ M H ρ M H := ⟨fun _ _ h n => ⟨h, n⟩, fun _ m n => ⟨rfl, m, n⟩, fun _ _ h => h⟩
theorem Ext.trans (x : Ext ρ M H ρ' M' H') (y : Ext ρ' M' H' ρ2 M2 H2) : Ext ρ M H ρ2 M2 H2 :=
  ⟨fun a o h n => let ⟨h1, n1⟩ := x.keep a o h n; y.keep a o h1 n1,
   fun a m n => let ⟨e1, m1, n1⟩ := x.mine a m n; let ⟨e2, m2, n2⟩ := y.mine a m1 n1; ⟨e2.trans e1, m2, n2⟩,
   fun n a h => y.refs n a (x.refs n a h)⟩

/-- what a datum's place leans on stays -/
def Stay (ρ : List Addr) (M : Addr → Prop) (H : Hp) (ρ' : List Addr) (M' : Addr → Prop) (H' : Hp) : Prop :=
  (∀ a o, H a = some o → ¬ M a → H' a = some o ∧ ¬ M' a) ∧ ∀ (n : Nat) a, ρ[n]? = some a → ρ'[n]? = some a
theorem Ext.stay (x : Ext ρ M H ρ' M' H') : Stay ρ M H ρ' M' H' := ⟨x.keep, x.refs⟩

theorem TupAt.sq {a : Addr} {xs : List V} (t : TupAt K M H a xs) : SqT K.fr H a xs := by
  rcases t with ⟨h, n⟩ | h
  · exact .inl (.inl h)
  · exact .inr h
theorem LstAt.sq {K : PySem.W.Frag} {a : Addr} {xs : List V} (t : LstAt M H a xs) : SqL K H a xs := .inl (.inl t.1)
theorem FrlAt.sq {a : Addr} {xs : List V} (t : FrlAt K M H a xs) : SqL K.fr H a xs := by
  rcases t with ⟨⟨o, h⟩, n⟩ | h
  · exact .inl (.inr ⟨o, h⟩)
  · exact .inr h
theorem TupAt.stay {a : Addr} {xs : List V} (s : Stay ρ M H ρ' M' H') (t : TupAt K M H a xs) : TupAt K M' H' a xs := by
  rcases t with ⟨h, n⟩ | h
  · exact .inl (s.1 a _ h n)
  · exact .inr h
theorem LstAt.stay {a : Addr} {xs : List V} (s : Stay ρ M H ρ' M' H') (t : LstAt M H a xs) : LstAt M' H' a xs := s.1 a _ t.1 t.2
theorem FrlAt.stay {a : Addr} {xs : List V} (s : Stay ρ M H ρ' M' H') (t : FrlAt K M H a xs) : FrlAt K M' H' a xs := by
  rcases t with ⟨⟨o, h⟩, n⟩ | h
  · obtain ⟨h1, n1⟩ := s.1 a _ h n
    exact .inl ⟨⟨o, h1⟩, n1⟩
  · exact .inr h
mutual
theorem RV.stay (s : Stay ρ M H ρ' M' H') : ∀ {d : D} {v : V}, RV K M ρ H d v → RV K M' ρ' H' d v
  | _, _, .non => .non
  | _, _, .bl b => .bl b
  | _, _, .int i => .int i
  | _, _, .str x => .str x
  | _, _, .tup t r => .tup (t.stay s) (RVs.stay s r)
  | _, _, .lst t r => .lst (t.stay s) (RVs.stay s r)
  | _, _, .ref h => .ref (s.2 _ _ h)
  | _, _, .frl t r => .frl (t.stay s) (RVs.stay s r)
  | _, _, .dct h n r => let ⟨h1, n1⟩ := s.1 _ _ h n; .dct h1 n1 (RVd.stay s r)
theorem RVs.stay (s : Stay ρ M H ρ' M' H') : ∀ {ds : List D} {vs : List V}, RVs K M ρ H ds vs → RVs K M' ρ' H' ds vs
  | _, _, .nil => .nil
  | _, _, .cons r t => .cons (RV.stay s r) (RVs.stay s t)
theorem RVd.stay (s : Stay ρ M H ρ' M' H') : ∀ {b : Bool} {ks ds : List D} {ps : List (NestedKey × DictEntry)}, RVd K M ρ H b ks ds ps → RVd K M' ρ' H' b ks ds ps
  | _, _, _, _, .nil => .nil
  | _, _, _, _, .cons r1 e1 r2 e2 k dp t => .cons (RV.stay s r1) e1 (RV.stay s r2) e2 k dp (RVd.stay s t)
end
theorem RV.ext (x : Ext ρ M H ρ' M' H') {d : D} {v : V} (r : RV K M ρ H d v) : RV K M' ρ' H' d v := r.stay x.stay
theorem RVs.ext (x : Ext ρ M H ρ' M' H') {d : List D} {v : List V} (r : RVs K M ρ H d v) : RVs K M' ρ' H' d v := r.stay x.stay

theorem RVd.ext (x : Ext ρ M H ρ' M' H') {b : Bool} {ks ds : List D} {ps : List (NestedKey × DictEntry)} (r : RVd K M ρ H b ks ds ps) : RVd K M' ρ' H' b ks ds ps := r.stay x.stay

theorem RVs.length : ∀ {ds : List D} {vs : List V}, RVs K M ρ H ds vs → ds.length = vs.length
  | _, _, .nil => rfl
  | _, _, .cons _ t => by rw [List.length_cons, List.length_cons, RVs.length t]
theorem RVs.append : ∀ {ds es : List D} {vs us : List V}, RVs K M ρ H ds vs → RVs K M ρ H es us → RVs K M ρ H (ds ++ es) (vs ++ us)
  | _, _, _, _, .nil, r => r
  | _, _, _, _, .cons r t, s => .cons r (RVs.append t s)
theorem RVs.get : ∀ {ds : List D} {vs : List V} {i : Nat} {d : D}, RVs K M ρ H ds vs → ds[i]? = some d → ∃ v, vs[i]? = some v ∧ RV K M ρ H d v
  | _, _, _, _, .nil, h => by simp at h
  | _, _, 0, _, .cons r _, h => by simp at h; subst h; exact ⟨_, rfl, r⟩
  | _, _, i + 1, _, .cons _ t, h => by
    obtain ⟨v, h1, h2⟩ := RVs.get (i := i) t (by simpa using h)
    exact ⟨v, by simpa using h1, h2⟩
theorem RVs.take (n : Nat) : ∀ {ds : List D} {vs : List V}, RVs K M ρ H ds vs → RVs K M ρ H (ds.take n) (vs.take n) := by
  induction n with
  | zero => intro _ _ _; exact .nil
  | succ n ih =>
    intro ds vs r
    cases r with
    | nil => exact .nil
    | cons r t => exact .cons r (ih t)
theorem RVs.drop (n : Nat) : ∀ {ds : List D} {vs : List V}, RVs K M ρ H ds vs → RVs K M ρ H (ds.drop n) (vs.drop n) := by
  induction n with
  | zero => intro _ _ r; exact r
  | succ n ih =>
    intro ds vs r
    cases r with
    | nil => exact .nil
    | cons r t => exact ih t
theorem RVs.set : ∀ {ds : List D} {vs : List V} (i : Nat) {d : D} {v : V}, RVs K M ρ H ds vs → RV K M ρ H d v → RVs K M ρ H (ds.set i d) (vs.set i v)
  | _, _, _, _, _, .nil, _ => .nil
  | _, _, 0, _, _, .cons _ t, r => .cons r t
  | _, _, i + 1, _, _, .cons q t, r => .cons q (RVs.set i t r)
theorem RVs.eraseIdx : ∀ {ds : List D} {vs : List V} (i : Nat), RVs K M ρ H ds vs → RVs K M ρ H (ds.eraseIdx i) (vs.eraseIdx i)
  | _, _, _, .nil => .nil
  | _, _, 0, .cons _ t => t
  | _, _, i + 1, .cons q t => .cons q (RVs.eraseIdx i t)
theorem RVs.reverse : ∀ {ds : List D} {vs : List V}, RVs K M ρ H ds vs → RVs K M ρ H ds.reverse vs.reverse
  | _, _, .nil => .nil
  | _, _, .cons r t => by
    rw [List.reverse_cons, List.reverse_cons]
    exact RVs.append (RVs.reverse t) (.cons r .nil)

/-- a shared object -/
def RO (K : Fg) (M : Addr → Prop) (ρ : List Addr) (H : Hp) (a : Addr) : CO → Prop
  | .lst ds => ∃ xs, H a = some (.lst xs) ∧ RVs K M ρ H ds xs
theorem RO.stay (s : Stay ρ M H ρ' M' H') {a : Addr} {co : CO} (e : H' a = H a) (r : RO K M ρ H a co) : RO K M' ρ' H' a co := by
  cases co with
  | lst ds => obtain ⟨xs, h, r⟩ := r; exact ⟨xs, e.trans h, r.stay s⟩

/-- what stands at a place of one's own: a list, a dict -/
def Own (K : Fg) (M : Addr → Prop) (ρ : List Addr) (H : Hp) (a : Addr) : D → Prop
  | .lst ds => ∃ xs, H a = some (.lst xs) ∧ RVs K M ρ H ds xs
  | .dct ks vs => ∃ ps b, H a = some (.ext (DI K.w a ps)) ∧ RVd K M ρ H b ks vs ps
  | _ => False
theorem Own.stay (s : Stay ρ M H ρ' M' H') {a : Addr} {d : D} (e : H' a = H a) (r : Own K M ρ H a d) : Own K M' ρ' H' a d := by
  cases d with
  | lst ds => obtain ⟨xs, h, r⟩ := r; exact ⟨xs, e.trans h, r.stay s⟩
  | dct ks vs => obtain ⟨ps, b, h, r⟩ := r; exact ⟨ps, b, e.trans h, r.stay s⟩
  | _ => exact r.elim
/-- frozen: it is a datum -/
theorem Own.rv {a : Addr} {d : D} (r : Own K M ρ H a d) (n : ¬ M a) : RV K M ρ H d (.ref a) := by
  cases d with
  | lst ds => obtain ⟨xs, h, r⟩ := r; exact .lst ⟨h, n⟩ r
  | dct ks vs => obtain ⟨ps, b, h, r⟩ := r; exact .dct h n r
  | _ => exact r.elim
def isOwn : Sl → Bool
  | .v _ => false
  | _ => true
def slotD : Sl → D
  | .v d => d
  | .ol ds => .lst ds
  | .od ks vs => .dct ks vs
/-- a slot -/
def RS (K : Fg) (F : Addr → Prop) (M : Addr → Prop) (ρ : List Addr) (H : Hp) (o : Option V) (s : Sl) : Prop :=
  (isOwn s = false ∧ ∃ v, o = some v ∧ RV K M ρ H (slotD s) v) ∨ (isOwn s = true ∧ ∃ a, o = some (.ref a) ∧ M a ∧ a ∉ ρ ∧ ¬ F a ∧ Own K M ρ H a (slotD s))

/-- the slot's content at i -/
def slotV (σ : L2.St) (i : Nat) : Option V := (σ[i]?).join

structure Rep (K : Fg) (F : Addr → Prop) (H0 : Hp) (ρ : List Addr) (M : Addr → Prop) (S : CH) (σd : Env) (σ : L2.St) (H : Hp) : Prop where
  len : ρ.length = S.length
  nd : ρ.Nodup
  mm : ∀ a ∈ ρ, M a
  ob : ∀ (n : Nat) a co, ρ[n]? = some a → S[n]? = some co → RO K M ρ H a co
  tr : ∀ a, M a → H a ≠ none
  ln : σd.length = σ.length
  sl : ∀ i s, σd.at i = some s → RS K F M ρ H (slotV σ i) s
  ow : ∀ i j s t a, σd.at i = some s → σd.at j = some t → isOwn s = true → isOwn t = true → slotV σ i = some (.ref a) → slotV σ j = some (.ref a) → i = j
  fo : ∀ a, F a → M a ∧ a ∉ ρ ∧ H a = H0 a
end

/-! ### slots, by place -/
theorem Env.at_get : ∀ (σ : Env) (i : Nat), σ.at i = (σ[i]?).join
  | [], _ => rfl
  | _ :: _, 0 => by simp [Env.at]
  | _ :: σ, i + 1 => by simp [Env.at, Env.at_get σ i]
theorem Env.put_set : ∀ (σ : Env) (i : Nat) (y : Option Sl), σ.put i y = σ.set i y
  | [], _, _ => rfl
  | _ :: _, 0, _ => rfl
  | _ :: σ, i + 1, y => by simp [Env.put, Env.put_set σ i y]
theorem Env.at_lt {σ : Env} {i : Nat} {s : Sl} (h : σ.at i = some s) : i < σ.length := by
  rw [Env.at_get] at h
  by_cases hi : i < σ.length
  · exact hi
  · rw [List.getElem?_eq_none (by omega)] at h; cases h
theorem Env.put_length (σ : Env) (i : Nat) (y : Option Sl) : (σ.put i y).length = σ.length := by rw [Env.put_set, List.length_set]
theorem Env.at_put_self {σ : Env} {i : Nat} {y : Option Sl} (h : i < σ.length) : (σ.put i y).at i = y := by
  rw [Env.put_set, Env.at_get, List.getElem?_set_self h]; rfl
theorem Env.at_put_ne {σ : Env} {i j : Nat} {y : Option Sl} (h : i ≠ j) : (σ.put i y).at j = σ.at j := by
  rw [Env.put_set, Env.at_get, List.getElem?_set_ne h, ← Env.at_get]
theorem slotV_lt {σ : L2.St} {i : Nat} {v : V} (h : slotV σ i = some v) : σ[i]? = some (some v) := by
  unfold slotV at h
  cases e : σ[i]? with
  | none => rw [e] at h; cases h
  | some o => rw [e] at h; cases o with | none => cases h | some w => cases h; rfl
theorem slotV_of {σ : L2.St} {i : Nat} {v : V} (h : σ[i]? = some (some v)) : slotV σ i = some v := by unfold slotV; rw [h]; rfl
theorem slotV_set_self {σ : L2.St} {i : Nat} {y : Option V} (h : i < σ.length) : slotV (σ.set i y) i = y := by
  unfold slotV; rw [List.getElem?_set_self h]; rfl
theorem slotV_set_ne {σ : L2.St} {i j : Nat} {y : Option V} (h : i ≠ j) : slotV (σ.set i y) j = slotV σ j := by
  unfold slotV; rw [List.getElem?_set_ne h]

section
variable {K : Fg} {F : Addr → Prop} {H0 : Hp} {M M' : Addr → Prop} {ρ ρ' : List Addr} {S S' : CH} {σd : Env} {σ : L2.St} {H H' : Hp}

theorem RS.ext (x : Ext ρ M H ρ' M' H') {o : Option V} {s : Sl} (r : RS K F M ρ H o s) : RS K F M' ρ' H' o s := by
  rcases r with ⟨i, v, e, r⟩ | ⟨i, a, e, m, n, f, r⟩
  · exact .inl ⟨i, v, e, r.ext x⟩
  · obtain ⟨h1, m1, n1⟩ := x.mine a m n
    exact .inr ⟨i, a, e, m1, n1, f, r.stay x.stay h1⟩

/-- a slot's value, as it is read -/
theorem Rep.val (r : Rep K F H0 ρ M S σd σ H) {i : Nat} {d : D} (h : val σd i = some d) : ∃ v, σ[i]? = some (some v) ∧ RV K M ρ H d v := by
  unfold Cl.val at h
  cases e : σd.at i with
  | none => rw [e] at h; cases h
  | some s =>
    rw [e] at h
    cases s with
    | v d' =>
      cases h
      rcases r.sl i _ e with ⟨_, v, e1, r1⟩ | ⟨z, _⟩
      · exact ⟨v, slotV_lt e1, r1⟩
      · cases z
    | ol _ => cases h
    | od _ _ => cases h

/-- the same state, the heap grown by an untracked place: a new frozen object -/
theorem Ext.new {p : Addr} {o : HO} (r : Rep K F H0 ρ M S σd σ H) (hp : H p = none) : Ext ρ M H ρ M (upd H p o) := by
  have np : ¬ M p := fun m => r.tr p m hp
  refine ⟨fun a u h n => ⟨?_, n⟩, fun a m n => ⟨?_, m, n⟩, fun _ _ h => h⟩
  · rw [upd_ne (fun z => by subst z; rw [hp] at h; cases h)]; exact h
  · exact upd_ne (fun z => by subst z; exact np m)

theorem Rep.of_ext (r : Rep K F H0 ρ M S σd σ H) (x : Ext ρ M H ρ M' H') (mm : ∀ a ∈ ρ, M' a ∧ H' a = H a) (tr : ∀ a, M' a → H' a ≠ none) : Rep K F H0 ρ M' S σd σ H' where
  len := r.len
  nd := r.nd
  mm := fun a h => (mm a h).1
  ob := fun n a co h1 h2 => (r.ob n a co h1 h2).stay x.stay (mm a (List.mem_of_getElem? h1)).2
  tr := tr
  ln := r.ln
  sl := fun i s h => (r.sl i s h).ext x
  ow := r.ow
  fo := fun a h => let ⟨m, n, e⟩ := r.fo a h; let ⟨e1, m1, n1⟩ := x.mine a m n; ⟨m1, n1, e1.trans e⟩

theorem Rep.new {p : Addr} {o : HO} (r : Rep K F H0 ρ M S σd σ H) (hp : H p = none) : Rep K F H0 ρ M S σd σ (upd H p o) := by
  have np : ∀ a, M a → a ≠ p := fun a m z => r.tr a m (by rw [z]; exact hp)
  refine r.of_ext (Ext.new r hp) (fun a h => ⟨r.mm a h, upd_ne (np a (r.mm a h))⟩) fun a m => ?_
  rw [upd_ne (np a m)]; exact r.tr a m
end
end Cl

set_option Elab.async false
set_option linter.all false
set_option maxRecDepth 100000
/-! SoundB: readings of the small semantics as readings of the hand layer; names, numbers, tuples, tests. -/
namespace Cl
open PySem PySem.Spec PyProof.Rows L2

/-! ### the monad, inverted -/
theorem bind_ok {m : Cm α} {f : α → Cm β} {S S' : CH} {b : β} (h : (m >>= f) S = some (.ok b S')) : ∃ a S1, m S = some (.ok a S1) ∧ f a S1 = some (.ok b S') := by
  have h' : Cm.bind m f S = some (.ok b S') := h
  unfold Cm.bind at h'
  cases e : m S with
  | none => rw [e] at h'; cases h'
  | some r =>
    rw [e] at h'
    cases r with
    | ok a S1 => exact ⟨a, S1, rfl, h'⟩
    | ex x S1 => cases h'
theorem mbind_ok {m : Cm α} {f : α → Cm β} {S S' : CH} {b : β} (h : Cm.bind m f S = some (.ok b S')) : ∃ a S1, m S = some (.ok a S1) ∧ f a S1 = some (.ok b S') := bind_ok h
theorem pure_ok {a b : α} {S S' : CH} (h : (pure a : Cm α) S = some (.ok b S')) : a = b ∧ S = S' := by
  have h' : some (R.ok a S) = some (.ok b S') := h
  cases h'; exact ⟨rfl, rfl⟩
theorem mpure_ok {a b : α} {S S' : CH} (h : (Cm.pure a : Cm α) S = some (.ok b S')) : a = b ∧ S = S' := pure_ok h
theorem lift_ok {o : Option α} {b : α} {S S' : CH} (h : Cm.lift o S = some (.ok b S')) : o = some b ∧ S = S' := by
  unfold Cm.lift at h
  cases o with
  | none => cases h
  | some a => cases h; exact ⟨rfl, rfl⟩
theorem fail_ok {b : α} {S S' : CH} (h : (Cm.fail : Cm α) S = some (.ok b S')) : False := by cases h
theorem ite_ok {c : Prop} [Decidable c] {a b : Cm α} {S S' : CH} {x : α} (h : (if c then a else b) S = some (.ok x S')) : (c ∧ a S = some (.ok x S')) ∨ (¬ c ∧ b S = some (.ok x S')) := by
  by_cases hc : c
  · rw [if_pos hc] at h; exact .inl ⟨hc, h⟩
  · rw [if_neg hc] at h; exact .inr ⟨hc, h⟩

/-! ### weaker readings -/
section
variable {X : Cx}
theorem _root_.L2.PE.imp {e : Expr} {t t' : TE} (h : PE X e t) (i : ∀ σ H Q, t' σ H Q → t σ H Q) : PE X e t' := ⟨fun pins s σ H Q I q => h.run pins s σ H Q I (i _ _ _ q)⟩
theorem _root_.L2.PT.imp {e : Expr} {t t' : TT} (h : PT X e t) (i : ∀ σ H Q, t' σ H Q → t σ H Q) : PT X e t' := ⟨fun pins s σ H Q I q => h.run pins s σ H Q I (i _ _ _ q)⟩
theorem _root_.L2.PA.imp {e : List Expr} {t t' : TA} (h : PA X e t) (i : ∀ σ H Q, t' σ H Q → t σ H Q) : PA X e t' := ⟨fun pos pins s σ H Q I q => h.run pos pins s σ H Q I (i _ _ _ q)⟩
theorem _root_.L2.PO.imp {e : Option Expr} {t t' : TO} (h : PO X e t) (i : ∀ σ H Q, t' σ H Q → t σ H Q) : PO X e t' := ⟨fun pins s σ H Q I q => h.run pins s σ H Q I (i _ _ _ q)⟩
theorem _root_.L2.PI.imp {tg e : Expr} {t t' : TI} (h : PI X tg e t) (i : ∀ σ H Q, t' σ H Q → t σ H Q) : PI X tg e t' := ⟨fun pins s σ H Q I q => h.run pins s σ H Q I (i _ _ _ q)⟩
theorem _root_.L2.PS.imp {e : Stmt} {t t' : TS} (h : PS X e t) (i : ∀ D σ H, t' D σ H → t D σ H) : PS X e t' := ⟨fun pins s σ H Q I q => h.run pins s σ H Q I (i _ _ _ q)⟩
theorem _root_.L2.PSs.imp {e : List Stmt} {t t' : TS} (h : PSs X e t) (i : ∀ D σ H, t' D σ H → t D σ H) : PSs X e t' := ⟨fun pins s σ H Q I q => h.run pins s σ H Q I (i _ _ _ q)⟩
end

/-! ### the readings -/
/-- a looked-at value: a datum, or an owned list or dict -/
def RB (K : Fg) (M : Addr → Prop) (ρ : List Addr) (H : Hp) (d : D) (v : V) : Prop :=
  RV K M ρ H d v ∨ ∃ a, v = .ref a ∧ M a ∧ a ∉ ρ ∧ Own K M ρ H a d
theorem RB.ext {K : Fg} {M M' : Addr → Prop} {ρ ρ' : List Addr} {H H' : Hp} {d : D} {v : V} (x : Ext ρ M H ρ' M' H') (r : RB K M ρ H d v) : RB K M' ρ' H' d v := by
  rcases r with r | ⟨a, e, m, n, r⟩
  · exact .inl (r.ext x)
  · obtain ⟨h1, m1, n1⟩ := x.mine a m n
    exact .inr ⟨a, e, m1, n1, r.stay x.stay h1⟩
/-- a fresh list or dict -/
def RF (K : Fg) (F M : Addr → Prop) (ρ : List Addr) (H : Hp) (H1 : Hp) (d : D) (v : V) : Prop :=
  ∃ a, v = .ref a ∧ H a = none ∧ M a ∧ a ∉ ρ ∧ ¬ F a ∧ Own K M ρ H1 a d

/-- an expression's reading: m is what the small semantics makes of it, Rl how the value lies -/
def tW (K : Fg) (Rl : (Addr → Prop) → (Addr → Prop) → List Addr → Hp → Hp → D → V → Prop) (m : Env → Cm D) : TE := fun σ H Q =>
  ∃ (F : Addr → Prop) (H0 : Hp) (ρ : List Addr) (M : Addr → Prop) (S : CH) (σd : Env) (d : D) (S' : CH), Rep K F H0 ρ M S σd σ H ∧ m σd S = some (.ok d S') ∧
    ∀ v ρ' M' H', Rep K F H0 ρ' M' S' σd σ H' → Ext ρ M H ρ' M' H' → Rl F M' ρ' H H' d v → Q v H'
abbrev tV (K : Fg) (m : Env → Cm D) : TE := tW K (fun _ M ρ _ H d v => RV K M ρ H d v) m
abbrev tB (K : Fg) (m : Env → Cm D) : TE := tW K (fun _ M ρ _ H d v => RB K M ρ H d v) m
abbrev tF (K : Fg) (m : Env → Cm D) : TE := tW K (fun F M ρ H H1 d v => RF K F M ρ H H1 d v) m
/-- a test's -/
def tT (K : Fg) (m : Env → Cm Bool) : TT := fun σ H Q =>
  ∃ (F : Addr → Prop) (H0 : Hp) (ρ : List Addr) (M : Addr → Prop) (S : CH) (σd : Env) (d : Bool) (S' : CH), Rep K F H0 ρ M S σd σ H ∧ m σd S = some (.ok d S') ∧
    ∀ ρ' M' H', Rep K F H0 ρ' M' S' σd σ H' → Ext ρ M H ρ' M' H' → Q d H'
/-- a list's: its values by Rl -/
def tL (K : Fg) (Rl : (Addr → Prop) → List Addr → Hp → List D → List V → Prop) (m : Env → Cm (List D)) : TA := fun σ H Q =>
  ∃ (F : Addr → Prop) (H0 : Hp) (ρ : List Addr) (M : Addr → Prop) (S : CH) (σd : Env) (d : List D) (S' : CH), Rep K F H0 ρ M S σd σ H ∧ m σd S = some (.ok d S') ∧
    ∀ v ρ' M' H', Rep K F H0 ρ' M' S' σd σ H' → Ext ρ M H ρ' M' H' → Rl M' ρ' H' d v → Q v H'
/-- looked-at values -/
inductive RBs (K : Fg) (M : Addr → Prop) (ρ : List Addr) (H : Hp) : List D → List V → Prop
  | nil : RBs K M ρ H [] []
  | cons {d v ds vs} : RB K M ρ H d v → RBs K M ρ H ds vs → RBs K M ρ H (d :: ds) (v :: vs)
abbrev tVs (K : Fg) (m : Env → Cm (List D)) : TA := tL K (fun M ρ H d v => RVs K M ρ H d v) m
abbrev tBs (K : Fg) (m : Env → Cm (List D)) : TA := tL K (fun M ρ H d v => RBs K M ρ H d v) m
/-- a slice's part -/
def tPt (K : Fg) (m : Env → Cm (Option Int)) : TO := fun σ H Q =>
  ∃ (F : Addr → Prop) (H0 : Hp) (ρ : List Addr) (M : Addr → Prop) (S : CH) (σd : Env) (d : Option Int) (S' : CH), Rep K F H0 ρ M S σd σ H ∧ m σd S = some (.ok d S') ∧
    ∀ ρ' M' H', Rep K F H0 ρ' M' S' σd σ H' → Ext ρ M H ρ' M' H' → Q d H'

/-- a walk over data: at a later state (the lists at As unchanged) it goes, gives the data in turn, stops -/
def WalkD (K : Fg) (J : It) (ds : List D) (As : List Addr) (ρ : List Addr) (M : Addr → Prop) (H : Hp) : Prop :=
  ∀ ρ2 M2 H2, Stay ρ M H ρ2 M2 H2 → (∀ a, M2 a → H2 a ≠ none) → (∀ a ∈ As, H2 a = H a) →
    (∀ (i : Nat) d, ds[i]? = some d → J.go i H2 ∧ ∀ x H3, J.yld i H2 x H3 → (H3 = H2 ∨ ∃ T o, H2 T = none ∧ H3 = upd H2 T o) ∧ RV K M2 ρ2 H3 d x) ∧ J.stop ds.length H2
/-- what is walked -/
def tI (K : Fg) (own : Bool) (m : Env → Cm (List D)) : TI := fun σ H R =>
  ∃ (F : Addr → Prop) (H0 : Hp) (ρ : List Addr) (M : Addr → Prop) (S : CH) (σd : Env) (d : List D) (S' : CH), Rep K F H0 ρ M S σd σ H ∧ m σd S = some (.ok d S') ∧
    ∀ J As ρ' M' H', Rep K F H0 ρ' M' S' σd σ H' → Ext ρ M H ρ' M' H' → (∀ a ∈ As, M' a ∧ a ∉ ρ') → (own = false → As = []) → WalkD K J d As ρ' M' H' → R J H'

section
variable {K : Fg} {F : Addr → Prop} {H0 : Hp} {M M' : Addr → Prop} {ρ ρ' : List Addr} {S S' : CH} {σd : Env} {σ : L2.St} {H H' : Hp}

/-- fresh gives frozen -/
theorem tV_imp {m : Env → Cm D} {σ : L2.St} {H : Hp} {Q : VK} (h : tV K m σ H Q) : tF K m σ H Q := by
  obtain ⟨F, H0, ρ, M, S, σd, d, S', r, e, q⟩ := h
  refine ⟨F, H0, ρ, M, S, σd, d, S', r, e, fun v ρ' M' H' r' x f => ?_⟩
  obtain ⟨a, rfl, hn, ma, na, fa, ow⟩ := f
  have st : Stay ρ' M' H' ρ' (fun b => M' b ∧ b ≠ a) H' := ⟨fun b o h1 n1 => ⟨h1, fun z => n1 z.1⟩, fun _ _ h => h⟩
  have ne : ∀ b, M b → b ≠ a := fun b mb z => by subst z; exact r.tr _ mb hn
  have x' : Ext ρ M H ρ' (fun b => M' b ∧ b ≠ a) H' := ⟨fun b o h1 n1 => let ⟨h2, n2⟩ := x.keep b o h1 n1; ⟨h2, fun z => n2 z.1⟩,
    fun b mb nb => let ⟨h2, m2, n2⟩ := x.mine b mb nb; ⟨h2, ⟨m2, ne b mb⟩, n2⟩, x.refs⟩
  have na' : ∀ b ∈ ρ', b ≠ a := fun b hb z => by subst z; exact na hb
  refine q _ ρ' (fun b => M' b ∧ b ≠ a) H' ⟨r'.len, r'.nd, fun b hb => ⟨r'.mm b hb, na' b hb⟩, fun n b co h1 h2 => (r'.ob n b co h1 h2).stay st rfl, fun b mb => r'.tr b mb.1, r'.ln, fun i s hs => ?_, r'.ow, fun b fb => ?_⟩ x' ?_
  · rcases r'.sl i s hs with ⟨io, v, e1, r1⟩ | ⟨io, b, e1, mb, nb, fb, rb⟩
    · exact .inl ⟨io, v, e1, r1.stay st⟩
    · refine .inr ⟨io, b, e1, ⟨mb, ?_⟩, nb, fb, rb.stay st rfl⟩
      rcases r.sl i s hs with ⟨io', _⟩ | ⟨_, c, e2, mc, _⟩
      · rw [io] at io'; cases io'
      · rw [e1] at e2; cases e2
        exact ne b mc
  · obtain ⟨m1, n1, e1⟩ := r'.fo b fb
    exact ⟨⟨m1, fun z => by subst z; exact fa fb⟩, n1, e1⟩
  · exact (ow.stay st rfl).rv (fun z => z.2 rfl)
theorem tV_of_tF {m : Env → Cm D} {X : Cx} {e : Expr} (h : PE X e (tF K m)) : PE X e (tV K m) := h.imp fun σ H Q => tV_imp
theorem tB_of_tV {m : Env → Cm D} {X : Cx} {e : Expr} (h : PE X e (tV K m)) : PE X e (tB K m) :=
  h.imp fun σ H Q ⟨F, H0, ρ, M, S, σd, d, S', r, e, q⟩ => ⟨F, H0, ρ, M, S, σd, d, S', r, e, fun v ρ' M' H' r' x f => q v ρ' M' H' r' x (.inl f)⟩

/-- a value that is come by at the same state -/
theorem here {Q : V → Hp → Prop} {d : D} {v : V} {m : Env → Cm D} {Rl : (Addr → Prop) → (Addr → Prop) → List Addr → Hp → Hp → D → V → Prop}
    (r : Rep K F H0 ρ M S σd σ H) (q : ∀ v ρ' M' H', Rep K F H0 ρ' M' S σd σ H' → Ext ρ M H ρ' M' H' → Rl F M' ρ' H H' d v → Q v H') (h : Rl F M ρ H H d v) : Q v H :=
  q v ρ M H r Ext.refl h
end

/-! ### names and constants -/
section
variable {X : Cx} {K : Fg} {pos : Pos}
theorem v_var {i : Nat} {x : Str} (hN : X.N[i]? = some x) (hv : Vis X.env.scope x) (hd : (x == ("__debug__" : Str)) = false) (hcd : (x == ("__classdict__" : Str)) = false) : PE X (.Name x pos) (tV K fun σ => Cm.lift (val σ i)) := by
  refine (pe_var hN hv hd hcd).imp fun σ H Q ⟨F, H0, ρ, M, S, σd, d, S', r, e, q⟩ => ?_
  obtain ⟨e1, rfl⟩ := lift_ok e
  obtain ⟨v, hs, rv⟩ := r.val e1
  exact ⟨v, hs, q v ρ M H r Ext.refl rv⟩
theorem b_var {i : Nat} {x : Str} (hN : X.N[i]? = some x) (hv : Vis X.env.scope x) (hd : (x == ("__debug__" : Str)) = false) (hcd : (x == ("__classdict__" : Str)) = false) : PE X (.Name x pos) (tB K fun σ => Cm.lift (look σ i)) := by
  refine (pe_var hN hv hd hcd).imp fun σ H Q ⟨F, H0, ρ, M, S, σd, d, S', r, e, q⟩ => ?_
  obtain ⟨e1, rfl⟩ := lift_ok e
  unfold look at e1
  cases es : σd.at i with
  | none => rw [es] at e1; cases e1
  | some s =>
    rw [es] at e1
    have ed : d = slotD s := by cases s <;> (cases e1; rfl)
    subst ed
    rcases r.sl i _ es with ⟨_, v, h1, r1⟩ | ⟨_, a, h1, ma, na, fa, ow⟩
    · exact ⟨v, slotV_lt h1, q v ρ M H r Ext.refl (.inl r1)⟩
    · exact ⟨.ref a, slotV_lt h1, q _ ρ M H r Ext.refl (.inr ⟨a, rfl, ma, na, ow⟩)⟩
theorem v_con {pe : Expr} {d : D} {v : V} (h : PE X pe (tC v)) (r : ∀ M ρ H, RV K M ρ H d v) : PE X pe (tV K fun _ => pure d) := by
  refine h.imp fun σ H Q ⟨F, H0, ρ, M, S, σd, d', S', rp, e, q⟩ => ?_
  obtain ⟨rfl, rfl⟩ := pure_ok e
  exact q v ρ M H rp Ext.refl (r _ _ _)
theorem v_glob {pe : Expr} {o : Option D} {v : V} (h : PE X pe (tC v)) (r : ∀ d, o = some d → ∀ M ρ H, RV K M ρ H d v) : PE X pe (tV K fun _ => Cm.lift o) := by
  refine h.imp fun σ H Q ⟨F, H0, ρ, M, S, σd, d', S', rp, e, q⟩ => ?_
  obtain ⟨e1, rfl⟩ := lift_ok e
  exact q v ρ M H rp Ext.refl (r _ e1 _ _ _)
end

/-! ### operators by values -/
/-- what an operation on two values asks, where data go by f: at every state it gives the datum, the heap as it was or with one new object -/
def DOp (K : Fg) (r : R2) (P : D → D → D → Prop) : Prop :=
  ∀ (F : Addr → Prop) (H0 : Hp) (ρ : List Addr) (M : Addr → Prop) (S : CH) (σd : Env) (σ : L2.St) (H : Hp) (x y d : D) (v u : V) (Q : VK),
    Rep K F H0 ρ M S σd σ H → RV K M ρ H x v → RV K M ρ H y u → P x y d →
    (∀ w ρ' M' H', Rep K F H0 ρ' M' S σd σ H' → Ext ρ M H ρ' M' H' → RV K M' ρ' H' d w → Q w H') → r v u H Q

section
variable {X : Cx} {K : Fg} {pos : Pos} {a b : Expr} {ma mb : Env → Cm D}
theorem v_bin {op : Operator} {r : R2} {f : D → D → Option D} (ho : OpR X (binaryOp op) r) (hf : DOp K r fun x y d => f x y = some d) (ha : PE X a (tV K ma)) (hb : PE X b (tV K mb)) :
    PE X (.BinOp a op b pos) (tV K fun σ => do let x ← ma σ; let y ← mb σ; Cm.lift (f x y)) := by
  refine (pe_op ho ha hb).imp fun σ H Q ⟨F, H0, ρ, M, S, σd, d, S', r, e, q⟩ => ?_
  obtain ⟨x, S1, e1, e⟩ := bind_ok e
  obtain ⟨y, S2, e2, e⟩ := bind_ok e
  obtain ⟨e3, rfl⟩ := lift_ok e
  refine ⟨F, H0, ρ, M, S, σd, x, S1, r, e1, fun v ρ1 M1 H1 r1 x1 v1 => ?_⟩
  refine ⟨F, H0, ρ1, M1, S1, σd, y, S2, r1, e2, fun u ρ2 M2 H2 r2 x2 v2 => ?_⟩
  exact hf F H0 ρ2 M2 S2 σd σ H2 x y d v u Q r2 (v1.ext x2) v2 e3 fun w ρ' M' H' r' x' w' => q w ρ' M' H' r' ((x1.trans x2).trans x') w'
end

/-- numbers: the rule gives what the small semantics gives -/
theorem DOp.int {K : Fg} {C : Int → Int → Prop} {g : Int → Int → Int} {P : D → D → D → Prop} (h : ∀ x y d, P x y d → ∃ i j, x = .int i ∧ y = .int j ∧ C i j ∧ d = .int (g i j)) : DOp K (rI C fun i j => .int (g i j)) P := by
  intro F H0 ρ M S σd σ H x y d v u Q r rx ry e q
  obtain ⟨i, j, rfl, rfl, hc, rfl⟩ := h x y d e
  cases rx; cases ry
  exact ⟨i, j, rfl, rfl, hc, q _ ρ M H r Ext.refl (.int _)⟩
theorem DOp.or {K : Fg} {r r' : R2} {P P' : D → D → D → Prop} (a : DOp K r P) (b : DOp K r' P') : DOp K (fun x y H Q => r x y H Q ∨ r' x y H Q) (fun x y d => P x y d ∨ P' x y d) := by
  intro F H0 ρ M S σd σ H x y d v u Q rp rx ry e q
  rcases e with e | e
  · exact .inl (a F H0 ρ M S σd σ H x y d v u Q rp rx ry e q)
  · exact .inr (b F H0 ρ M S σd σ H x y d v u Q rp rx ry e q)
theorem DOp.imp {K : Fg} {r : R2} {P P' : D → D → D → Prop} (a : DOp K r P) (h : ∀ x y d, P' x y d → P x y d) : DOp K r P' :=
  fun F H0 ρ M S σd σ H x y d v u Q rp rx ry e q => a F H0 ρ M S σd σ H x y d v u Q rp rx ry (h x y d e) q
end Cl

set_option Elab.async false
set_option linter.all false
set_option maxRecDepth 100000
set_option maxHeartbeats 4000000
/-! SoundT: tuple * int. -/
namespace Cl
open PySem PySem.Spec PyProof.Rows L2

theorem tmul_same (l : Addr) (items : Array Value) (n : Nat) (dd : Option Addr) (sl : Array (Option Value)) (x : Int) (u : Tok) (c0 : (decide (x < -(2 ^ 63)) || decide (x ≥ 2 ^ 63)) = false) (c1 : (items.isEmpty || x == 1) = true) :
    Meets (Builtin.«tuple.__mul__» ⟨[.ref l, .int x u], []⟩) (fun _ R s => s.heap.get? l = some { cls := .type "tuple", dict := dd, data := .seq items n, slots := sl } ∧ R (.ok (.ret (Value.ref l))) s) :=
  .of_wp fun prog w A R s h => by
    obtain ⟨hp, g, d, tk, os⟩ := s
    obtain ⟨hl, h⟩ := h
    have f1 := AutoSeq1.idx_int
    wp_walk using wpAny_loadPart' hl
    repeat (first
      | (refine wpAny_ite_false (decide_eq_false (by rw [c0]; exact Bool.false_ne_true)) ?_; wp_walk using wpAny_loadPart' hl)
      | (refine wpAny_ite_true (decide_eq_true (by rw [c1])) ?_; wp_walk using wpAny_loadPart' hl))
    exact ⟨_, rfl, h⟩
theorem tmul_none (l : Addr) (items : Array Value) (n : Nat) (dd : Option Addr) (sl : Array (Option Value)) (x : Int) (u : Tok) (c0 : (decide (x < -(2 ^ 63)) || decide (x ≥ 2 ^ 63)) = false) (c1 : (items.isEmpty || x == 1) = false) (c2 : (decide (x ≤ 0) || items.isEmpty) = true) :
    Meets (Builtin.«tuple.__mul__» ⟨[.ref l, .int x u], []⟩) (fun _ R s => s.heap.get? l = some { cls := .type "tuple", dict := dd, data := .seq items n, slots := sl } ∧
      R (.ok (.ret (Value.ref s.heap.objs.size))) { s with heap := s.heap.push { cls := Value.type "tuple", data := Data.seq #[] } }) :=
  .of_wp fun prog w A R s h => by
    obtain ⟨hp, g, d, tk, os⟩ := s
    obtain ⟨hl, h⟩ := h
    have f1 := AutoSeq1.idx_int
    wp_walk using wpAny_loadPart' hl
    repeat (first
      | (refine wpAny_ite_false (decide_eq_false (by rw [c0]; exact Bool.false_ne_true)) ?_; wp_walk using wpAny_loadPart' hl)
      | (refine wpAny_ite_false (decide_eq_false (by rw [c1]; exact Bool.false_ne_true)) ?_; wp_walk using wpAny_loadPart' hl)
      | (refine wpAny_ite_true (decide_eq_true (by rw [c2])) ?_; wp_walk using wpAny_loadPart' hl))
    exact ⟨_, rfl, h⟩
def rRepX (K : PySem.W.Frag) : R2 := fun x y H Q => ∃ l k xs, x = .ref l ∧ y = .int k ∧ SqT K H l xs ∧ -1000000 ≤ k ∧ k ≤ 1000 ∧ xs.length ≤ 1000 ∧
  ((xs = [] ∨ k = 1) → Q (.ref l) H) ∧ (¬ (xs = [] ∨ k = 1) → ∀ p, H p = none → Q (.ref p) (upd H p (.tup (List.replicate k.toNat xs).flatten)))
section
variable {X : Cx}
theorem op_repX : OpR X (binaryOp .Mult) (rRepX X.K) := by
  intro pins s σ H x y v u Q I rx ry h
  obtain ⟨l, k, xs, rfl, rfl, hT, h1, h2, hz, q1, q2⟩ := h
  cases rx
  obtain ⟨t, rfl⟩ := ry
  obtain ⟨its, r, ⟨⟨cls, dd, data, sl⟩, ho, hc, n, hd⟩, hsz⟩ := I.tuple hT
  simp only at hc hd
  subst hc hd
  have hle : its.length = xs.length := r.length.symm
  have c0 : (decide (k < -(2 ^ 63)) || decide (k ≥ 2 ^ 63)) = false := by
    rw [decide_eq_false (by omega), decide_eq_false (by omega)]; rfl
  have outer : wpAny (model X.prog X.w) X.A (call (.builtin "tuple.__mul__") [.ref l, .int k t]) (EP X pins σ Q) X.xe s → wpAny (model X.prog X.w) X.A (binaryOp .Mult (.ref l) (.int k t)) (EP X pins σ Q) X.xe s := fun inner =>
    wpAny_binaryOp_repeat_ref (T := "tuple") (U := "int") (by decide) ⟨_, ho, rfl⟩ (fun s' => typeIs_int s' k t) noFill_tuple_mul F.fills_int_mul F.slot_int_rmul repeat_tuple F.slot_int_index.lookup
      (call_meets F.slot_int_rmul (typeIs_int s k t) F.entry_int_rmul (F.args_int_rmul_2 _ _) (int_rmul_tuple k t l its.toArray n dd sl) ⟨ho, rfl, ⟨_, ho, rfl⟩, inner⟩)
  by_cases hs : xs = [] ∨ k = 1
  · have c1 : (its.toArray.isEmpty || k == 1) = true := by
      rcases hs with z | z
      · have : its = [] := List.eq_nil_of_length_eq_zero (by rw [hle, z]; rfl)
        rw [this]; rfl
      · rw [z]; simp
    exact outer (call_meets F.slot_tuple_mul ⟨_, ho, rfl⟩ F.entry_tuple_mul (F.args_tuple_mul_2 _ _) (tmul_same l its.toArray n dd sl k t c0 c1) ⟨ho, .ref l, H, I, rfl, q1 hs⟩)
  · have q2 := q2 hs
    rw [not_or] at hs
    have hi : its.toArray.isEmpty = false := by
      cases its with
      | nil => exact absurd (List.eq_nil_of_length_eq_zero hle.symm) hs.1
      | cons a b => rfl
    have c1 : (its.toArray.isEmpty || k == 1) = false := by
      rw [hi, Bool.false_or]
      exact beq_eq_false_iff_ne.mpr hs.2
    by_cases hk : k ≤ 0
    · have c2 : (decide (k ≤ 0) || its.toArray.isEmpty) = true := by rw [decide_eq_true hk]; rfl
      refine outer (call_meets F.slot_tuple_mul ⟨_, ho, rfl⟩ F.entry_tuple_mul (F.args_tuple_mul_2 _ _) (tmul_none l its.toArray n dd sl k t c0 c1 c2) ⟨ho, .ref s.heap.objs.size, _, I.laid (t' := s.toks) (o := .tup (List.replicate k.toNat xs).flatten) (fun b ob q => Heap.get?_push_of_some _ q) (Nat.le_refl _) ?_, rfl, q2 _ (I.hok.fresh (Nat.le_refl _))⟩)
      have e0 : k.toNat = 0 := by omega
      rw [e0]
      exact ⟨Nat.zero_le _, [], .nil, IsTup.new _ _⟩
    · exact op_repT pins s σ H (.ref l) (.int k) (.ref l) (.int k t) Q I rfl ⟨t, rfl⟩ ⟨l, k, xs, rfl, rfl, hT, hs.1, by omega, h2, hz, q2⟩
end
end Cl

set_option Elab.async false
set_option linter.all false
set_option maxRecDepth 100000
/-! SoundC: operators, comparisons, displays, subscripts, slices. -/
namespace Cl
open PySem PySem.Spec PyProof.Rows L2

theorem size_line_eq : sizeLine = 16777216 := sizeLine_eq

section
variable {K : Fg} {F : Addr → Prop} {H0 : Hp} {M M' : Addr → Prop} {ρ ρ' : List Addr} {S S' : CH} {σd : Env} {σ : L2.St} {H H' : Hp}
/-- a new tuple, a new list, at a free place -/
theorem new_tup {p : Addr} {xs : List V} {ds : List D} (r : Rep K F H0 ρ M S σd σ H) (hp : H p = none) (rs : RVs K M ρ H ds xs) :
    Rep K F H0 ρ M S σd σ (upd H p (.tup xs)) ∧ Ext ρ M H ρ M (upd H p (.tup xs)) ∧ RV K M ρ (upd H p (.tup xs)) (.tup ds) (.ref p) :=
  ⟨r.new hp, Ext.new r hp, .tup (.inl ⟨upd_same, fun m => r.tr p m hp⟩) (rs.ext (Ext.new r hp))⟩
theorem new_lst {p : Addr} {xs : List V} {ds : List D} (r : Rep K F H0 ρ M S σd σ H) (hp : H p = none) (rs : RVs K M ρ H ds xs) :
    Rep K F H0 ρ M S σd σ (upd H p (.lst xs)) ∧ Ext ρ M H ρ M (upd H p (.lst xs)) ∧ RV K M ρ (upd H p (.lst xs)) (.lst ds) (.ref p) :=
  ⟨r.new hp, Ext.new r hp, .lst ⟨upd_same, fun m => r.tr p m hp⟩ (rs.ext (Ext.new r hp))⟩
/-- a new owned list: its place joins M -/
theorem new_own {p : Addr} {xs : List V} {ds : List D} (r : Rep K F H0 ρ M S σd σ H) (hp : H p = none) (rs : RVs K M ρ H ds xs) :
    Rep K F H0 ρ (fun a => M a ∨ a = p) S σd σ (upd H p (.lst xs)) ∧ Ext ρ M H ρ (fun a => M a ∨ a = p) (upd H p (.lst xs)) ∧
      RF K F (fun a => M a ∨ a = p) ρ H (upd H p (.lst xs)) (.lst ds) (.ref p) := by
  have np : ∀ a, M a → a ≠ p := fun a m z => r.tr a m (by rw [z]; exact hp)
  have x : Ext ρ M H ρ (fun a => M a ∨ a = p) (upd H p (.lst xs)) := by
    refine ⟨fun a o h n => ⟨?_, ?_⟩, fun a m n => ⟨upd_ne (np a m), .inl m, n⟩, fun _ _ h => h⟩
    · rw [upd_ne (fun z => by subst z; rw [hp] at h; cases h)]; exact h
    · rintro (z | z)
      · exact n z
      · subst z; rw [hp] at h; cases h
  refine ⟨r.of_ext x (fun a h => ⟨.inl (r.mm a h), upd_ne (np a (r.mm a h))⟩) fun a m => ?_, x, p, rfl, hp, .inr rfl, fun h => np p (r.mm p h) rfl, fun f => np p (r.fo p f).1 rfl, xs, upd_same, rs.ext x⟩
  rcases m with m | m
  · rw [upd_ne (np a m)]; exact r.tr a m
  · subst m; rw [upd_same]; exact fun z => by cases z
end

/-! ### int operators -/
section
variable {X : Cx}
def CDivA (i j : Int) : Prop := j ≠ 0 ∧ j.natAbs.log2 < 9000
theorem op_fdivA : OpR X (binaryOp .FloorDiv) (rI CDivA fun i j => .int (i.fdiv j)) := opI fun _ _ _ _ _ _ _ hc q => floordiv_int hc.1 q (.inl (PyProof.noPylong_of_log2 hc.2))
end

/-! ### list + list, list * int over any readable list -/
section
variable {X : Cx}
def rCatL (K : PySem.W.Frag) : R2 := fun x y H Q => ∃ l b xs zs, x = .ref l ∧ y = .ref b ∧ SqL K H l xs ∧ SqL K H b zs ∧ xs.length + zs.length ≤ sizeLine ∧ ∀ p, H p = none → Q (.ref p) (upd H p (.lst (xs ++ zs)))
theorem op_catL : OpR X (binaryOp .Add) (rCatL X.K) := by
  intro pins s σ H x y v u Q I rx ry h
  obtain ⟨l, b, xs, zs, rfl, rfl, hH, hB, hz, q⟩ := h
  cases rx
  cases ry
  obtain ⟨its, r, ⟨⟨c1, d1, dt1, sl1⟩, n, e, hc1, hd1, hdt1⟩, z1⟩ := I.list hH
  obtain ⟨its2, r2, ⟨⟨c2, d2, dt2, sl2⟩, n2, e2, hc2, hd2, hdt2⟩, z2⟩ := I.list hB
  simp only at hc1 hd1 hdt1 hc2 hd2 hdt2
  subst hc1 hd1 hdt1 hc2 hd2 hdt2
  have hsz : its.length + its2.length ≤ sizeLine := by rw [← r.length, ← r2.length]; exact hz
  refine concat_meets ⟨_, e, rfl⟩ ⟨_, e2, rfl⟩ noFill_list_add seq_list_add PySem.F.slot_list_add PySem.F.entry_list_add (PySem.F.args_list_add_2 _ _) (list_addW l b its.toArray its2.toArray n n2 none none sl1 sl2 (by simpa using hsz)) ⟨e, e2, ?_⟩
  have ea : its.toArray ++ its2.toArray = (its ++ its2).toArray := by simp
  rw [ea]
  exact ⟨.ref _, _, I.lnew (t' := s.toks) (r.append r2) (by rw [List.length_append]; omega), rfl, q _ I.fresh⟩
end

theorem RVs.flat {K : Fg} {M : Addr → Prop} {ρ : List Addr} {H : Hp} {ds : List D} {xs : List V} (r : RVs K M ρ H ds xs) : ∀ n : Nat, RVs K M ρ H (List.replicate n ds).flatten (List.replicate n xs).flatten
  | 0 => .nil
  | n + 1 => by
    rw [List.replicate_succ, List.replicate_succ, List.flatten_cons, List.flatten_cons]
    exact r.append (RVs.flat r n)

/-! ### data operations by kinds -/
def addI : D → D → Option D | .int a, .int b => some (.int (a + b)) | _, _ => none
def addT : D → D → Option D | .tup a, .tup b => if a.length + b.length ≤ 1000000 then some (.tup (a ++ b)) else none | _, _ => none
def addL : D → D → Option D | .lst a, .lst b => if a.length + b.length ≤ 1000000 then some (.lst (a ++ b)) else none | _, _ => none
def addS : D → D → Option D | .str a, .str b => if a.length + b.length ≤ 1000000 then some (.str (a ++ b)) else none | _, _ => none
def mulI : D → D → Option D | .int a, .int b => if mulOk a b then some (.int (a * b)) else none | _, _ => none
def mulL : D → D → Option D | .lst a, .int n => if -1000000 ≤ n ∧ n ≤ 1000000 ∧ a.length * n.toNat ≤ 1000000 then some (.lst (repL n a)) else none | _, _ => none
def mulT : D → D → Option D | .tup a, .int n => if -1000000 ≤ n ∧ n ≤ 1000 ∧ a.length ≤ 1000 then some (.tup (repL n a)) else none | _, _ => none
theorem binAdd (x y d : D) (h : binD .Add x y = some d) : addI x y = some d ∨ addT x y = some d ∨ addL x y = some d ∨ addS x y = some d := by
  cases x <;> cases y <;> first | (exact .inl h) | (exact .inr (.inl h)) | (exact .inr (.inr (.inl h))) | (exact .inr (.inr (.inr h))) | (cases h; done)

section
variable {K : Fg}
theorem dAddI : DOp K (rI0 fun i j => .int (i + j)) fun x y d => addI x y = some d := by
  intro F H0 ρ M S σd σ H x y d v u Q r rx ry e q
  cases x <;> cases y <;> first | (cases e; done) | skip
  cases e; cases rx; cases ry
  exact ⟨_, _, rfl, rfl, q _ ρ M H r Ext.refl (.int _)⟩
theorem dAddS : DOp K (fun x y H Q => ∃ i j, x = .str i ∧ y = .str j ∧ i.length + j.length ≤ sizeLine ∧ Q (.str (i ++ j)) H) fun x y d => addS x y = some d := by
  intro F H0 ρ M S σd σ H x y d v u Q r rx ry e q
  cases x <;> cases y <;> first | (cases e; done) | skip
  rename_i a b
  by_cases h : a.length + b.length ≤ 1000000
  · have e' : some (D.str (a ++ b)) = some d := by rw [← e]; exact (if_pos h).symm
    cases e'
    cases rx; cases ry
    exact ⟨_, _, rfl, rfl, by rw [size_line_eq]; omega, q _ ρ M H r Ext.refl (.str _)⟩
  · exact absurd (e.symm.trans (if_neg h)) (by intro z; cases z)
theorem dAddT : DOp K (rCatA K.fr) fun x y d => addT x y = some d := by
  intro F H0 ρ M S σd σ H x y d v u Q r rx ry e q
  cases x <;> cases y <;> first | (cases e; done) | skip
  rename_i a b
  by_cases h : a.length + b.length ≤ 1000000
  · have e' : some (D.tup (a ++ b)) = some d := by rw [← e]; exact (if_pos h).symm
    cases e'
    cases rx with
    | @tup p xs _ tx vx =>
    cases ry with
    | @tup p2 ys _ ty vy =>
    refine ⟨p, p2, xs, ys, rfl, rfl, tx.sq, ty.sq, by rw [← vx.length, ← vy.length, size_line_eq]; omega, fun z => ?_, fun _ z => ?_, fun _ _ p' hp => ?_⟩
    · subst z
      cases vx
      exact q _ ρ M H r Ext.refl (.tup ty vy)
    · subst z
      cases vy
      rw [List.append_nil] at q
      exact q _ ρ M H r Ext.refl (.tup tx vx)
    · obtain ⟨r', x', v'⟩ := new_tup r hp (vx.append vy)
      exact q _ ρ M _ r' x' v'
  · exact absurd (e.symm.trans (if_neg h)) (by intro z; cases z)
theorem dAddL : DOp K (rCatL K.fr) fun x y d => addL x y = some d := by
  intro F H0 ρ M S σd σ H x y d v u Q r rx ry e q
  cases x <;> cases y <;> first | (cases e; done) | skip
  rename_i a b
  by_cases h : a.length + b.length ≤ 1000000
  · have e' : some (D.lst (a ++ b)) = some d := by rw [← e]; exact (if_pos h).symm
    cases e'
    cases rx with
    | @lst p xs _ tx vx =>
    cases ry with
    | @lst p2 ys _ ty vy =>
    refine ⟨p, p2, xs, ys, rfl, rfl, tx.sq, ty.sq, by rw [← vx.length, ← vy.length, size_line_eq]; omega, fun p' hp => ?_⟩
    obtain ⟨r', x', v'⟩ := new_lst r hp (vx.append vy)
    exact q _ ρ M _ r' x' v'
  · exact absurd (e.symm.trans (if_neg h)) (by intro z; cases z)
theorem dMulI : DOp K (rI CMulW fun i j => .int (i * j)) (fun x y d => mulI x y = some d) := DOp.int fun x y d e => by
  cases x <;> cases y <;> first | (cases e; done) | skip
  rename_i a b
  by_cases h : mulOk a b = true
  · have e' : some (D.int (a * b)) = some d := by rw [← e]; exact (if_pos h).symm
    cases e'
    exact ⟨a, b, rfl, rfl, (of_decide_eq_true h : a.natAbs.log2 + b.natAbs.log2 < 1000000), rfl⟩
  · exact absurd (e.symm.trans (if_neg h)) (by intro z; cases z)
theorem dMulL : DOp K rRep fun x y d => mulL x y = some d := by
  intro F H0 ρ M S σd σ H x y d v u Q r rx ry e q
  cases x <;> cases y <;> first | (cases e; done) | skip
  rename_i a n
  by_cases h : -1000000 ≤ n ∧ n ≤ 1000000 ∧ a.length * n.toNat ≤ 1000000
  · have e' : some (D.lst (repL n a)) = some d := by rw [← e]; exact (if_pos h).symm
    cases e'
    cases rx with
    | @lst p xs _ tx vx =>
    cases ry
    obtain ⟨h1, h2, h3⟩ := h
    refine ⟨p, n, xs, rfl, rfl, tx.1, by omega, by omega, by rw [← vx.length, size_line_eq]; omega, fun p' hp => ?_⟩
    obtain ⟨r', x', v'⟩ := new_lst r hp (vx.flat n.toNat)
    exact q _ ρ M _ r' x' v'
  · exact absurd (e.symm.trans (if_neg h)) (by intro z; cases z)
theorem dMulT : DOp K (rRepX K.fr) fun x y d => mulT x y = some d := by
  intro F H0 ρ M S σd σ H x y d v u Q r rx ry e q
  cases x <;> cases y <;> first | (cases e; done) | skip
  rename_i a n
  by_cases h : -1000000 ≤ n ∧ n ≤ 1000 ∧ a.length ≤ 1000
  · have e' : some (D.tup (repL n a)) = some d := by rw [← e]; exact (if_pos h).symm
    cases e'
    cases rx with
    | @tup p xs _ tx vx =>
    cases ry
    obtain ⟨h1, h2, h3⟩ := h
    refine ⟨p, n, xs, rfl, rfl, tx.sq, by omega, by omega, by rw [← vx.length]; omega, fun z => ?_, fun _ p' hp => ?_⟩
    · have : repL n a = a := by
        rcases z with z | z
        · subst z
          cases vx
          unfold repL
          rw [List.flatten_replicate_nil]
        · subst z
          unfold repL
          simp
      rw [this] at q
      exact q _ ρ M H r Ext.refl (.tup tx vx)
    · obtain ⟨r', x', v'⟩ := new_tup r hp (vx.flat n.toNat)
      exact q _ ρ M _ r' x' v'
  · exact absurd (e.symm.trans (if_neg h)) (by intro z; cases z)
theorem DOp.never {P : D → D → D → Prop} (h : ∀ x y d, ¬ P x y d) : DOp K (fun _ _ _ _ => False) P := by
  intro F H0 ρ M S σd σ H x y d v u Q r rx ry e q
  exact h _ _ _ e
end
theorem OpR.never {X : Cx} {f : Value → Value → Sem Value} : OpR X f (fun _ _ _ _ => False) := fun _ _ _ _ _ _ _ _ _ _ _ _ h => h.elim

def binR (K : Fg) : Operator → R2
  | .Add => fun x y H Q => (rI0 fun i j => .int (i + j)) x y H Q ∨ (rCatA K.fr x y H Q ∨ (rCatL K.fr x y H Q ∨ (∃ i j, x = .str i ∧ y = .str j ∧ i.length + j.length ≤ sizeLine ∧ Q (.str (i ++ j)) H)))
  | .Sub => rI0 fun i j => .int (i - j)
  | .Mult => fun x y H Q => (rI CMulW fun i j => .int (i * j)) x y H Q ∨ (rRep x y H Q ∨ rRepX K.fr x y H Q)
  | .FloorDiv => rI CDivA fun i j => .int (i.fdiv j)
  | .Mod => rI (fun _ j => j ≠ 0) fun i j => .int (i.fmod j)
  | .Pow => rI CPow fun i j => .int (i ^ j.toNat)
  | _ => fun _ _ _ _ => False
theorem binR_op {X : Cx} : ∀ op : Operator, OpR X (binaryOp op) (binR (kx X) op)
  | .Add => OpR.or op_add (OpR.or op_catA (OpR.or op_catL op_add_str))
  | .Sub => op_sub
  | .Mult => OpR.or op_mulW (OpR.or op_rep op_repX)
  | .FloorDiv => op_fdivA
  | .Mod => op_modN
  | .Pow => op_pow
  | .MatMult => OpR.never | .Div => OpR.never | .LShift => OpR.never | .RShift => OpR.never | .BitOr => OpR.never | .BitXor => OpR.never | .BitAnd => OpR.never
/-- in place: the same data, of numbers -/
def binRI (K : Fg) : Operator → R2
  | .Add => rI0 fun i j => .int (i + j)
  | .Sub => rI0 fun i j => .int (i - j)
  | _ => fun _ _ _ _ => False

theorem binR_data {K : Fg} (op : Operator) : DOp K (binR K op) fun x y d => binD op x y = some d := by
  cases op
  case Add => exact (DOp.or dAddI (DOp.or dAddT (DOp.or dAddL dAddS))).imp binAdd
  case Sub =>
    intro F H0 ρ M S σd σ H x y d v u Q r rx ry e q
    cases x <;> cases y <;> first | (cases e; done) | skip
    cases e; cases rx; cases ry
    exact ⟨_, _, rfl, rfl, q _ ρ M H r Ext.refl (.int _)⟩
  case Mult =>
    refine (DOp.or dMulI (DOp.or dMulL dMulT)).imp fun x y d h => ?_
    cases x <;> cases y <;> first | (exact .inl h) | (exact .inr (.inl h)) | (exact .inr (.inr h)) | (cases h; done)
  case FloorDiv =>
    refine DOp.int fun x y d e => ?_
    cases x <;> cases y <;> first | (cases e; done) | skip
    rename_i a b
    have e1 : (if divOk b = true then some (D.int (a.fdiv b)) else none) = some d := e
    by_cases h : divOk b = true
    · rw [if_pos h] at e1
      cases e1
      unfold divOk at h
      rw [Bool.and_eq_true] at h
      exact ⟨a, b, rfl, rfl, ⟨of_decide_eq_true h.1, of_decide_eq_true h.2⟩, rfl⟩
    · rw [if_neg h] at e1; cases e1
  case Mod =>
    refine DOp.int fun x y d e => ?_
    cases x <;> cases y <;> first | (cases e; done) | skip
    rename_i a b
    have e1 : (if b = 0 then none else some (D.int (a.fmod b))) = some d := e
    by_cases h : b = 0
    · rw [if_pos h] at e1; cases e1
    · rw [if_neg h] at e1
      cases e1
      exact ⟨a, b, rfl, rfl, h, rfl⟩
  case Pow =>
    refine DOp.int fun x y d e => ?_
    cases x <;> cases y <;> first | (cases e; done) | skip
    rename_i a b
    have e1 : (if 0 ≤ b ∧ b ≤ 1000000 ∧ a.natAbs < 2 ^ 64 then some (D.int (a ^ b.toNat)) else none) = some d := e
    by_cases h : 0 ≤ b ∧ b ≤ 1000000 ∧ a.natAbs < 2 ^ 64
    · rw [if_pos h] at e1
      cases e1
      exact ⟨a, b, rfl, rfl, h, rfl⟩
    · rw [if_neg h] at e1; cases e1
  all_goals exact DOp.never fun x y d h => by cases x <;> cases y <;> cases h
end Cl

set_option Elab.async false
set_option linter.all false
set_option maxRecDepth 100000
/-! SoundD: comparisons, truth, not, and, or, displays, subscripts, slices. -/
namespace Cl
open PySem PySem.Spec PyProof.Rows L2

/-- readable at the moment -/
def RN (K : Fg) (M : Addr → Prop) (ρ : List Addr) (H : Hp) (d : D) (v : V) : Prop :=
  RV K M ρ H d v ∨ ∃ a, v = .ref a ∧ Own K M ρ H a d

section
variable {K : Fg} {F : Addr → Prop} {H0 : Hp} {M M' : Addr → Prop} {ρ ρ' : List Addr} {S S' : CH} {σd : Env} {σ : L2.St} {H H' : Hp}
theorem RB.now {d : D} {v : V} (r : RB K M ρ H d v) : RN K M ρ H d v := by
  rcases r with r | ⟨a, e, _, _, r⟩
  · exact .inl r
  · exact .inr ⟨a, e, r⟩
theorem deref_ok {d d' : D} {v : V} (r : Rep K F H0 ρ M S σd σ H) (b : RB K M ρ H d v) (e : deref d S = some (.ok d' S')) : S' = S ∧ RN K M ρ H d' v := by
  cases d with
  | ref n =>
    have e1 : (shared (.ref n) S).map (fun ds => R.ok (D.lst ds) S) = some (.ok d' S') := e
    unfold shared at e1
    simp only at e1
    cases es : S[n]? with
    | none => rw [es] at e1; cases e1
    | some co =>
      rw [es] at e1
      cases co with
      | lst ds =>
        cases e1
        refine ⟨rfl, ?_⟩
        rcases b with b | ⟨_, _, _, _, z⟩
        · cases b with
          | @ref _ a h =>
            obtain ⟨xs, h1, h2⟩ := r.ob n a _ h es
            exact .inr ⟨a, rfl, xs, h1, h2⟩
        · exact z.elim
  | _ => cases e; exact ⟨rfl, b.now⟩

theorem pys_tup {ds : List D} {p : PyData} (e : (D.tup ds).py = some p) : ∃ ps, D.pys ds = some ps ∧ p = .tuple ps := by
  simp only [D.py] at e
  cases h : D.pys ds with
  | none => rw [h] at e; cases e
  | some ps => rw [h] at e; cases e; exact ⟨ps, rfl, rfl⟩
theorem pys_lst {ds : List D} {p : PyData} (e : (D.lst ds).py = some p) : ∃ ps, D.pys ds = some ps ∧ p = .list ps := by
  simp only [D.py] at e
  cases h : D.pys ds with
  | none => rw [h] at e; cases e
  | some ps => rw [h] at e; cases e; exact ⟨ps, rfl, rfl⟩
theorem pys_cons {d : D} {ds : List D} {q : List PyData} (e : D.pys (d :: ds) = some q) : ∃ p ps, d.py = some p ∧ D.pys ds = some ps ∧ q = p :: ps := by
  simp only [D.pys] at e
  cases h1 : D.py d with
  | none => rw [h1] at e; cases e
  | some p =>
    cases h2 : D.pys ds with
    | none => rw [h1, h2] at e; cases e
    | some ps => rw [h1, h2] at e; cases e; exact ⟨p, ps, rfl, rfl, rfl⟩
mutual
theorem RV.dp : ∀ {d : D} {v : V}, RV K M ρ H d v → ∀ p : PyData, d.py = some p → Dp K.fr H v p
  | _, _, .non, _, e => by simp only [D.py] at e; cases e; exact .non
  | _, _, .bl b, _, e => by simp only [D.py] at e; cases e; exact .bl b
  | _, _, .int i, _, e => by simp only [D.py] at e; cases e; exact .int i
  | _, _, .str x, _, e => by simp only [D.py] at e; cases e; exact .str x
  | _, _, .tup t r, p, e => by
    obtain ⟨ps, h, rfl⟩ := pys_tup e
    exact .tup t.sq (RVs.dp r ps h)
  | _, _, .lst t r, p, e => by
    obtain ⟨ps, h, rfl⟩ := pys_lst e
    exact .lst t.sq (RVs.dp r ps h)
  | _, _, .ref h, _, e => by simp only [D.py] at e; cases e
  | _, _, .frl t r, _, e => by simp only [D.py] at e; cases e
  | _, _, .dct _ _ _, _, e => by simp only [D.py] at e; cases e
theorem RVs.dp : ∀ {ds : List D} {vs : List V}, RVs K M ρ H ds vs → ∀ ps : List PyData, D.pys ds = some ps → DpAll K.fr H vs ps
  | _, _, .nil, _, e => by simp only [D.pys] at e; cases e; exact .nil
  | _, _, .cons r t, ps, e => by
    obtain ⟨p, qs, h1, h2, rfl⟩ := pys_cons e
    exact .cons (RV.dp r p h1) (RVs.dp t qs h2)
end
theorem RN.dp {d : D} {v : V} {p : PyData} (r : RN K M ρ H d v) (e : d.py = some p) : Dp K.fr H v p := by
  rcases r with r | ⟨a, rfl, r⟩
  · exact r.dp p e
  · cases d with
    | lst ds =>
      obtain ⟨xs, h, r⟩ := r
      obtain ⟨ps, hp, rfl⟩ := pys_lst e
      exact .lst (SqL.of h) (r.dp ps hp)
    | dct ks vs => simp only [D.py] at e; cases e
    | _ => exact r.elim
theorem RN.int {i : Int} {v : V} (r : RN K M ρ H (.int i) v) : v = .int i := by
  rcases r with r | ⟨_, _, z⟩
  · cases r; rfl
  · exact z.elim
theorem RN.none_iff {d : D} {v : V} (r : RN K M ρ H d v) : decide (v = .non) = isNone d := by
  rcases r with r | ⟨a, rfl, r⟩
  · cases r <;> rfl
  · cases d <;> first | rfl | exact r.elim
theorem RN.non {v : V} (r : RN K M ρ H .non v) : v = .non := by
  rcases r with r | ⟨_, _, z⟩
  · cases r; rfl
  · exact z.elim
end

/-- a comparison by values gives the datum's answer -/
def DCmp (K : Fg) (r : R2) (op : CmpOp) : Prop :=
  ∀ (M : Addr → Prop) (ρ : List Addr) (H : Hp) (x y : D) (v u : V) (b : Bool) (Q : VK), RN K M ρ H x v → RN K M ρ H y u → cmpD op x y = some b → Q (.bl b) H → r v u H Q

def cmpR (K : Fg) : CmpOp → R2
  | .Eq => rEqD K.fr
  | .NotEq => rNeD K.fr
  | .Lt => rI0 fun i j => .bl (decide (i < j))
  | .LtE => rI0 fun i j => .bl (decide (i ≤ j))
  | .Gt => rI0 fun i j => .bl (decide (j < i))
  | .GtE => rI0 fun i j => .bl (decide (j ≤ i))
  | .Is => fun x y H Q => y = .non ∧ Q (.bl (decide (x = .non))) H
  | .IsNot => fun x y H Q => y = .non ∧ Q (.bl (!decide (x = .non))) H
  | _ => fun _ _ _ _ => False
theorem cmpR_op {X : Cx} (hu : X.A.units + 64 < cLine) : ∀ op : CmpOp, OpR X (compareOp op) (cmpR (kx X) op)
  | .Eq => op_eqD hu
  | .NotEq => op_neD hu
  | .Lt => op_lt | .LtE => op_le | .Gt => op_gt | .GtE => op_ge | .Is => op_isN | .IsNot => op_notN
  | .In => OpR.never | .NotIn => OpR.never
theorem deq_inv {x y : D} {b : Bool} (h : deq x y = some b) : ∃ p q, x.py = some p ∧ y.py = some q ∧ SeqAt.shaped p = true ∧ SeqAt.shaped q = true ∧ PyData.eqv p q = b := by
  unfold deq at h
  cases h1 : x.py with
  | none => rw [h1] at h; cases h
  | some p =>
    cases h2 : y.py with
    | none => rw [h1, h2] at h; cases h
    | some q =>
      rw [h1, h2] at h
      simp only at h
      by_cases hs : SeqAt.shaped p = true ∧ SeqAt.shaped q = true
      · rw [if_pos hs] at h; cases h; exact ⟨p, q, rfl, rfl, hs.1, hs.2, rfl⟩
      · rw [if_neg hs] at h; cases h
theorem cmpR_data {K : Fg} (op : CmpOp) (h1 : op ≠ .In) (h2 : op ≠ .NotIn) : DCmp K (cmpR K op) op := by
  intro M ρ H x y v u b Q rx ry e q
  cases op
  case Eq =>
    obtain ⟨p, p', e1, e2, s1, s2, rfl⟩ := deq_inv (show deq x y = some b from e)
    exact ⟨p, p', rx.dp e1, ry.dp e2, s1, s2, q⟩
  case NotEq =>
    have e' : (deq x y).map (!·) = some b := e
    cases hd : deq x y with
    | none => rw [hd] at e'; cases e'
    | some c =>
      rw [hd] at e'
      cases e'
      obtain ⟨p, p', e1, e2, s1, s2, rfl⟩ := deq_inv hd
      exact ⟨p, p', rx.dp e1, ry.dp e2, s1, s2, q⟩
  case Is =>
    cases y with
    | non =>
      have e' : some (isNone x) = some b := e
      cases e'
      refine ⟨ry.non, ?_⟩
      rw [rx.none_iff]; exact q
    | _ => cases e
  case IsNot =>
    cases y with
    | non =>
      have e' : some (!isNone x) = some b := e
      cases e'
      refine ⟨ry.non, ?_⟩
      rw [rx.none_iff]; exact q
    | _ => cases e
  case In => exact absurd rfl h1
  case NotIn => exact absurd rfl h2
  all_goals
    cases x <;> cases y <;> first | (cases e; done) | skip
    cases e
    exact ⟨_, _, rx.int, ry.int, q⟩

section
variable {X : Cx} {K : Fg} {pos : Pos} {a b e : Expr} {ma mb mc : Env → Cm D} {op : CmpOp}
theorem v_cmp (hu : X.A.units + 64 < cLine) (h1 : op ≠ .In) (h2 : op ≠ .NotIn) (ha : PE X a (tB (kx X) ma)) (hb : PE X b (tB (kx X) mb)) :
    PE X (.Compare a [op] [b] pos) (tV (kx X) fun σ => do let x ← ma σ; let y ← mb σ; let x' ← deref x; let y' ← deref y; Cm.lift ((cmpD op x' y').map .bl)) := by
  refine (pe_cmpR (cmpR_op hu op) ha hb (nomark _ h1 h2)).imp fun σ H Q ⟨F, H0, ρ, M, S, σd, d, S', r, e, q⟩ => ?_
  obtain ⟨x, S1, e1, e⟩ := bind_ok e
  obtain ⟨y, S2, e2, e⟩ := bind_ok e
  obtain ⟨x', S3, e3, e⟩ := bind_ok e
  obtain ⟨y', S4, e4, e⟩ := bind_ok e
  obtain ⟨e5, rfl⟩ := lift_ok e
  refine ⟨F, H0, ρ, M, S, σd, x, S1, r, e1, fun v ρ1 M1 H1 r1 x1 v1 => ?_⟩
  refine ⟨F, H0, ρ1, M1, S1, σd, y, S2, r1, e2, fun u ρ2 M2 H2 r2 x2 v2 => ?_⟩
  obtain ⟨rfl, n1⟩ := deref_ok r2 (v1.ext x2) e3
  obtain ⟨rfl, n2⟩ := deref_ok r2 v2 e4
  cases hc : cmpD op x' y' with
  | none => rw [hc] at e5; cases e5
  | some c =>
    rw [hc] at e5
    cases e5
    exact cmpR_data op h1 h2 M2 ρ2 H2 x' y' v u c _ n1 n2 hc (q _ ρ2 M2 H2 r2 (x1.trans x2) (.bl c))
theorem t_cmp (hu : X.A.units + 64 < cLine) (h1 : op ≠ .In) (h2 : op ≠ .NotIn) (ha : PE X a (tB (kx X) ma)) (hb : PE X b (tB (kx X) mb)) :
    PT X (.Compare a [op] [b] pos) (tT (kx X) fun σ => Cm.bind (do let x ← ma σ; let y ← mb σ; let x' ← deref x; let y' ← deref y; Cm.lift ((cmpD op x' y').map .bl)) fun x => Cm.lift (truth x)) := by
  refine (pt_cmpR (cmpR_op hu op) ha hb (nomark _ h1 h2)).imp fun σ H Q ⟨F, H0, ρ, M, S, σd, d, S', r, e, q⟩ => ?_
  obtain ⟨z, S0, e, e0⟩ := mbind_ok e
  obtain ⟨x, S1, e1, e⟩ := bind_ok e
  obtain ⟨y, S2, e2, e⟩ := bind_ok e
  obtain ⟨x', S3, e3, e⟩ := bind_ok e
  obtain ⟨y', S4, e4, e⟩ := bind_ok e
  obtain ⟨e5, rfl⟩ := lift_ok e
  obtain ⟨e0', rfl⟩ := lift_ok e0
  refine ⟨F, H0, ρ, M, S, σd, x, S1, r, e1, fun v ρ1 M1 H1 r1 x1 v1 => ?_⟩
  refine ⟨F, H0, ρ1, M1, S1, σd, y, S2, r1, e2, fun u ρ2 M2 H2 r2 x2 v2 => ?_⟩
  obtain ⟨rfl, n1⟩ := deref_ok r2 (v1.ext x2) e3
  obtain ⟨rfl, n2⟩ := deref_ok r2 v2 e4
  cases hc : cmpD op x' y' with
  | none => rw [hc] at e5; cases e5
  | some c =>
    rw [hc] at e5
    have e6 : D.bl c = z := Option.some.inj e5
    subst e6
    have e7 : c = d := Option.some.inj e0'
    subst e7
    exact cmpR_data op h1 h2 M2 ρ2 H2 x' y' v u c _ n1 n2 hc ⟨c, rfl, q ρ2 M2 H2 r2 (x1.trans x2)⟩

/-! ### truth -/
theorem tru_data {M : Addr → Prop} {ρ : List Addr} {H : Hp} {d : D} {v : V} {b : Bool} (r : RN K M ρ H d v) (h : truth d = some b) : TruV K.fr v H b := by
  rcases r with r | ⟨a, rfl, r⟩
  · cases r with
    | non => cases h; rfl
    | bl c => cases h; rfl
    | int i => cases h; rfl
    | str x =>
      unfold truth at h
      by_cases hx : x.length ≤ sizeLine
      · simp only [if_pos hx] at h
        cases h
        refine ⟨hx, ?_⟩
        by_cases z : x.length = 0
        · rw [z]; rfl
        · have : ((x.length : Int) != 0) = true := by simpa using z
          rw [this]; simpa using z
      · simp only [if_neg hx] at h
        cases h
    | @tup p xs ds t rs =>
      cases h
      refine .inr (.inl ⟨xs, t.sq, ?_⟩)
      cases rs <;> rfl
    | @lst p xs ds t rs =>
      cases h
      refine .inl ⟨xs, t.sq, ?_⟩
      cases rs <;> rfl
    | ref _ => cases h
    | frl _ _ => cases h
    | dct _ _ _ => cases h
  · cases d with
    | lst ds =>
      obtain ⟨xs, ha, rs⟩ := r
      cases h
      refine .inl ⟨xs, SqL.of ha, ?_⟩
      cases rs <;> rfl
    | dct _ _ => cases h
    | _ => exact r.elim
/-- a test by the value's truth -/
theorem t_truth (ha : PE X a (tV (kx X) ma)) (he : ∀ whole, isTrue a X.env whole = (do let v ← whole; standAt a.pos; holding [v] (truthy v))) :
    PT X a (tT (kx X) fun σ => Cm.bind (ma σ) fun x => Cm.lift (truth x)) := by
  refine (pt_truth ha he).imp fun σ H Q ⟨F, H0, ρ, M, S, σd, d, S', r, e, q⟩ => ?_
  obtain ⟨z, S0, e1, e0⟩ := mbind_ok e
  obtain ⟨e0', rfl⟩ := lift_ok e0
  exact ⟨F, H0, ρ, M, S, σd, z, S0, r, e1, fun v ρ1 M1 H1 r1 x1 v1 => ⟨d, tru_data (.inl v1) e0', q ρ1 M1 H1 r1 x1⟩⟩
theorem t_var {i : Nat} {x : Str} (hN : X.N[i]? = some x) (hv : Vis X.env.scope x) (hd : (x == ("__debug__" : Str)) = false) (hcd : (x == ("__classdict__" : Str)) = false) :
    PT X (.Name x pos) (tT (kx X) fun σ => Cm.lift ((look σ i).bind truth)) := by
  refine (pt_truth (b_var (K := kx X) (pos := pos) hN hv hd hcd) (by intro _; rfl)).imp fun σ H Q ⟨F, H0, ρ, M, S, σd, d, S', r, e, q⟩ => ?_
  obtain ⟨e1, rfl⟩ := lift_ok e
  cases hl : look σd i with
  | none => rw [hl] at e1; cases e1
  | some z =>
    rw [hl] at e1
    exact ⟨F, H0, ρ, M, S, σd, z, S, r, by show Cm.lift (look σd i) S = _; rw [hl]; rfl, fun v ρ1 M1 H1 r1 x1 v1 => ⟨d, tru_data v1.now e1, q ρ1 M1 H1 r1 x1⟩⟩

/-! ### not, and, or, if-else -/
variable {ta tb : Env → Cm Bool}
theorem t_not (ha : PT X a (tT K ta)) : PT X (.UnaryOp .Not a pos) (tT K fun σ => do let b ← ta σ; pure (!b)) := by
  refine (pt_not ha).imp fun σ H Q ⟨F, H0, ρ, M, S, σd, d, S', r, e, q⟩ => ?_
  obtain ⟨z, S1, e1, e⟩ := bind_ok e
  obtain ⟨rfl, rfl⟩ := pure_ok e
  exact ⟨F, H0, ρ, M, S, σd, z, S1, r, e1, fun ρ1 M1 H1 r1 x1 => q ρ1 M1 H1 r1 x1⟩
theorem v_not (ha : PE X a (tV K ma)) : PE X (.UnaryOp .Not a pos) (tV K fun σ => do let x ← ma σ; match x with | .bl b => pure (.bl (!b)) | _ => Cm.fail) := by
  refine (pe_not ha).imp fun σ H Q ⟨F, H0, ρ, M, S, σd, d, S', r, e, q⟩ => ?_
  obtain ⟨z, S1, e1, e⟩ := bind_ok e
  refine ⟨F, H0, ρ, M, S, σd, z, S1, r, e1, fun v ρ1 M1 H1 r1 x1 v1 => ?_⟩
  cases z with
  | bl c =>
    obtain ⟨rfl, rfl⟩ := pure_ok e
    cases v1
    exact ⟨c, rfl, q _ ρ1 M1 H1 r1 x1 (.bl _)⟩
  | _ => exact (fail_ok e).elim
theorem v_and (ha : PE X a (tV K ma)) {rest : List Expr} (hb : PE X (.BoolOp .And (b :: rest) pos) (tV K mb)) : PE X (.BoolOp .And (a :: b :: rest) pos) (tV K fun σ => do
      let x ← ma σ
      match x with
      | .bl true => mb σ
      | .bl false => pure (.bl false)
      | _ => Cm.fail) := by
  refine (pe_and ha hb).imp fun σ H Q ⟨F, H0, ρ, M, S, σd, d, S', r, e, q⟩ => ?_
  obtain ⟨z, S1, e1, e⟩ := bind_ok e
  refine ⟨F, H0, ρ, M, S, σd, z, S1, r, e1, fun v ρ1 M1 H1 r1 x1 v1 => ?_⟩
  cases z with
  | bl c =>
    cases v1
    cases c with
    | true =>
      refine ⟨true, rfl, ?_⟩
      rw [if_pos rfl]
      exact ⟨F, H0, ρ1, M1, S1, σd, d, S', r1, e, fun v ρ2 M2 H2 r2 x2 v2 => q v ρ2 M2 H2 r2 (x1.trans x2) v2⟩
    | false =>
      obtain ⟨rfl, rfl⟩ := pure_ok e
      refine ⟨false, rfl, ?_⟩
      rw [if_neg Bool.false_ne_true]
      exact q _ ρ1 M1 H1 r1 x1 (.bl _)
  | _ => exact (fail_ok e).elim
theorem v_or (ha : PE X a (tV K ma)) {rest : List Expr} (hb : PE X (.BoolOp .Or (b :: rest) pos) (tV K mb)) : PE X (.BoolOp .Or (a :: b :: rest) pos) (tV K fun σ => do
      let x ← ma σ
      match x with
      | .bl true => pure (.bl true)
      | .bl false => mb σ
      | _ => Cm.fail) := by
  refine (pe_or ha hb).imp fun σ H Q ⟨F, H0, ρ, M, S, σd, d, S', r, e, q⟩ => ?_
  obtain ⟨z, S1, e1, e⟩ := bind_ok e
  refine ⟨F, H0, ρ, M, S, σd, z, S1, r, e1, fun v ρ1 M1 H1 r1 x1 v1 => ?_⟩
  cases z with
  | bl c =>
    cases v1
    cases c with
    | true =>
      obtain ⟨rfl, rfl⟩ := pure_ok e
      refine ⟨true, rfl, ?_⟩
      rw [if_pos rfl]
      exact q _ ρ1 M1 H1 r1 x1 (.bl _)
    | false =>
      refine ⟨false, rfl, ?_⟩
      rw [if_neg Bool.false_ne_true]
      exact ⟨F, H0, ρ1, M1, S1, σd, d, S', r1, e, fun v ρ2 M2 H2 r2 x2 v2 => q v ρ2 M2 H2 r2 (x1.trans x2) v2⟩
  | _ => exact (fail_ok e).elim
theorem w_and (ha : PT X a (tT K ta)) {rest : List Expr} (hb : PW X (.BoolOp .And (b :: rest) pos) (tT K tb)) : PW X (.BoolOp .And (a :: b :: rest) pos) (tT K fun σ => do if ← ta σ then tb σ else pure false) := by
  refine ⟨fun wh pins s σ H Q I h => (pw_and ha hb).run wh pins s σ H Q I ?_⟩
  obtain ⟨F, H0, ρ, M, S, σd, d, S', r, e, q⟩ := h
  obtain ⟨z, S1, e1, e⟩ := bind_ok e
  refine ⟨F, H0, ρ, M, S, σd, z, S1, r, e1, fun ρ1 M1 H1 r1 x1 => ?_⟩
  cases z with
  | true =>
    rw [if_pos rfl]
    exact ⟨F, H0, ρ1, M1, S1, σd, d, S', r1, e, fun ρ2 M2 H2 r2 x2 => q ρ2 M2 H2 r2 (x1.trans x2)⟩
  | false =>
    rw [if_neg Bool.false_ne_true]
    obtain ⟨rfl, rfl⟩ := pure_ok e
    exact q ρ1 M1 H1 r1 x1
theorem w_or (ha : PT X a (tT K ta)) {rest : List Expr} (hb : PW X (.BoolOp .Or (b :: rest) pos) (tT K tb)) : PW X (.BoolOp .Or (a :: b :: rest) pos) (tT K fun σ => do if ← ta σ then pure true else tb σ) := by
  refine ⟨fun wh pins s σ H Q I h => (pw_or ha hb).run wh pins s σ H Q I ?_⟩
  obtain ⟨F, H0, ρ, M, S, σd, d, S', r, e, q⟩ := h
  obtain ⟨z, S1, e1, e⟩ := bind_ok e
  refine ⟨F, H0, ρ, M, S, σd, z, S1, r, e1, fun ρ1 M1 H1 r1 x1 => ?_⟩
  cases z with
  | true =>
    rw [if_pos rfl]
    obtain ⟨rfl, rfl⟩ := pure_ok e
    exact q ρ1 M1 H1 r1 x1
  | false =>
    rw [if_neg Bool.false_ne_true]
    exact ⟨F, H0, ρ1, M1, S1, σd, d, S', r1, e, fun ρ2 M2 H2 r2 x2 => q ρ2 M2 H2 r2 (x1.trans x2)⟩
theorem v_ite {c : Expr} (hc : PT X c (tT K ta)) (ha : PE X a (tV K ma)) (hb : PE X b (tV K mb)) : PE X (.IfExp c a b pos) (tV K fun σ => do if ← ta σ then ma σ else mb σ) := by
  refine (pe_ifExp hc ha hb).imp fun σ H Q ⟨F, H0, ρ, M, S, σd, d, S', r, e, q⟩ => ?_
  obtain ⟨z, S1, e1, e⟩ := bind_ok e
  refine ⟨F, H0, ρ, M, S, σd, z, S1, r, e1, fun ρ1 M1 H1 r1 x1 => ?_⟩
  cases z with
  | true =>
    rw [if_pos rfl]
    exact ⟨F, H0, ρ1, M1, S1, σd, d, S', r1, e, fun v ρ2 M2 H2 r2 x2 v2 => q v ρ2 M2 H2 r2 (x1.trans x2) v2⟩
  | false =>
    rw [if_neg Bool.false_ne_true]
    exact ⟨F, H0, ρ1, M1, S1, σd, d, S', r1, e, fun v ρ2 M2 H2 r2 x2 v2 => q v ρ2 M2 H2 r2 (x1.trans x2) v2⟩
theorem v_neg (ha : PE X a (tV K ma)) : PE X (.UnaryOp .USub a pos) (tV K fun σ => do let x ← ma σ; Cm.lift ((int? x).map fun i => .int (-i))) := by
  refine (pe_un un_neg ha).imp fun σ H Q ⟨F, H0, ρ, M, S, σd, d, S', r, e, q⟩ => ?_
  obtain ⟨z, S1, e1, e⟩ := bind_ok e
  obtain ⟨e2, rfl⟩ := lift_ok e
  refine ⟨F, H0, ρ, M, S, σd, z, S1, r, e1, fun v ρ1 M1 H1 r1 x1 v1 => ?_⟩
  cases z with
  | int i =>
    cases e2
    cases v1
    exact ⟨i, rfl, q _ ρ1 M1 H1 r1 x1 (.int _)⟩
  | _ => cases e2
theorem v_chn {c : Expr} {op' : CmpOp} (hu : X.A.units + 64 < cLine) (h1 : op ≠ .In) (h2 : op ≠ .NotIn) (h3 : op' ≠ .In) (h4 : op' ≠ .NotIn) (ha : PE X a (tV (kx X) ma)) (hb : PE X b (tV (kx X) mb)) (hc : PE X c (tV (kx X) mc))
    (hm : lastMarks [op, op'] [b, c] = false) :
    PE X (.Compare a [op, op'] [b, c] pos) (tV (kx X) fun σ => do
      let x ← ma σ
      let y ← mb σ
      let t ← Cm.lift (cmpD op x y)
      if t then do let z ← mc σ; Cm.lift ((cmpD op' y z).map .bl) else pure (.bl false)) := by
  refine (pe_chain (cmpR_op hu op) (cmpR_op hu op') ha hb hc hm).imp fun σ H Q ⟨F, H0, ρ, M, S, σd, d, S', r, e, q⟩ => ?_
  obtain ⟨x, S1, e1, e⟩ := bind_ok e
  obtain ⟨y, S2, e2, e⟩ := bind_ok e
  obtain ⟨t, S3, e3, e⟩ := bind_ok e
  obtain ⟨e3', rfl⟩ := lift_ok e3
  refine ⟨F, H0, ρ, M, S, σd, x, S1, r, e1, fun v ρ1 M1 H1 r1 x1 v1 => ?_⟩
  refine ⟨F, H0, ρ1, M1, S1, σd, y, S2, r1, e2, fun u ρ2 M2 H2 r2 x2 v2 => ?_⟩
  refine cmpR_data op h1 h2 M2 ρ2 H2 x y v u t _ (.inl (v1.ext x2)) (.inl v2) e3' ⟨t, rfl, ?_⟩
  cases t with
  | false =>
    rw [if_neg Bool.false_ne_true]
    obtain ⟨rfl, rfl⟩ := pure_ok e
    exact q _ ρ2 M2 H2 r2 (x1.trans x2) (.bl _)
  | true =>
    rw [if_pos rfl]
    obtain ⟨z, S4, e4, e⟩ := bind_ok e
    obtain ⟨e5, rfl⟩ := lift_ok e
    refine ⟨F, H0, ρ2, M2, S2, σd, z, S4, r2, e4, fun w ρ3 M3 H3 r3 x3 v3 => ?_⟩
    cases hc : cmpD op' y z with
    | none => rw [hc] at e5; cases e5
    | some b =>
      rw [hc] at e5
      cases e5
      exact cmpR_data op' h3 h4 M3 ρ3 H3 y z u w b _ (.inl (v2.ext x3)) (.inl v3) hc (q _ ρ3 M3 H3 r3 ((x1.trans x2).trans x3) (.bl b))
end
end Cl

set_option Elab.async false
set_option linter.all false
set_option maxRecDepth 100000
/-! SoundDict: dicts whose keys are numbers and texts, or tuples of such: read, stored into, made. -/
namespace Cl
open PySem PySem.Spec PyProof.Rows L2

section
variable {X : Cx} {pins : List (Addr × Obj)} {σ : L2.St} {H : Hp} {s : Shared} {M : Addr → Prop} {ρ : List Addr}

theorem kof_tup {ds : List D} {n : NestedKey} (e : keyOf (.tup ds) = some n) : ∃ ns, keysOf ds = some ns ∧ n = .tup ns := by
  simp only [keyOf] at e
  cases h : keysOf ds with
  | none => rw [h] at e; cases e
  | some ks => rw [h] at e; cases e; exact ⟨ks, rfl, rfl⟩
theorem kof_cons {d : D} {ds : List D} {q : List NestedKey} (e : keysOf (d :: ds) = some q) : ∃ p ps, keyOf d = some p ∧ keysOf ds = some ps ∧ q = p :: ps := by
  simp only [keysOf] at e
  cases h1 : keyOf d with
  | none => rw [h1] at e; cases e
  | some p =>
    cases h2 : keysOf ds with
    | none => rw [h1, h2] at e; cases e
    | some ps => rw [h1, h2] at e; cases e; exact ⟨p, ps, rfl, rfl, rfl⟩
mutual
/-- a key of data is a key of the model -/
theorem key_is (I : Inv X pins σ H s) : ∀ {d : D} {v : V}, RV (kx X) M ρ H d v → ∀ (u : Value) (n : NestedKey), RelV v u → keyOf d = some n → NestedIs s.heap n u
  | _, _, .non, u, n, r, e => by simp only [keyOf] at e; cases e; cases r; exact .none
  | _, _, .int i, u, n, r, e => by simp only [keyOf] at e; cases e; obtain ⟨t, rfl⟩ := r; exact .int i t
  | _, _, .str x, u, n, r, e => by simp only [keyOf] at e; cases e; obtain ⟨t, rfl⟩ := r; exact .text x t
  | _, _, .tup t rs, u, n, r, e => by
    obtain ⟨ns, h, rfl⟩ := kof_tup e
    cases r
    obtain ⟨its, rv, ⟨o, ho, hc, m, hd⟩, hz⟩ := I.tuple t.sq
    exact .tup ho hc hd (keys_are I rs its ns (by simpa using rv) h)
  | _, _, .bl b, u, n, r, e => by simp only [keyOf] at e; cases e
  | _, _, .lst _ _, u, n, r, e => by simp only [keyOf] at e; cases e
  | _, _, .ref _, u, n, r, e => by simp only [keyOf] at e; cases e
  | _, _, .frl _ _, u, n, r, e => by simp only [keyOf] at e; cases e
  | _, _, .dct _ _ _, u, n, r, e => by simp only [keyOf] at e; cases e
theorem keys_are (I : Inv X pins σ H s) : ∀ {ds : List D} {vs : List V}, RVs (kx X) M ρ H ds vs → ∀ (us : List Value) (ns : List NestedKey), Vals vs us → keysOf ds = some ns → NestedAll s.heap ns us
  | _, _, .nil, us, ns, r, e => by simp only [keysOf] at e; cases e; cases r; exact .nil
  | _, _, .cons r0 rs, us, ns, r, e => by
    obtain ⟨p, ps, h1, h2, rfl⟩ := kof_cons e
    cases r with
    | cons a b => exact .cons (key_is I r0 _ _ a h1) (keys_are I rs _ _ b h2)
end
theorem kind_tup {n : NestedKey} (h : kindN n = some true) : ∃ ns, n = .tup ns ∧ n.depth ≤ 8 := by
  cases n with
  | tup ks =>
    unfold kindN at h
    by_cases hk : NestedKey.depthAll ks ≤ 7
    · exact ⟨ks, rfl, by simp only [NestedKey.depth]; omega⟩
    · simp only [if_neg hk] at h; cases h
  | _ => cases h
/-- a number or a text as a key of the layer -/
def flatN : NestedKey → Key
  | .num i => .inl i
  | .text x => .inr x
  | _ => .inl 0
theorem kind_flat {n : NestedKey} {w : World} (h : kindN n = some false) {hp : Heap} {u : Value} (hi : NestedIs hp n u) (hb : ∀ b, u ≠ .bool b) : keyIs (flatN n) u = true ∧ n.hash w = keyH w (flatN n) := by
  cases n with
  | num i =>
    cases hi with
    | bool e => exact absurd rfl (hb _)
    | int i t => exact ⟨keyIs_int i t, by simp only [NestedKey.hash]; rfl⟩
  | text x => cases hi with | text x t => exact ⟨keyIs_str x t, by simp only [NestedKey.hash]; rfl⟩
  | tup ks =>
    unfold kindN at h
    by_cases hk : NestedKey.depthAll ks ≤ 7
    · simp only [if_pos hk] at h; cases h
    · simp only [if_neg hk] at h; cases h
  | none => cases h
theorem kind_false {n : NestedKey} (h : kindN n = some false) : (∃ i, n = .num i) ∨ ∃ x, n = .text x := by
  cases n with
  | num i => exact .inl ⟨i, rfl⟩
  | text x => exact .inr ⟨x, rfl⟩
  | tup ks =>
    unfold kindN at h
    by_cases hk : NestedKey.depthAll ks ≤ 7
    · simp only [if_pos hk] at h; cases h
    · simp only [if_neg hk] at h; cases h
  | none => cases h
theorem flat_inj {m n : NestedKey} (hm : kindN m = some false) (hn : kindN n = some false) (h : flatN m = flatN n) : m = n := by
  rcases kind_false hm with ⟨i, rfl⟩ | ⟨x, rfl⟩ <;> rcases kind_false hn with ⟨j, rfl⟩ | ⟨y, rfl⟩ <;> simp only [flatN] at h <;> cases h <;> rfl
theorem not_bool {d : D} {v : V} {u : Value} {n : NestedKey} {K : Fg} (r : RV K M ρ H d v) (ru : RelV v u) (e : keyOf d = some n) : ∀ b, u ≠ .bool b := by
  intro b z
  subst z
  cases r with
  | bl => simp only [keyOf] at e; cases e
  | int => obtain ⟨t, q⟩ := ru; cases q
  | str => obtain ⟨t, q⟩ := ru; cases q
  | non => cases ru
  | _ => cases ru

theorem each_flat (I : Inv X pins σ H s) : ∀ {b : Bool} {ks vs : List D} {ps : List (NestedKey × DictEntry)}, RVd (kx X) M ρ H b ks vs ps → b = false → (∀ p ∈ ps, p.2.hash = p.1.hash X.w) →
    (∀ p ∈ ps, keyIs (flatN p.1) p.2.key = true ∧ p.2.hash = keyH X.w (flatN p.1) ∧ kindN p.1 = some false) ∧ Pairs (mixKind X.prog X.w) (ps.map (·.2)) (ps.map fun p => (flatN p.1, p.2.val))
  | _, _, _, _, .nil, _, _ => ⟨fun _ h => absurd h (by simp), .nil⟩
  | _, _, _, _, .cons r1 u1 r2 u2 k kn t, hb, hh => by
    subst hb
    obtain ⟨h1, h2⟩ := each_flat I t rfl fun p hp => hh p (List.mem_cons_of_mem _ hp)
    have hi := key_is I r1 _ _ u1 k
    obtain ⟨q1, q2⟩ := kind_flat (w := X.w) kn hi (not_bool r1 u1 k)
    refine ⟨fun p hp => ?_, .cons q1 rfl h2⟩
    rcases List.mem_cons.mp hp with rfl | hp
    · exact ⟨q1, (hh _ List.mem_cons_self).trans q2, kn⟩
    · exact h1 p hp
/-- the dict as a dict of flat keys -/
theorem flat_dict (I : Inv X pins σ H s) {a : Addr} {ps : List (NestedKey × DictEntry)} (e : H a = some (.ext (DI X.w a ps))) {ks vs : List D} (r : RVd (kx X) M ρ H false ks vs ps) :
    (a == sysModules) = false ∧ s.heap.DictOf (mixKind X.prog X.w) a (ps.map fun p => (flatN p.1, p.2.val)) ∧ ps.length ≤ 16777216 := by
  obtain ⟨⟨hsm, hz, ⟨ep, ho⟩, hh, nd⟩, _⟩ := I.hok a _ e
  obtain ⟨h1, h2⟩ := each_flat I r rfl hh
  refine ⟨hsm, ⟨_, (ps.map (·.2)).toArray, ep, ho, ⟨rfl, rfl, rfl⟩, rfl, fun en hen => ?_, by simpa using h2, ?_⟩, hz⟩
  · have : en ∈ ps.map (·.2) := by simpa using hen
    obtain ⟨p, hp, rfl⟩ := List.mem_map.mp this
    exact ⟨flatN p.1, (h1 p hp).1, (h1 p hp).2.1⟩
  · rw [List.map_map]
    have hm : (ps.map ((·.1) ∘ fun p => (flatN p.1, p.2.val))) = (ps.map (·.1)).map flatN := by rw [List.map_map]; rfl
    rw [hm]
    unfold List.Nodup
    rw [List.pairwise_map]
    refine List.Pairwise.imp_of_mem (fun {x y} hx hy hne he => ?_) nd
    obtain ⟨p, hp, rfl⟩ := List.mem_map.mp hx
    obtain ⟨q, hq, rfl⟩ := List.mem_map.mp hy
    exact hne (flat_inj (h1 p hp).2.2 (h1 q hq).2.2 he)
/-- the address of a key -/
def addrOf : Value → Addr
  | .ref a => a
  | _ => 0
theorem tup_ref {h : Heap} {ns : List NestedKey} {u : Value} (hi : NestedIs h (.tup ns) u) : u = .ref (addrOf u) := by cases hi; rfl
theorem each_tup (I : Inv X pins σ H s) : ∀ {b : Bool} {ks vs : List D} {ps : List (NestedKey × DictEntry)}, RVd (kx X) M ρ H b ks vs ps → b = true →
    ∀ p ∈ ps, p.2.key = .ref (addrOf p.2.key) ∧ (nestedKind X.prog X.w).is s.heap p.1 (addrOf p.2.key) ∧ kindN p.1 = some true
  | _, _, _, _, .nil, _ => fun _ h => absurd h (by simp)
  | _, _, _, _, .cons (n := n) (e := en) r1 u1 r2 u2 k kn t, hb => by
    subst hb
    intro p hp
    rcases List.mem_cons.mp hp with rfl | hp
    · have hi := key_is I r1 _ _ u1 k
      obtain ⟨ns, rfl, hd⟩ := kind_tup kn
      have hk : en.key = .ref (addrOf en.key) := tup_ref hi
      exact ⟨hk, ⟨by rw [← hk]; exact hi, hd⟩, kn⟩
    · exact each_tup I t rfl p hp
/-- the dict as a dict of tuple keys -/
theorem tup_dict (I : Inv X pins σ H s) {a : Addr} {ps : List (NestedKey × DictEntry)} (e : H a = some (.ext (DI X.w a ps))) {ks vs : List D} (r : RVd (kx X) M ρ H true ks vs ps) :
    (a == sysModules) = false ∧ s.heap.DictOfH (nestedKind X.prog X.w) a (ps.map fun p => (p.1, addrOf p.2.key, p.2.val)) ∧ ps.length ≤ 16777216 := by
  obtain ⟨⟨hsm, hz, ⟨ep, ho⟩, hh, nd⟩, _⟩ := I.hok a _ e
  have h1 := each_tup I r rfl
  refine ⟨hsm, ⟨_, (ps.map (·.2)).toArray, ep, ho, ⟨rfl, rfl, rfl⟩, rfl, ?_, fun x hx => ?_, by rw [List.map_map]; exact nd⟩, hz⟩
  · show ps.map (·.2) = _
    rw [List.map_map]
    refine List.map_congr_left fun p hp => ?_
    obtain ⟨k1, k2, k3⟩ := h1 p hp
    obtain ⟨n, hs, ky, vl⟩ := p
    have a1 : hs = n.hash X.w := hh _ hp
    have a2 : ky = .ref (addrOf ky) := k1
    show DictEntry.mk hs ky vl = DictEntry.mk (n.hash X.w) (.ref (addrOf ky)) vl
    rw [← a2, a1]
  · obtain ⟨p, hp, rfl⟩ := List.mem_map.mp hx
    exact (h1 p hp).2.1

/-! ### looking up -/
theorem dfind_cons {k k' v : D} {ks vs : List D} {o : Option D} (h : dfind k (k' :: ks) (v :: vs) = some o) : (kk k).isSome = true ∧ kk k' = kk k ∧ ((keyOf k' = keyOf k ∧ o = some v) ∨ (keyOf k' ≠ keyOf k ∧ dfind k ks vs = some o)) := by
  unfold dfind at h
  by_cases h1 : (kk k).isSome ∧ kk k' = kk k
  · rw [if_pos h1] at h
    refine ⟨h1.1, h1.2, ?_⟩
    by_cases h2 : keyOf k' = keyOf k
    · rw [if_pos h2] at h; cases h; exact .inl ⟨h2, rfl⟩
    · rw [if_neg h2] at h; exact .inr ⟨h2, h⟩
  · rw [if_neg h1] at h; cases h
/-- the entries' answer is the data's -/
theorem find_data {K : Fg} : ∀ {b : Bool} {ks vs : List D} {ps : List (NestedKey × DictEntry)}, RVd K M ρ H b ks vs ps → ∀ (k : D) (n : NestedKey) (o : Option D), keyOf k = some n → dfind k ks vs = some o →
    match o with
    | some d => ∃ p v, ps.find? (fun p => decide (p.1 = n)) = some p ∧ RelV v p.2.val ∧ RV K M ρ H d v
    | none => ps.find? (fun p => decide (p.1 = n)) = none
  | _, _, _, _, .nil, k, n, o, hk, h => by
    unfold dfind at h
    by_cases h1 : (kk k).isSome = true
    · rw [if_pos h1] at h; cases h; rfl
    · rw [if_neg h1] at h; cases h
  | _, _, _, _, .cons (n := m) r1 u1 r2 u2 km kn t, k, n, o, hk, h => by
    obtain ⟨_, _, h⟩ := dfind_cons h
    rcases h with ⟨e, rfl⟩ | ⟨e, h⟩
    · have : m = n := by rw [km, hk] at e; exact Option.some.inj e
      subst this
      exact ⟨_, _, by rw [List.find?_cons_of_pos (by simp)], u2, r2⟩
    · have hne : ¬ m = n := fun z => e (by rw [km, hk, z])
      have := find_data t k n o hk h
      rw [List.find?_cons_of_neg (by simpa using hne)]
      exact this
/-- the kind of the keys -/
theorem find_kind {K : Fg} {b : Bool} {ks vs : List D} {ps : List (NestedKey × DictEntry)} (r : RVd K M ρ H b ks vs ps) {k : D} {n : NestedKey} {o : Option D} (hk : keyOf k = some n) (h : dfind k ks vs = some o) :
    ∃ b', kindN n = some b' ∧ RVd K M ρ H b' ks vs ps := by
  cases r with
  | nil =>
    unfold dfind at h
    by_cases h1 : (kk k).isSome = true
    · obtain ⟨c, hc⟩ := Option.isSome_iff_exists.mp h1
      unfold kk at hc
      rw [hk] at hc
      exact ⟨c, hc, .nil⟩
    · rw [if_neg h1] at h; cases h
  | cons r1 u1 r2 u2 km kn t =>
    obtain ⟨h1, h2, _⟩ := dfind_cons h
    unfold kk at h2
    rw [km, hk] at h2
    exact ⟨b, by rw [← kn]; exact h2.symm, .cons r1 u1 r2 u2 km kn t⟩
theorem valueAt_find (ps : List (NestedKey × DictEntry)) (n : NestedKey) (hn : kindN n = some false) (hp : ∀ p ∈ ps, kindN p.1 = some false) :
    valueAt (ps.map fun p => (flatN p.1, p.2.val)) (flatN n) = (ps.find? fun p => decide (p.1 = n)).map fun p => p.2.val := by
  unfold valueAt
  rw [List.find?_map, Option.map_map]
  congr 1
  induction ps with
  | nil => rfl
  | cons p ps ih =>
    have h1 := hp p List.mem_cons_self
    by_cases h : p.1 = n
    · rw [List.find?_cons_of_pos (by simp [h]), List.find?_cons_of_pos (by simp [h])]
    · have h' : ¬ flatN p.1 = flatN n := fun z => h (flat_inj h1 hn z)
      rw [List.find?_cons_of_neg (by simpa using h'), List.find?_cons_of_neg (by simpa using h)]
      exact ih fun q hq => hp q (List.mem_cons_of_mem _ hq)
theorem atKey_find (ps : List (NestedKey × DictEntry)) (n : NestedKey) :
    (atKey (ps.map fun p => (p.1, addrOf p.2.key, p.2.val)) n).map (·.2) = (ps.find? fun p => decide (p.1 = n)).map fun p => p.2.val := by
  unfold atKey
  rw [List.find?_map, Option.map_map, Option.map_map]
  rfl

/-- d[k], there -/
theorem x_getItem {A : Around} {E : Value → Shared → Prop} {Q : Value → Shared → Prop} {a : Addr} {ps : List (NestedKey × DictEntry)} {b : Bool} {ks vs : List D} {k d : D} {v : V} {u : Value} (hu : A.units + 64 < cLine) (I : Inv X pins σ H s)
    (e : H a = some (.ext (DI X.w a ps))) (r : RVd (kx X) M ρ H b ks vs ps) (rk : RV (kx X) M ρ H k v) (ru : RelV v u) (hf : dfind k ks vs = some (some d))
    (h : ∀ w' s' y, Inv X pins σ H s' → RelV y w' → RV (kx X) M ρ H d y → Q w' s') : wpAny (model X.prog X.w) A (getItem (.ref a) u) Q E s := by
  have hks : ∃ n, keyOf k = some n := by
    cases ks <;> cases vs <;> simp only [dfind] at hf
    · split at hf
      · rename_i h1; unfold kk at h1; cases hk : keyOf k with
        | none => rw [hk] at h1; simp at h1
        | some n => exact ⟨n, rfl⟩
      · cases hf
    · cases hf
    · cases hf
    · split at hf
      · rename_i h1; have h1 := h1.1; unfold kk at h1; cases hk : keyOf k with
        | none => rw [hk] at h1; simp at h1
        | some n => exact ⟨n, rfl⟩
      · cases hf
  obtain ⟨n, hk⟩ := hks
  obtain ⟨c, hc, r'⟩ := find_kind r hk hf
  obtain ⟨p, y, hp, ry, rd⟩ := find_data r' k n _ hk hf
  have hi := key_is I rk u n ru hk
  cases c with
  | false =>
    obtain ⟨hsm, dd, hz⟩ := flat_dict I e r'
    have hfl := each_flat I r' rfl (by obtain ⟨⟨_, _, _, hh, _⟩, _⟩ := I.hok a _ e; exact hh)
    have hv : valueAt (ps.map fun p => (flatN p.1, p.2.val)) (flatN n) = some p.2.val := by
      rw [valueAt_find ps n hc fun q hq => (hfl.1 q hq).2.2, hp]; rfl
    exact wpAny_getItem_of (kind_flat (w := X.w) hc hi (not_bool rk ru hk)).1 dd.mapOf hv (h _ _ y (I.tok _) ry rd)
  | true =>
    obtain ⟨hsm, dd, hz⟩ := tup_dict I e r'
    obtain ⟨ns, rfl, hd⟩ := kind_tup hc
    have hr := tup_ref hi
    rw [hr]
    have hv := atKey_find ps (.tup ns)
    rw [hp] at hv
    obtain ⟨q, hq, hq2⟩ := Option.map_eq_some_iff.mp hv
    refine wpAny_getItem_heap (knd := nestedKind X.prog X.w) (by show A.in1.units + 8 < cLine; show A.units + 1 + 8 < cLine; omega) (k := .tup ns) ⟨by rw [← hr]; exact hi, hd⟩ dd hq ?_
    rw [hq2]
    exact h _ _ y (I.tok _) ry rd
end
end Cl

set_option Elab.async false
set_option linter.all false
set_option maxRecDepth 100000
/-! SoundE: lists of expressions, displays, subscripts, slices, calls of defs. -/
namespace Cl
open PySem PySem.Spec PyProof.Rows L2

def nost : Expr → Bool
  | .Starred .. => false
  | _ => true
theorem starEach_no {e : Expr} {es : List Expr} {env : PySem.Env} (h : nost e = true) : starEach (e :: es) env = (false, eval e env) :: starEach es env := by
  cases e <;> first | rfl | cases h
theorem star_any {es : List Expr} {env : PySem.Env} {pos : Pos} (h : es.all nost = true) : (backTo pos (starEach es env)).any (·.1) = false := by
  induction es with
  | nil => rfl
  | cons e es ih =>
    rw [List.all_cons, Bool.and_eq_true] at h
    rw [starEach_no h.1]
    show (false || (backTo pos (starEach es env)).any (·.1)) = false
    rw [ih h.2]; rfl

section
variable {X : Cx} {K : Fg} {pos p : Pos} {e a b : Expr} {es : List Expr} {me : Env → Cm D} {mr m : Env → Cm (List D)}
theorem a_nil : PA X [] (tVs K fun _ => pure []) := pa_nil.imp fun σ H Q ⟨F, H0, ρ, M, S, σd, d, S', r, e, q⟩ => by
  obtain ⟨rfl, rfl⟩ := pure_ok e
  exact q [] ρ M H r Ext.refl .nil
theorem a_cons (he : PE X e (tV K me)) (hr : PA X es (tVs K mr)) (hs : nost e = true) :
    PA X (e :: es) (tVs K fun σ => do let x ← Cm.bind (me σ) fun x => Cm.pure [x]; let xs ← mr σ; pure (x ++ xs)) := by
  refine (pa_cons he hr (starEach_no hs)).imp fun σ H Q ⟨F, H0, ρ, M, S, σd, d, S', r, e, q⟩ => ?_
  obtain ⟨x, S1, e1, e⟩ := bind_ok e
  obtain ⟨z, S0, e0, e1⟩ := mbind_ok e1
  obtain ⟨rfl, rfl⟩ := mpure_ok e1
  obtain ⟨xs, S2, e2, e⟩ := bind_ok e
  obtain ⟨rfl, rfl⟩ := pure_ok e
  refine ⟨F, H0, ρ, M, S, σd, z, S0, r, e0, fun v ρ1 M1 H1 r1 x1 v1 => ?_⟩
  exact ⟨F, H0, ρ1, M1, S0, σd, xs, S2, r1, e2, fun vs ρ2 M2 H2 r2 x2 v2 => q (v :: vs) ρ2 M2 H2 r2 (x1.trans x2) (.cons (v1.ext x2) v2)⟩
/-- a starred item, spread -/
theorem a_star (he : PE X e (tB (kx X) me)) (hr : PA X es (tVs (kx X) mr)) :
    PA X (.Starred e p :: es) (tVs (kx X) fun σ => do
      let x ← (do let x ← me σ; let xs ← Cm.lift (seq? x); if xs.length ≤ 1000000 then pure xs else Cm.fail)
      let xs ← mr σ
      pure (x ++ xs)) := by
  refine (StX.pa_star he hr).imp fun σ H Q ⟨F, H0, ρ, M, S, σd, d, S', r, e, q⟩ => ?_
  obtain ⟨x, S1, e1, e⟩ := bind_ok e
  obtain ⟨z, S0, e0, e1⟩ := bind_ok e1
  obtain ⟨zs, S0', e3, e1⟩ := bind_ok e1
  obtain ⟨e3', rfl⟩ := lift_ok e3
  rcases ite_ok e1 with ⟨_, e1⟩ | ⟨_, e1⟩
  · obtain ⟨rfl, rfl⟩ := pure_ok e1
    obtain ⟨xs, S2, e2, e⟩ := bind_ok e
    obtain ⟨rfl, rfl⟩ := pure_ok e
    refine ⟨F, H0, ρ, M, S, σd, z, S0, r, e0, fun v ρ1 M1 H1 r1 x1 v1 => ?_⟩
    have key : ∃ p ys, v = V.ref p ∧ (SqT X.K H1 p ys ∨ SqL X.K H1 p ys) ∧ RVs (kx X) M1 ρ1 H1 zs ys := by
      rcases v1 with v1 | ⟨a, rfl, _, _, ow⟩
      · cases v1 with
        | @tup p ys ds t rs => cases e3'; exact ⟨p, ys, rfl, .inl t.sq, rs⟩
        | @lst p ys ds t rs => cases e3'; exact ⟨p, ys, rfl, .inr t.sq, rs⟩
        | _ => cases e3'
      · cases z with
        | lst ds => obtain ⟨ys, h, rs⟩ := ow; cases e3'; exact ⟨a, ys, rfl, .inr (SqL.of h), rs⟩
        | dct _ _ => cases e3'
        | _ => exact ow.elim
    obtain ⟨p, ys, rfl, hs, rs⟩ := key
    refine ⟨p, ys, rfl, hs, ?_⟩
    exact ⟨F, H0, ρ1, M1, S0, σd, xs, S2, r1, e2, fun vs ρ2 M2 H2 r2 x2 v2 => q (ys ++ vs) ρ2 M2 H2 r2 (x1.trans x2) ((rs.ext x2).append v2)⟩
  · exact (fail_ok e1).elim
theorem RBs.ext {M M' : Addr → Prop} {ρ ρ' : List Addr} {H H' : Hp} (x : Ext ρ M H ρ' M' H') : ∀ {ds : List D} {vs : List V}, RBs K M ρ H ds vs → RBs K M' ρ' H' ds vs
  | _, _, .nil => .nil
  | _, _, .cons r t => .cons (r.ext x) (RBs.ext x t)
theorem ab_nil : PA X [] (tBs K fun _ => pure []) := pa_nil.imp fun σ H Q ⟨F, H0, ρ, M, S, σd, d, S', r, e, q⟩ => by
  obtain ⟨rfl, rfl⟩ := pure_ok e
  exact q [] ρ M H r Ext.refl .nil
theorem ab_cons (he : PE X e (tB K me)) (hr : PA X es (tBs K mr)) (hs : nost e = true) :
    PA X (e :: es) (tBs K fun σ => do let x ← me σ; let xs ← mr σ; pure (x :: xs)) := by
  refine (pa_cons he hr (starEach_no hs)).imp fun σ H Q ⟨F, H0, ρ, M, S, σd, d, S', r, e, q⟩ => ?_
  obtain ⟨z, S0, e0, e⟩ := bind_ok e
  obtain ⟨xs, S2, e2, e⟩ := bind_ok e
  obtain ⟨rfl, rfl⟩ := pure_ok e
  refine ⟨F, H0, ρ, M, S, σd, z, S0, r, e0, fun v ρ1 M1 H1 r1 x1 v1 => ?_⟩
  exact ⟨F, H0, ρ1, M1, S0, σd, xs, S2, r1, e2, fun vs ρ2 M2 H2 r2 x2 v2 => q (v :: vs) ρ2 M2 H2 r2 (x1.trans x2) (.cons (v1.ext x2) v2)⟩

/-! ### displays -/
theorem v_tup {k : Nat} (h : PA X es (tVs K m)) (hl : ∀ σ S ds S', m σ S = some (.ok ds S') → ds.length ≤ 16777216) : PE X (.Tuple es k pos) (tV K fun σ => do let xs ← m σ; pure (.tup xs)) := by
  refine (pe_tup h).imp fun σ H Q ⟨F, H0, ρ, M, S, σd, d, S', r, e, q⟩ => ?_
  obtain ⟨xs, S1, e1, e⟩ := bind_ok e
  obtain ⟨rfl, rfl⟩ := pure_ok e
  refine ⟨F, H0, ρ, M, S, σd, xs, S1, r, e1, fun vs ρ1 M1 H1 r1 x1 v1 => ⟨?_, fun p hp => ?_⟩⟩
  · rw [size_line_eq, ← v1.length]; exact hl _ _ _ _ e1
  · obtain ⟨r2, x2, v2⟩ := new_tup r1 hp v1
    exact q _ ρ1 M1 _ r2 (x1.trans x2) v2
theorem f_lst (h : PA X es (tVs K m)) (hl : ∀ σ S ds S', m σ S = some (.ok ds S') → ds.length ≤ 16777216) : PE X (.List es pos) (tF K fun σ => do let xs ← m σ; pure (.lst xs)) := by
  refine (pe_lst h).imp fun σ H Q ⟨F, H0, ρ, M, S, σd, d, S', r, e, q⟩ => ?_
  obtain ⟨xs, S1, e1, e⟩ := bind_ok e
  obtain ⟨rfl, rfl⟩ := pure_ok e
  refine ⟨F, H0, ρ, M, S, σd, xs, S1, r, e1, fun vs ρ1 M1 H1 r1 x1 v1 => ⟨?_, fun p hp => ?_⟩⟩
  · rw [size_line_eq, ← v1.length]; exact hl _ _ _ _ e1
  · obtain ⟨r2, x2, a, e3, h1, h2, h3, h4, h5⟩ := new_own r1 hp v1
    refine q _ ρ1 _ _ r2 (x1.trans x2) ⟨a, e3, ?_, h2, h3, h4, h5⟩
    cases hH : H a with
    | none => rfl
    | some o =>
      exfalso
      by_cases hm : M a
      · have hn := fun z => r1.tr a ((by
          by_cases hρ : a ∈ ρ
          · obtain ⟨n, hn⟩ := List.mem_iff_getElem?.mp hρ
            exact r1.mm a (List.mem_of_getElem? (x1.refs n a hn))
          · exact (x1.mine a hm hρ).2.1)) z
        exact hn h1
      · rw [(x1.keep a o hH hm).1] at h1; cases h1

/-! ### subscripts, slices -/
theorem item_at {M : Addr → Prop} {ρ : List Addr} {H : Hp} {ds : List D} {xs : List V} {i : Int} {d : D} (r : RVs K M ρ H ds xs) (h : item? ds i = some d) : ∃ v, atI xs i = some v ∧ RV K M ρ H d v := by
  unfold item? at h
  unfold atI ixN
  rw [← r.length]
  by_cases h0 : 0 ≤ i
  · rw [if_pos h0] at h ⊢
    have hj : i.toNat < ds.length := (List.getElem?_eq_some_iff.mp h).1
    rw [if_pos (by omega)]
    exact r.get h
  · rw [if_neg h0] at h ⊢
    by_cases h1 : 0 ≤ i + ds.length
    · rw [if_pos h1] at h
      rw [if_pos (by omega)]
      exact r.get h
    · rw [if_neg h1] at h; cases h
theorem plain_ix {s : Expr} (h : (match s with | .Slice .. => false | _ => true) = true) : PlainIx s := by
  intro o i
  cases s <;> first | rfl | cases h
/-- d[k] of a dict: its place, its entries -/
def rIxX (K : Fg) : R2 := fun x y H Q => ∃ (a : Addr) (ps : List (NestedKey × DictEntry)) (b : Bool) (ks vs : List D) (k d : D) (M : Addr → Prop) (ρ : List Addr), x = .ref a ∧ H a = some (.ext (DI K.w a ps)) ∧ RVd K M ρ H b ks vs ps ∧ RV K M ρ H k y ∧
  dfind k ks vs = some (some d) ∧ ∀ w, RV K M ρ H d w → Q w H
theorem ix_dct (hu : X.A.units + 64 < cLine) : IxR X (rIxX (kx X)) := by
  intro value slice pins s σ H x y v u Q I rx ry h hs
  obtain ⟨a, ps, b, ks, vs, k, d, M, ρ, rfl, e, r, rk, hf, q⟩ := h
  cases rx
  obtain ⟨_, _, ⟨ep, ho⟩, _⟩ := (show DI X.w a ps s.heap from (I.hok a _ e).1)
  have hT : s.TypeIs (.ref a) "dict" := ⟨_, ho, rfl⟩
  unfold subscriptTail
  refine wpAny_bind ?_
  rw [getitemInPython_of_ne hT.not_modules]
  refine wpAny_bind (wpAny_specialOf hT PySem.F.slot_dict_getitem.lookup ?_)
  have fin : wpAny (model X.prog X.w) X.A (subscripted slice false (.ref a) u) (fun r s₃ => wpAny (model X.prog X.w) X.A (letTemporaryGo value (.ref a) r >>= fun _ => pure r) (EP X pins σ Q) X.xe s₃) X.xe s := by
    rw [hs]
    exact wpAny_operating (x_getItem hu I e r rk ry hf fun w' s' y I' ry' rd => wpAny_bind (wpAny_letTemporaryGo (wpAny_pure ⟨y, H, I', ry', q y rd⟩)))
  first
    | exact wpAny_pure (wpAny_bind fin)
    | exact wpAny_bind (wpAny_pure (wpAny_bind fin))
    | exact wpAny_bind fin
theorem idx_data {K : Fg} {M : Addr → Prop} {ρ : List Addr} {H : Hp} {x y d : D} {v u : V} {Q : VK} (rx : RN K M ρ H x v) (ry : RV K M ρ H y u) (e : idxD x y = some d) (q : ∀ w, RV K M ρ H d w → Q w H) :
    rIxL K.fr v u H Q ∨ (rIxT K.fr v u H Q ∨ rIxX K v u H Q) := by
  have lst : ∀ {p : Addr} {ys : List V} {ds : List D}, SqL K.fr H p ys → RVs K M ρ H ds ys → idxD (.lst ds) y = some d → rIxL K.fr (.ref p) u H Q := fun {p ys ds} t rs e => by
    cases y with
    | int i =>
      obtain ⟨w, hw, rw'⟩ := item_at rs e
      cases ry
      exact ⟨p, ys, i, w, rfl, rfl, t, hw, q _ rw'⟩
    | _ => cases e
  have dct : ∀ {a : Addr} {ps : List (NestedKey × DictEntry)} {b : Bool} {ks vs : List D}, H a = some (.ext (DI K.w a ps)) → RVd K M ρ H b ks vs ps → idxD (.dct ks vs) y = some d → rIxX K (.ref a) u H Q := fun {a ps b ks vs} h r e => by
    have e' : (match dfind y ks vs with | some (some v) => some v | _ => none) = some d := by rw [← e]; unfold idxD; rfl
    cases hf : dfind y ks vs with
    | none => rw [hf] at e'; cases e'
    | some o =>
      cases o with
      | none => rw [hf] at e'; cases e'
      | some z => rw [hf] at e'; cases e'; exact ⟨a, ps, b, ks, vs, y, d, M, ρ, rfl, h, r, ry, hf, q⟩
  rcases rx with rx | ⟨p, rfl, ow⟩
  · cases rx with
    | @tup p ys ds t rs =>
      cases y with
      | int i =>
        obtain ⟨w, hw, rw'⟩ := item_at rs e
        cases ry
        exact .inr (.inl ⟨p, ys, i, w, rfl, rfl, t.sq, hw, q _ rw'⟩)
      | _ => cases e
    | @lst p ys ds t rs => exact .inl (lst t.sq rs e)
    | dct h _ r => exact .inr (.inr (dct h r e))
    | non => cases y <;> cases e
    | bl => cases y <;> cases e
    | int => cases y <;> cases e
    | str => cases y <;> cases e
    | ref => cases y <;> cases e
    | frl => cases y <;> cases e
  · cases x with
    | lst ds => obtain ⟨ys, h, rs⟩ := ow; exact .inl (lst (SqL.of h) rs e)
    | dct ks vs => obtain ⟨ps, b, h, r⟩ := ow; exact .inr (.inr (dct h r e))
    | _ => exact ow.elim
theorem v_idx {ma mi : Env → Cm D} (hu : X.A.units + 64 < cLine) (ha : PE X a (tB (kx X) ma)) (hb : PE X b (tV (kx X) mi)) (hp : PlainIx b) :
    PE X (.Subscript a b pos) (tV (kx X) fun σ => do let x ← ma σ; let y ← mi σ; let x' ← deref x; Cm.lift (idxD x' y)) := by
  refine (pe_ix (IxR.or ix_list (IxR.or ix_tup (ix_dct hu))) ha hb hp).imp fun σ H Q ⟨F, H0, ρ, M, S, σd, d, S', r, e, q⟩ => ?_
  obtain ⟨x, S1, e1, e⟩ := bind_ok e
  obtain ⟨y, S2, e2, e⟩ := bind_ok e
  obtain ⟨x', S3, e3, e⟩ := bind_ok e
  obtain ⟨e4, rfl⟩ := lift_ok e
  refine ⟨F, H0, ρ, M, S, σd, x, S1, r, e1, fun v ρ1 M1 H1 r1 x1 v1 => ?_⟩
  refine ⟨F, H0, ρ1, M1, S1, σd, y, S2, r1, e2, fun u ρ2 M2 H2 r2 x2 v2 => ?_⟩
  obtain ⟨rfl, n1⟩ := deref_ok r2 (v1.ext x2) e3
  exact idx_data n1 v2 e4 fun w hw => q _ ρ2 M2 H2 r2 (x1.trans x2) hw
theorem o_none : PO X none (tPt K fun _ => pure none) := po_none.imp fun σ H Q ⟨F, H0, ρ, M, S, σd, d, S', r, e, q⟩ => by
  obtain ⟨rfl, rfl⟩ := pure_ok e
  exact q ρ M H r Ext.refl
theorem o_some {ma : Env → Cm D} (ha : PE X a (tV K ma)) : PO X (some a) (tPt K fun σ => do let x ← ma σ; let i ← Cm.lift (int? x); pure (some i)) := by
  refine (po_some ha).imp fun σ H Q ⟨F, H0, ρ, M, S, σd, d, S', r, e, q⟩ => ?_
  obtain ⟨x, S1, e1, e⟩ := bind_ok e
  obtain ⟨i, S2, e2, e⟩ := bind_ok e
  obtain ⟨e2', rfl⟩ := lift_ok e2
  obtain ⟨rfl, rfl⟩ := pure_ok e
  refine ⟨F, H0, ρ, M, S, σd, x, S1, r, e1, fun v ρ1 M1 H1 r1 x1 v1 => ?_⟩
  cases x with
  | int j => cases e2'; cases v1; exact ⟨_, rfl, q ρ1 M1 H1 r1 x1⟩
  | _ => cases e2'
theorem cut_eq {α : Type} (xs : List α) (lo hi : Option Int) : cut xs lo hi = (xs.drop (HT.sIx xs.length 0 lo)).take (HT.sIx xs.length xs.length hi - HT.sIx xs.length 0 lo) := by
  unfold cut clip HT.sIx
  cases lo <;> cases hi <;> rfl
theorem RVs.cut {M : Addr → Prop} {ρ : List Addr} {H : Hp} {ds : List D} {xs : List V} (r : RVs K M ρ H ds xs) (lo hi : Option Int) : RVs K M ρ H (Cl.cut ds lo hi) (cutV xs lo hi) := by
  rw [cut_eq, r.length]
  exact (r.drop _).take _
theorem cut_whole {α : Type} (xs : List α) (lo hi : Option Int) (h : HT.sIx xs.length 0 lo = 0 ∧ HT.sIx xs.length xs.length hi = xs.length) : cut xs lo hi = xs := by
  rw [cut_eq, h.1, h.2]; simp
theorem v_slc {ma : Env → Cm D} {ml mh : Env → Cm (Option Int)} {lo hi : Option Expr} {p2 : Pos} (ha : PE X a (tB (kx X) ma)) (hl : PO X lo (tPt (kx X) ml)) (hh : PO X hi (tPt (kx X) mh)) :
    PE X (.Subscript a (.Slice lo hi none p2) pos) (tV (kx X) fun σ => do
      let x ← ma σ
      let l ← ml σ
      let h ← mh σ
      let x' ← deref x
      Cm.lift (slcD x' l h)) := by
  refine (pe_slice (SlR.or sl_list sl_tupA) ha hl hh).imp fun σ H Q ⟨F, H0, ρ, M, S, σd, d, S', r, e, q⟩ => ?_
  obtain ⟨x, S1, e1, e⟩ := bind_ok e
  obtain ⟨l, S2, e2, e⟩ := bind_ok e
  obtain ⟨h, S3, e3, e⟩ := bind_ok e
  obtain ⟨x', S4, e4, e⟩ := bind_ok e
  obtain ⟨e5, rfl⟩ := lift_ok e
  refine ⟨F, H0, ρ, M, S, σd, x, S1, r, e1, fun v ρ1 M1 H1 r1 x1 v1 => ?_⟩
  refine ⟨F, H0, ρ1, M1, S1, σd, l, S2, r1, e2, fun ρ2 M2 H2 r2 x2 => ?_⟩
  refine ⟨F, H0, ρ2, M2, S2, σd, h, S3, r2, e3, fun ρ3 M3 H3 r3 x3 => ?_⟩
  obtain ⟨rfl, n1⟩ := deref_ok r3 (v1.ext (x2.trans x3)) e4
  have xx := (x1.trans x2).trans x3
  have lst : ∀ {p : Addr} {ys : List V} {ds : List D}, SqL X.K H3 p ys → RVs (kx X) M3 ρ3 H3 ds ys → some (D.lst (cut ds l h)) = some d → rSlL X.K (.ref p) l h H3 Q := fun {p ys ds} t rs e5 => by
    cases e5
    refine ⟨p, ys, rfl, t, fun p' hp => ?_⟩
    obtain ⟨r4, x4, v4⟩ := new_lst r3 hp (rs.cut l h)
    exact q _ ρ3 M3 _ r4 (xx.trans x4) v4
  rcases n1 with n1 | ⟨p, rfl, ow⟩
  · cases n1 with
    | @tup p ys ds t rs =>
      cases e5
      refine .inr ⟨p, ys, rfl, t.sq, fun hw => ?_, fun _ p' hp => ?_⟩
      · have ew : cut ds l h = ds := cut_whole ds l h (by rw [rs.length]; exact hw)
        rw [ew] at q
        exact q _ ρ3 M3 H3 r3 xx (.tup t rs)
      · obtain ⟨r4, x4, v4⟩ := new_tup r3 hp (rs.cut l h)
        exact q _ ρ3 M3 _ r4 (xx.trans x4) v4
    | @lst p ys ds t rs => exact .inl (lst t.sq rs e5)
    | @frl p ys ds t rs => exact .inl (lst t.sq rs e5)
    | _ => cases e5
  · cases x' with
    | lst ds => obtain ⟨ys, hh, rs⟩ := ow; exact .inl (lst (SqL.of hh) rs e5)
    | dct _ _ => cases e5
    | _ => exact ow.elim
end

/-! ### defs and their calls -/
structure RepH (K : Fg) (ρ : List Addr) (M : Addr → Prop) (S : CH) (H : Hp) : Prop where
  len : ρ.length = S.length
  nd : ρ.Nodup
  mm : ∀ a ∈ ρ, M a
  ob : ∀ (n : Nat) a co, ρ[n]? = some a → S[n]? = some co → RO K M ρ H a co
  tr : ∀ a, M a → H a ≠ none
theorem Rep.heap {K : Fg} {F : Addr → Prop} {H0 : Hp} {M : Addr → Prop} {ρ : List Addr} {S : CH} {σd : Env} {σ : L2.St} {H : Hp} (r : Rep K F H0 ρ M S σd σ H) : RepH K ρ M S H := ⟨r.len, r.nd, r.mm, r.ob, r.tr⟩
theorem Rep.of_heap {K : Fg} {F : Addr → Prop} {H0 : Hp} {M M' : Addr → Prop} {ρ ρ' : List Addr} {S S' : CH} {σd : Env} {σ : L2.St} {H H' : Hp} (r : Rep K F H0 ρ M S σd σ H) (h : RepH K ρ' M' S' H') (x : Ext ρ M H ρ' M' H') : Rep K F H0 ρ' M' S' σd σ H' where
  len := h.len
  nd := h.nd
  mm := h.mm
  ob := h.ob
  tr := h.tr
  ln := r.ln
  sl := fun i s hs => (r.sl i s hs).ext x
  ow := r.ow
  fo := fun a fa => let ⟨m, n, e⟩ := r.fo a fa; let ⟨e1, m1, n1⟩ := x.mine a m n; ⟨m1, n1, e1.trans e⟩

/-- what a def promises: at data for which the small semantics gives a datum -/
def spF (K : Fg) (callf : List D → Cm D) (vs : List V) (H : Hp) (Q : VK) : Prop :=
  ∃ (ρ : List Addr) (M : Addr → Prop) (S : CH) (ds : List D) (d : D) (S' : CH), RepH K ρ M S H ∧ RVs K M ρ H ds vs ∧ callf ds S = some (.ok d S') ∧
    ∀ v ρ' M' H', RepH K ρ' M' S' H' → Ext ρ M H ρ' M' H' → RV K M' ρ' H' d v → Q v H'
/-- an end with a value -/
def CG (outer : List PySem.Env) (P : Program) (w : World) (H : Hp) (s : Shared) (Q : VK) (r : Result) (s' : Shared) : Prop :=
  match r with
  | .ok (.ret u) => CE outer P w H s Q u s'
  | _ => False
/-- the def at f keeps its promise, wherever nothing is being shown -/
structure FnG (P : Program) (w : World) (K : PySem.W.Frag) (mg : Str → Option Value) (base : Heap) (k : Nat) (f : Addr) (fd : FuncData) (ps : List Str) (callf : List D → Cm D) : Prop where
  len : ∀ ds S d S', callf ds S = some (.ok d S') → ds.length = ps.length
  run : ∀ (A : Around) (outer : List PySem.Env) (s : Shared) (H : Hp) (args : Args) (us : List Value) (vs : List V) (Q : VK), Room k A → A.guards = some [] → Env0 P w K mg base A outer s H →
    BindsTo s fd args (ps.zip us) → Vals vs us → spF ⟨K, w⟩ callf vs H Q → codeAny (model P w) A (.call (.ref f) args) (CG outer P w H s Q) s

section
variable {X : Cx} {k : Nat} {f : Addr} {fd : FuncData} {ps : List Str} {callf : List D → Cm D} {x : Str} {p pos : Pos} {es : List Expr} {m : Env → Cm (List D)}
theorem run_G {pins : List (Addr × Obj)} {σ : L2.St} {H : Hp} {s : Shared} {Q : VK} {us : List Value} {vs : List V} (G : FnG X.prog X.w X.K X.mg X.base k f fd ps callf) (hr : Room k X.A) (hg : X.A.guards = some []) (hb : Binds X.K fd ps [])
    (I : Inv X pins σ H s) (r : Vals vs us) (h : spF (kx X) callf vs H Q) : wpAny (model X.prog X.w) X.A (call (.ref f) us) (EP X pins σ Q) X.xe s := by
  have hl : us.length = ps.length := by
    obtain ⟨ρ, M, S, ds, d, S', h1, h2, h3, h4⟩ := id h
    rw [← r.length, ← h2.length]; exact G.len _ _ _ _ h3
  have hbs := hb s us I.kIn (by simpa using hl)
  rw [List.append_nil] at hbs
  refine wpAny_call (codeAny_mono (G.run X.A X.stack s H ⟨us, []⟩ us vs Q hr hg I.env0 hbs r h) fun res s' hq => ?_)
  match res, hq with
  | .ok (.ret u), hq => exact I.after hq
  | .ok .next, hq => exact hq.elim
  | .ok .brk, hq => exact hq.elim
  | .ok .cont, hq => exact hq.elim
  | .error e, hq => exact hq.elim
theorem v_call {e0 : Expr} (G : FnG X.prog X.w X.K X.mg X.base k f fd ps callf) (hr : Room k X.A) (hgd : X.A.guards = some []) (hg : Gl X x) (hm : X.mg x = some (.ref f)) (hk : PySem.W.keepIn X.K (.ref f) = true) (hb : Binds X.K fd ps [])
    (ha : PA X (e0 :: es) (tVs (kx X) m)) (hn : (e0 :: es).all nost = true) (hdb : (x == ("__debug__" : Str)) = false) :
    PE X (.Call (.Name x p) (e0 :: es) [] pos) (tV (kx X) fun σ => do let xs ← m σ; callf xs) := by
  refine ⟨fun pins s σ H Q I h => ?_⟩
  obtain ⟨F, H0, ρ, M, S, σd, d, S', r, e, q⟩ := h
  obtain ⟨xs, S1, e1, e⟩ := bind_ok e
  refine wpAny_Call_Name_kw (ld_glob I hg hm ?_ hdb)
  rw [List.all_cons, Bool.and_eq_true] at hn
  refine PySem.W.callWith_K (h₀ := X.base) I.ok.mod.kin hk (thn (ha.run pos pins s σ H (fun vs H1 => ∃ ρ1 M1, Rep (kx X) F H0 ρ1 M1 S1 σd σ H1 ∧ Ext ρ M H ρ1 M1 H1 ∧ RVs (kx X) M1 ρ1 H1 xs vs) I
    ⟨F, H0, ρ, M, S, σd, xs, S1, r, e1, fun vs ρ1 M1 H1 a b c => ⟨ρ1, M1, a, b, c⟩⟩) fun us s1 hh => ?_) (starEach_no hn.1) (star_any hn.2)
  obtain ⟨vs, H1, I1, rv, ρ1, M1, r1, x1, v1⟩ := hh
  exact ⟨I1.kIn, run_G G hr hgd hb I1 rv ⟨ρ1, M1, S1, xs, d, S', r1.heap, v1, e, fun v ρ2 M2 H2 r2 x2 v2 => q v ρ2 M2 H2 (r1.of_heap r2 x2) (x1.trans x2) v2⟩⟩
theorem v_call0 (G : FnG X.prog X.w X.K X.mg X.base k f fd ps callf) (hr : Room k X.A) (hgd : X.A.guards = some []) (hg : Gl X x) (hm : X.mg x = some (.ref f)) (hk : PySem.W.keepIn X.K (.ref f) = true) (hb : Binds X.K fd ps [])
    (hdb : (x == ("__debug__" : Str)) = false) : PE X (.Call (.Name x p) [] [] pos) (tV (kx X) fun _ => callf []) := by
  refine ⟨fun pins s σ H Q I h => ?_⟩
  obtain ⟨F, H0, ρ, M, S, σd, d, S', r, e, q⟩ := h
  refine wpAny_Call_Name_kw (ld_glob I hg hm ?_ hdb)
  refine PySem.W.callWith_K0 I.kIn hk ?_
  exact run_G (us := []) (vs := []) G hr hgd hb I .nil ⟨ρ, M, S, [], d, S', r.heap, .nil, e, fun v ρ2 M2 H2 r2 x2 v2 => q v ρ2 M2 H2 (r.of_heap r2 x2) x2 v2⟩
end
end Cl

set_option Elab.async false
set_option linter.all false
set_option maxRecDepth 100000
/-! SoundF: targets, walks, comprehensions. -/
namespace Cl
open PySem PySem.Spec PyProof.Rows L2

section
variable {K : Fg} {F : Addr → Prop} {H0 : Hp} {M M' : Addr → Prop} {ρ ρ' : List Addr} {S S' : CH} {σd σd' : Env} {σ σ' : L2.St} {H H' : Hp}

/-! ### slots set, wiped -/
theorem Rep.put (r : Rep K F H0 ρ M S σd σ H) {i : Nat} {d : D} {v : V} (rv : RV K M ρ H d v) : Rep K F H0 ρ M S (σd.put i (some (.v d))) (σ.set i (some v)) H where
  len := r.len
  nd := r.nd
  mm := r.mm
  ob := r.ob
  tr := r.tr
  ln := by rw [Env.put_length, List.length_set]; exact r.ln
  sl := fun j s hs => by
    by_cases hj : i = j
    · subst hj
      have hi : i < σd.length := by rw [← Env.put_length σd i (some (.v d))]; exact Env.at_lt hs
      rw [Env.at_put_self hi] at hs
      cases hs
      exact .inl ⟨rfl, v, slotV_set_self (by rw [← r.ln]; exact hi), rv⟩
    · rw [Env.at_put_ne hj] at hs
      rw [slotV_set_ne hj]
      exact r.sl j s hs
  ow := fun j l s t a hs ht os ot e1 e2 => by
    have nj : ∀ {m : Nat} {z : Sl}, (σd.put i (some (.v d))).at m = some z → isOwn z = true → i ≠ m := fun {m z} hz oz e => by
      subst e
      have hi : i < σd.length := by rw [← Env.put_length σd i (some (.v d))]; exact Env.at_lt hz
      rw [Env.at_put_self hi] at hz
      cases hz
      cases oz
    have h1 := nj hs os
    have h2 := nj ht ot
    rw [Env.at_put_ne h1] at hs
    rw [Env.at_put_ne h2] at ht
    rw [slotV_set_ne h1] at e1
    rw [slotV_set_ne h2] at e2
    exact r.ow j l s t a hs ht os ot e1 e2
  fo := r.fo
theorem Rep.clear (r : Rep K F H0 ρ M S σd σ H) (i : Nat) (y : Option V) : Rep K F H0 ρ M S (σd.put i none) (σ.set i y) H where
  len := r.len
  nd := r.nd
  mm := r.mm
  ob := r.ob
  tr := r.tr
  ln := by rw [Env.put_length, List.length_set]; exact r.ln
  sl := fun j s hs => by
    by_cases hj : i = j
    · subst hj
      have hi : i < σd.length := by rw [← Env.put_length σd i none]; exact Env.at_lt hs
      rw [Env.at_put_self hi] at hs
      cases hs
    · rw [Env.at_put_ne hj] at hs
      rw [slotV_set_ne hj]
      exact r.sl j s hs
  ow := fun j l s t a hs ht os ot e1 e2 => by
    have nj : ∀ {m : Nat} {z : Sl}, (σd.put i none).at m = some z → i ≠ m := fun {m z} hz e => by
      subst e
      have hi : i < σd.length := by rw [← Env.put_length σd i none]; exact Env.at_lt hz
      rw [Env.at_put_self hi] at hz
      cases hz
    have h1 := nj hs
    have h2 := nj ht
    rw [Env.at_put_ne h1] at hs
    rw [Env.at_put_ne h2] at ht
    rw [slotV_set_ne h1] at e1
    rw [slotV_set_ne h2] at e2
    exact r.ow j l s t a hs ht os ot e1 e2
  fo := r.fo
theorem Rep.wipe (r : Rep K F H0 ρ M S σd σ H) : ∀ vs : List Nat, Rep K F H0 ρ M S (σd.wipe vs) (L2.wipe σ vs) H
  | [] => r
  | i :: vs => (Rep.wipe r vs).clear i none

/-- the places that a target names -/
def G.names : G → List Nat
  | .nm i => [i]
  | .tup gs => names' gs
where names' : List G → List Nat
  | [] => []
  | g :: gs => G.names g ++ names' gs

/-- binding a target: what is asked ahead, what stands behind -/
def gB (K : Fg) (ns : List Nat) (bind : D → Env → Option Env) : TG := fun v σ H Q =>
  ∃ (F : Addr → Prop) (H0 : Hp) (ρ : List Addr) (M : Addr → Prop) (S : CH) (σd : Env) (d : D) (σd' : Env), Rep K F H0 ρ M S σd σ H ∧ RV K M ρ H d v ∧ bind d σd = some σd' ∧
    ∀ σ', Rep K F H0 ρ M S σd' σ' H → σ'.length = σ.length → (∀ j, j ∉ ns → σ'[j]? = σ[j]?) → Q σ' H
def gBs (K : Fg) (ns : List Nat) (bind : List D → Env → Option Env) : TGs := fun vs σ H Q =>
  ∃ (F : Addr → Prop) (H0 : Hp) (ρ : List Addr) (M : Addr → Prop) (S : CH) (σd : Env) (ds : List D) (σd' : Env), Rep K F H0 ρ M S σd σ H ∧ RVs K M ρ H ds vs ∧ bind ds σd = some σd' ∧
    ∀ σ', Rep K F H0 ρ M S σd' σ' H → σ'.length = σ.length → (∀ j, j ∉ ns → σ'[j]? = σ[j]?) → Q σ' H
end

theorem _root_.L2.PG.imp {X : Cx} {e : Expr} {t t' : TG} (h : PG X e t) (i : ∀ v σ H Q, t' v σ H Q → t v σ H Q) : PG X e t' := ⟨fun pins s σ H v u Q I r q => h.run pins s σ H v u Q I r (i _ _ _ _ q)⟩
theorem _root_.L2.PGs.imp {X : Cx} {e : List Expr} {t t' : TGs} (h : PGs X e t) (i : ∀ v σ H Q, t' v σ H Q → t v σ H Q) : PGs X e t' := ⟨fun pins s σ H v u Q I r q => h.run pins s σ H v u Q I r (i _ _ _ _ q)⟩

/-! ### a list, unpacked -/
section
open PySem.W
variable {prog : Program} {w : World} {A : Around} {E : Value → Shared → Prop} {s : Shared}
theorem draw_list {it t : Addr} {items : Array Value} (hne : t ≠ it) : ∀ (n i : Nat) (s : Shared) (Q : List Value → Shared → Prop), s.heap.IsListIter it t i → s.heap.IsList t items → i + n ≤ items.size →
    (∀ h', h'.IsListIter it t (i + n) → Heap.SameBut it s.heap h' → Q ((items.toList.drop i).take n) { s with heap := h' }) → wpAny (model prog w) A (draw (.ref it) n) Q E s
  | 0, i, s, Q, hit, _, _, hQ => by
    show wpAny _ _ (pure []) Q E s
    exact wpAny_pure (by simpa using hQ s.heap hit (Heap.SameBut.refl ..))
  | n + 1, i, s, Q, hit, ht, hle, hQ => by
    have hlt : i < items.size := by omega
    show wpAny _ _ (pyNext (.ref it) >>= _) Q E s
    refine wpAny_bind (wpAny_pyNext_list_item hit ht (x := items[i]) (by simp [hlt]) fun h₁ hit₁ hs₁ => ?_)
    refine wpAny_bind (wpAny_holding (draw_list hne n (i + 1) _ _ hit₁ (ht.extBut hs₁.extBut hne) (by omega) fun h₂ hit₂ hs₂ => wpAny_pure ?_))
    have hd : items.toList.drop i = items[i] :: items.toList.drop (i + 1) := by simp [List.drop_eq_getElem_cons, hlt]
    have := hQ h₂ (by rw [show i + (n + 1) = i + 1 + n by omega]; exact hit₂) (hs₁.trans hs₂)
    rw [hd, List.take_succ_cons] at this
    exact this
theorem unpackItems_list {t : Addr} {items : Array Value} {Q : List Value → Shared → Prop} (hh : A.handled = none) (ht : s.heap.IsList t items)
    (hQ : ∀ h', Heap.ExtBut s.heap.objs.size s.heap h' → Q items.toList { s with heap := h' }) : wpAny (model prog w) A (unpackItems (.ref t) items.size none) Q E s := by
  have hlt : t ≠ s.heap.objs.size := by obtain ⟨o, ho, _⟩ := ht; exact Nat.ne_of_lt (Heap.lt_size ho)
  unfold unpackItems
  refine wpAny_bind ?_
  · unfold notIterableAtAll
    refine wpAny_bind (wpAny_specialOf ht.typeIs slot_list_iter.lookup ?_)
    refine wpAny_pure ?_
    simp only [Bool.false_eq_true, if_false]
    refine wpAny_bind (wpAny_holding (wpAny_pyIter_list ht ?_))
    refine wpAny_bind (wpAny_holding (draw_list hlt items.size 0 _ _ ⟨_, Heap.get?_push_size _ rfl, rfl, rfl⟩ (ht.push _) (by omega) fun h₁ hit₁ hs₁ => ?_))
    have hall : List.take items.size (List.drop 0 items.toList) = items.toList := by
      rw [List.drop_zero]; exact List.take_of_length_le (by simp)
    rw [hall]
    rw [if_neg (by simp)]
    have ht₁ : h₁.IsList t items := (ht.push _).extBut hs₁.extBut hlt
    refine wpAny_bind (wpAny_holding (wpAny_pyNext_list_end hh hit₁ ht₁ (by simp) fun h₂ he₂ => ?_))
    simp only [Option.isSome_none, Bool.false_eq_true, if_false]
    refine wpAny_pure (hQ h₂ fun b o hb e => he₂ b o hb (hs₁.extBut b o hb (Heap.get?_push_of_some _ e)))
theorem assign_Tuple_list {env : PySem.Env} {elts : List Expr} {x1} {pos : Pos} {t : Addr} {items : Array Value} {Q : Unit → Shared → Prop} (hh : A.handled = none) (ht : s.heap.IsList t items)
    (hn : (assignEach elts env).length = items.size) (hstar : (assignEach elts env).findIdx? (·.1) = none)
    (h : ∀ h', Heap.ExtBut s.heap.objs.size s.heap h' → wpAny (model prog w) A (assignInOrder ((assignEach elts env).map (·.2)) items.toList) Q E { s with heap := h' }) :
    wpAny (model prog w) A (assign (.Tuple elts x1 pos) env (.ref t)) Q E s := by
  rw [assign_Tuple]
  refine wpAny_bind (wpAny_standAt ?_)
  unfold unpack
  rw [hn, hstar]
  exact wpAny_bind (wpAny_holding (unpackItems_list hh ht h))
end
/-- (a, b, ..) = a tuple or a list of that length -/
def gSeq (K : PySem.W.Frag) (n : Nat) (t : TGs) : TG := fun v σ H Q => ∃ a xs, v = .ref a ∧ (SqT K H a xs ∨ SqL K H a xs) ∧ xs.length = n ∧ t xs σ H Q
theorem pg_seq {X : Cx} {pos : Pos} {es : List Expr} {k : Nat} {t : TGs} {n : Nat} (hc : X.calm = true) (h : PGs X es t)
    (hn : (assignEach es X.env).length = n := by rfl) (hst : (assignEach es X.env).findIdx? (·.1) = none := by rfl) : PG X (.Tuple es k pos) (gSeq X.K n t) := by
  refine ⟨fun pins s σ H v u Q I r hw => ?_⟩
  obtain ⟨a, xs, e1, hq | hq, hl, hw⟩ := hw
  · exact (pg_tup hc h hn hst).run pins s σ H v u Q I r ⟨a, xs, e1, hq, hl, hw⟩
  · subst e1
    cases r
    obtain ⟨its, rv, ⟨o, n', ho, hcl, _, hdt⟩, hz⟩ := I.list hq
    refine assign_Tuple_list (items := its.toArray) (I.ok.hd hc) ⟨o, ho, hcl, n', hdt⟩ (by simp [hn, ← hl, rv.length]) hst fun h' hx => ?_
    have I1 : Inv X pins σ H { s with heap := h' } := I.kept (t' := s.toks) fun b o e => hx b o (Nat.ne_of_lt (Heap.lt_size e)) e
    exact h.run pins _ σ H xs _ Q I1 (by simpa using rv) hw
section
variable {X : Cx} {K : Fg} {pos : Pos}
theorem g_name {i : Nat} {x : Str} (hN : X.N.Nodup) (hi : X.N[i]? = some x) (hx : Loc X.env.scope x) (hf : X.fn x = true ∨ X.env.scope.names.lookup x = some .local) : PG X (.Name x pos) (gB K [i] fun d σ => (G.nm i).bind d σ) := by
  refine (pg_name hN hi hx hf).imp fun v σ H Q ⟨F, H0, ρ, M, S, σd, d, σd', r, rv, e, q⟩ => ?_
  simp only [G.bind] at e
  cases e
  exact q _ (r.put rv) (by rw [List.length_set]) fun j hj => by rw [List.getElem?_set_ne (fun z => hj (by simp [z]))]
theorem gs_nil : PGs X [] (gBs K [] fun ds σ => G.binds [] ds σ) := by
  refine pgs_nil.imp fun v σ H Q ⟨F, H0, ρ, M, S, σd, ds, σd', r, rv, e, q⟩ => ?_
  cases ds with
  | nil =>
    simp only [G.binds] at e
    cases e
    cases rv
    exact ⟨rfl, q σ r rfl fun _ _ => rfl⟩
  | cons _ _ => simp only [G.binds] at e; cases e
theorem gs_cons {e : Expr} {es : List Expr} {g : G} {gs : List G} {n1 n2 : List Nat} (h1 : PG X e (gB K n1 fun d σ => g.bind d σ)) (h2 : PGs X es (gBs K n2 fun ds σ => G.binds gs ds σ))
    (hs : (assignEach (e :: es) X.env).map (·.2) = assign e X.env :: (assignEach es X.env).map (·.2)) : PGs X (e :: es) (gBs K (n1 ++ n2) fun ds σ => G.binds (g :: gs) ds σ) := by
  refine (pgs_cons h1 h2 hs).imp fun v σ H Q ⟨F, H0, ρ, M, S, σd, ds, σd', r, rv, e, q⟩ => ?_
  cases ds with
  | nil => simp only [G.binds] at e; cases e
  | cons d ds =>
    simp only [G.binds] at e
    cases hb : g.bind d σd with
    | none => rw [hb] at e; cases e
    | some σ1 =>
      rw [hb] at e
      cases rv with
      | cons ra rb =>
        refine ⟨_, _, rfl, F, H0, ρ, M, S, σd, d, σ1, r, ra, hb, fun τ r1 l1 f1 => ?_⟩
        exact ⟨F, H0, ρ, M, S, σ1, ds, σd', r1, rb, e, fun τ' r2 l2 f2 => q τ' r2 (l2.trans l1) fun j hj => by
          rw [List.mem_append, not_or] at hj
          rw [f2 j hj.2, f1 j hj.1]⟩
theorem g_tup {es : List Expr} {k n : Nat} {gs : List G} {ns : List Nat} (hc : X.calm = true) (h : PGs X es (gBs (kx X) ns fun ds σ => G.binds gs ds σ)) (hl : gs.length = n)
    (hn : (assignEach es X.env).length = n) (hst : (assignEach es X.env).findIdx? (·.1) = none) : PG X (.Tuple es k pos) (gB (kx X) ns fun d σ => (G.tup gs).bind d σ) := by
  refine (pg_seq hc h hn hst).imp fun v σ H Q ⟨F, H0, ρ, M, S, σd, d, σd', r, rv, e, q⟩ => ?_
  have len : ∀ (gs : List G) (ds : List D) (σ σ' : Env), G.binds gs ds σ = some σ' → gs.length = ds.length := by
    intro gs
    induction gs with
    | nil =>
      intro ds σ σ' h
      cases ds with
      | nil => rfl
      | cons _ _ => simp only [G.binds] at h; cases h
    | cons g gs ih =>
      intro ds σ σ' h
      cases ds with
      | nil => simp only [G.binds] at h; cases h
      | cons d ds =>
        simp only [G.binds] at h
        cases hb : g.bind d σ with
        | none => rw [hb] at h; cases h
        | some σ1 => rw [hb] at h; rw [List.length_cons, List.length_cons, ih ds σ1 σ' h]
  cases d with
  | tup ds =>
    simp only [G.bind] at e
    cases rv with
    | @tup a xs _ t rs =>
      refine ⟨a, xs, rfl, .inl t.sq, ?_, F, H0, ρ, M, S, σd, ds, σd', r, rs, e, q⟩
      rw [← rs.length, ← len gs ds σd σd' e, hl]
  | lst ds =>
    simp only [G.bind] at e
    cases rv with
    | @lst a xs _ t rs =>
      refine ⟨a, xs, rfl, .inr t.sq, ?_, F, H0, ρ, M, S, σd, ds, σd', r, rs, e, q⟩
      rw [← rs.length, ← len gs ds σd σd' e, hl]
  | _ => simp only [G.bind] at e; cases e
end
end Cl

set_option Elab.async false
set_option linter.all false
set_option maxRecDepth 100000
/-! SoundG: what is walked: lists, tuples, ranges, zip, enumerate. -/
namespace Cl
open PySem PySem.Spec PyProof.Rows L2

theorem _root_.L2.PI.or {X : Cx} {tg e : Expr} {t u : TI} (h : PI X tg e t) (h' : PI X tg e u) : PI X tg e (fun σ H R => t σ H R ∨ u σ H R) :=
  ⟨fun pins s σ H R I q => q.elim (h.run pins s σ H R I) (h'.run pins s σ H R I)⟩
/-- a walk that is chosen behind the value: by the reading at hand -/
theorem _root_.L2.PI.pick {X : Cx} {tg e : Expr} {te : TE} {r r' : V → Hp → (It → Hp → Prop) → Prop} (h : PI X tg e (fun σ H R => te σ H fun x H1 => r x H1 R)) (h' : PI X tg e (fun σ H R => te σ H fun x H1 => r' x H1 R))
    (t : TI) (i : ∀ σ H R, t σ H R → (te σ H fun x H1 => r x H1 R) ∨ te σ H fun x H1 => r' x H1 R) : PI X tg e t := (h.or h').imp i

section
variable {K : Fg} {F : Addr → Prop} {H0 : Hp} {M M' : Addr → Prop} {ρ ρ' : List Addr} {S S' : CH} {σd σd' : Env} {σ σ' : L2.St} {H H' : Hp}

/-- what is read of a sequence at later states -/
structure SeqAtD (K : Fg) (ρ : List Addr) (M : Addr → Prop) (H : Hp) (As : List Addr) (P : Hp → List V → Prop) (ds : List D) (xs : List V) : Prop where
  rs : RVs K M ρ H ds xs
  at_ : ∀ ρ2 M2 H2, Stay ρ M H ρ2 M2 H2 → (∀ a ∈ As, H2 a = H a) → P H2 xs
theorem seq_tup {a : Addr} {xs : List V} {ds : List D} (t : TupAt K M H a xs) (r : RVs K M ρ H ds xs) : SeqAtD K ρ M H [] (fun H xs => SqT K.fr H a xs) ds xs := ⟨r, fun _ _ _ s _ => (t.stay s).sq⟩
theorem seq_lst {a : Addr} {xs : List V} {ds : List D} (t : LstAt M H a xs) (r : RVs K M ρ H ds xs) : SeqAtD K ρ M H [] (fun H xs => SqL K.fr H a xs) ds xs := ⟨r, fun _ _ _ s _ => (t.stay s).sq⟩
theorem seq_own {a : Addr} {xs : List V} {ds : List D} (h : H a = some (.lst xs)) (r : RVs K M ρ H ds xs) : SeqAtD K ρ M H [a] (fun H xs => SqL K.fr H a xs) ds xs := ⟨r, fun _ _ _ _ e => SqL.of ((e a (by simp)).trans h)⟩

theorem walkL {a : Addr} {As : List Addr} {xs : List V} {ds : List D} (q : SeqAtD K ρ M H As (fun H xs => SqL K.fr H a xs) ds xs) : WalkD K (Itl K.fr a) ds As ρ M H := by
  intro ρ2 M2 H2 st tr eq
  have hl := q.at_ ρ2 M2 H2 st eq
  refine ⟨fun i d hd => ?_, xs, hl, by rw [q.rs.length]; exact Nat.le_refl _⟩
  obtain ⟨v, hv, rv⟩ := q.rs.get hd
  refine ⟨⟨xs, v, hl, hv⟩, fun x H3 ⟨e1, e2⟩ => ?_⟩
  subst e1
  have := e2 xs hl
  rw [hv] at this; cases this
  exact ⟨.inl rfl, rv.stay st⟩
theorem walkT {a : Addr} {As : List Addr} {xs : List V} {ds : List D} (q : SeqAtD K ρ M H As (fun H xs => SqT K.fr H a xs) ds xs) : WalkD K (Itt K.fr a) ds As ρ M H := by
  intro ρ2 M2 H2 st tr eq
  have hl := q.at_ ρ2 M2 H2 st eq
  refine ⟨fun i d hd => ?_, xs, hl, by rw [q.rs.length]; exact Nat.le_refl _⟩
  obtain ⟨v, hv, rv⟩ := q.rs.get hd
  refine ⟨⟨xs, v, hl, hv⟩, fun x H3 ⟨e1, e2⟩ => ?_⟩
  subst e1
  have := e2 xs hl
  rw [hv] at this; cases this
  exact ⟨.inl rfl, rv.stay st⟩
/-- a new pair is a datum -/
theorem pair_rv {T : Addr} {x y : V} {d e : D} (hT : H T = none) (tr : ∀ a, M a → H a ≠ none) (rx : RV K M ρ H d x) (ry : RV K M ρ H e y) : RV K M ρ (upd H T (.tup [x, y])) (.tup [d, e]) (.ref T) := by
  have st : Stay ρ M H ρ M (upd H T (.tup [x, y])) := ⟨fun a o h n => ⟨by rw [upd_ne (fun z => by subst z; rw [hT] at h; cases h)]; exact h, n⟩, fun _ _ h => h⟩
  exact .tup (.inl ⟨upd_same, fun m => tr T m hT⟩) (.cons (rx.stay st) (.cons (ry.stay st) .nil))
theorem zip_get {α β : Type} {xs : List α} {ys : List β} {i : Nat} {p : α × β} (h : (xs.zip ys)[i]? = some p) : xs[i]? = some p.1 ∧ ys[i]? = some p.2 := by
  rw [List.getElem?_zip_eq_some] at h
  exact h
theorem walkZ {P1 P2 : Hp → List V → Prop} {J : It} {A1 A2 : List Addr} {xs ys : List V} {ds es : List D} (q1 : SeqAtD K ρ M H A1 P1 ds xs) (q2 : SeqAtD K ρ M H A2 P2 es ys)
    (go : ∀ i H2 x y, P1 H2 xs → P2 H2 ys → xs[i]? = some x → ys[i]? = some y → J.go i H2)
    (yl : ∀ i H2 v H3, P1 H2 xs → P2 H2 ys → J.yld i H2 v H3 → ∃ T x y, v = .ref T ∧ H2 T = none ∧ H3 = upd H2 T (.tup [x, y]) ∧ xs[i]? = some x ∧ ys[i]? = some y)
    (sp : ∀ H2, P1 H2 xs → P2 H2 ys → J.stop (min xs.length ys.length) H2) : WalkD K J ((ds.zip es).map fun p => .tup [p.1, p.2]) (A1 ++ A2) ρ M H := by
  intro ρ2 M2 H2 st tr eq
  have h1 := q1.at_ ρ2 M2 H2 st fun a ha => eq a (List.mem_append_left _ ha)
  have h2 := q2.at_ ρ2 M2 H2 st fun a ha => eq a (List.mem_append_right _ ha)
  refine ⟨fun i d hd => ?_, ?_⟩
  · rw [List.getElem?_map] at hd
    obtain ⟨p, hp, rfl⟩ := Option.map_eq_some_iff.mp hd
    obtain ⟨e1, e2⟩ := zip_get hp
    obtain ⟨v, hv, rv⟩ := q1.rs.get e1
    obtain ⟨u, hu, ru⟩ := q2.rs.get e2
    refine ⟨go i H2 v u h1 h2 hv hu, fun x H3 y => ?_⟩
    obtain ⟨T, v', u', rfl, hT, rfl, e3, e4⟩ := yl i H2 x H3 h1 h2 y
    rw [hv] at e3; cases e3
    rw [hu] at e4; cases e4
    exact ⟨.inr ⟨T, _, hT, rfl⟩, pair_rv hT tr (rv.stay st) (ru.stay st)⟩
  · rw [List.length_map, List.length_zip, q1.rs.length, q2.rs.length]
    exact sp H2 h1 h2
theorem walkR {lo : Int} {n : Nat} : WalkD K (Itr lo n) ((List.range n).map fun i : Nat => .int (lo + (i : Int))) [] ρ M H := by
  intro ρ2 M2 H2 st tr eq
  refine ⟨fun i d hd => ?_, by rw [List.length_map, List.length_range]; exact Nat.le_refl _⟩
  rw [List.getElem?_map] at hd
  obtain ⟨j, hj, rfl⟩ := Option.map_eq_some_iff.mp hd
  obtain ⟨h1, h2⟩ := List.getElem?_eq_some_iff.mp hj
  rw [List.length_range] at h1
  rw [List.getElem_range] at h2
  subst h2
  refine ⟨h1, fun x H3 ⟨e1, e2⟩ => ?_⟩
  subst e1 e2
  exact ⟨.inl rfl, .int _⟩
theorem walkRC {lo c : Int} {n : Nat} : WalkD K (Itc lo c n) ((List.range n).map fun i : Nat => .int (lo + (i : Nat) * c)) [] ρ M H := by
  intro ρ2 M2 H2 st tr eq
  refine ⟨fun i d hd => ?_, by rw [List.length_map, List.length_range]; exact Nat.le_refl _⟩
  rw [List.getElem?_map] at hd
  obtain ⟨j, hj, rfl⟩ := Option.map_eq_some_iff.mp hd
  obtain ⟨h1, h2⟩ := List.getElem?_eq_some_iff.mp hj
  rw [List.length_range] at h1
  rw [List.getElem_range] at h2
  subst h2
  refine ⟨h1, fun x H3 ⟨e1, e2⟩ => ?_⟩
  subst e1 e2
  exact ⟨.inl rfl, .int _⟩
end

section
variable {X : Cx} {tg e a b c : Expr} {p pos tpos : Pos} {m ma mb : Env → Cm D} {mr : Env → Cm (List D)} {es elts : List Expr} {kk : Nat} {only : Env → Bool}
/-- how a looked-at value may be walked: frozen (no place to watch), or owned -/
theorem src_of {K : Fg} {M : Addr → Prop} {ρ : List Addr} {H : Hp} {d : D} {v : V} {ds : List D} (r : RB K M ρ H d v) (h : seq? d = some ds) :
    ∃ a xs As, v = .ref a ∧ (∀ z ∈ As, M z ∧ z ∉ ρ) ∧ (RV K M ρ H d v → As = []) ∧ (SeqAtD K ρ M H As (fun H xs => SqL K.fr H a xs) ds xs ∨ SeqAtD K ρ M H As (fun H xs => SqT K.fr H a xs) ds xs) := by
  rcases Classical.em (RV K M ρ H d v) with r | nr
  · cases r with
    | @tup a xs _ t rs => cases h; exact ⟨a, xs, [], rfl, fun _ h => absurd h (by simp), fun _ => rfl, .inr (seq_tup t rs)⟩
    | @lst a xs _ t rs => cases h; exact ⟨a, xs, [], rfl, fun _ h => absurd h (by simp), fun _ => rfl, .inl (seq_lst t rs)⟩
    | _ => cases h
  · rcases r with r | ⟨a, rfl, ma, na, ow⟩
    · exact absurd r nr
    · cases d with
      | lst es => obtain ⟨xs, hx, rs⟩ := ow; cases h; exact ⟨a, xs, [a], rfl, fun z hz => by rw [List.mem_singleton] at hz; subst hz; exact ⟨ma, na⟩, fun r => absurd r nr, .inl (seq_own hx rs)⟩
      | dct _ _ => cases h
      | _ => exact ow.elim
/-- a list or a tuple, looked at -/
theorem i_srcB (he : PE X e (tB (kx X) m)) : PI X tg e (tI (kx X) true fun σ => Cm.bind (m σ) fun x => Cm.lift (seq? x)) := by
  refine ((pi_list (tg := tg) he).or (pi_tup he)).imp fun σ H R ⟨F, H0, ρ, M, S, σd, d, S', r, e, q⟩ => ?_
  obtain ⟨z, S0, e1, e0⟩ := mbind_ok e
  obtain ⟨e0', rfl⟩ := lift_ok e0
  have key : ∀ {v : V} {ρ1 M1 H1}, Rep (kx X) F H0 ρ1 M1 S0 σd σ H1 → Ext ρ M H ρ1 M1 H1 → RB (kx X) M1 ρ1 H1 z v → ∃ a, v = .ref a ∧ ((∃ ds, z = .lst ds) → (∃ xs, SqL X.K H1 a xs) ∧ R (Itl X.K a) H1) ∧ ((∃ ds, z = .tup ds) → (∃ xs, SqT X.K H1 a xs) ∧ R (Itt X.K a) H1) := by
    intro v ρ1 M1 H1 r1 x1 v1
    rcases v1 with v1 | ⟨a, rfl, ma, na, ow⟩
    · cases v1 with
      | @tup a xs ds t rs =>
        cases e0'
        exact ⟨a, rfl, (fun ⟨_, z⟩ => by cases z), fun _ => ⟨⟨xs, t.sq⟩, q _ [] ρ1 M1 H1 r1 x1 (fun _ h => absurd h (by simp)) (fun _ => rfl) (walkT (seq_tup t rs))⟩⟩
      | @lst a xs ds t rs =>
        cases e0'
        exact ⟨a, rfl, fun _ => ⟨⟨xs, t.sq⟩, q _ [] ρ1 M1 H1 r1 x1 (fun _ h => absurd h (by simp)) (fun _ => rfl) (walkL (seq_lst t rs))⟩, (fun ⟨_, z⟩ => by cases z)⟩
      | _ => cases e0'
    · cases z with
      | lst es =>
        obtain ⟨xs, hx, rs⟩ := ow
        cases e0'
        exact ⟨a, rfl, fun _ => ⟨⟨xs, SqL.of hx⟩, q _ [a] ρ1 M1 H1 r1 x1 (fun z hz => by rw [List.mem_singleton] at hz; subst hz; exact ⟨ma, na⟩) (fun z => by cases z) (walkL (seq_own hx rs))⟩, (fun ⟨_, z⟩ => by cases z)⟩
      | dct _ _ => cases e0'
      | _ => exact ow.elim
  cases z with
  | lst es =>
    refine .inl ⟨F, H0, ρ, M, S, σd, _, S0, r, e1, fun v ρ1 M1 H1 r1 x1 v1 => ?_⟩
    obtain ⟨a, rfl, k1, _⟩ := key r1 x1 v1
    exact ⟨a, rfl, k1 ⟨_, rfl⟩⟩
  | tup es =>
    refine .inr ⟨F, H0, ρ, M, S, σd, _, S0, r, e1, fun v ρ1 M1 H1 r1 x1 v1 => ?_⟩
    obtain ⟨a, rfl, _, k1⟩ := key r1 x1 v1
    exact ⟨a, rfl, k1 ⟨_, rfl⟩⟩
  | _ => cases e0'
/-- of values alone -/
theorem i_srcV (he : PE X e (tV (kx X) m)) : PI X tg e (tI (kx X) false fun σ => Cm.bind (m σ) fun x => Cm.lift (seq? x)) := by
  refine ((pi_list (tg := tg) he).or (pi_tup he)).imp fun σ H R ⟨F, H0, ρ, M, S, σd, d, S', r, e, q⟩ => ?_
  obtain ⟨z, S0, e1, e0⟩ := mbind_ok e
  obtain ⟨e0', rfl⟩ := lift_ok e0
  cases z with
  | lst es =>
    cases e0'
    refine .inl ⟨F, H0, ρ, M, S, σd, _, S0, r, e1, fun v ρ1 M1 H1 r1 x1 v1 => ?_⟩
    cases v1 with
    | @lst a xs ds t rs => exact ⟨a, rfl, ⟨xs, t.sq⟩, q _ [] ρ1 M1 H1 r1 x1 (fun _ h => absurd h (by simp)) (fun _ => rfl) (walkL (seq_lst t rs))⟩
  | tup es =>
    cases e0'
    refine .inr ⟨F, H0, ρ, M, S, σd, _, S0, r, e1, fun v ρ1 M1 H1 r1 x1 v1 => ?_⟩
    cases v1 with
    | @tup a xs ds t rs => exact ⟨a, rfl, ⟨xs, t.sq⟩, q _ [] ρ1 M1 H1 r1 x1 (fun _ h => absurd h (by simp)) (fun _ => rfl) (walkT (seq_tup t rs))⟩
  | _ => cases e0'
/-- a slot -/
theorem i_mono {own : Bool} {K : Fg} {mm mm' : Env → Cm (List D)} (h : PI X tg e (tI K own mm)) (i : ∀ σ S ds S', mm' σ S = some (.ok ds S') → mm σ S = some (.ok ds S')) : PI X tg e (tI K own mm') :=
  h.imp fun σ H R ⟨F, H0, ρ, M, S, σd, d, S', r, e, q⟩ => ⟨F, H0, ρ, M, S, σd, d, S', r, i _ _ _ _ e, q⟩
theorem i_wide {K : Fg} {mm : Env → Cm (List D)} {own : Bool} (h : PI X tg e (tI K false mm)) : PI X tg e (tI K own mm) :=
  h.imp fun σ H R ⟨F, H0, ρ, M, S, σd, d, S', r, e, q⟩ => ⟨F, H0, ρ, M, S, σd, d, S', r, e, fun J As ρ' M' H' r' x' hA N w => q J As ρ' M' H' r' x' hA (fun _ => N rfl) w⟩

/-! ### ranges -/
theorem rng1 {i : Int} {ds : List D} (h : rngD [.int i] = some ds) : i ≤ 1000000 ∧ -1000000 ≤ i ∧ ds = (List.range i.toNat).map fun j : Nat => .int (0 + (j : Int)) := by
  simp only [rngD] at h
  by_cases hc : i ≤ 1000000 ∧ -1000000 ≤ i
  · rw [if_pos hc] at h; cases h; exact ⟨hc.1, hc.2, by simp⟩
  · rw [if_neg hc] at h; cases h
theorem rng2 {i j : Int} {ds : List D} (h : rngD [.int i, .int j] = some ds) : (-1000000 ≤ i ∧ i ≤ 1000000 ∧ -1000000 ≤ j ∧ j ≤ 1000000) ∧ ds = (List.range (j - i).toNat).map fun k : Nat => .int (i + (k : Int)) := by
  simp only [rngD] at h
  by_cases hc : -1000000 ≤ i ∧ i ≤ 1000000 ∧ -1000000 ≤ j ∧ j ≤ 1000000
  · rw [if_pos hc] at h; cases h; exact ⟨hc, rfl⟩
  · rw [if_neg hc] at h; cases h
theorem rng3 {i j c : Int} {ds : List D} (h : rngD [.int i, .int j, .int c] = some ds) : c = -1 ∧ (-1000000 ≤ i ∧ i ≤ 1000000 ∧ -1000000 ≤ j ∧ j ≤ 1000000) ∧ ds = (List.range (i - j).toNat).map fun k : Nat => .int (i + (k : Nat) * c) := by
  simp only [rngD] at h
  by_cases hc : c = -1 ∧ -1000000 ≤ i ∧ i ≤ 1000000 ∧ -1000000 ≤ j ∧ j ≤ 1000000
  · rw [if_pos hc] at h
    cases h
    refine ⟨hc.1, hc.2, ?_⟩
    rw [hc.1]
    refine List.map_congr_left fun k _ => ?_
    have : i - (k : Int) = i + (k : Nat) * -1 := by omega
    rw [this]
  · rw [if_neg hc] at h; cases h
theorem rngI {ds es : List D} (h : rngD ds = some es) : ds.all (fun d => match d with | .int _ => true | _ => false) = true := by
  unfold rngD at h
  split at h <;> first | rfl | cases h
def allI (ds : List D) : Bool := ds.all fun d => match d with | .int _ => true | _ => false
theorem allI_cons {d : D} {ds : List D} (h : allI (d :: ds) = true) : (∃ i, d = .int i) ∧ allI ds = true := by
  unfold allI at h
  rw [List.all_cons, Bool.and_eq_true] at h
  cases d with
  | int i => exact ⟨⟨i, rfl⟩, h.2⟩
  | _ => cases h.1
theorem rv_int {K : Fg} {M : Addr → Prop} {ρ : List Addr} {H : Hp} {i : Int} {v : V} (r : RV K M ρ H (.int i) v) : v = .int i := by cases r; rfl
theorem i_rng1 (hg : Gl X "range") (hm : X.mg "range" = none) (ha : PA X [a] (tVs (kx X) mr)) (hs : nost a = true) (hl : ∀ σ S ds S', mr σ S = some (.ok ds S') → ds.length = 1) (own : Bool) :
    PI X tg (.Call (.Name "range" p) [a] [] pos) (tI (kx X) own fun σ => do let xs ← mr σ; Cm.lift (rngD xs)) := by
  refine (pi_range1 hg hm ha (starEach_no hs)).imp fun σ H R ⟨F, H0, ρ, M, S, σd, d, S', r, e, q⟩ => ?_
  obtain ⟨z, S0, e1, e0⟩ := bind_ok e
  obtain ⟨e0', rfl⟩ := lift_ok e0
  have hz := hl _ _ _ _ e1
  match z, hz with
  | [z], _ =>
    obtain ⟨⟨i, rfl⟩, _⟩ := allI_cons (rngI e0')
    obtain ⟨h1, h2, rfl⟩ := rng1 e0'
    refine ⟨F, H0, ρ, M, S, σd, _, S0, r, e1, fun v ρ1 M1 H1 r1 x1 v1 => ?_⟩
    rcases v1 with _ | ⟨a1, a2⟩
    rcases a2
    cases rv_int a1
    exact ⟨i, rfl, by omega, by omega, q _ [] ρ1 M1 H1 r1 x1 (fun _ h => absurd h (by simp)) (fun _ => rfl) walkR⟩
theorem i_rng2 (hg : Gl X "range") (hm : X.mg "range" = none) (ha : PA X [a, b] (tVs (kx X) mr)) (hs : nost a = true) (hs2 : nost b = true) (hl : ∀ σ S ds S', mr σ S = some (.ok ds S') → ds.length = 2) (own : Bool) :
    PI X tg (.Call (.Name "range" p) [a, b] [] pos) (tI (kx X) own fun σ => do let xs ← mr σ; Cm.lift (rngD xs)) := by
  refine (pi_range2 hg hm ha (by rw [starEach_no hs, starEach_no hs2]; rfl) (starEach_no hs2)).imp fun σ H R ⟨F, H0, ρ, M, S, σd, d, S', r, e, q⟩ => ?_
  obtain ⟨z, S0, e1, e0⟩ := bind_ok e
  obtain ⟨e0', rfl⟩ := lift_ok e0
  have hz := hl _ _ _ _ e1
  match z, hz with
  | [z, z2], _ =>
    obtain ⟨⟨i, rfl⟩, g2⟩ := allI_cons (rngI e0')
    obtain ⟨⟨j, rfl⟩, _⟩ := allI_cons g2
    obtain ⟨⟨h1, h2, h3, h4⟩, rfl⟩ := rng2 e0'
    refine ⟨F, H0, ρ, M, S, σd, _, S0, r, e1, fun v ρ1 M1 H1 r1 x1 v1 => ?_⟩
    rcases v1 with _ | ⟨a1, a2⟩
    rcases a2 with _ | ⟨a2, a3⟩
    rcases a3
    cases rv_int a1
    cases rv_int a2
    exact ⟨i, j, rfl, ⟨by omega, by omega, by omega, by omega⟩, q _ [] ρ1 M1 H1 r1 x1 (fun _ h => absurd h (by simp)) (fun _ => rfl) walkR⟩
theorem i_rng3 (hg : Gl X "range") (hm : X.mg "range" = none) (ha : PA X [a, b, c] (tVs (kx X) mr)) (hs : nost a = true) (hs2 : [b, c].all nost = true) (hl : ∀ σ S ds S', mr σ S = some (.ok ds S') → ds.length = 3) (own : Bool) :
    PI X tg (.Call (.Name "range" p) [a, b, c] [] pos) (tI (kx X) own fun σ => do let xs ← mr σ; Cm.lift (rngD xs)) := by
  refine (pi_range3 hg hm ha (starEach_no hs) (star_any hs2)).imp fun σ H R ⟨F, H0, ρ, M, S, σd, d, S', r, e, q⟩ => ?_
  obtain ⟨z, S0, e1, e0⟩ := bind_ok e
  obtain ⟨e0', rfl⟩ := lift_ok e0
  have hz := hl _ _ _ _ e1
  match z, hz with
  | [z, z2, z3], _ =>
    obtain ⟨⟨i, rfl⟩, g2⟩ := allI_cons (rngI e0')
    obtain ⟨⟨j, rfl⟩, g3⟩ := allI_cons g2
    obtain ⟨⟨k, rfl⟩, _⟩ := allI_cons g3
    obtain ⟨rfl, ⟨h1, h2, h3, h4⟩, rfl⟩ := rng3 e0'
    refine ⟨F, H0, ρ, M, S, σd, _, S0, r, e1, fun v ρ1 M1 H1 r1 x1 v1 => ?_⟩
    rcases v1 with _ | ⟨a1, a2⟩
    rcases a2 with _ | ⟨a2, a3⟩
    rcases a3 with _ | ⟨a3, a4⟩
    rcases a4
    cases rv_int a1
    cases rv_int a2
    cases rv_int a3
    exact ⟨i, j, -1, (i - j).toNat, rfl, RgC.neg (by omega) (by omega) (by omega) (by omega), q _ [] ρ1 M1 H1 r1 x1 (fun _ h => absurd h (by simp)) (fun _ => rfl) walkRC⟩
end
end Cl

set_option Elab.async false
set_option linter.all false
set_option maxRecDepth 100000
/-! SoundZ: zip of two lists or tuples of either kind; enumerate of either kind. -/
namespace Cl
open PySem PySem.Spec PyProof.Rows L2

/-- t: a tuple, else a list -/
def SqK (t : Bool) (K : PySem.W.Frag) (H : Hp) (a : Addr) (xs : List V) : Prop := match t with | true => SqT K H a xs | false => SqL K H a xs
def itN : Bool → String | true => "tuple_iterator" | false => "list_iterator"
def ItAt (t : Bool) (h : Heap) (it a : Addr) (i : Nat) : Prop := match t with | true => h.IsTupleIter it a i | false => h.IsListIter it a i
def SeqA (t : Bool) (h : Heap) (a : Addr) (items : Array Value) : Prop := match t with | true => h.IsTuple a items | false => h.IsList a items
def itObj (t : Bool) (a : Addr) : Obj := { cls := .type (itN t), data := .fields #[.ref a, .int 0 0] }
theorem drawsK {prog : Program} {w : World} {A : Around} (hh : A.handled = none) (t : Bool) (it l : Addr) (hne : l ≠ it) (items : Array Value) :
    Draws prog w A it [it, l] items.size (fun i v => items[i]? = some v) (fun i h => ItAt t h it l i ∧ SeqA t h l items) := by
  cases t
  · exact Draws.list hh it l hne items
  · exact Draws.tuple hh it l hne items
theorem begK (t : Bool) (a : Addr) (items : Array Value) : Begins (.ref a) (itObj t a) fun h => SeqA t h a items := by
  cases t
  · exact begins_list a items
  · exact begins_tuple a items
theorem newK {t : Bool} {h : Heap} {it a : Addr} (e : h.get? it = some (itObj t a)) : ItAt t h it a 0 := by
  cases t
  · exact ⟨_, e, rfl, rfl⟩
  · exact ⟨_, e, rfl, rfl⟩
theorem ItAt.at {t : Bool} {h h' : Heap} {it a : Addr} {i : Nat} (x : ItAt t h it a i) (k : ∀ o, h.get? it = some o → h'.get? it = some o) : ItAt t h' it a i := by
  cases t
  · exact Heap.IsListIter.at x k
  · exact Heap.IsTupleIter.at x k
theorem ItAt.lt {t : Bool} {h : Heap} {it a : Addr} {i : Nat} (x : ItAt t h it a i) : it < h.objs.size := by
  cases t <;> (obtain ⟨o, e, _⟩ := x; exact Heap.lt_size e)
theorem ItAt.cell {t : Bool} {h : Heap} {it a : Addr} {i : Nat} (x : ItAt t h it a i) : ∃ o, h.get? it = some o ∧ ∀ v, o.data ≠ .cell v := by
  cases t <;> (obtain ⟨o, e, _, d⟩ := x; exact ⟨o, e, fun v q => by rw [d] at q; cases q⟩)
section
variable {X : Cx} {pins : List (Addr × Obj)} {σ : L2.St} {H : Hp} {s : Shared}
theorem seqK (I : Inv X pins σ H s) {t : Bool} {a : Addr} {xs : List V} (q : SqK t X.K H a xs) : ∃ its, Vals xs its ∧ SeqA t s.heap a its.toArray := by
  cases t
  · obtain ⟨its, rv, p, _⟩ := I.list q; exact ⟨its, rv, p.isList⟩
  · obtain ⟨its, rv, p, _⟩ := I.tuple q; exact ⟨its, rv, p⟩
theorem seqK_inj (I : Inv X pins σ H s) {t : Bool} {a : Addr} {xs ys : List V} (q : SqK t X.K H a xs) (q' : SqK t X.K H a ys) : xs = ys := by
  cases t
  · exact I.list_inj q q'
  · exact I.tuple_inj q q'
theorem SeqA.lt {t : Bool} {h : Heap} {a : Addr} {items : Array Value} (x : SeqA t h a items) : a < h.objs.size := by
  cases t <;> (obtain ⟨o, e, _⟩ := x; exact Heap.lt_size e)
end

def Itz2 (t u : Bool) (K : PySem.W.Frag) (a b : Addr) : It :=
  ⟨fun i H => ∃ (xs ys : List V) (x y : V), SqK t K H a xs ∧ SqK u K H b ys ∧ xs[i]? = some x ∧ ys[i]? = some y,
    fun i H v H' => ∃ T x y, v = .ref T ∧ H T = none ∧ H' = upd H T (.tup [x, y]) ∧ (∀ xs, SqK t K H a xs → xs[i]? = some x) ∧ ∀ ys, SqK u K H b ys → ys[i]? = some y,
    fun i H => ∃ xs ys : List V, SqK t K H a xs ∧ SqK u K H b ys ∧ (i ≤ xs.length ∧ i ≤ ys.length ∧ (xs.length = i ∨ ys.length = i))⟩
theorem turn_zip2 {P : Program} {w : World} {K : PySem.W.Frag} {elts : List Expr} {kk : Nat} {tpos : Pos} {t u : Bool} {a b z TI TO i1 i2 : Addr} (D : ZipSep2 z TI TO i1 i2 [i1, a] [i2, b]) (na : a ≠ i1) (nb : b ≠ i2) :
    Turn P w K (.Tuple elts kk tpos) (Itz2 t u K a b) [z, TI, TO, i1, i2] z (fun i h => IsZip h z TI TO .none ∧ IsTupOf2 h TI (.ref i1) (.ref i2) ∧ (∃ x y, IsTupOf2 h TO x y) ∧ ItAt t h i1 a i ∧ ItAt u h i2 b i) where
  mem := by simp
  obj := fun i h st c hc => by
    obtain ⟨hz, hTI, ⟨x, y, hTO⟩, h1, h2⟩ := st
    have e' : c = z ∨ c = TI ∨ c = TO ∨ c = i1 ∨ c = i2 := by simpa using hc
    rcases e' with q | q | q | q | q
    · rw [q]; exact ⟨_, hz, fun v q => nomatch q⟩
    · rw [q]; exact ⟨_, hTI, fun v q => nomatch q⟩
    · rw [q]; exact ⟨_, hTO, fun v q => nomatch q⟩
    · rw [q]; exact h1.cell
    · rw [q]; exact h2.cell
  keep := fun i h h' st k => by
    obtain ⟨hz, hTI, ⟨x, y, hTO⟩, h1, h2⟩ := st
    exact ⟨k z (by simp) _ hz, k TI (by simp) _ hTI, ⟨x, y, k TO (by simp) _ hTO⟩, h1.at fun o q => k i1 (by simp) o q, h2.at fun o q => k i2 (by simp) o q⟩
  item := by
    intro X hP hw hK hc i pins s σ H E I hf st hg
    subst hP hw hK
    obtain ⟨hz, hTI, ⟨x0, y0, hTO⟩, h1, h2⟩ := st
    obtain ⟨xs, ys, x, y, hqx, hqy, hx, hy⟩ := hg
    obtain ⟨its, rv, p⟩ := seqK I hqx
    obtain ⟨its2, rv2, p2⟩ := seqK I hqy
    obtain ⟨v1, hu, ru⟩ := rv.get hx
    obtain ⟨v2, hu2, ru2⟩ := rv2.get hy
    have hzl : z < s.heap.objs.size := Heap.lt_size hz
    have hl1 : i < its.toArray.size := (Array.getElem?_eq_some_iff.mp (by simpa using hu)).1
    have hl2 : i < its2.toArray.size := (Array.getElem?_eq_some_iff.mp (by simpa using hu2)).1
    refine wpAny_pyNext_zipD2_item D (drawsK (prog := X.prog) (w := X.w) (A := X.A.in1) (I.ok.hd hc) t i1 a na its.toArray) (drawsK (prog := X.prog) (w := X.w) (A := X.A.in1) (I.ok.hd hc) u i2 b nb its2.toArray) hz hTI hTO ⟨h1, p⟩ ⟨h2, p2⟩ hl1 hl2
      fun w1 w2 h' tk g1 g2 z' TO' s1' s2' hT hsz hk => ?_
    have e1 : w1 = v1 := by
      have : its[i]? = some w1 := by simpa using g1
      rw [hu] at this; exact (Option.some.inj this).symm
    have e2 : w2 = v2 := by
      have : its2[i]? = some w2 := by simpa using g2
      rw [hu2] at this; exact (Option.some.inj this).symm
    subst e1 e2
    refine ⟨_, rfl, wpAny_letOwnedTupleGo_zip (s := { s with heap := h', toks := tk }) z' fun h'' z'' sb => ?_⟩
    have hT2 : h''.get? s.heap.objs.size = some { cls := .type "tuple", data := .seq #[w1, w2] } := (sb.2 _ (Nat.ne_of_gt hzl)).trans hT
    have new : ObjOk X.prog X.w (upd H s.heap.objs.size (.tup [x, y])) h'' s.heap.objs.size (.tup [x, y]) :=
      ⟨by show 2 ≤ sizeLine; decide, [w1, w2], .cons ru (.cons ru2 .nil), ⟨_, hT2, rfl, _, rfl⟩⟩
    have I1 : Inv X pins σ (upd H s.heap.objs.size (.tup [x, y])) { s with heap := h'', toks := tk } :=
      I.turnedNew (t' := tk) (ch := [z, TI, TO, i1, i2]) (fun c o hb q => (sb.2 c (fun q' => hb (by simp [q']))).trans (hk c o (fun q' => hb (by simp [q'])) (fun q' => hb (by simp [q'])) (fun q' => hb (by simp [q'])) (fun q' => hb (by simp [q'])) q)) hf (Nat.le_refl _) new
    refine ⟨.ref s.heap.objs.size, _, I1, rfl, ⟨_, x, y, rfl, I.hok.fresh (Nat.le_refl _), rfl, fun l hl => by rw [seqK_inj I hl hqx]; exact hx, fun l hl => by rw [seqK_inj I hl hqy]; exact hy⟩, ⟨z'', ?_, ⟨w1, w2, ?_⟩, ?_, ?_⟩, fun c hcm => ?_⟩
    · exact (sb.2 _ D.TIz).trans (hk _ _ D.TIz D.TITO D.TIi1 D.TIi2 hTI)
    · exact (sb.2 _ D.TOz).trans TO'
    · exact s1'.1.at fun o q => (sb.2 _ D.zi1.symm).trans q
    · exact s2'.1.at fun o q => (sb.2 _ D.zi2.symm).trans q
    · have hlt : c < s.heap.objs.size := by
        have e' : c = z ∨ c = TI ∨ c = TO ∨ c = i1 ∨ c = i2 := by simpa using hcm
        rcases e' with q | q | q | q | q
        · rw [q]; exact hzl
        · rw [q]; exact Heap.lt_size hTI
        · rw [q]; exact Heap.lt_size hTO
        · rw [q]; exact h1.lt
        · rw [q]; exact h2.lt
      rw [upd_ne (Nat.ne_of_lt hlt)]
      exact (hf c hcm).1
  done := by
    intro X hP hw hK hc i pins s σ H E I hf st hg
    subst hP hw hK
    obtain ⟨hz, hTI, ⟨x0, y0, hTO⟩, h1, h2⟩ := st
    obtain ⟨xs, ys, hqx, hqy, l1, l2, l3⟩ := hg
    obtain ⟨its, rv, p⟩ := seqK I hqx
    obtain ⟨its2, rv2, p2⟩ := seqK I hqy
    have e1 : its.toArray.size = xs.length := by rw [rv.length]; simp
    have e2 : its2.toArray.size = ys.length := by rw [rv2.length]; simp
    exact wpAny_pyNext_zipD2_end D (drawsK (prog := X.prog) (w := X.w) (A := X.A.in1) (I.ok.hd hc) t i1 a na its.toArray) (drawsK (prog := X.prog) (w := X.w) (A := X.A.in1) (I.ok.hd hc) u i2 b nb its2.toArray) hz hTI hTO ⟨h1, p⟩ ⟨h2, p2⟩ (by omega) (by omega) (by omega)
      fun h' tk hk => ⟨rfl, I.turnedL (t' := tk) (ch := [z, TI, TO, i1, i2]) (fun c o hb q =>
      hk c o (fun q' => hb (by simp [q'])) (fun q' => hb (by simp [q'])) (fun q' => hb (by simp [q'])) (fun q' => hb (by simp [q'])) q) hf⟩
  self := fun A i s Q E st h => wpAny_pyIter_zip st.1 h

def iZip2 (t u : Bool) (K : PySem.W.Frag) (ta : TA) : TI := fun σ H R => ta σ H fun vs H1 => ∃ a b xs ys, vs = [.ref a, .ref b] ∧ SqK t K H1 a xs ∧ SqK u K H1 b ys ∧ R (Itz2 t u K a b) H1
theorem pi_zip2 {X : Cx} {e e2 : Expr} {ta : TA} {p pos tpos : Pos} {elts : List Expr} {kk : Nat} (t u : Bool) (hg : Gl X "zip") (hm : X.mg "zip" = none) (ha : PA X [e, e2] ta)
    (hs : starEach [e, e2] X.env = (false, eval e X.env) :: starEach [e2] X.env := by rfl) (hpl : (backTo pos (starEach [e2] X.env)).any (·.1) = false := by rfl) :
    PI X (.Tuple elts kk tpos) (.Call (.Name "zip" p) [e, e2] [] pos) (iZip2 t u X.K ta) := by
  refine ⟨fun pins s σ H R I h => ?_⟩
  refine Call_ (ld_blt I hg hm PyProof.Rows.boot_zip (PyProof.Rows.callWith_type1 (thn (ha.run pos pins s σ H _ I h) fun us s1 ⟨vs, H1, I1, r1, q1⟩ => ?_) hs hpl))
  obtain ⟨a, b, xs, ys, ex, hqx, hqy, q⟩ := q1
  subst ex
  cases r1 with
  | cons r rr =>
    cases rr with
    | cons r' rr =>
      cases rr
      cases r
      cases r'
      have fresh5 : ∀ c, c ∈ [s1.heap.objs.size + 4, s1.heap.objs.size + 2, s1.heap.objs.size + 3, s1.heap.objs.size, s1.heap.objs.size + 1] → FpOk X pins H1 c := fun c hcm => by
        have e' : c = s1.heap.objs.size + 4 ∨ c = s1.heap.objs.size + 2 ∨ c = s1.heap.objs.size + 3 ∨ c = s1.heap.objs.size ∨ c = s1.heap.objs.size + 1 := by simpa using hcm
        have hle : s1.heap.objs.size ≤ c := by
          rcases e' with z | z | z | z | z
          · rw [z]; exact Nat.le_add_right _ _
          · rw [z]; exact Nat.le_add_right _ _
          · rw [z]; exact Nat.le_add_right _ _
          · rw [z]; exact Nat.le_refl _
          · rw [z]; exact Nat.le_add_right _ _
        exact I1.fpOk hle (I1.hok.fresh hle)
      obtain ⟨its, rv, p1⟩ := seqK I1 hqx
      obtain ⟨its2, rv2, p2⟩ := seqK I1 hqy
      refine zip_begins2 (begK t a its.toArray) (begK u b its2.toArray) p1 p2 fun h' hz hTI hTO h1 h2 hsz hk => wpAny_pyIter_zip hz ?_
      have I2 : Inv X pins σ H1 { s1 with heap := h' } := I1.kept (t' := s1.toks) hk
      have la := p1.lt
      have lb := p2.lt
      exact ⟨s1.heap.objs.size + 4, [s1.heap.objs.size + 4, s1.heap.objs.size + 2, s1.heap.objs.size + 3, s1.heap.objs.size, s1.heap.objs.size + 1], _, _, H1, rfl, I2,
        turn_zip2 (zip_sep2 (fp1 := [a]) (fp2 := [b]) (fun c hc => by rw [List.mem_singleton] at hc; rw [hc]; exact la) (fun c hc => by rw [List.mem_singleton] at hc; rw [hc]; exact lb)) (Nat.ne_of_lt la) (Nat.ne_of_lt (Nat.lt_succ_of_lt lb)),
        ⟨hz, hTI, ⟨_, _, hTO⟩, newK h1, newK h2⟩, fresh5, q⟩

/-! ### enumerate -/
theorem meets_enum1 {v : Value} {o : Obj} {H : Heap → Prop} (B : Begins v o H) :
    Meets (Builtin.«enumerate.__new__» ⟨[.type "enumerate", v], []⟩) (fun _ R s => H s.heap ∧
      R (.ok (.ret (.ref (s.heap.push o).objs.size))) { s with heap := (s.heap.push o).push { cls := .type "enumerate", data := .fields #[.none, .bool false, .ref s.heap.objs.size, rawInt 0, .none, .none] } }) :=
  .of_wp fun prog w A R s h => by
    obtain ⟨hp, g, d, tk, os⟩ := s; obtain ⟨h1, h⟩ := h
    have hsub := sub_enumerate
    have q1 : ∀ {A' : Around} {E : Value → Shared → Prop} {Q : Value → Shared → Prop}, Q (.ref hp.objs.size) ⟨hp.push o, g, d, tk, os⟩ → wpAny (model prog w) A' (pyIter v) Q E ⟨hp, g, d, tk, os⟩ :=
      fun q => B.iter prog w _ _ ⟨hp, g, d, tk, os⟩ _ h1 q
    wp_walk using q1
    refine wpAny_stack_any fun st => wpAny_pure ?_
    split
    · rename_i c _ _ _ _ _
      cases (c == Value.type "enumerate")
      · wp_walk using q1
        exact ⟨_, rfl, h⟩
      · wp_walk using q1
        exact ⟨_, rfl, h⟩
    · wp_walk using q1
      exact ⟨_, rfl, h⟩
theorem call_enumK {prog : Program} {w : World} {A : Around} {E : Value → Shared → Prop} {s : Shared} {v : Value} {o : Obj} {H : Heap → Prop} {Q : Value → Shared → Prop} (B : Begins v o H) (h1 : H s.heap)
    (h : ∀ h', IsEnum h' (s.heap.objs.size + 1) s.heap.objs.size 0 .none → h'.get? s.heap.objs.size = some o → h'.objs.size = s.heap.objs.size + 2 →
      (∀ b o, s.heap.get? b = some o → h'.get? b = some o) → Q (.ref (s.heap.objs.size + 1)) { s with heap := h' }) :
    wpAny (model prog w) A (call (.type "enumerate") [v]) Q E s := by
  refine callType_new F.called_enumerate (by decide) (F.typeCall_enumerate_1 _) (F.newCall_enumerate_1 _) (fun obj => F.args_object_init_2 obj _) F.entry_enumerate_new (meets_enum1 B) ⟨h1, ?_⟩
  have hz : (s.heap.push o).objs.size = s.heap.objs.size + 1 := Heap.size_push ..
  show _ ∧ _
  rw [hz]
  have he : IsEnum ((s.heap.push o).push { cls := .type "enumerate", data := .fields #[.none, .bool false, .ref s.heap.objs.size, rawInt 0, .none, .none] }) (s.heap.objs.size + 1) s.heap.objs.size 0 .none := by
    have := Heap.get?_push_size (s.heap.push o) (o := { cls := .type "enumerate", data := .fields #[.none, .bool false, .ref s.heap.objs.size, rawInt 0, .none, .none] }) rfl
    rw [hz] at this; exact this
  refine ⟨⟨_, he, rfl⟩, h _ he (Heap.get?_push_of_some _ (Heap.get?_push_size _ B.free)) (by rw [Heap.size_push, hz]) fun b o x => Heap.get?_push_of_some _ (Heap.get?_push_of_some _ x)⟩
def Ite2 (t : Bool) (K : PySem.W.Frag) (a : Addr) : It :=
  ⟨fun i H => ∃ (xs : List V) (x : V), SqK t K H a xs ∧ xs[i]? = some x, fun i H v H' => ∃ T x, v = .ref T ∧ H T = none ∧ H' = upd H T (.tup [.int (i : Nat), x]) ∧ ∀ xs, SqK t K H a xs → xs[i]? = some x, fun i H => ∃ xs : List V, SqK t K H a xs ∧ xs.length = i⟩
theorem turn_enum2 {P : Program} {w : World} {K : PySem.W.Frag} {elts : List Expr} {kk : Nat} {tpos : Pos} {t : Bool} {a e it : Addr} (na : a ≠ it) (nea : e ≠ a) (nei : e ≠ it) :
    Turn P w K (.Tuple elts kk tpos) (Ite2 t K a) [e, it] e (fun i h => (∃ old, IsEnum h e it ((i : Nat) : Int) old) ∧ ItAt t h it a i) where
  mem := by simp
  obj := fun i h st b hb => by
    obtain ⟨⟨old, he⟩, h1⟩ := st
    have e' : b = e ∨ b = it := by simpa using hb
    rcases e' with z | z
    · rw [z]; exact ⟨_, he, fun v q => nomatch q⟩
    · rw [z]; exact h1.cell
  keep := fun i h h' st k => let ⟨⟨old, he⟩, hi⟩ := st; ⟨⟨old, k e (by simp) _ he⟩, hi.at fun o q => k it (by simp) o q⟩
  item := by
    intro X hP hw hK hc i pins s σ H E I hf st hg
    subst hP hw hK
    obtain ⟨⟨old, he⟩, hit⟩ := st
    obtain ⟨xs, x, hq, hx⟩ := hg
    obtain ⟨its, rv, p⟩ := seqK I hq
    obtain ⟨u, hu, ru⟩ := rv.get hx
    have hel : e < s.heap.objs.size := Heap.lt_size he
    have hil := hit.lt
    have hl1 : i < its.toArray.size := (Array.getElem?_eq_some_iff.mp (by simpa using hu)).1
    refine wpAny_pyNext_enum_itemD (drawsK (prog := X.prog) (w := X.w) (A := X.A.in1) (I.ok.hd hc) t it a na its.toArray) he ⟨hit, p⟩ hl1 nei (by simp [nei, nea]) fun w1 h' tk g1 ho st' hT hsz hk => ?_
    have e1 : w1 = u := by
      have : its[i]? = some w1 := by simpa using g1
      rw [hu] at this; exact (Option.some.inj this).symm
    subst e1
    refine ⟨_, rfl, wpAny_letOwnedTupleGo_enum (s := { s with heap := h', toks := tk + 1 }) ho fun h'' he' sb => ?_⟩
    have hT2 : h''.get? s.heap.objs.size = some { cls := .type "tuple", data := .seq #[.int i tk, w1] } := (sb.2 _ (Nat.ne_of_gt hel)).trans hT
    have new : ObjOk X.prog X.w (upd H s.heap.objs.size (.tup [.int (i : Nat), x])) h'' s.heap.objs.size (.tup [.int (i : Nat), x]) :=
      ⟨by show 2 ≤ sizeLine; decide, [.int i tk, w1], .cons ⟨_, rfl⟩ (.cons ru .nil), ⟨_, hT2, rfl, _, rfl⟩⟩
    have I1 : Inv X pins σ (upd H s.heap.objs.size (.tup [.int (i : Nat), x])) { s with heap := h'', toks := tk + 1 } :=
      I.turnedNew (t' := tk + 1) (ch := [e, it]) (fun b ob hb q => (sb.2 b (fun z => hb (by simp [z]))).trans (hk b ob (fun z => hb (by simp [z])) (fun z => hb (by simp [z])) q)) hf (Nat.le_refl _) new
    refine ⟨.ref s.heap.objs.size, _, I1, rfl, ⟨_, x, rfl, I.hok.fresh (Nat.le_refl _), rfl, fun ys hy => by rw [seqK_inj I hy hq]; exact hx⟩, ⟨⟨w1, ?_⟩, st'.1.at fun o q => (sb.2 it (Ne.symm nei)).trans q⟩, fun b hb => ?_⟩
    · have e1 : ((i + 1 : Nat) : Int) = (i : Int) + 1 := by omega
      rw [e1]; exact he'
    · have hb' : b < s.heap.objs.size := by
        have e' : b = e ∨ b = it := by simpa using hb
        rcases e' with z | z
        · rw [z]; exact hel
        · rw [z]; exact hil
      rw [upd_ne (Nat.ne_of_lt hb')]
      exact (hf b hb).1
  done := by
    intro X hP hw hK hc i pins s σ H E I hf st hg
    subst hP hw hK
    obtain ⟨⟨old, he⟩, hit⟩ := st
    obtain ⟨xs, hq, hx⟩ := hg
    obtain ⟨its, rv, p⟩ := seqK I hq
    obtain ⟨f0, f1, f2, f3, f4, f5⟩ := hf it (by simp)
    have e1 : its.toArray.size = i := by rw [← hx, rv.length]; simp
    subst e1
    exact wpAny_pyNext_enum_endD (drawsK (prog := X.prog) (w := X.w) (A := X.A.in1) (I.ok.hd hc) t it a na its.toArray) he ⟨hit, p⟩ fun h' eb => ⟨rfl, I.turned (t' := s.toks) (fun b o hb q => eb b o hb q) f0 f1 f3 f4 f5⟩
  self := fun A i s Q E st h => let ⟨⟨_, he⟩, _⟩ := st; wpAny_pyIter_enum he h
def iEnum2 (t : Bool) (K : PySem.W.Frag) (ta : TA) : TI := fun σ H R => ta σ H fun vs H1 => ∃ a xs, vs = [.ref a] ∧ SqK t K H1 a xs ∧ R (Ite2 t K a) H1
theorem pi_enum2 {X : Cx} {e : Expr} {ta : TA} {p pos tpos : Pos} {elts : List Expr} {kk : Nat} (t : Bool) (hg : Gl X "enumerate") (hm : X.mg "enumerate" = none) (ha : PA X [e] ta) (hs : starEach [e] X.env = [(false, eval e X.env)] := by rfl) :
    PI X (.Tuple elts kk tpos) (.Call (.Name "enumerate" p) [e] [] pos) (iEnum2 t X.K ta) := by
  refine ⟨fun pins s σ H R I h => ?_⟩
  refine Call_ (ld_blt I hg hm boot_enumerate (PyProof.Rows.callWith_type1 (thn (ha.run pos pins s σ H _ I h) fun us s1 ⟨vs, H1, I1, r1, q1⟩ => ?_) hs rfl))
  obtain ⟨a, xs, ex, hq, q⟩ := q1
  subst ex
  cases r1 with
  | cons r rr =>
    cases rr
    cases r
    obtain ⟨its, rv, p'⟩ := seqK I1 hq
    have la := p'.lt
    refine call_enumK (begK t a its.toArray) p' fun h' he hit hsz hk => wpAny_pyIter_enum he ?_
    have I2 : Inv X pins σ H1 { s1 with heap := h' } := I1.kept (t' := s1.toks) hk
    refine ⟨s1.heap.objs.size + 1, [s1.heap.objs.size + 1, s1.heap.objs.size], _, _, H1, rfl, I2, turn_enum2 (Nat.ne_of_lt la) (Nat.ne_of_gt (Nat.lt_succ_of_lt la)) (Nat.succ_ne_self _), ⟨⟨.none, he⟩, newK hit⟩, fun b hb => ?_, q⟩
    have e' : b = s1.heap.objs.size + 1 ∨ b = s1.heap.objs.size := by simpa using hb
    have hle : s1.heap.objs.size ≤ b := by
      rcases e' with z | z
      · rw [z]; exact Nat.le_add_right _ _
      · rw [z]; exact Nat.le_refl _
    exact I1.fpOk hle (I1.hok.fresh hle)

/-! ### of data -/
section
variable {K : Fg} {F : Addr → Prop} {H0 : Hp} {M M' : Addr → Prop} {ρ ρ' : List Addr} {S S' : CH} {σd σd' : Env} {σ σ' : L2.St} {H H' : Hp}
/-- t: which kind -/
def isTup : D → Bool
  | .tup _ => true
  | _ => false
theorem srcK {d : D} {v : V} {ds : List D} (r : RB K M ρ H d v) (h : seq? d = some ds) :
    ∃ a xs As, v = .ref a ∧ (∀ z ∈ As, M z ∧ z ∉ ρ) ∧ SqK (isTup d) K.fr H a xs ∧ SeqAtD K ρ M H As (fun H xs => SqK (isTup d) K.fr H a xs) ds xs := by
  rcases r with r | ⟨a, rfl, ma, na, ow⟩
  · cases r with
    | @tup a xs _ t rs => cases h; exact ⟨a, xs, [], rfl, fun _ h => absurd h (by simp), t.sq, seq_tup t rs⟩
    | @lst a xs _ t rs => cases h; exact ⟨a, xs, [], rfl, fun _ h => absurd h (by simp), t.sq, seq_lst t rs⟩
    | _ => cases h
  · cases d with
    | lst es => obtain ⟨xs, hx, rs⟩ := ow; cases h; exact ⟨a, xs, [a], rfl, fun z hz => by rw [List.mem_singleton] at hz; subst hz; exact ⟨ma, na⟩, SqL.of hx, seq_own hx rs⟩
    | dct _ _ => cases h
    | _ => exact ow.elim
theorem srcKV {d : D} {v : V} {ds : List D} (r : RV K M ρ H d v) (h : seq? d = some ds) :
    ∃ a xs, v = .ref a ∧ SqK (isTup d) K.fr H a xs ∧ SeqAtD K ρ M H [] (fun H xs => SqK (isTup d) K.fr H a xs) ds xs := by
  cases r with
  | @tup a xs _ t rs => cases h; exact ⟨a, xs, rfl, t.sq, seq_tup t rs⟩
  | @lst a xs _ t rs => cases h; exact ⟨a, xs, rfl, t.sq, seq_lst t rs⟩
  | _ => cases h
theorem walkZ2 {t u : Bool} {a b : Addr} {A1 A2 : List Addr} {xs ys : List V} {ds es : List D} (q1 : SeqAtD K ρ M H A1 (fun H xs => SqK t K.fr H a xs) ds xs) (q2 : SeqAtD K ρ M H A2 (fun H xs => SqK u K.fr H b xs) es ys) :
    WalkD K (Itz2 t u K.fr a b) ((ds.zip es).map fun p => .tup [p.1, p.2]) (A1 ++ A2) ρ M H :=
  walkZ q1 q2 (fun i H2 x y p1 p2 h1 h2 => ⟨xs, ys, x, y, p1, p2, h1, h2⟩) (fun i H2 v H3 p1 p2 ⟨T, x, y, e, hT, e3, f1, f2⟩ => ⟨T, x, y, e, hT, e3, f1 xs p1, f2 ys p2⟩)
    fun H2 p1 p2 => ⟨xs, ys, p1, p2, by omega, by omega, by omega⟩
theorem walkE2 {t : Bool} {a : Addr} {A1 : List Addr} {xs : List V} {ds : List D} (q1 : SeqAtD K ρ M H A1 (fun H xs => SqK t K.fr H a xs) ds xs) :
    WalkD K (Ite2 t K.fr a) (ds.zipIdx.map fun p => .tup [.int p.2, p.1]) A1 ρ M H := by
  intro ρ2 M2 H2 st tr eq
  have h1 := q1.at_ ρ2 M2 H2 st eq
  refine ⟨fun i d hd => ?_, ?_⟩
  · rw [List.getElem?_map, List.getElem?_zipIdx] at hd
    obtain ⟨p, hp, rfl⟩ := Option.map_eq_some_iff.mp hd
    obtain ⟨z, hz, rfl⟩ := Option.map_eq_some_iff.mp hp
    obtain ⟨v, hv, rv⟩ := q1.rs.get hz
    refine ⟨⟨xs, v, h1, hv⟩, fun x H3 ⟨T, x', e, hT, e3, f1⟩ => ?_⟩
    subst e e3
    have e4 := f1 xs h1
    rw [hv] at e4; cases e4
    refine ⟨.inr ⟨T, _, hT, rfl⟩, ?_⟩
    have e5 : ((0 + i : Nat) : Int) = (i : Int) := by omega
    show RV K M2 ρ2 _ (.tup [.int ((0 + i : Nat) : Int), z]) _
    rw [e5]
    exact pair_rv hT tr (.int _) (rv.stay st)
  · rw [List.length_map, List.length_zipIdx, q1.rs.length]
    exact ⟨xs, h1, rfl⟩
end
section
variable {X : Cx} {e e2 : Expr} {p pos tpos : Pos} {elts : List Expr} {kk : Nat} {ma mb : Env → Cm D}
theorem PA2 {ta tb : TE} (h1 : PE X e ta) (h2 : PE X e2 tb) (hs : nost e = true) (hs2 : nost e2 = true) : PA X [e, e2] (tCons ta (tCons tb tNil)) := pa_cons h1 (pa_cons h2 pa_nil (starEach_no hs2)) (starEach_no hs)
theorem star1 (hs2 : nost e2 = true) : (backTo pos (starEach [e2] X.env)).any (·.1) = false := star_any (by simp [hs2])
theorem i_zipB (hg : Gl X "zip") (hm : X.mg "zip" = none) (h1 : PE X e (tB (kx X) ma)) (h2 : PE X e2 (tB (kx X) mb)) (hs : nost e = true) (hs2 : nost e2 = true) :
    PI X (.Tuple elts kk tpos) (.Call (.Name "zip" p) [e, e2] [] pos) (tI (kx X) true fun σ => do
        let x ← ma σ
        let y ← mb σ
        let xs ← Cm.lift (seq? x)
        let ys ← Cm.lift (seq? y)
        pure ((xs.zip ys).map fun p => .tup [p.1, p.2])) := by
  have base := fun t u => pi_zip2 (X := X) (p := p) (pos := pos) (tpos := tpos) (elts := elts) (kk := kk) t u hg hm (PA2 h1 h2 hs hs2) (starEach_no hs) (star1 hs2)
  refine ⟨fun pins s σ H R I hh => ?_⟩
  obtain ⟨F, H0, ρ, M, S, σd, d, S', r, e, q⟩ := hh
  obtain ⟨x, S1, e1, e⟩ := bind_ok e
  obtain ⟨y, S2, e2, e⟩ := bind_ok e
  obtain ⟨xs, S3, e3, e⟩ := bind_ok e
  obtain ⟨ys, S4, e4, e⟩ := bind_ok e
  obtain ⟨e3', rfl⟩ := lift_ok e3
  obtain ⟨e4', rfl⟩ := lift_ok e4
  obtain ⟨rfl, rfl⟩ := pure_ok e
  refine (base (isTup x) (isTup y)).run pins s σ H R I ?_
  refine ⟨F, H0, ρ, M, S, σd, x, S1, r, e1, fun v ρ1 M1 H1 r1 x1 v1 => ?_⟩
  refine ⟨F, H0, ρ1, M1, S1, σd, y, S2, r1, e2, fun u ρ2 M2 H2 r2 x2 v2 => ?_⟩
  obtain ⟨a, us, A1, rfl, h1, h2, h3⟩ := srcK (v1.ext x2) e3'
  obtain ⟨b, vs, A2, rfl, g1, g2, g3⟩ := srcK v2 e4'
  refine ⟨a, b, us, vs, rfl, h2, g2, q _ (A1 ++ A2) ρ2 M2 H2 r2 (x1.trans x2) (fun z hz => ?_) (fun z => by cases z) (walkZ2 h3 g3)⟩
  rcases List.mem_append.mp hz with hz | hz
  · exact h1 z hz
  · exact g1 z hz
theorem i_zipV (hg : Gl X "zip") (hm : X.mg "zip" = none) (h1 : PE X e (tV (kx X) ma)) (h2 : PE X e2 (tV (kx X) mb)) (hs : nost e = true) (hs2 : nost e2 = true) :
    PI X (.Tuple elts kk tpos) (.Call (.Name "zip" p) [e, e2] [] pos) (tI (kx X) false fun σ => do
        let x ← ma σ
        let y ← mb σ
        let xs ← Cm.lift (seq? x)
        let ys ← Cm.lift (seq? y)
        pure ((xs.zip ys).map fun p => .tup [p.1, p.2])) := by
  have base := fun t u => pi_zip2 (X := X) (p := p) (pos := pos) (tpos := tpos) (elts := elts) (kk := kk) t u hg hm (PA2 h1 h2 hs hs2) (starEach_no hs) (star1 hs2)
  refine ⟨fun pins s σ H R I hh => ?_⟩
  obtain ⟨F, H0, ρ, M, S, σd, d, S', r, e, q⟩ := hh
  obtain ⟨x, S1, e1, e⟩ := bind_ok e
  obtain ⟨y, S2, e2, e⟩ := bind_ok e
  obtain ⟨xs, S3, e3, e⟩ := bind_ok e
  obtain ⟨ys, S4, e4, e⟩ := bind_ok e
  obtain ⟨e3', rfl⟩ := lift_ok e3
  obtain ⟨e4', rfl⟩ := lift_ok e4
  obtain ⟨rfl, rfl⟩ := pure_ok e
  refine (base (isTup x) (isTup y)).run pins s σ H R I ?_
  refine ⟨F, H0, ρ, M, S, σd, x, S1, r, e1, fun v ρ1 M1 H1 r1 x1 v1 => ?_⟩
  refine ⟨F, H0, ρ1, M1, S1, σd, y, S2, r1, e2, fun u ρ2 M2 H2 r2 x2 v2 => ?_⟩
  obtain ⟨a, us, rfl, h2, h3⟩ := srcKV (v1.ext x2) e3'
  obtain ⟨b, vs, rfl, g2, g3⟩ := srcKV v2 e4'
  exact ⟨a, b, us, vs, rfl, h2, g2, q _ [] ρ2 M2 H2 r2 (x1.trans x2) (fun _ h => absurd h (by simp)) (fun _ => rfl) (walkZ2 h3 g3)⟩
theorem i_enumB (hg : Gl X "enumerate") (hm : X.mg "enumerate" = none) (h1 : PE X e (tB (kx X) ma)) (hs : nost e = true) :
    PI X (.Tuple elts kk tpos) (.Call (.Name "enumerate" p) [e] [] pos) (tI (kx X) true fun σ => do
        let x ← ma σ
        let xs ← Cm.lift (seq? x)
        pure (xs.zipIdx.map fun p => .tup [.int p.2, p.1])) := by
  have base := fun t => pi_enum2 (X := X) (p := p) (pos := pos) (tpos := tpos) (elts := elts) (kk := kk) t hg hm (pa_cons h1 pa_nil (starEach_no hs)) (starEach_no hs)
  refine ⟨fun pins s σ H R I hh => ?_⟩
  obtain ⟨F, H0, ρ, M, S, σd, d, S', r, e, q⟩ := hh
  obtain ⟨x, S1, e1, e⟩ := bind_ok e
  obtain ⟨xs, S3, e3, e⟩ := bind_ok e
  obtain ⟨e3', rfl⟩ := lift_ok e3
  obtain ⟨rfl, rfl⟩ := pure_ok e
  refine (base (isTup x)).run pins s σ H R I ?_
  refine ⟨F, H0, ρ, M, S, σd, x, S1, r, e1, fun v ρ1 M1 H1 r1 x1 v1 => ?_⟩
  obtain ⟨a, us, A1, rfl, h1, h2, h3⟩ := srcK v1 e3'
  exact ⟨a, us, rfl, h2, q _ A1 ρ1 M1 H1 r1 x1 h1 (fun z => by cases z) (walkE2 h3)⟩
theorem i_enumV (hg : Gl X "enumerate") (hm : X.mg "enumerate" = none) (h1 : PE X e (tV (kx X) ma)) (hs : nost e = true) :
    PI X (.Tuple elts kk tpos) (.Call (.Name "enumerate" p) [e] [] pos) (tI (kx X) false fun σ => do
        let x ← ma σ
        let xs ← Cm.lift (seq? x)
        pure (xs.zipIdx.map fun p => .tup [.int p.2, p.1])) := by
  have base := fun t => pi_enum2 (X := X) (p := p) (pos := pos) (tpos := tpos) (elts := elts) (kk := kk) t hg hm (pa_cons h1 pa_nil (starEach_no hs)) (starEach_no hs)
  refine ⟨fun pins s σ H R I hh => ?_⟩
  obtain ⟨F, H0, ρ, M, S, σd, d, S', r, e, q⟩ := hh
  obtain ⟨x, S1, e1, e⟩ := bind_ok e
  obtain ⟨xs, S3, e3, e⟩ := bind_ok e
  obtain ⟨e3', rfl⟩ := lift_ok e3
  obtain ⟨rfl, rfl⟩ := pure_ok e
  refine (base (isTup x)).run pins s σ H R I ?_
  refine ⟨F, H0, ρ, M, S, σd, x, S1, r, e1, fun v ρ1 M1 H1 r1 x1 v1 => ?_⟩
  obtain ⟨a, us, rfl, h2, h3⟩ := srcKV v1 e3'
  exact ⟨a, us, rfl, h2, q _ [] ρ1 M1 H1 r1 x1 (fun _ h => absurd h (by simp)) (fun _ => rfl) (walkE2 h3)⟩
end
end Cl

set_option Elab.async false
set_option linter.all false
set_option maxRecDepth 100000
/-! SoundZ3: zip of three lists or tuples of either kind. -/
namespace Cl
open PySem PySem.Spec PyProof.Rows L2

def Itz3 (t u r : Bool) (K : PySem.W.Frag) (a b c : Addr) : It :=
  ⟨fun i H => ∃ (xs ys zs : List V) (x y z : V), SqK t K H a xs ∧ SqK u K H b ys ∧ SqK r K H c zs ∧ xs[i]? = some x ∧ ys[i]? = some y ∧ zs[i]? = some z,
    fun i H v H' => ∃ T x y z, v = .ref T ∧ H T = none ∧ H' = upd H T (.tup [x, y, z]) ∧ (∀ xs, SqK t K H a xs → xs[i]? = some x) ∧ (∀ ys, SqK u K H b ys → ys[i]? = some y) ∧ ∀ zs, SqK r K H c zs → zs[i]? = some z,
    fun i H => ∃ xs ys zs : List V, SqK t K H a xs ∧ SqK u K H b ys ∧ SqK r K H c zs ∧ (i ≤ xs.length ∧ i ≤ ys.length ∧ i ≤ zs.length ∧ (xs.length = i ∨ ys.length = i ∨ zs.length = i))⟩
theorem turn_zip3 {P : Program} {w : World} {K : PySem.W.Frag} {elts : List Expr} {kk : Nat} {tpos : Pos} {t u r : Bool} {a b c z TI TO i1 i2 i3 : Addr} (D : ZipSep3 z TI TO i1 i2 i3 [i1, a] [i2, b] [i3, c]) (na : a ≠ i1) (nb : b ≠ i2) (nc : c ≠ i3) :
    Turn P w K (.Tuple elts kk tpos) (Itz3 t u r K a b c) [z, TI, TO, i1, i2, i3] z (fun i h => IsZip h z TI TO .none ∧ IsTupOf3 h TI (.ref i1) (.ref i2) (.ref i3) ∧ (∃ x y v, IsTupOf3 h TO x y v) ∧ ItAt t h i1 a i ∧ ItAt u h i2 b i ∧ ItAt r h i3 c i) where
  mem := by simp
  obj := fun i h st c' hc => by
    obtain ⟨hz, hTI, ⟨x, y, v, hTO⟩, h1, h2, h3⟩ := st
    have e' : c' = z ∨ c' = TI ∨ c' = TO ∨ c' = i1 ∨ c' = i2 ∨ c' = i3 := by simpa using hc
    rcases e' with q | q | q | q | q | q
    · rw [q]; exact ⟨_, hz, fun v q => nomatch q⟩
    · rw [q]; exact ⟨_, hTI, fun v q => nomatch q⟩
    · rw [q]; exact ⟨_, hTO, fun v q => nomatch q⟩
    · rw [q]; exact h1.cell
    · rw [q]; exact h2.cell
    · rw [q]; exact h3.cell
  keep := fun i h h' st k => by
    obtain ⟨hz, hTI, ⟨x, y, v, hTO⟩, h1, h2, h3⟩ := st
    exact ⟨k z (by simp) _ hz, k TI (by simp) _ hTI, ⟨x, y, v, k TO (by simp) _ hTO⟩, h1.at fun o q => k i1 (by simp) o q, h2.at fun o q => k i2 (by simp) o q, h3.at fun o q => k i3 (by simp) o q⟩
  item := by
    intro X hP hw hK hc i pins s σ H E I hf st hg
    subst hP hw hK
    obtain ⟨hz, hTI, ⟨x0, y0, v0, hTO⟩, h1, h2, h3⟩ := st
    obtain ⟨xs, ys, zs, x, y, v, hqx, hqy, hqz, hx, hy, hv⟩ := hg
    obtain ⟨its, rv, p⟩ := seqK I hqx
    obtain ⟨its2, rv2, p2⟩ := seqK I hqy
    obtain ⟨its3, rv3, p3⟩ := seqK I hqz
    obtain ⟨v1, hu, ru⟩ := rv.get hx
    obtain ⟨v2, hu2, ru2⟩ := rv2.get hy
    obtain ⟨v3, hu3, ru3⟩ := rv3.get hv
    have hzl : z < s.heap.objs.size := Heap.lt_size hz
    have hl1 : i < its.toArray.size := (Array.getElem?_eq_some_iff.mp (by simpa using hu)).1
    have hl2 : i < its2.toArray.size := (Array.getElem?_eq_some_iff.mp (by simpa using hu2)).1
    have hl3 : i < its3.toArray.size := (Array.getElem?_eq_some_iff.mp (by simpa using hu3)).1
    refine wpAny_pyNext_zipD3_item D (drawsK (prog := X.prog) (w := X.w) (A := X.A.in1) (I.ok.hd hc) t i1 a na its.toArray) (drawsK (prog := X.prog) (w := X.w) (A := X.A.in1) (I.ok.hd hc) u i2 b nb its2.toArray) (drawsK (prog := X.prog) (w := X.w) (A := X.A.in1) (I.ok.hd hc) r i3 c nc its3.toArray) hz hTI hTO ⟨h1, p⟩ ⟨h2, p2⟩ ⟨h3, p3⟩ hl1 hl2 hl3
      fun w1 w2 w3 h' tk g1 g2 g3 z' TO' s1' s2' s3' hT hsz hk => ?_
    have e1 : w1 = v1 := by
      have : its[i]? = some w1 := by simpa using g1
      rw [hu] at this; exact (Option.some.inj this).symm
    have e2 : w2 = v2 := by
      have : its2[i]? = some w2 := by simpa using g2
      rw [hu2] at this; exact (Option.some.inj this).symm
    have e3 : w3 = v3 := by
      have : its3[i]? = some w3 := by simpa using g3
      rw [hu3] at this; exact (Option.some.inj this).symm
    subst e1 e2 e3
    refine ⟨_, rfl, wpAny_letOwnedTupleGo_zip (s := { s with heap := h', toks := tk }) z' fun h'' z'' sb => ?_⟩
    have hT2 : h''.get? s.heap.objs.size = some { cls := .type "tuple", data := .seq #[w1, w2, w3] } := (sb.2 _ (Nat.ne_of_gt hzl)).trans hT
    have new : ObjOk X.prog X.w (upd H s.heap.objs.size (.tup [x, y, v])) h'' s.heap.objs.size (.tup [x, y, v]) :=
      ⟨by show 3 ≤ sizeLine; decide, [w1, w2, w3], .cons ru (.cons ru2 (.cons ru3 .nil)), ⟨_, hT2, rfl, _, rfl⟩⟩
    have I1 : Inv X pins σ (upd H s.heap.objs.size (.tup [x, y, v])) { s with heap := h'', toks := tk } :=
      I.turnedNew (t' := tk) (ch := [z, TI, TO, i1, i2, i3]) (fun c o hb q => (sb.2 c (fun q' => hb (by simp [q']))).trans (hk c o (fun q' => hb (by simp [q'])) (fun q' => hb (by simp [q'])) (fun q' => hb (by simp [q'])) (fun q' => hb (by simp [q'])) (fun q' => hb (by simp [q'])) q)) hf (Nat.le_refl _) new
    refine ⟨.ref s.heap.objs.size, _, I1, rfl, ⟨_, x, y, v, rfl, I.hok.fresh (Nat.le_refl _), rfl, fun l hl => by rw [seqK_inj I hl hqx]; exact hx, fun l hl => by rw [seqK_inj I hl hqy]; exact hy, fun l hl => by rw [seqK_inj I hl hqz]; exact hv⟩, ⟨z'', ?_, ⟨w1, w2, w3, ?_⟩, ?_, ?_, ?_⟩, fun c' hcm => ?_⟩
    · exact (sb.2 _ D.TIz).trans (hk _ _ D.TIz D.TITO D.TIi1 D.TIi2 D.TIi3 hTI)
    · exact (sb.2 _ D.TOz).trans TO'
    · exact s1'.1.at fun o q => (sb.2 _ D.zi1.symm).trans q
    · exact s2'.1.at fun o q => (sb.2 _ D.zi2.symm).trans q
    · exact s3'.1.at fun o q => (sb.2 _ D.zi3.symm).trans q
    · have hlt : c' < s.heap.objs.size := by
        have e' : c' = z ∨ c' = TI ∨ c' = TO ∨ c' = i1 ∨ c' = i2 ∨ c' = i3 := by simpa using hcm
        rcases e' with q | q | q | q | q | q
        · rw [q]; exact hzl
        · rw [q]; exact Heap.lt_size hTI
        · rw [q]; exact Heap.lt_size hTO
        · rw [q]; exact h1.lt
        · rw [q]; exact h2.lt
        · rw [q]; exact h3.lt
      rw [upd_ne (Nat.ne_of_lt hlt)]
      exact (hf c' hcm).1
  done := by
    intro X hP hw hK hc i pins s σ H E I hf st hg
    subst hP hw hK
    obtain ⟨hz, hTI, ⟨x0, y0, v0, hTO⟩, h1, h2, h3⟩ := st
    obtain ⟨xs, ys, zs, hqx, hqy, hqz, l1, l2, l3, l4⟩ := hg
    obtain ⟨its, rv, p⟩ := seqK I hqx
    obtain ⟨its2, rv2, p2⟩ := seqK I hqy
    obtain ⟨its3, rv3, p3⟩ := seqK I hqz
    have e1 : its.toArray.size = xs.length := by rw [rv.length]; simp
    have e2 : its2.toArray.size = ys.length := by rw [rv2.length]; simp
    have e3 : its3.toArray.size = zs.length := by rw [rv3.length]; simp
    exact wpAny_pyNext_zipD3_end D (drawsK (prog := X.prog) (w := X.w) (A := X.A.in1) (I.ok.hd hc) t i1 a na its.toArray) (drawsK (prog := X.prog) (w := X.w) (A := X.A.in1) (I.ok.hd hc) u i2 b nb its2.toArray) (drawsK (prog := X.prog) (w := X.w) (A := X.A.in1) (I.ok.hd hc) r i3 c nc its3.toArray) hz hTI hTO ⟨h1, p⟩ ⟨h2, p2⟩ ⟨h3, p3⟩ (by omega) (by omega) (by omega) (by omega)
      fun h' tk hk => ⟨rfl, I.turnedL (t' := tk) (ch := [z, TI, TO, i1, i2, i3]) (fun c o hb q =>
      hk c o (fun q' => hb (by simp [q'])) (fun q' => hb (by simp [q'])) (fun q' => hb (by simp [q'])) (fun q' => hb (by simp [q'])) (fun q' => hb (by simp [q'])) q) hf⟩
  self := fun A i s Q E st h => wpAny_pyIter_zip st.1 h
def iZip3 (t u r : Bool) (K : PySem.W.Frag) (ta : TA) : TI := fun σ H R => ta σ H fun vs H1 => ∃ a b c xs ys zs, vs = [.ref a, .ref b, .ref c] ∧ SqK t K H1 a xs ∧ SqK u K H1 b ys ∧ SqK r K H1 c zs ∧ R (Itz3 t u r K a b c) H1
theorem pi_zip3 {X : Cx} {e e2 e3 : Expr} {ta : TA} {p pos tpos : Pos} {elts : List Expr} {kk : Nat} (t u r : Bool) (hg : Gl X "zip") (hm : X.mg "zip" = none) (ha : PA X [e, e2, e3] ta)
    (hs : starEach [e, e2, e3] X.env = (false, eval e X.env) :: starEach [e2, e3] X.env := by rfl) (hpl : (backTo pos (starEach [e2, e3] X.env)).any (·.1) = false := by rfl) :
    PI X (.Tuple elts kk tpos) (.Call (.Name "zip" p) [e, e2, e3] [] pos) (iZip3 t u r X.K ta) := by
  refine ⟨fun pins s σ H R I h => ?_⟩
  refine Call_ (ld_blt I hg hm PyProof.Rows.boot_zip (PyProof.Rows.callWith_type1 (thn (ha.run pos pins s σ H _ I h) fun us s1 ⟨vs, H1, I1, r1, q1⟩ => ?_) hs hpl))
  obtain ⟨a, b, c, xs, ys, zs, ex, hqx, hqy, hqz, q⟩ := q1
  subst ex
  cases r1 with
  | cons r0 rr =>
    cases rr with
    | cons r' rr =>
      cases rr with
      | cons r'' rr =>
        cases rr
        cases r0
        cases r'
        cases r''
        have fresh6 : ∀ c', c' ∈ [s1.heap.objs.size + 5, s1.heap.objs.size + 3, s1.heap.objs.size + 4, s1.heap.objs.size, s1.heap.objs.size + 1, s1.heap.objs.size + 2] → FpOk X pins H1 c' := fun c' hcm => by
          have e' : c' = s1.heap.objs.size + 5 ∨ c' = s1.heap.objs.size + 3 ∨ c' = s1.heap.objs.size + 4 ∨ c' = s1.heap.objs.size ∨ c' = s1.heap.objs.size + 1 ∨ c' = s1.heap.objs.size + 2 := by simpa using hcm
          have hle : s1.heap.objs.size ≤ c' := by
            rcases e' with z | z | z | z | z | z
            · rw [z]; exact Nat.le_add_right _ _
            · rw [z]; exact Nat.le_add_right _ _
            · rw [z]; exact Nat.le_add_right _ _
            · rw [z]; exact Nat.le_refl _
            · rw [z]; exact Nat.le_add_right _ _
            · rw [z]; exact Nat.le_add_right _ _
          exact I1.fpOk hle (I1.hok.fresh hle)
        obtain ⟨its, rv, p1⟩ := seqK I1 hqx
        obtain ⟨its2, rv2, p2⟩ := seqK I1 hqy
        obtain ⟨its3, rv3, p3⟩ := seqK I1 hqz
        refine zip_begins3 (begK t a its.toArray) (begK u b its2.toArray) (begK r c its3.toArray) p1 p2 p3 fun h' hz hTI hTO h1 h2 h3 hsz hk => wpAny_pyIter_zip hz ?_
        have I2 : Inv X pins σ H1 { s1 with heap := h' } := I1.kept (t' := s1.toks) hk
        have la := p1.lt
        have lb := p2.lt
        have lc := p3.lt
        exact ⟨s1.heap.objs.size + 5, [s1.heap.objs.size + 5, s1.heap.objs.size + 3, s1.heap.objs.size + 4, s1.heap.objs.size, s1.heap.objs.size + 1, s1.heap.objs.size + 2], _, _, H1, rfl, I2,
          turn_zip3 (zip_sep3 (fp1 := [a]) (fp2 := [b]) (fp3 := [c]) (fun c hc => by rw [List.mem_singleton] at hc; rw [hc]; exact la) (fun c hc => by rw [List.mem_singleton] at hc; rw [hc]; exact lb) (fun c hc => by rw [List.mem_singleton] at hc; rw [hc]; exact lc)) (Nat.ne_of_lt la) (Nat.ne_of_lt (Nat.lt_succ_of_lt lb)) (Nat.ne_of_lt (Nat.lt_succ_of_lt (Nat.lt_succ_of_lt lc))),
          ⟨hz, hTI, ⟨_, _, _, hTO⟩, newK h1, newK h2, newK h3⟩, fresh6, q⟩
section
variable {K : Fg} {F : Addr → Prop} {H0 : Hp} {M M' : Addr → Prop} {ρ ρ' : List Addr} {S S' : CH} {σd σd' : Env} {σ σ' : L2.St} {H H' : Hp}
theorem triple_rv {T : Addr} {x y z : V} {d e f : D} (hT : H T = none) (tr : ∀ a, M a → H a ≠ none) (rx : RV K M ρ H d x) (ry : RV K M ρ H e y) (rz : RV K M ρ H f z) : RV K M ρ (upd H T (.tup [x, y, z])) (.tup [d, e, f]) (.ref T) := by
  have st : Stay ρ M H ρ M (upd H T (.tup [x, y, z])) := ⟨fun a o h n => ⟨by rw [upd_ne (fun z => by subst z; rw [hT] at h; cases h)]; exact h, n⟩, fun _ _ h => h⟩
  exact .tup (.inl ⟨upd_same, fun m => tr T m hT⟩) (.cons (rx.stay st) (.cons (ry.stay st) (.cons (rz.stay st) .nil)))
theorem walkZ3 {t u r : Bool} {a b c : Addr} {A1 A2 A3 : List Addr} {xs ys zs : List V} {ds es fs : List D} (q1 : SeqAtD K ρ M H A1 (fun H xs => SqK t K.fr H a xs) ds xs) (q2 : SeqAtD K ρ M H A2 (fun H xs => SqK u K.fr H b xs) es ys) (q3 : SeqAtD K ρ M H A3 (fun H xs => SqK r K.fr H c xs) fs zs) :
    WalkD K (Itz3 t u r K.fr a b c) (zip3D ds es fs) (A1 ++ A2 ++ A3) ρ M H := by
  intro ρ2 M2 H2 st tr eq
  have h1 := q1.at_ ρ2 M2 H2 st fun a ha => eq a (List.mem_append_left _ (List.mem_append_left _ ha))
  have h2 := q2.at_ ρ2 M2 H2 st fun a ha => eq a (List.mem_append_left _ (List.mem_append_right _ ha))
  have h3 := q3.at_ ρ2 M2 H2 st fun a ha => eq a (List.mem_append_right _ ha)
  unfold zip3D
  refine ⟨fun i d hd => ?_, ?_⟩
  · rw [List.getElem?_map] at hd
    obtain ⟨p, hp, rfl⟩ := Option.map_eq_some_iff.mp hd
    obtain ⟨e1, e23⟩ := zip_get hp
    obtain ⟨e2, e3⟩ := zip_get e23
    obtain ⟨v, hv, rv⟩ := q1.rs.get e1
    obtain ⟨u', hu, ru⟩ := q2.rs.get e2
    obtain ⟨w', hw, rw'⟩ := q3.rs.get e3
    refine ⟨⟨xs, ys, zs, v, u', w', h1, h2, h3, hv, hu, hw⟩, fun x H3 ⟨T, v1, u1, w1, e, hT, eH, f1, f2, f3⟩ => ?_⟩
    subst e eH
    have g1 := f1 xs h1
    have g2 := f2 ys h2
    have g3 := f3 zs h3
    rw [hv] at g1; cases g1
    rw [hu] at g2; cases g2
    rw [hw] at g3; cases g3
    exact ⟨.inr ⟨T, _, hT, rfl⟩, triple_rv hT tr (rv.stay st) (ru.stay st) (rw'.stay st)⟩
  · rw [List.length_map, List.length_zip, List.length_zip, q1.rs.length, q2.rs.length, q3.rs.length]
    exact ⟨xs, ys, zs, h1, h2, h3, by omega, by omega, by omega, by omega⟩
end
section
variable {X : Cx} {e e2 e3 : Expr} {p pos tpos : Pos} {elts : List Expr} {kk : Nat} {ma mb mc : Env → Cm D}
theorem PA3 {ta tb tc : TE} (h1 : PE X e ta) (h2 : PE X e2 tb) (h3 : PE X e3 tc) (hs : nost e = true) (hs2 : nost e2 = true) (hs3 : nost e3 = true) : PA X [e, e2, e3] (tCons ta (tCons tb (tCons tc tNil))) := pa_cons h1 (pa_cons h2 (pa_cons h3 pa_nil (starEach_no hs3)) (starEach_no hs2)) (starEach_no hs)
theorem star2 (hs2 : nost e2 = true) (hs3 : nost e3 = true) : (backTo pos (starEach [e2, e3] X.env)).any (·.1) = false := star_any (by simp [hs2, hs3])
theorem i_zip3B (hg : Gl X "zip") (hm : X.mg "zip" = none) (h1 : PE X e (tB (kx X) ma)) (h2 : PE X e2 (tB (kx X) mb)) (h3 : PE X e3 (tB (kx X) mc)) (hs : nost e = true) (hs2 : nost e2 = true) (hs3 : nost e3 = true) :
    PI X (.Tuple elts kk tpos) (.Call (.Name "zip" p) [e, e2, e3] [] pos) (tI (kx X) true fun σ => do
        let x ← ma σ
        let y ← mb σ
        let z ← mc σ
        let xs ← Cm.lift (seq? x)
        let ys ← Cm.lift (seq? y)
        let zs ← Cm.lift (seq? z)
        pure (zip3D xs ys zs)) := by
  have base := fun t u r => pi_zip3 (X := X) (p := p) (pos := pos) (tpos := tpos) (elts := elts) (kk := kk) t u r hg hm (PA3 h1 h2 h3 hs hs2 hs3) (starEach_no hs) (star2 hs2 hs3)
  refine ⟨fun pins s σ H R I hh => ?_⟩
  obtain ⟨F, H0, ρ, M, S, σd, d, S', r, e, q⟩ := hh
  obtain ⟨x, S1, e1, e⟩ := bind_ok e
  obtain ⟨y, S2, e2, e⟩ := bind_ok e
  obtain ⟨z, S3, e3, e⟩ := bind_ok e
  obtain ⟨xs, S4, e4, e⟩ := bind_ok e
  obtain ⟨ys, S5, e5, e⟩ := bind_ok e
  obtain ⟨zs, S6, e6, e⟩ := bind_ok e
  obtain ⟨e4', rfl⟩ := lift_ok e4
  obtain ⟨e5', rfl⟩ := lift_ok e5
  obtain ⟨e6', rfl⟩ := lift_ok e6
  obtain ⟨rfl, rfl⟩ := pure_ok e
  refine (base (isTup x) (isTup y) (isTup z)).run pins s σ H R I ?_
  refine ⟨F, H0, ρ, M, S, σd, x, S1, r, e1, fun v ρ1 M1 H1 r1 x1 v1 => ?_⟩
  refine ⟨F, H0, ρ1, M1, S1, σd, y, S2, r1, e2, fun u ρ2 M2 H2 r2 x2 v2 => ?_⟩
  refine ⟨F, H0, ρ2, M2, S2, σd, z, _, r2, e3, fun u3 ρ3 M3 H3 r3 x3 v3 => ?_⟩
  obtain ⟨a, us, A1, rfl, h1, h2, h3⟩ := srcK ((v1.ext x2).ext x3) e4'
  obtain ⟨b, vs, A2, rfl, g1, g2, g3⟩ := srcK (v2.ext x3) e5'
  obtain ⟨c, ws, A3, rfl, k1, k2, k3⟩ := srcK v3 e6'
  refine ⟨a, b, c, us, vs, ws, rfl, h2, g2, k2, q _ (A1 ++ A2 ++ A3) ρ3 M3 H3 r3 ((x1.trans x2).trans x3) (fun z hz => ?_) (fun z => by cases z) (walkZ3 h3 g3 k3)⟩
  rcases List.mem_append.mp hz with hz | hz
  · rcases List.mem_append.mp hz with hz | hz
    · exact h1 z hz
    · exact g1 z hz
  · exact k1 z hz
theorem i_zip3V (hg : Gl X "zip") (hm : X.mg "zip" = none) (h1 : PE X e (tV (kx X) ma)) (h2 : PE X e2 (tV (kx X) mb)) (h3 : PE X e3 (tV (kx X) mc)) (hs : nost e = true) (hs2 : nost e2 = true) (hs3 : nost e3 = true) :
    PI X (.Tuple elts kk tpos) (.Call (.Name "zip" p) [e, e2, e3] [] pos) (tI (kx X) false fun σ => do
        let x ← ma σ
        let y ← mb σ
        let z ← mc σ
        let xs ← Cm.lift (seq? x)
        let ys ← Cm.lift (seq? y)
        let zs ← Cm.lift (seq? z)
        pure (zip3D xs ys zs)) := by
  have base := fun t u r => pi_zip3 (X := X) (p := p) (pos := pos) (tpos := tpos) (elts := elts) (kk := kk) t u r hg hm (PA3 h1 h2 h3 hs hs2 hs3) (starEach_no hs) (star2 hs2 hs3)
  refine ⟨fun pins s σ H R I hh => ?_⟩
  obtain ⟨F, H0, ρ, M, S, σd, d, S', r, e, q⟩ := hh
  obtain ⟨x, S1, e1, e⟩ := bind_ok e
  obtain ⟨y, S2, e2, e⟩ := bind_ok e
  obtain ⟨z, S3, e3, e⟩ := bind_ok e
  obtain ⟨xs, S4, e4, e⟩ := bind_ok e
  obtain ⟨ys, S5, e5, e⟩ := bind_ok e
  obtain ⟨zs, S6, e6, e⟩ := bind_ok e
  obtain ⟨e4', rfl⟩ := lift_ok e4
  obtain ⟨e5', rfl⟩ := lift_ok e5
  obtain ⟨e6', rfl⟩ := lift_ok e6
  obtain ⟨rfl, rfl⟩ := pure_ok e
  refine (base (isTup x) (isTup y) (isTup z)).run pins s σ H R I ?_
  refine ⟨F, H0, ρ, M, S, σd, x, S1, r, e1, fun v ρ1 M1 H1 r1 x1 v1 => ?_⟩
  refine ⟨F, H0, ρ1, M1, S1, σd, y, S2, r1, e2, fun u ρ2 M2 H2 r2 x2 v2 => ?_⟩
  refine ⟨F, H0, ρ2, M2, S2, σd, z, _, r2, e3, fun u3 ρ3 M3 H3 r3 x3 v3 => ?_⟩
  obtain ⟨a, us, rfl, h2, h3⟩ := srcKV ((v1.ext x2).ext x3) e4'
  obtain ⟨b, vs, rfl, g2, g3⟩ := srcKV (v2.ext x3) e5'
  obtain ⟨c, ws, rfl, k2, k3⟩ := srcKV v3 e6'
  exact ⟨a, b, c, us, vs, ws, rfl, h2, g2, k2, q _ [] ρ3 M3 H3 r3 ((x1.trans x2).trans x3) (fun _ h => absurd h (by simp)) (fun _ => rfl) (walkZ3 h3 g3 k3)⟩
end
end Cl

set_option Elab.async false
set_option linter.all false
set_option maxRecDepth 100000
/-! SoundH: comprehensions. -/
namespace Cl
open PySem PySem.Spec PyProof.Rows L2

section
variable {K : Fg} {F : Addr → Prop} {H0 : Hp} {M M' M1 : Addr → Prop} {ρ ρ' ρ1 : List Addr} {S S' : CH} {σd σd' : Env} {σ σ' : L2.St} {H H' H1 : Hp}

/-- a place of one's own that stands free: no slot, no frame, no shared object -/
structure Free (F : Addr → Prop) (ρ : List Addr) (M : Addr → Prop) (L : Addr) : Prop where
  m : M L
  n : L ∉ ρ
  f : ¬ F L

theorem RepH.poke (r : RepH K ρ M S H) {L : Addr} {o : HO} (m : M L) (nL : L ∉ ρ) : RepH K ρ M S (upd H L o) where
  len := r.len
  nd := r.nd
  mm := r.mm
  ob := fun k a co h1 h2 => (r.ob k a co h1 h2).stay ⟨fun a o h n => ⟨by rw [upd_ne (fun z => by subst z; exact n m)]; exact h, n⟩, fun _ _ h => h⟩ (upd_ne fun z => by subst z; exact nL (List.mem_of_getElem? h1))
  tr := fun a ha => by
    by_cases h : a = L
    · subst h; rw [upd_same]; exact fun z => by cases z
    · rw [upd_ne h]; exact r.tr a ha
theorem stay_poke {L : Addr} {o : HO} (m : M L) : Stay ρ M H ρ M (upd H L o) := ⟨fun a o h n => ⟨by rw [upd_ne (fun z => by subst z; exact n m)]; exact h, n⟩, fun _ _ h => h⟩
theorem Ext.poke {L : Addr} {o : HO} (x : Ext ρ1 M1 H1 ρ M H) (hD : H1 L = none) (tr : ∀ a, M1 a → H1 a ≠ none) : Ext ρ1 M1 H1 ρ M (upd H L o) := by
  refine ⟨fun a u h n => ?_, fun a m n => ?_, x.refs⟩
  · obtain ⟨h1, n1⟩ := x.keep a u h n
    exact ⟨by rw [upd_ne (fun z => by subst z; rw [hD] at h; cases h)]; exact h1, n1⟩
  · obtain ⟨h1, m1, n1⟩ := x.mine a m n
    exact ⟨by rw [upd_ne (fun z => tr a m (by rw [z]; exact hD))]; exact h1, m1, n1⟩
/-- what is not there now was not there then -/
theorem Ext.back (x : Ext ρ M H ρ' M' H') (tr : ∀ a, M' a → H' a ≠ none) (mm : ∀ a ∈ ρ', M' a) {L : Addr} (h : H' L = none) : H L = none := by
  cases hH : H L with
  | none => rfl
  | some o =>
    exfalso
    by_cases hm : M L
    · by_cases hρ : L ∈ ρ
      · obtain ⟨n, hn⟩ := List.mem_iff_getElem?.mp hρ
        exact tr L (mm L (List.mem_of_getElem? (x.refs n L hn))) h
      · exact tr L (x.mine L hm hρ).2.1 h
    · rw [(x.keep L o hH hm).1] at h; cases h
theorem wipe_eq {vs : List Nat} {σ σ2 : L2.St} (hl : σ2.length = (L2.wipe σ vs).length) (h : ∀ j, j ∉ vs → σ2[j]? = (L2.wipe σ vs)[j]?) : L2.wipe σ2 vs = L2.wipe σ vs := by
  have key : ∀ (τ : L2.St) (j : Nat), j ∈ vs → j < τ.length → (L2.wipe τ vs)[j]? = some none := by
    intro τ j
    clear h hl
    induction vs with
    | nil => intro h; cases h
    | cons v vs ih =>
      intro h hj
      unfold L2.wipe
      by_cases e : v = j
      · subst e; rw [List.getElem?_set_self (by rw [wipe_length]; exact hj)]
      · rw [List.getElem?_set_ne e]
        exact ih ((List.mem_cons.mp h).resolve_left (fun z => e z.symm)) hj
  apply List.ext_getElem?
  intro j
  by_cases hj : j ∈ vs
  · have hl' : σ2.length = σ.length := by rw [hl, wipe_length]
    by_cases hjl : j < σ.length
    · rw [key σ2 j hj (by rw [hl']; exact hjl), key σ j hj hjl]
    · rw [List.getElem?_eq_none (by rw [wipe_length, hl']; omega), List.getElem?_eq_none (by rw [wipe_length]; omega)]
  · rw [wipe_out hj, h j hj]

/-- how the new list stands at a turn -/
structure LcAt (K : Fg) (F : Addr → Prop) (ρ1 : List Addr) (M1 : Addr → Prop) (H1 : Hp) (L : Addr) (ρ : List Addr) (M : Addr → Prop) (S : CH) (H : Hp) (done : List D) : Prop where
  rh : RepH K ρ M S H
  x : Ext ρ1 M1 H1 ρ M H
  m : M L
  n : L ∉ ρ
  f : ¬ F L
  at_ : ∃ acc, H L = some (.lst acc) ∧ RVs K M ρ H done acc
theorem LcAt.app {L : Addr} {done : List D} {d : D} {v : V} {acc : List V} (l : LcAt K F ρ1 M1 H1 L ρ M S H done) (hD : H1 L = none) (tr : ∀ a, M1 a → H1 a ≠ none) (ha : H L = some (.lst acc)) (rs : RVs K M ρ H done acc) (rv : RV K M ρ H d v) :
    LcAt K F ρ1 M1 H1 L ρ M S (upd H L (.lst (acc ++ [v]))) (done ++ [d]) :=
  ⟨l.rh.poke l.m l.n, l.x.poke hD tr, l.m, l.n, l.f, _, upd_same, (rs.stay (stay_poke l.m)).append (.cons (rv.stay (stay_poke l.m)) .nil)⟩
theorem LcAt.step {L : Addr} {done : List D} (l : LcAt K F ρ1 M1 H1 L ρ M S H done) (rh : RepH K ρ' M' S' H') (x : Ext ρ M H ρ' M' H') : LcAt K F ρ1 M1 H1 L ρ' M' S' H' done := by
  obtain ⟨h1, m1, n1⟩ := x.mine L l.m l.n
  obtain ⟨acc, ha, rs⟩ := l.at_
  exact ⟨rh, l.x.trans x, m1, n1, l.f, acc, h1.trans ha, rs.ext x⟩
theorem LcAt.start {L : Addr} (r : Rep K F H0 ρ M S σd σ H) (hD : H L = none) : LcAt K F ρ M H L ρ (fun a => M a ∨ a = L) S (upd H L (.lst [])) [] := by
  obtain ⟨r2, x2, a, e, h1, h2, h3, h4, h5⟩ := new_own (xs := []) (ds := []) r hD .nil
  cases e
  exact ⟨r2.heap, x2, .inr rfl, h3, h4, [], upd_same, .nil⟩

theorem tLc_of {mi : Env → Cm (List D)} {ns vs : List Nat} {bind : D → Env → Option Env} {mt : Env → Cm Bool} {me : Env → Cm D} (sub : ∀ j ∈ ns, j ∈ vs) {Q : VK}
    (h : tF K (fun σ => do
      let xs ← mi σ
      if xs.length ≤ 1000000 then do
        let ys ← compM (fun d => bind d (σ.wipe vs)) mt me xs
        pure (.lst ys)
      else Cm.fail) σ H Q) : tLc (tI K true mi) (gB K ns bind) (tT K mt) (tV K me) vs σ H Q := by
  obtain ⟨F, H0, ρ, M, S, σd, d, S', r, e, q⟩ := h
  obtain ⟨xs, S1, e1, e⟩ := bind_ok e
  have e := (ite_ok e).resolve_right fun z => (fail_ok z.2).elim
  obtain ⟨hxs, e⟩ := e
  obtain ⟨ys, S2, e2, e⟩ := bind_ok e
  obtain ⟨rfl, rfl⟩ := pure_ok e
  refine ⟨F, H0, ρ, M, S, σd, xs, S1, r, e1, fun J As ρ1 M1 H1 r1 x1 hA _ wk L hD => ?_⟩
  refine ⟨fun i m H => m = xs.length - i ∧ i ≤ xs.length ∧ ∃ (ρ3 : List Addr) (M3 : Addr → Prop) (S3 : CH) (done rest : List D), LcAt K F ρ1 M1 H1 L ρ3 M3 S3 H done ∧ done.length ≤ i ∧
    compM (fun d => bind d (σd.wipe vs)) mt me (xs.drop i) S3 = some (.ok rest S2) ∧ done ++ rest = ys, ⟨_, rfl, Nat.zero_le _, ρ1, _, S1, [], ys, LcAt.start r1 hD, Nat.le_refl _, e2, rfl⟩, ?_⟩
  rintro i m H2 ⟨rfl, hi, ρ3, M3, S3, done, rest, l, hdl, hc, rfl⟩
  have r3 : Rep K F H0 ρ3 M3 S3 σd σ H2 := r1.of_heap l.rh l.x
  obtain ⟨w1, w2⟩ := wk ρ3 M3 H2 l.x.stay r3.tr fun a ha => (l.x.mine a (hA a ha).1 (hA a ha).2).1
  rcases (Nat.lt_or_ge i xs.length).symm with hlt | hlt
  · have ei : i = xs.length := by omega
    subst ei
    refine .inl ⟨w2, ?_⟩
    rw [List.drop_length] at hc
    obtain ⟨rfl, rfl⟩ := pure_ok (show (pure [] : Cm (List D)) S3 = _ from hc)
    obtain ⟨acc, ha, rs⟩ := l.at_
    rw [List.append_nil] at q
    exact q _ ρ3 M3 H2 r3 (x1.trans l.x) ⟨L, rfl, x1.back r1.tr r1.mm hD, l.m, l.n, l.f, acc, ha, rs⟩
  · obtain ⟨go, yl⟩ := w1 i xs[i] (List.getElem?_eq_getElem hlt)
    rw [List.drop_eq_getElem_cons hlt] at hc
    have hc : (do
      let σ ← Cm.lift (bind xs[i] (σd.wipe vs))
      let b ← mt σ
      if b then do
        let y ← me σ
        let ys ← compM (fun d => bind d (σd.wipe vs)) mt me (xs.drop (i + 1))
        pure (y :: ys)
      else compM (fun d => bind d (σd.wipe vs)) mt me (xs.drop (i + 1))) S3 = some (.ok rest S2) := hc
    obtain ⟨σb, S4, f1, hc⟩ := bind_ok hc
    obtain ⟨f1', rfl⟩ := lift_ok f1
    obtain ⟨b, S5, f2, hc⟩ := bind_ok hc
    refine .inr ⟨go, fun H' => ∃ m', m' < xs.length - i ∧ m' = xs.length - (i + 1) ∧ i + 1 ≤ xs.length ∧ ∃ (ρ4 : List Addr) (M4 : Addr → Prop) (S4 : CH) (done' rest' : List D), LcAt K F ρ1 M1 H1 L ρ4 M4 S4 H' done' ∧ done'.length ≤ i + 1 ∧
      compM (fun d => bind d (σd.wipe vs)) mt me (xs.drop (i + 1)) S4 = some (.ok rest' S2) ∧ done' ++ rest' = done ++ rest, fun H' ⟨m', h1, h2⟩ => ⟨m', h1, h2⟩, fun x H3 hy => ?_⟩
    obtain ⟨hH3, rv⟩ := yl x H3 hy
    have st : Rep K F H0 ρ3 M3 S3 σd σ H3 ∧ Ext ρ3 M3 H2 ρ3 M3 H3 := by
      rcases hH3 with rfl | ⟨T, o, hT, rfl⟩
      · exact ⟨r3, Ext.refl⟩
      · exact ⟨r3.new hT, Ext.new r3 hT⟩
    obtain ⟨r4, x4⟩ := st
    have l4 := l.step r4.heap x4
    refine ⟨F, H0, ρ3, M3, S3, σd.wipe vs, _, σb, r4.wipe vs, rv, f1', fun σ2 r5 hl hj => ?_⟩
    refine ⟨wipe_eq hl fun j hjv => hj j fun hjn => hjv (sub j hjn), ?_⟩
    refine ⟨F, H0, ρ3, M3, S3, σb, b, S5, r5, f2, fun ρ6 M6 H6 r6 x6 => ?_⟩
    have l6 := l4.step r6.heap x6
    cases b with
    | false =>
      dsimp only
      rw [if_neg Bool.false_ne_true]
      rw [if_neg Bool.false_ne_true] at hc
      exact ⟨xs.length - (i + 1), by omega, rfl, hlt, ρ6, M6, S5, done, rest, l6, by omega, hc, rfl⟩
    | true =>
      dsimp only
      rw [if_pos rfl]
      rw [if_pos rfl] at hc
      obtain ⟨y, S6, f3, hc⟩ := bind_ok hc
      obtain ⟨ys', S7, f4, hc⟩ := bind_ok hc
      obtain ⟨rfl, rfl⟩ := pure_ok hc
      refine ⟨F, H0, ρ6, M6, S5, σb, y, S6, r6, f3, fun v ρ7 M7 H7 r7 x7 rv7 => ?_⟩
      have l7 := l6.step r7.heap x7
      obtain ⟨acc, ha, rs⟩ := l7.at_
      refine ⟨acc, ha, ?_, xs.length - (i + 1), by omega, rfl, hlt, ρ7, M7, S6, done ++ [y], ys', l7.app hD r1.tr ha rs rv7, ?_, f4, ?_⟩
      · rw [← rs.length, size_line_eq]; omega
      · rw [List.length_append]; simp; omega
      · simp

/-! ### two loops -/
/-- as Ext, but for what stands at L -/
structure ExtB (L : Addr) (ρ : List Addr) (M : Addr → Prop) (H : Hp) (ρ' : List Addr) (M' : Addr → Prop) (H' : Hp) : Prop where
  keep : ∀ a o, H a = some o → ¬ M a → H' a = some o ∧ ¬ M' a
  mine : ∀ a, M a → a ∉ ρ → a ≠ L → H' a = H a ∧ M' a ∧ a ∉ ρ'
  refs : ∀ (n : Nat) a, ρ[n]? = some a → ρ'[n]? = some a
theorem ExtB.refl {L : Addr} : ExtB L ρ M H ρ M H := ⟨fun _ _ h n => ⟨h, n⟩, fun _ m n _ => ⟨rfl, m, n⟩, fun _ _ h => h⟩
theorem ExtB.step {L : Addr} {ρ2 : List Addr} {M2 : Addr → Prop} {H2 : Hp} (x : ExtB L ρ M H ρ' M' H') (y : Ext ρ' M' H' ρ2 M2 H2) : ExtB L ρ M H ρ2 M2 H2 :=
  ⟨fun a o h n => let ⟨h1, n1⟩ := x.keep a o h n; y.keep a o h1 n1,
   fun a m n e => let ⟨e1, m1, n1⟩ := x.mine a m n e; let ⟨e2, m2, n2⟩ := y.mine a m1 n1; ⟨e2.trans e1, m2, n2⟩,
   fun n a h => y.refs n a (x.refs n a h)⟩
theorem ExtB.poke {L : Addr} {o : HO} (x : ExtB L ρ M H ρ' M' H') (m : M' L) : ExtB L ρ M H ρ' M' (upd H' L o) :=
  ⟨fun a u h n => let ⟨h1, n1⟩ := x.keep a u h n; ⟨by rw [upd_ne (fun z => by subst z; exact n1 m)]; exact h1, n1⟩,
   fun a ma na e => let ⟨e1, m1, n1⟩ := x.mine a ma na e; ⟨by rw [upd_ne e]; exact e1, m1, n1⟩, x.refs⟩
theorem ExtB.stay {L : Addr} (x : ExtB L ρ M H ρ' M' H') : Stay ρ M H ρ' M' H' := ⟨x.keep, x.refs⟩
/-- no slot's own place -/
def NoSl (L : Addr) (σd : Env) (σ : L2.St) : Prop := ∀ i s, σd.at i = some s → isOwn s = true → slotV σ i ≠ some (.ref L)
theorem Rep.of_heapB (r : Rep K F H0 ρ M S σd σ H) {L : Addr} (h : RepH K ρ' M' S' H') (x : ExtB L ρ M H ρ' M' H') (no : NoSl L σd σ) (f : ¬ F L) : Rep K F H0 ρ' M' S' σd σ H' where
  len := h.len
  nd := h.nd
  mm := h.mm
  ob := h.ob
  tr := h.tr
  ln := r.ln
  sl := fun i s hs => by
    rcases r.sl i s hs with ⟨io, v, e, rv⟩ | ⟨io, a, e, m, n, fa, rv⟩
    · exact .inl ⟨io, v, e, rv.stay x.stay⟩
    · obtain ⟨h1, m1, n1⟩ := x.mine a m n (fun z => no i s hs io (by rw [← z]; exact e))
      exact .inr ⟨io, a, e, m1, n1, fa, rv.stay x.stay h1⟩
  ow := r.ow
  fo := fun a fa => let ⟨m, n, e⟩ := r.fo a fa; let ⟨e1, m1, n1⟩ := x.mine a m n (fun z => f (z ▸ fa)); ⟨m1, n1, e1.trans e⟩
theorem Rep.noSl (r : Rep K F H0 ρ M S σd σ H) {L : Addr} (h : H L = none) : NoSl L σd σ := fun i s hs io e => by
  rcases r.sl i s hs with ⟨io', _⟩ | ⟨_, a, e', m, _⟩
  · rw [io] at io'; cases io'
  · rw [e] at e'; cases e'
    exact r.tr _ m h
theorem wipeD_at : ∀ (vs : List Nat) (σ : Env) (i : Nat) (s : Sl), (σ.wipe vs).at i = some s → σ.at i = some s ∧ i ∉ vs
  | [], _, _, _, h => ⟨h, by simp⟩
  | v :: vs, σ, i, s, h => by
    have h : ((σ.wipe vs).put v none).at i = some s := h
    by_cases e : v = i
    · subst e
      have hi := Env.at_lt h
      rw [Env.put_length] at hi
      rw [Env.at_put_self hi] at h; cases h
    · rw [Env.at_put_ne e] at h
      obtain ⟨h1, h2⟩ := wipeD_at vs σ i s h
      exact ⟨h1, by rw [List.mem_cons, not_or]; exact ⟨fun z => e z.symm, h2⟩⟩
/-- a bound target owns nothing -/
def BindOk (ns : List Nat) (bind : D → Env → Option Env) : Prop := ∀ d σ σ', bind d σ = some σ' → ∀ i s, σ'.at i = some s → isOwn s = true → σ.at i = some s ∧ i ∉ ns
theorem NoSl.bound {L : Addr} {ns vs : List Nat} {bind : D → Env → Option Env} (hb : BindOk ns bind) (no : NoSl L σd σ) {d : D} (h : bind d (σd.wipe vs) = some σd') (hj : ∀ j, j ∉ ns → σ'[j]? = (L2.wipe σ vs)[j]?) : NoSl L σd' σ' := fun i s hs io e => by
  obtain ⟨h1, h2⟩ := hb d _ _ h i s hs io
  obtain ⟨h3, h4⟩ := wipeD_at vs σd i s h1
  refine no i s h3 io ?_
  unfold slotV at e ⊢
  rw [hj i h2, wipe_out h4] at e
  exact e

theorem tLc2_of {mi mi1 : Env → Cm (List D)} {ns vs ns1 vs1 : List Nat} {bind bind1 : D → Env → Option Env} {me : Env → Cm D} (sub : ∀ j ∈ ns, j ∈ vs) (sub1 : ∀ j ∈ ns1, j ∈ vs1) (hb : BindOk ns bind) {Q : VK}
    (h : tF K (fun σ => do
      let xs ← mi σ
      let ys ← comp2M (fun d => bind d (σ.wipe vs)) (fun σ' => do
        let zs ← mi1 σ'
        compM (fun d => bind1 d (σ'.wipe vs1)) (fun _ => pure true) me zs) xs
      if ys.length ≤ 1000000 then pure (.lst ys) else Cm.fail) σ H Q) :
    tLc2 (tI K true mi) (gB K ns bind) (tT K fun _ => pure true) (tI K false mi1) (gB K ns1 bind1) (tT K fun _ => pure true) (tV K me) vs vs1 σ H Q := by
  obtain ⟨F, H0, ρ, M, S, σd, d, S', r, e, q⟩ := h
  obtain ⟨xs, S1, e1, e⟩ := bind_ok e
  obtain ⟨ys, S2, e2, e⟩ := bind_ok e
  have e := (ite_ok e).resolve_right fun z => (fail_ok z.2).elim
  obtain ⟨hys, e⟩ := e
  obtain ⟨rfl, rfl⟩ := pure_ok e
  refine ⟨F, H0, ρ, M, S, σd, xs, S1, r, e1, fun J As ρ1 M1 H1 r1 x1 hA _ wk L hD => ?_⟩
  have no : NoSl L σd σ := r1.noSl hD
  refine ⟨fun i m H => m = xs.length - i ∧ i ≤ xs.length ∧ ∃ (ρ3 : List Addr) (M3 : Addr → Prop) (S3 : CH) (done rest : List D), LcAt K F ρ1 M1 H1 L ρ3 M3 S3 H done ∧
    comp2M (fun d => bind d (σd.wipe vs)) (fun σ' => do
        let zs ← mi1 σ'
        compM (fun d => bind1 d (σ'.wipe vs1)) (fun _ => pure true) me zs) (xs.drop i) S3 = some (.ok rest S2) ∧ done ++ rest = ys, ⟨_, rfl, Nat.zero_le _, ρ1, _, S1, [], ys, LcAt.start r1 hD, e2, rfl⟩, ?_⟩
  rintro i m H2 ⟨rfl, hi, ρ3, M3, S3, done, rest, l, hc, hdr⟩
  have r3 : Rep K F H0 ρ3 M3 S3 σd σ H2 := r1.of_heap l.rh l.x
  obtain ⟨w1, w2⟩ := wk ρ3 M3 H2 l.x.stay r3.tr fun a ha => (l.x.mine a (hA a ha).1 (hA a ha).2).1
  rcases (Nat.lt_or_ge i xs.length).symm with hlt | hlt
  · have ei : i = xs.length := by omega
    subst ei
    refine .inl ⟨w2, ?_⟩
    rw [List.drop_length] at hc
    obtain ⟨rfl, rfl⟩ := pure_ok (show (pure [] : Cm (List D)) S3 = _ from hc)
    obtain ⟨acc, ha, rs⟩ := l.at_
    rw [List.append_nil] at hdr
    subst hdr
    exact q _ ρ3 M3 H2 r3 (x1.trans l.x) ⟨L, rfl, x1.back r1.tr r1.mm hD, l.m, l.n, l.f, acc, ha, rs⟩
  · obtain ⟨go, yl⟩ := w1 i xs[i] (List.getElem?_eq_getElem hlt)
    rw [List.drop_eq_getElem_cons hlt] at hc
    have hc : (do
      let σ ← Cm.lift (bind xs[i] (σd.wipe vs))
      let ys ← (do
        let zs ← mi1 σ
        compM (fun d => bind1 d (σ.wipe vs1)) (fun _ => pure true) me zs)
      let zs ← comp2M (fun d => bind d (σd.wipe vs)) (fun σ' => do
        let zs ← mi1 σ'
        compM (fun d => bind1 d (σ'.wipe vs1)) (fun _ => pure true) me zs) (xs.drop (i + 1))
      pure (ys ++ zs)) S3 = some (.ok rest S2) := hc
    obtain ⟨σb, S4, f1, hc⟩ := bind_ok hc
    obtain ⟨f1', rfl⟩ := lift_ok f1
    obtain ⟨is, S5, f2, hc⟩ := bind_ok hc
    obtain ⟨zs, S6, f3, f4⟩ := bind_ok f2
    obtain ⟨os, S7, f5, hc⟩ := bind_ok hc
    obtain ⟨rfl, rfl⟩ := pure_ok hc
    refine .inr ⟨go, fun H' => ∃ m', m' < xs.length - i ∧ m' = xs.length - (i + 1) ∧ i + 1 ≤ xs.length ∧ ∃ (ρ4 : List Addr) (M4 : Addr → Prop) (S4 : CH) (done' rest' : List D), LcAt K F ρ1 M1 H1 L ρ4 M4 S4 H' done' ∧
      comp2M (fun d => bind d (σd.wipe vs)) (fun σ' => do
        let zs ← mi1 σ'
        compM (fun d => bind1 d (σ'.wipe vs1)) (fun _ => pure true) me zs) (xs.drop (i + 1)) S4 = some (.ok rest' S7) ∧ done' ++ rest' = ys, fun H' ⟨m', h1, h2⟩ => ⟨m', h1, h2⟩, fun x H3 hy => ?_⟩
    obtain ⟨hH3, rv⟩ := yl x H3 hy
    have st : Rep K F H0 ρ3 M3 S3 σd σ H3 ∧ Ext ρ3 M3 H2 ρ3 M3 H3 := by
      rcases hH3 with rfl | ⟨T, o, hT, rfl⟩
      · exact ⟨r3, Ext.refl⟩
      · exact ⟨r3.new hT, Ext.new r3 hT⟩
    obtain ⟨r4, x4⟩ := st
    have l4 := l.step r4.heap x4
    refine ⟨F, H0, ρ3, M3, S3, σd.wipe vs, _, σb, r4.wipe vs, rv, f1', fun σ2 r5 hl hj => ?_⟩
    have no2 : NoSl L σb σ2 := no.bound hb f1' hj
    refine ⟨wipe_eq hl fun j hjv => hj j fun hjn => hjv (sub j hjn), ?_⟩
    refine ⟨F, H0, ρ3, M3, S3, σb, true, S3, r5, rfl, fun ρ6 M6 H6 r6 x6 => ?_⟩
    have l6 := l4.step r6.heap x6
    dsimp only
    rw [if_pos rfl]
    refine ⟨F, H0, ρ6, M6, S3, σb, zs, S6, r6, f3, fun J1 As1 ρ7 M7 H7 r7 x7 _ hA1 wk1 => ?_⟩
    have hA1 := hA1 rfl
    subst hA1
    have l7 := l6.step r7.heap x7
    refine ⟨fun j k H => k = zs.length - j ∧ j ≤ zs.length ∧ ∃ (ρ8 : List Addr) (M8 : Addr → Prop) (S8 : CH) (done' rest' : List D), LcAt K F ρ1 M1 H1 L ρ8 M8 S8 H done' ∧ ExtB L ρ7 M7 H7 ρ8 M8 H ∧
      compM (fun d => bind1 d (σb.wipe vs1)) (fun _ => pure true) me (zs.drop j) S8 = some (.ok rest' S5) ∧ done' ++ rest' ++ os = ys, ⟨_, rfl, Nat.zero_le _, ρ7, M7, S6, done, is, l7, ExtB.refl, f4, by rw [List.append_assoc]; exact hdr⟩, ?_⟩
    rintro j k H8 ⟨rfl, hj8, ρ8, M8, S8, done8, rest8, l8, x8, hc8, hd8⟩
    have r8 : Rep K F H0 ρ8 M8 S8 σb σ2 H8 := r7.of_heapB l8.rh x8 no2 l8.f
    obtain ⟨u1, u2⟩ := wk1 ρ8 M8 H8 x8.stay r8.tr (fun a ha => absurd ha (by simp))
    rcases (Nat.lt_or_ge j zs.length).symm with hlt8 | hlt8
    · have ej : j = zs.length := by omega
      subst ej
      rw [List.drop_length] at hc8
      obtain ⟨rfl, rfl⟩ := pure_ok (show (pure [] : Cm (List D)) S8 = _ from hc8)
      refine .inl ⟨u2, xs.length - (i + 1), by omega, rfl, hlt, ρ8, M8, S8, done8, os, l8, f5, ?_⟩
      rw [← hd8, List.append_nil]
    · obtain ⟨go8, yl8⟩ := u1 j zs[j] (List.getElem?_eq_getElem hlt8)
      rw [List.drop_eq_getElem_cons hlt8] at hc8
      have hc8 : (do
        let σ ← Cm.lift (bind1 zs[j] (σb.wipe vs1))
        let b ← (pure true : Cm Bool)
        if b then do
          let y ← me σ
          let ys ← compM (fun d => bind1 d (σb.wipe vs1)) (fun _ => pure true) me (zs.drop (j + 1))
          pure (y :: ys)
        else compM (fun d => bind1 d (σb.wipe vs1)) (fun _ => pure true) me (zs.drop (j + 1))) S8 = some (.ok rest8 S5) := hc8
      obtain ⟨σb1, S9, g1, hc8⟩ := bind_ok hc8
      obtain ⟨g1', rfl⟩ := lift_ok g1
      obtain ⟨b, S10, g2, hc8⟩ := bind_ok hc8
      obtain ⟨rfl, rfl⟩ := pure_ok g2
      rw [if_pos rfl] at hc8
      obtain ⟨y, S11, g3, hc8⟩ := bind_ok hc8
      obtain ⟨ys', S12, g4, hc8⟩ := bind_ok hc8
      obtain ⟨rfl, rfl⟩ := pure_ok hc8
      refine .inr ⟨go8, fun H' => ∃ k', k' < zs.length - j ∧ k' = zs.length - (j + 1) ∧ j + 1 ≤ zs.length ∧ ∃ (ρ8 : List Addr) (M8 : Addr → Prop) (S8 : CH) (done' rest' : List D), LcAt K F ρ1 M1 H1 L ρ8 M8 S8 H' done' ∧ ExtB L ρ7 M7 H7 ρ8 M8 H' ∧
        compM (fun d => bind1 d (σb.wipe vs1)) (fun _ => pure true) me (zs.drop (j + 1)) S8 = some (.ok rest' S12) ∧ done' ++ rest' ++ os = ys, fun H' ⟨k', h1, h2⟩ => ⟨k', h1, h2⟩, fun x9 H9 hy9 => ?_⟩
      obtain ⟨hH9, rv9⟩ := yl8 x9 H9 hy9
      have st : Rep K F H0 ρ8 M8 S8 σb σ2 H9 ∧ Ext ρ8 M8 H8 ρ8 M8 H9 := by
        rcases hH9 with rfl | ⟨T, o, hT, rfl⟩
        · exact ⟨r8, Ext.refl⟩
        · exact ⟨r8.new hT, Ext.new r8 hT⟩
      obtain ⟨r9, x9'⟩ := st
      have l9 := l8.step r9.heap x9'
      refine ⟨F, H0, ρ8, M8, S8, σb.wipe vs1, _, σb1, r9.wipe vs1, rv9, g1', fun σ3 r10 hl10 hj10 => ?_⟩
      refine ⟨wipe_eq hl10 fun j hjv => hj10 j fun hjn => hjv (sub1 j hjn), ?_⟩
      refine ⟨F, H0, ρ8, M8, S8, σb1, true, S8, r10, rfl, fun ρa Ma Ha ra xa => ?_⟩
      have la := l9.step ra.heap xa
      dsimp only
      rw [if_pos rfl]
      refine ⟨F, H0, ρa, Ma, S8, σb1, y, S11, ra, g3, fun v ρc Mc Hc rc xc rvc => ?_⟩
      have lc := la.step rc.heap xc
      obtain ⟨acc, ha, rs⟩ := lc.at_
      refine ⟨acc, ha, ?_, zs.length - (j + 1), by omega, rfl, hlt8, ρc, Mc, S11, done8 ++ [y], ys', lc.app hD r1.tr ha rs rvc, ((x8.step x9').step xa |>.step xc).poke lc.m, g4, ?_⟩
      · rw [← rs.length, size_line_eq]
        have := congrArg List.length hd8
        simp at this
        omega
      · rw [← hd8]; simp
end
end Cl

set_option Elab.async false
set_option linter.all false
set_option maxRecDepth 100000
/-! SoundDict2: dicts stored into. -/
namespace Cl
open PySem PySem.Spec PyProof.Rows L2

def putP (n : NestedKey) (e : DictEntry) : List (NestedKey × DictEntry) → List (NestedKey × DictEntry)
  | [] => [(n, e)]
  | (m, e') :: ps => if m = n then (m, { e' with val := e.val }) :: ps else (m, e') :: putP n e ps

theorem stored_cons {κ : Type} [DecidableEq κ] {kv : κ × Value} {kvs : List (κ × Value)} {k : κ} {v : Value} (hn : ((kv :: kvs).map (·.1)).Nodup) :
    stored (kv :: kvs) k v = if kv.1 = k then (kv.1, v) :: kvs else kv :: stored kvs k v := by
  unfold stored
  rw [List.map_cons, List.nodup_cons] at hn
  by_cases h : kv.1 = k
  · rw [if_pos h, if_pos (by simp [h]), List.map_cons, if_pos h]
    congr 1
    have : ∀ x ∈ kvs, (if x.1 = k then (x.1, v) else x) = x := fun x hx => by
      rw [if_neg]
      intro z
      exact hn.1 (by rw [h, ← z]; exact List.mem_map.mpr ⟨x, hx, rfl⟩)
    exact (List.map_congr_left (g := id) this).trans (List.map_id kvs)
  · rw [if_neg h]
    have e : (kv :: kvs).any (fun kv => decide (kv.1 = k)) = kvs.any (fun kv => decide (kv.1 = k)) := by simp [h]
    rw [e]
    by_cases ha : kvs.any (fun kv => decide (kv.1 = k)) = true
    · rw [if_pos ha, if_pos ha, List.map_cons, if_neg h]
    · rw [if_neg ha, if_neg ha, List.cons_append]
theorem storedH_cons {κ : Type} [DecidableEq κ] {kv : κ × Addr × Value} {kvs : List (κ × Addr × Value)} {k : κ} {a : Addr} {v : Value} (hn : ((kv :: kvs).map (·.1)).Nodup) :
    storedH (kv :: kvs) k a v = if kv.1 = k then (kv.1, kv.2.1, v) :: kvs else kv :: storedH kvs k a v := by
  unfold storedH
  rw [List.map_cons, List.nodup_cons] at hn
  by_cases h : kv.1 = k
  · have e : (atKey (kv :: kvs) k).isSome = true := by unfold atKey; rw [List.find?_cons_of_pos (by simp [h])]; rfl
    rw [if_pos h, if_pos e, List.map_cons]
    have e1 : putAt k v kv = (kv.1, kv.2.1, v) := by unfold putAt; rw [if_pos h]
    rw [e1]
    congr 1
    have : ∀ x ∈ kvs, putAt k v x = x := fun x hx => by
      unfold putAt
      rw [if_neg]
      intro z
      exact hn.1 (by rw [h, ← z]; exact List.mem_map.mpr ⟨x, hx, rfl⟩)
    exact (List.map_congr_left (g := id) this).trans (List.map_id kvs)
  · rw [if_neg h]
    have e : atKey (kv :: kvs) k = atKey kvs k := by unfold atKey; rw [List.find?_cons_of_neg (by simp [h])]
    rw [e]
    by_cases ha : (atKey kvs k).isSome = true
    · rw [if_pos ha, if_pos ha, List.map_cons]
      congr 1
      unfold putAt; rw [if_neg h]
    · rw [if_neg ha, if_neg ha, List.cons_append]

theorem putP_len (n : NestedKey) (e : DictEntry) : ∀ ps, (putP n e ps).length ≤ ps.length + 1
  | [] => by simp [putP]
  | (m, e') :: ps => by
    have := putP_len n e ps
    unfold putP
    by_cases h : m = n
    · rw [if_pos h]; simp
    · rw [if_neg h]; simp; omega
theorem putP_keys (n : NestedKey) (e : DictEntry) : ∀ ps, ((putP n e ps).map (·.1)) = if n ∈ ps.map (·.1) then ps.map (·.1) else ps.map (·.1) ++ [n]
  | [] => by simp [putP]
  | (m, e') :: ps => by
    have ih := putP_keys n e ps
    unfold putP
    by_cases h : m = n
    · subst h; simp
    · rw [if_neg h, List.map_cons, ih, List.map_cons]
      have h' : ¬ n = m := fun z => h z.symm
      by_cases hm : n ∈ ps.map (·.1)
      · rw [if_pos hm, if_pos (List.mem_cons_of_mem _ hm)]
      · rw [if_neg hm, if_neg (by rw [List.mem_cons, not_or]; exact ⟨h', hm⟩), List.cons_append]
theorem putP_nodup {n : NestedKey} {e : DictEntry} {ps : List (NestedKey × DictEntry)} (h : (ps.map (·.1)).Nodup) : ((putP n e ps).map (·.1)).Nodup := by
  rw [putP_keys]
  by_cases hm : n ∈ ps.map (·.1)
  · rw [if_pos hm]; exact h
  · rw [if_neg hm, List.nodup_append]
    refine ⟨h, by simp, ?_⟩
    intro x hx y hy
    rw [List.mem_singleton] at hy
    subst hy
    exact fun z => hm (z ▸ hx)
theorem putP_hash {w : World} {n : NestedKey} {e : DictEntry} (he : e.hash = n.hash w) : ∀ {ps : List (NestedKey × DictEntry)}, (∀ p ∈ ps, p.2.hash = p.1.hash w) → ∀ p ∈ putP n e ps, p.2.hash = p.1.hash w
  | [], _, p, hp => by
    simp only [putP, List.mem_singleton] at hp
    subst hp; exact he
  | (m, e') :: ps, h, p, hp => by
    unfold putP at hp
    by_cases hm : m = n
    · rw [if_pos hm] at hp
      rcases List.mem_cons.mp hp with rfl | hp
      · exact h (m, e') List.mem_cons_self
      · exact h p (List.mem_cons_of_mem _ hp)
    · rw [if_neg hm] at hp
      rcases List.mem_cons.mp hp with rfl | hp
      · exact h (m, e') List.mem_cons_self
      · exact putP_hash he (fun q hq => h q (List.mem_cons_of_mem _ hq)) p hp
theorem putP_flat {n : NestedKey} {e : DictEntry} (hn : kindN n = some false) : ∀ {ps : List (NestedKey × DictEntry)}, (∀ p ∈ ps, kindN p.1 = some false) → (ps.map (·.1)).Nodup →
    stored (ps.map fun p => (flatN p.1, p.2.val)) (flatN n) e.val = (putP n e ps).map fun p => (flatN p.1, p.2.val)
  | [], _, _ => rfl
  | (m, e') :: ps, h, nd => by
    have hnd : (((m, e') :: ps).map fun p => (flatN p.1, p.2.val)).map (·.1) |>.Nodup := by
      rw [List.map_map]
      unfold List.Nodup
      rw [List.pairwise_map]
      have nd' : (((m, e') :: ps).map (·.1)).Pairwise (· ≠ ·) := nd
      rw [List.pairwise_map] at nd'
      exact List.Pairwise.imp_of_mem (fun {x y} hx hy hne he => hne (flat_inj (h x hx) (h y hy) he)) nd'
    rw [List.map_cons, List.nodup_cons] at nd
    rw [List.map_cons, stored_cons (by rw [List.map_cons] at hnd; exact hnd)]
    unfold putP
    have hm := h (m, e') List.mem_cons_self
    by_cases hmn : m = n
    · rw [if_pos hmn, if_pos (by rw [hmn])]; rfl
    · rw [if_neg hmn, if_neg (fun z => hmn (flat_inj hm hn z)), List.map_cons, putP_flat hn (fun p hp => h p (List.mem_cons_of_mem _ hp)) nd.2]
theorem putP_tup {n : NestedKey} {e : DictEntry} {a : Addr} (ha : e.key = .ref a) : ∀ {ps : List (NestedKey × DictEntry)}, (ps.map (·.1)).Nodup →
    storedH (ps.map fun p => (p.1, addrOf p.2.key, p.2.val)) n a e.val = (putP n e ps).map fun p => (p.1, addrOf p.2.key, p.2.val)
  | [], _ => by simp [storedH, atKey, putP, ha, addrOf]
  | (m, e') :: ps, nd => by
    have hnd : (((m, e') :: ps).map fun p => (p.1, addrOf p.2.key, p.2.val)).map (·.1) |>.Nodup := by
      rw [List.map_map]; exact nd
    rw [List.map_cons, List.nodup_cons] at nd
    rw [List.map_cons, storedH_cons (by rw [List.map_cons] at hnd; exact hnd)]
    unfold putP
    by_cases hmn : m = n
    · rw [if_pos hmn, if_pos hmn]; rfl
    · rw [if_neg hmn, if_neg hmn, List.map_cons, putP_tup ha nd.2]

/-! ### the data's store -/
theorem dput_cons {k k' d v : D} {ks vs : List D} {o : List D × List D} (h : dput k d (k' :: ks) (v :: vs) = some o) : (kk k).isSome = true ∧ kk k' = kk k ∧ ((keyOf k' = keyOf k ∧ o = (k' :: ks, d :: vs)) ∨ (keyOf k' ≠ keyOf k ∧ ∃ p, dput k d ks vs = some p ∧ o = (k' :: p.1, v :: p.2))) := by
  unfold dput at h
  by_cases h1 : (kk k).isSome ∧ kk k' = kk k
  · rw [if_pos h1] at h
    refine ⟨h1.1, h1.2, ?_⟩
    by_cases h2 : keyOf k' = keyOf k
    · rw [if_pos h2] at h; cases h; exact .inl ⟨h2, rfl⟩
    · rw [if_neg h2] at h
      obtain ⟨p, hp, rfl⟩ := Option.map_eq_some_iff.mp h
      exact .inr ⟨h2, p, hp, rfl⟩
  · rw [if_neg h1] at h; cases h
theorem dput_key {k d : D} {ks vs : List D} {o : List D × List D} (h : dput k d ks vs = some o) : ∃ n, keyOf k = some n := by
  have hk : (kk k).isSome = true := by
    cases ks <;> cases vs <;> simp only [dput] at h
    · split at h
      · rename_i h1; exact h1
      · cases h
    · cases h
    · cases h
    · split at h
      · rename_i h1; exact h1.1
      · cases h
  unfold kk at hk
  cases e : keyOf k with
  | none => rw [e] at hk; simp at hk
  | some n => exact ⟨n, rfl⟩
section
variable {K : Fg} {M : Addr → Prop} {ρ : List Addr} {H : Hp}
theorem dput_kind {b : Bool} {ks vs : List D} {ps : List (NestedKey × DictEntry)} (r : RVd K M ρ H b ks vs ps) {k d : D} {n : NestedKey} {o : List D × List D} (hk : keyOf k = some n) (h : dput k d ks vs = some o) :
    ∃ b', kindN n = some b' ∧ RVd K M ρ H b' ks vs ps := by
  cases r with
  | nil =>
    unfold dput at h
    by_cases h1 : (kk k).isSome = true
    · obtain ⟨c, hc⟩ := Option.isSome_iff_exists.mp h1
      unfold kk at hc
      rw [hk] at hc
      exact ⟨c, hc, .nil⟩
    · rw [if_neg h1] at h; cases h
  | cons r1 u1 r2 u2 km kn t =>
    obtain ⟨h1, h2, _⟩ := dput_cons h
    unfold kk at h2
    rw [km, hk] at h2
    exact ⟨b, by rw [← kn]; exact h2.symm, .cons r1 u1 r2 u2 km kn t⟩
theorem rvd_put {k d : D} {v y : V} {n : NestedKey} {e : DictEntry} {b : Bool} (rk : RV K M ρ H k v) (ru : RelV v e.key) (rd : RV K M ρ H d y) (ry : RelV y e.val) (hk : keyOf k = some n) (hb : kindN n = some b) :
    ∀ {ks vs : List D} {ps : List (NestedKey × DictEntry)} {o : List D × List D}, RVd K M ρ H b ks vs ps → dput k d ks vs = some o → RVd K M ρ H b o.1 o.2 (putP n e ps)
  | _, _, _, o, .nil, h => by
    unfold dput at h
    by_cases h1 : (kk k).isSome = true
    · rw [if_pos h1] at h; cases h
      exact .cons rk ru rd ry hk hb .nil
    · rw [if_neg h1] at h; cases h
  | _, _, _, o, .cons (n := m) r1 u1 r2 u2 km kn t, h => by
    obtain ⟨_, _, h⟩ := dput_cons h
    rcases h with ⟨e1, rfl⟩ | ⟨e1, p, hp, rfl⟩
    · have : m = n := by rw [km, hk] at e1; exact Option.some.inj e1
      subst this
      unfold putP
      rw [if_pos rfl]
      exact .cons r1 u1 rd ry km kn t
    · have hne : ¬ m = n := fun z => e1 (by rw [km, hk, z])
      unfold putP
      rw [if_neg hne]
      exact .cons r1 u1 r2 u2 km kn (rvd_put rk ru rd ry hk hb t hp)
/-- the entries laid anew, flat keys -/
theorem rvd_rekey {P : Program} {w : World} : ∀ {ks vs : List D} {ps : List (NestedKey × DictEntry)}, RVd K M ρ H false ks vs ps → ∀ {es : List DictEntry}, Pairs (mixKind P w) es (ps.map fun p => (flatN p.1, p.2.val)) →
    (∀ e ∈ es, ∃ k, keyIs k e.key = true ∧ e.hash = keyH w k) → ∃ ps' : List (NestedKey × DictEntry), ps'.map (·.2) = es ∧ ps'.map (·.1) = ps.map (·.1) ∧ RVd K M ρ H false ks vs ps' ∧ ∀ p ∈ ps', p.2.hash = p.1.hash w
  | _, _, _, .nil, es, hp, _ => by
    cases hp
    exact ⟨[], rfl, rfl, .nil, fun _ h => absurd h (by simp)⟩
  | _, _, _, .cons (n := m) (e := e0) r1 u1 r2 u2 km kn t, es, hp, hh => by
    cases hp with
    | @cons e _ es _ h1 h2 hp =>
      obtain ⟨ps', a1, a2, a3, a4⟩ := rvd_rekey t hp fun e he => hh e (List.mem_cons_of_mem _ he)
      obtain ⟨k, q1, q2⟩ := hh e List.mem_cons_self
      have h1 : keyIs (flatN m) e.key = true := h1
      have ek : k = flatN m := by
        have z1 := relV_key h1
        have z2 := relV_key q1
        generalize flatN m = k' at z1 h1
        cases k <;> cases k' <;> obtain ⟨t1, z1⟩ := z1 <;> obtain ⟨t2, z2⟩ := z2 <;> rw [z1] at z2 <;> cases z2 <;> rfl
      subst ek
      refine ⟨(m, e) :: ps', by rw [List.map_cons, a1], by rw [List.map_cons, a2]; rfl, ?_, fun p hp => ?_⟩
      · refine .cons (u := kV (flatN m)) ?_ (relV_key h1) r2 (by rw [h2]; exact u2) km kn a3
        rcases kind_false kn with ⟨i, rfl⟩ | ⟨x, rfl⟩
        · cases r1 with
          | int j => simp only [keyOf] at km; cases km; exact .int _
          | tup t rs => obtain ⟨ns, _, z⟩ := kof_tup km; cases z
          | non => simp only [keyOf] at km; cases km
          | str => simp only [keyOf] at km; cases km
          | _ => simp only [keyOf] at km; cases km
        · cases r1 with
          | str j => simp only [keyOf] at km; cases km; exact .str _
          | tup t rs => obtain ⟨ns, _, z⟩ := kof_tup km; cases z
          | non => simp only [keyOf] at km; cases km
          | int => simp only [keyOf] at km; cases km
          | _ => simp only [keyOf] at km; cases km
      · rcases List.mem_cons.mp hp with rfl | hp
        · rw [q2]
          rcases kind_false kn with ⟨i, rfl⟩ | ⟨x, rfl⟩ <;> simp only [NestedKey.hash] <;> rfl
        · exact a4 p hp
end

/-! ### there -/
theorem DI.ok {P : Program} {w : World} {H : Hp} {h : Heap} {a : Addr} {ps : List (NestedKey × DictEntry)} (d : DI w a ps h) : ObjOk P w H h a (.ext (DI w a ps)) := by
  refine ⟨d, ?_, fun h1 h2 ⟨z1, z2, ⟨ep, z3⟩, z4, z5⟩ k => ⟨z1, z2, ⟨ep, k _ z3⟩, z4, z5⟩⟩
  obtain ⟨_, _, ⟨ep, z3⟩, _⟩ := d
  exact ⟨_, z3⟩
theorem DI.new {P : Program} {w : World} {H : Hp} (h : Heap) (hb : sysModules < h.objs.size) : ObjOk P w H (h.push { cls := .type "dict", data := .dict #[] }) h.objs.size (.ext (DI w h.objs.size [])) :=
  DI.ok ⟨beq_eq_false_iff_ne.mpr (Ne.symm (Nat.ne_of_lt hb)), Nat.zero_le _, ⟨0, Heap.get?_push_size _ rfl⟩, fun _ h => absurd h (by simp), List.nodup_nil⟩
section
variable {X : Cx} {pins : List (Addr × Obj)} {σ : L2.St} {H : Hp} {s : Shared} {M : Addr → Prop} {ρ : List Addr} {a : Addr} {ps : List (NestedKey × DictEntry)} {ks vs : List D} {k d : D} {v y : V} {u x : Value} {o : List D × List D} {n : NestedKey} {h' : Heap}
theorem x_write {ps' : List (NestedKey × DictEntry)} {t' : Nat} (I : Inv X pins σ H s) (e : H a = some (.ext (DI X.w a ps))) (hs : Heap.SameBut a s.heap h') (d : DI X.w a ps' h') : Inv X pins σ (upd H a (.ext (DI X.w a ps'))) { s with heap := h', toks := t' } := by
  refine d_write I (by rw [e]; exact True.intro) hs ?_ (DI.ok d)
  obtain ⟨_, _, ⟨ep, z3⟩, _⟩ := d
  exact ⟨_, z3⟩
theorem put_flat {t' : Nat} (I : Inv X pins σ H s) (e : H a = some (.ext (DI X.w a ps))) (r : RVd (kx X) M ρ H false ks vs ps) (rk : RV (kx X) M ρ H k v) (ru : RelV v u) (rd : RV (kx X) M ρ H d y) (ry : RelV y x)
    (hk : keyOf k = some n) (hn : kindN n = some false) (hp : dput k d ks vs = some o) (hl : ps.length < 16777216) (dd : h'.DictOf (mixKind X.prog X.w) a (stored (ps.map fun p => (flatN p.1, p.2.val)) (flatN n) x)) (hs : Heap.SameBut a s.heap h') :
    ∃ ps', Inv X pins σ (upd H a (.ext (DI X.w a ps'))) { s with heap := h', toks := t' } ∧ RVd (kx X) M ρ H false o.1 o.2 ps' := by
  obtain ⟨⟨hsm, hz, ⟨ep, ho⟩, hh, nd⟩, _⟩ := I.hok a _ e
  have hfl := each_flat I r rfl hh
  have r2 := rvd_put (e := ⟨n.hash X.w, u, x⟩) rk ru rd ry hk hn r hp
  have st := putP_flat (e := ⟨n.hash X.w, u, x⟩) hn (fun p hp => (hfl.1 p hp).2.2) nd
  rw [st] at dd
  obtain ⟨⟨c, di, dt, sl⟩, es, ep', ho', ⟨c1, c2, c3⟩, hdat, hkeys, pairs, _⟩ := dd
  simp only at c1 c2 c3 hdat
  subst c1 c2 c3 hdat
  obtain ⟨ps', a1, a2, a3, a4⟩ := rvd_rekey (P := X.prog) (w := X.w) r2 pairs (fun en hen => by
    obtain ⟨k0, q1, q2⟩ := hkeys en (by simpa using hen)
    exact ⟨k0, q1, q2⟩)
  refine ⟨ps', x_write I e hs ⟨hsm, ?_, ⟨ep', ?_⟩, a4, ?_⟩, a3⟩
  · have h1 := congrArg List.length a2
    rw [List.length_map, List.length_map] at h1
    have h2 := putP_len n ⟨n.hash X.w, u, x⟩ ps
    omega
  · rw [a1]
    have : es.toList.toArray = es := by simp
    rw [this]; exact ho'
  · rw [a2]; exact putP_nodup nd
theorem put_tup {t' : Nat} (I : Inv X pins σ H s) (e : H a = some (.ext (DI X.w a ps))) (r : RVd (kx X) M ρ H true ks vs ps) (rk : RV (kx X) M ρ H k v) (ru : RelV v u) (rd : RV (kx X) M ρ H d y) (ry : RelV y x)
    (hk : keyOf k = some n) (hn : kindN n = some true) (hp : dput k d ks vs = some o) (hl : ps.length < 16777216) {b : Addr} (hu : u = .ref b) (dd : h'.DictOfH (nestedKind X.prog X.w) a (storedH (ps.map fun p => (p.1, addrOf p.2.key, p.2.val)) n b x)) (hs : Heap.SameBut a s.heap h') :
    ∃ ps', Inv X pins σ (upd H a (.ext (DI X.w a ps'))) { s with heap := h', toks := t' } ∧ RVd (kx X) M ρ H true o.1 o.2 ps' := by
  obtain ⟨⟨hsm, hz, ⟨ep, ho⟩, hh, nd⟩, _⟩ := I.hok a _ e
  have r2 := rvd_put (e := ⟨n.hash X.w, u, x⟩) rk ru rd ry hk hn r hp
  have st := putP_tup (n := n) (e := ⟨n.hash X.w, u, x⟩) (a := b) hu nd
  rw [st] at dd
  obtain ⟨⟨c, di, dt, sl⟩, es, ep', ho', ⟨c1, c2, c3⟩, hdat, hes, _, _⟩ := dd
  simp only at c1 c2 c3 hdat
  subst c1 c2 c3 hdat
  have hash' := putP_hash (w := X.w) (n := n) (e := ⟨n.hash X.w, u, x⟩) rfl hh
  refine ⟨putP n ⟨n.hash X.w, u, x⟩ ps, x_write I e hs ⟨hsm, ?_, ⟨ep', ?_⟩, hash', putP_nodup nd⟩, r2⟩
  · have h2 := putP_len n ⟨n.hash X.w, u, x⟩ ps
    omega
  · have e1 : es.toList = (putP n ⟨n.hash X.w, u, x⟩ ps).map (·.2) := by
      rw [hes, List.map_map]
      refine List.map_congr_left fun p hp => ?_
      have kref : p.2.key = .ref (addrOf p.2.key) := (each_tup I r2 rfl p hp).1
      obtain ⟨m, hs0, ky, vl⟩ := p
      have a1 : hs0 = m.hash X.w := hash' _ hp
      show DictEntry.mk (m.hash X.w) (.ref (addrOf ky)) vl = DictEntry.mk hs0 ky vl
      have a2 : ky = .ref (addrOf ky) := kref
      rw [← a2, a1]
    have e2 : es = ((putP n ⟨n.hash X.w, u, x⟩ ps).map (·.2)).toArray := by rw [← e1]
    rw [← e2]; exact ho'

variable {A : Around} {E : Value → Shared → Prop}
/-- storing, by a rule for each kind of key -/
theorem x_put {op : Sem Unit} {Q : Unit → Shared → Prop} {b : Bool} (I : Inv X pins σ H s) (e : H a = some (.ext (DI X.w a ps))) (r : RVd (kx X) M ρ H b ks vs ps) (rk : RV (kx X) M ρ H k v) (ru : RelV v u) (rd : RV (kx X) M ρ H d y) (ry : RelV y x)
    (hp : dput k d ks vs = some o) (hl : ps.length < 16777216)
    (opF : ∀ n, keyIs (flatN n) u = true → ∀ kvs, s.heap.DictOf (mixKind X.prog X.w) a kvs → kvs.length ≤ sizeLine → (∀ h' t', h'.DictOf (mixKind X.prog X.w) a (stored kvs (flatN n) x) → Heap.SameBut a s.heap h' → Q () { s with heap := h', toks := t' }) → wpAny (model X.prog X.w) A op Q E s)
    (opT : ∀ n b, u = .ref b → (nestedKind X.prog X.w).is s.heap n b → ∀ xs, s.heap.DictOfH (nestedKind X.prog X.w) a xs → xs.length ≤ sizeLine → (∀ h' t', h'.DictOfH (nestedKind X.prog X.w) a (storedH xs n b x) → Heap.SameBut a s.heap h' → Q () { s with heap := h', toks := t' }) → wpAny (model X.prog X.w) A op Q E s)
    (h : ∀ s' ps' b', Inv X pins σ (upd H a (.ext (DI X.w a ps'))) s' → RVd (kx X) M ρ H b' o.1 o.2 ps' → Q () s') : wpAny (model X.prog X.w) A op Q E s := by
  obtain ⟨n, hk⟩ := dput_key hp
  obtain ⟨b', hn, r'⟩ := dput_kind r hk hp
  have hi := key_is I rk u n ru hk
  cases b' with
  | false =>
    obtain ⟨hsm, dd, hz⟩ := flat_dict I e r'
    refine opF n (kind_flat (w := X.w) hn hi (not_bool rk ru hk)).1 _ dd (by rw [List.length_map, size_line_eq]; exact hz) fun h' t' dd' hs => ?_
    obtain ⟨ps', I', r2⟩ := put_flat (t' := t') I e r' rk ru rd ry hk hn hp hl dd' hs
    exact h _ ps' false I' r2
  | true =>
    obtain ⟨hsm, dd, hz⟩ := tup_dict I e r'
    obtain ⟨ns, rfl, hd⟩ := kind_tup hn
    have hr := tup_ref hi
    refine opT (.tup ns) (addrOf u) hr ⟨by rw [← hr]; exact hi, hd⟩ _ dd (by rw [List.length_map, size_line_eq]; exact hz) fun h' t' dd' hs => ?_
    obtain ⟨ps', I', r2⟩ := put_tup (t' := t') I e r' rk ru rd ry hk hn hp hl hr dd' hs
    exact h _ ps' true I' r2
theorem x_dictSet {Q : Unit → Shared → Prop} {b : Bool} (hu : A.units + 8 < cLine) (I : Inv X pins σ H s) (e : H a = some (.ext (DI X.w a ps))) (r : RVd (kx X) M ρ H b ks vs ps) (rk : RV (kx X) M ρ H k v) (ru : RelV v u) (rd : RV (kx X) M ρ H d y) (ry : RelV y x)
    (hp : dput k d ks vs = some o) (hl : ps.length < 16777216)
    (h : ∀ s' ps' b', Inv X pins σ (upd H a (.ext (DI X.w a ps'))) s' → RVd (kx X) M ρ H b' o.1 o.2 ps' → Q () s') : wpAny (model X.prog X.w) A (dictSet a u x) Q E s := by
  refine x_put I e r rk ru rd ry hp hl (fun n hk kvs dd hz q => wpAny_dictSet_pairs (hsz := hz) hk dd fun h' dd' hs => q h' _ dd' hs) (fun n b hb hk xs dd hz q => ?_) h
  subst hb
  exact wpAny_dictSet_heap (knd := nestedKind X.prog X.w) (hsz := hz) hu hk dd fun h' dd' hs => q h' _ dd' hs
theorem x_setItem {Q : Unit → Shared → Prop} {b : Bool} (hu : A.units + 64 < cLine) (I : Inv X pins σ H s) (e : H a = some (.ext (DI X.w a ps))) (r : RVd (kx X) M ρ H b ks vs ps) (rk : RV (kx X) M ρ H k v) (ru : RelV v u) (rd : RV (kx X) M ρ H d y) (ry : RelV y x)
    (hp : dput k d ks vs = some o) (hl : ps.length < 16777216)
    (h : ∀ s' ps' b', Inv X pins σ (upd H a (.ext (DI X.w a ps'))) s' → RVd (kx X) M ρ H b' o.1 o.2 ps' → Q () s') : wpAny (model X.prog X.w) A (setItem (.ref a) u x) Q E s := by
  refine x_put I e r rk ru rd ry hp hl (fun n hk kvs dd hz q => wpAny_setItem_pairs (hsz := hz) hk dd fun h' dd' hs => q h' _ dd' hs) (fun n b hb hk xs dd hz q => ?_) h
  subst hb
  exact wpAny_setItem_heap (knd := nestedKind X.prog X.w) (hsz := hz) (by show A.in1.units + 8 < cLine; show A.units + 1 + 8 < cLine; omega) hk dd fun h' dd' hs => q h' _ dd' hs
end
end Cl

set_option Elab.async false
set_option linter.all false
set_option maxRecDepth 100000
/-! SoundI: dict comprehensions (the walk follows the layer's own for its dicts). -/
namespace Cl
open PySem PySem.Spec PyProof.Rows L2

section
variable {X : Cx}
/-- {k: v for target in iter if ..}: L the new dict -/
def tDx (w : World) (wi : TI) (g : TG) (tt : TT) (tk tv : TE) (vs : List Nat) : TE := fun σ H Q => wi σ H fun J H1 => ∀ L, H1 L = none → ∃ W : Nat → Nat → Hp → Prop, (∃ m, W 0 m (upd H1 L (.ext (DI w L [])))) ∧ ∀ i m H, W i m H →
  (J.stop i H ∧ Q (.ref L) H) ∨ (J.go i H ∧ ∃ Nx : Hp → Prop, (∀ H', Nx H' → ∃ m', m' < m ∧ W (i + 1) m' H') ∧ ∀ x H', J.yld i H x H' → g x (L2.wipe σ vs) H' fun σ2 H2 => L2.wipe σ2 vs = L2.wipe σ vs ∧ tt σ2 H2 fun b H3 =>
    if b = true then tk σ2 H3 fun y H4 => tv σ2 H4 fun z H5 => ∃ (ps : List (NestedKey × DictEntry)) (b : Bool) (ks ds : List D) (k d : D) (o : List D × List D) (M : Addr → Prop) (ρ : List Addr), H5 L = some (.ext (DI w L ps)) ∧
      RVd (kx X) M ρ H5 b ks ds ps ∧ RV (kx X) M ρ H5 k y ∧ RV (kx X) M ρ H5 d z ∧ dput k d ks ds = some o ∧ ps.length < 16777216 ∧ ∀ ps' b', RVd (kx X) M ρ H5 b' o.1 o.2 ps' → Nx (upd H5 L (.ext (DI w L ps'))) else Nx H3)
theorem dx_core {pins : List (Addr × Obj)} {s : Shared} {σ : L2.St} {H : Hp} {Q : VK} {ke ve tg iter : Expr} {ifs : List Expr} {scope : Scope} {own : List (Str × Nat)} {pos pos' : Pos} {wi : TI} {g : TG} {tt : TT} {tk tv : TE} {use : Option (Value → Sem Unit)} {Qf : Value → Shared → Prop}
    (hu : X.A.units + 8 < cLine) (hc : X.calm = true) (hN : X.N.Nodup) (I : Inv X pins σ H s) (hi : PI X tg iter wi) (ok : BlkOk X.N X.env.scope scope own)
    (hg : ∀ (s : Shared) (H : Hp) (C : Addr) (cl : List (Str × Addr)) (fp : List Addr), PG (X.blk s H scope (compEnvC scope cl C X.env) fp) tg g) (ht : ∀ (s : Shared) (H : Hp) (C : Addr) (cl : List (Str × Addr)) (fp : List Addr), PTs (X.blk s H scope (compEnvC scope cl C X.env) fp) ifs tt)
    (hk : ∀ (s : Shared) (H : Hp) (C : Addr) (cl : List (Str × Addr)) (fp : List Addr), PE (X.blk s H scope (compEnvC scope cl C X.env) fp) ke tk)
    (he : ∀ (s : Shared) (H : Hp) (C : Addr) (cl : List (Str × Addr)) (fp : List Addr), PE (X.blk s H scope (compEnvC scope cl C X.env) fp) ve tv) (hs : ∀ x, foldedSetIterable iter X.env x = pure x)
    (h : tDx (X := X) X.w wi g tt tk tv (own.map (·.2)) σ H Q)
    (hRR : ∀ L C s' m H', Inv X pins σ H' s' → Q (.ref L) H' → s'.heap.Ns C m → FpOk X pins H' C → compPost (model X.prog X.w) X.A X.xe use Qf (.ref L) C (.ok .next) s') :
    wpAny (model X.prog X.w) X.A (comprehension (.DictComp ke ve [⟨tg, iter, ifs, 0⟩] scope pos) scope X.env pos' newDict false (eval iter X.env) use) Qf X.xe s := by
  have hfree : ∀ y ∈ scope.names, y.2 = .free → ∃ c, X.env.cells.lookup y.1 = some c := fun y hy e => by
    rcases ok.free y hy e with k | k
    · exact I.ok.has _ (.inl k)
    · exact I.ok.has _ (.inr k)
  refine wpAny_comprehension_free (use := use) rfl hs (closure_ok hfree) ok.kind (fun y hy e => by rw [ok.uniq y hy, e])
    (thn (hi.run pins s σ H _ I h) fun xv s1 hx => thn hx fun itv s2 h2 => ?_)
  obtain ⟨it, fp, tn, J, H2, e, I2, T, st2, f2, q⟩ := h2
  subst e
  refine wpAny_newObj_type (newEnv_comp ?_)
  generalize hD : s2.heap.objs.size = L
  have hDn : H2 L = none := I2.hok.fresh (Nat.le_of_eq hD)
  obtain ⟨W, ⟨m0, w0⟩, turn⟩ := q L hDn
  -- the new list
  generalize hs3 : ({ s2 with heap := s2.heap.push { cls := .type "dict", data := .dict #[] } } : Shared) = s3
  have I3 : Inv X pins σ (upd H2 L (.ext (DI X.w L []))) s3 := by
    rw [← hs3]
    refine I2.laid (t' := s2.toks) (fun b o e => Heap.get?_push_of_some _ e) (Nat.le_of_eq hD) ?_
    rw [← hD]
    exact DI.new s2.heap I2.big
  have h3 : s3.heap = s2.heap.push { cls := .type "dict", data := .dict #[] } := by rw [← hs3]
  have sz : ∀ b ∈ fp, b < s2.heap.objs.size := fun b hb => by
    obtain ⟨o, e, _⟩ := T.obj _ _ st2 b hb
    exact Heap.lt_size e
  have f3 : ∀ b ∈ fp, FpOk X pins (upd H2 L (.ext (DI X.w L []))) b ∧ b < s3.heap.objs.size := fun b hb => by
    have hlt := sz b hb
    refine ⟨⟨?_, (f2 b hb).2⟩, by rw [h3, Heap.size_push]; exact Nat.lt_succ_of_lt hlt⟩
    rw [upd_ne (by rw [← hD]; exact Nat.ne_of_lt hlt)]
    exact (f2 b hb).1
  have st3 : tn 0 s3.heap := T.keep _ _ _ st2 fun b _ o e => by rw [h3]; exact Heap.get?_push_of_some _ e
  have I4 := block_start I3 ok hN f3
  have pg := hg s3 (upd H2 L (.ext (DI X.w L []))) s3.heap.objs.size (cellsFrom (s3.heap.objs.size + 1) scope.names (cloFrom X.env.cells scope.names [])) fp
  have pt := ht s3 (upd H2 L (.ext (DI X.w L []))) s3.heap.objs.size (cellsFrom (s3.heap.objs.size + 1) scope.names (cloFrom X.env.cells scope.names [])) fp
  have pk := hk s3 (upd H2 L (.ext (DI X.w L []))) s3.heap.objs.size (cellsFrom (s3.heap.objs.size + 1) scope.names (cloFrom X.env.cells scope.names [])) fp
  have pe := he s3 (upd H2 L (.ext (DI X.w L []))) s3.heap.objs.size (cellsFrom (s3.heap.objs.size + 1) scope.names (cloFrom X.env.cells scope.names [])) fp
  show codeAny _ _ (.compStart (.DictComp ke ve [⟨tg, iter, ifs, 0⟩] scope pos) 0 (.ref it) (.ref L) (compEnvC scope (cellsFrom (s3.heap.objs.size + 1) scope.names (cloFrom X.env.cells scope.names [])) s3.heap.objs.size X.env)) (compPost (model X.prog X.w) X.A X.xe use Qf (.ref L) s3.heap.objs.size) { s3 with heap := pushCells (s3.heap.push { cls := .type "dict", data := .dict #[] }) scope.names }
  have nfp : ∀ b ∈ fp, (upd H2 L (.ext (DI X.w L []))) b = none := fun b hb => (f3 b hb).1.1
  generalize hce : compEnvC scope (cellsFrom (s3.heap.objs.size + 1) scope.names (cloFrom X.env.cells scope.names [])) s3.heap.objs.size X.env = ce at I4 pg pt pk pe ⊢
  have cL : ce.locals = s3.heap.objs.size := by subst hce; rfl
  generalize hH3 : upd H2 L (.ext (DI X.w L [])) = H3 at I3 I4 pg pt pk pe w0 nfp f3
  generalize hs4 : ({ s3 with heap := pushCells (s3.heap.push { cls := .type "dict", data := .dict #[] }) scope.names } : Shared) = s4 at I4 ⊢
  have st4 : tn 0 s4.heap := T.keep _ _ _ st3 fun b _ o e => by rw [← hs4]; exact pushCells_keeps _ _ _ _ (Heap.get?_push_of_some _ e)
  have stat : ∀ {σ' : L2.St} {H' : Hp} {s' : Shared}, Inv (X.blk s3 H3 scope ce fp) [] σ' H' s' → (∀ b ∈ fp, H' b = none) → ∀ b ∈ fp, FpOk (X.blk s3 H3 scope ce fp) [] H' b := fun {σ' H' s'} I' hn b hb =>
    ⟨hn b hb, (I'.ok.exf b hb).1, I'.ok.exfs b hb, .inl hb, fun x c e => (I'.ok.exf b hb).2 x c e, fun p hp => absurd (show p ∈ ([] : List (Addr × Obj)) ++ [] from hp) (by simp)⟩
  have loop : codeAny (model X.prog X.w) X.A (.compLoop (.DictComp ke ve [⟨tg, iter, ifs, 0⟩] scope pos) 0 (.ref it) (.ref L) ce) (compPost (model X.prog X.w) X.A X.xe use Qf (.ref L) s3.heap.objs.size) s4 := by
    refine compLoop_anyD (fun n s' => ∃ i H', Inv (X.blk s3 H3 scope ce fp) [] (wipe σ (own.map (·.2))) H' s' ∧ tn i s'.heap ∧ (∀ b ∈ fp, H' b = none) ∧ W i n H') ?_ m0 ⟨0, H3, I4, st4, nfp, w0⟩
    rintro n s5 ⟨i, H5, I5, st5, n5, w5⟩
    rcases turn i n H5 w5 with ⟨stop, qq⟩ | ⟨go, Nx, hNx, step⟩
    · have td := T.done (X.blk s3 H3 scope ce fp) rfl rfl rfl hc i [] s5 _ H5 (fun _ _ => False) I5 (stat I5 n5) st5 stop
      refine thnF td fun r s6 ⟨hr, I6⟩ => ?_
      subst hr
      -- back in the def's context
      have I7 : Inv X pins σ H5 s6 := I3.call' (ch := fp) I6.os I6.base I6.hok I6.bare fun b hb => ⟨(f3 b hb).1.2.2.2.1, (f3 b hb).1.2.1, (f3 b hb).1.2.2.2.2.1, (f3 b hb).1.2.2.2.2.2⟩
      have nC : H5 s3.heap.objs.size = none := by
        have z : H5 ce.locals = none := I6.free
        rw [cL] at z
        exact z
      obtain ⟨m, hn, _⟩ := I6.loc
      have hn : s6.heap.Ns ce.locals m := hn
      rw [cL] at hn
      exact hRR L s3.heap.objs.size s6 m H5 I7 qq hn (I3.fpOk (Nat.le_refl _) nC)
    · have ti := T.item (X.blk s3 H3 scope ce fp) rfl rfl rfl hc i [] s5 _ H5 (fun _ _ => False) I5 (stat I5 n5) st5 go
      refine thnF ti fun r s6 ⟨u, hr, h6⟩ => ?_
      subst hr
      refine thnF h6 fun _ s7 ⟨x, H7, I7, r7, y7, st7, n7⟩ => ?_
      have I7' := I7.pinned (stat I7 n7) (T.obj _ _ st7)
      refine thnF (pg.run _ s7 _ H7 x u _ I7' r7 (step x H7 y7)) fun _ s8 ⟨σ8, H8, I8, hw8, q8⟩ => ?_
      refine thnF (pt.run _ s8 σ8 H8 _ I8 q8) fun b s9 ⟨H9, I9, q9⟩ => ?_
      -- the turn's end
      have fin : ∀ {s' : Shared} {H' : Hp}, Inv (X.blk s3 H3 scope ce fp) ([] ++ pinsAt fp s7.heap) σ8 H' s' → Nx H' → ∃ m, m < n ∧ ∃ i H', Inv (X.blk s3 H3 scope ce fp) [] (wipe σ (own.map (·.2))) H' s' ∧ tn i s'.heap ∧ (∀ b ∈ fp, H' b = none) ∧ W i m H' := fun {s' H'} I' nx => by
        obtain ⟨m', hm, w'⟩ := hNx H' nx
        have pin' : ∀ b ∈ fp, ∀ o, s7.heap.get? b = some o → s'.heap.get? b = some o ∧ H' b = none := fun b hb o e =>
          let z := I'.pin (b, o) (List.mem_append_right _ (List.mem_append_right _ (mem_pinsAt hb e)))
          ⟨z.1, z.2.1⟩
        have hl : (wipe σ (own.map (·.2))).length = σ8.length := by rw [← hw8, wipe_length]
        refine ⟨m', hm, i + 1, H', (I'.unpinned (pins := [])).weak hl (fun j v e => ?_), T.keep _ _ _ st7 fun b hb o e => (pin' b hb o e).1, fun b hb => ?_, w'⟩
        · rw [← hw8] at e
          exact (wipe_some e).1
        · obtain ⟨o, e, _⟩ := T.obj _ _ st7 b hb
          exact (pin' b hb o e).2
      cases b with
      | false =>
        simp only [Bool.false_eq_true, if_false] at q9 ⊢
        exact fin I9 q9
      | true =>
        simp only [if_true] at q9 ⊢
        refine thnF (pk.run _ s9 σ8 H9 _ I9 q9) fun z s10 ⟨yk, H10, I10, r10, q10⟩ => ?_
        refine thnF (pe.run _ s10 σ8 H10 _ I10 q10) fun z2 s11 ⟨yv, H11, I11, r11, ps, b, ks, ds, k, d, o, M, ρ, hD11, rd11, rk11, rv11, hp11, hz11, nx⟩ => ?_
        exact x_dictSet (X := X.blk s3 H3 scope ce fp) hu I11 hD11 rd11 rk11 r10 rv11 r11 hp11 hz11 fun s12 ps' b' I12 r12 => fin I12 (nx ps' b' r12)
  exact codeAny_compStart_dict loop (T.self X.A 0 _ _ _ st4 loop)
/-- as a value -/
theorem pe_dx {ke ve tg iter : Expr} {ifs : List Expr} {scope : Scope} {own : List (Str × Nat)} {pos : Pos} {wi : TI} {g : TG} {tt : TT} {tk tv : TE} (hu : X.A.units + 8 < cLine) (hc : X.calm = true) (hN : X.N.Nodup) (hi : PI X tg iter wi) (ok : BlkOk X.N X.env.scope scope own)
    (hg : ∀ (s : Shared) (H : Hp) (C : Addr) (cl : List (Str × Addr)) (fp : List Addr), PG (X.blk s H scope (compEnvC scope cl C X.env) fp) tg g) (ht : ∀ (s : Shared) (H : Hp) (C : Addr) (cl : List (Str × Addr)) (fp : List Addr), PTs (X.blk s H scope (compEnvC scope cl C X.env) fp) ifs tt)
    (hk : ∀ (s : Shared) (H : Hp) (C : Addr) (cl : List (Str × Addr)) (fp : List Addr), PE (X.blk s H scope (compEnvC scope cl C X.env) fp) ke tk)
    (he : ∀ (s : Shared) (H : Hp) (C : Addr) (cl : List (Str × Addr)) (fp : List Addr), PE (X.blk s H scope (compEnvC scope cl C X.env) fp) ve tv) (hs : ∀ x, foldedSetIterable iter X.env x = pure x := by intro _; rfl) :
    PE X (.DictComp ke ve [⟨tg, iter, ifs, 0⟩] scope pos) (tDx (X := X) X.w wi g tt tk tv (own.map (·.2))) := by
  refine ⟨fun pins s σ H Q I h => ?_⟩
  rw [arm_eval_DictComp]
  refine dx_core hu hc hN I hi ok hg ht hk he hs h fun L C s' m H' I' q hn f => ⟨m, hn, fun h'' sb => ?_⟩
  obtain ⟨f0, f1, f2, f3, f4, f5⟩ := f
  exact ⟨.ref L, H', I'.turned (t' := s'.toks) (fun b o hb e => (sb.2 b hb).trans e) f0 f1 f3 f4 f5, rfl, q⟩
end

section
variable {X : Cx} {F : Addr → Prop} {H0 : Hp} {M M' M1 : Addr → Prop} {ρ ρ' ρ1 : List Addr} {S S' : CH} {σd σd' : Env} {σ σ' : L2.St} {H H' H1 : Hp}
theorem RVd.len {K : Fg} : ∀ {b : Bool} {ks vs : List D} {ps : List (NestedKey × DictEntry)}, RVd K M ρ H b ks vs ps → ks.length = ps.length
  | _, _, _, _, .nil => rfl
  | _, _, _, _, .cons _ _ _ _ _ _ t => by rw [List.length_cons, List.length_cons, RVd.len t]
theorem dput_len {k d : D} : ∀ {ks vs : List D} {o : List D × List D}, dput k d ks vs = some o → o.1.length ≤ ks.length + 1
  | [], [], o, h => by
    unfold dput at h
    by_cases h1 : (kk k).isSome = true
    · rw [if_pos h1] at h; cases h; simp
    · rw [if_neg h1] at h; cases h
  | k' :: ks, v' :: vs, o, h => by
    obtain ⟨_, _, h⟩ := dput_cons h
    rcases h with ⟨_, rfl⟩ | ⟨_, p, hp, rfl⟩
    · simp
    · have := dput_len hp
      simp; omega
  | [], _ :: _, _, h => by unfold dput at h; cases h
  | _ :: _, [], _, h => by unfold dput at h; cases h
structure DcAt (K : Fg) (F : Addr → Prop) (ρ1 : List Addr) (M1 : Addr → Prop) (H1 : Hp) (L : Addr) (ρ : List Addr) (M : Addr → Prop) (S : CH) (H : Hp) (ks vs : List D) : Prop where
  rh : RepH K ρ M S H
  x : Ext ρ1 M1 H1 ρ M H
  m : M L
  n : L ∉ ρ
  f : ¬ F L
  at_ : Own K M ρ H L (.dct ks vs)
theorem DcAt.put {K : Fg} {L : Addr} {ks vs : List D} {o : List D × List D} {ps' : List (NestedKey × DictEntry)} {b' : Bool} (l : DcAt K F ρ1 M1 H1 L ρ M S H ks vs) (hD : H1 L = none) (tr : ∀ a, M1 a → H1 a ≠ none) (r : RVd K M ρ H b' o.1 o.2 ps') :
    DcAt K F ρ1 M1 H1 L ρ M S (upd H L (.ext (DI K.w L ps'))) o.1 o.2 :=
  ⟨l.rh.poke l.m l.n, l.x.poke hD tr, l.m, l.n, l.f, ps', b', upd_same, r.stay (stay_poke l.m)⟩
theorem DcAt.step {K : Fg} {L : Addr} {ks vs : List D} (l : DcAt K F ρ1 M1 H1 L ρ M S H ks vs) (rh : RepH K ρ' M' S' H') (x : Ext ρ M H ρ' M' H') : DcAt K F ρ1 M1 H1 L ρ' M' S' H' ks vs := by
  obtain ⟨h1, m1, n1⟩ := x.mine L l.m l.n
  exact ⟨rh, l.x.trans x, m1, n1, l.f, l.at_.stay x.stay h1⟩
/-- a new object of one's own: its place joins M -/
theorem new_mine {K : Fg} {p : Addr} {o : HO} (r : Rep K F H0 ρ M S σd σ H) (hp : H p = none) :
    Rep K F H0 ρ (fun a => M a ∨ a = p) S σd σ (upd H p o) ∧ Ext ρ M H ρ (fun a => M a ∨ a = p) (upd H p o) ∧ p ∉ ρ ∧ ¬ F p := by
  have np : ∀ a, M a → a ≠ p := fun a m z => r.tr a m (by rw [z]; exact hp)
  have x : Ext ρ M H ρ (fun a => M a ∨ a = p) (upd H p o) := by
    refine ⟨fun a u h n => ⟨?_, ?_⟩, fun a m n => ⟨upd_ne (np a m), .inl m, n⟩, fun _ _ h => h⟩
    · rw [upd_ne (fun z => by subst z; rw [hp] at h; cases h)]; exact h
    · rintro (z | z)
      · exact n z
      · subst z; rw [hp] at h; cases h
  refine ⟨r.of_ext x (fun a h => ⟨.inl (r.mm a h), upd_ne (np a (r.mm a h))⟩) fun a m => ?_, x, fun h => np p (r.mm p h) rfl, fun f => np p (r.fo p f).1 rfl⟩
  rcases m with m | m
  · rw [upd_ne (np a m)]; exact r.tr a m
  · subst m; rw [upd_same]; exact fun z => by cases z
theorem DcAt.start {K : Fg} {L : Addr} (r : Rep K F H0 ρ M S σd σ H) (hD : H L = none) : DcAt K F ρ M H L ρ (fun a => M a ∨ a = L) S (upd H L (.ext (DI K.w L []))) [] [] := by
  obtain ⟨r2, x2, h3, h4⟩ := new_mine (o := .ext (DI K.w L [])) r hD
  exact ⟨r2.heap, x2, .inr rfl, h3, h4, [], false, upd_same, .nil⟩

theorem tDx_of {mi : Env → Cm (List D)} {ns vs : List Nat} {bind : D → Env → Option Env} {mk mv : Env → Cm D} (sub : ∀ j ∈ ns, j ∈ vs) {Q : VK}
    (h : tF (kx X) (fun σ => do
      let xs ← mi σ
      if xs.length ≤ 1000000 then do
        let p ← dcompM (fun d => bind d (σ.wipe vs)) mk mv xs [] []
        pure (.dct p.1 p.2)
      else Cm.fail) σ H Q) : tDx (X := X) X.w (tI (kx X) true mi) (gB (kx X) ns bind) (tT (kx X) fun _ => pure true) (tV (kx X) mk) (tV (kx X) mv) vs σ H Q := by
  obtain ⟨F, H0, ρ, M, S, σd, d, S', r, e, q⟩ := h
  obtain ⟨xs, S1, e1, e⟩ := bind_ok e
  have e := (ite_ok e).resolve_right fun z => (fail_ok z.2).elim
  obtain ⟨hxs, e⟩ := e
  obtain ⟨p, S2, e2, e⟩ := bind_ok e
  obtain ⟨rfl, rfl⟩ := pure_ok e
  refine ⟨F, H0, ρ, M, S, σd, xs, S1, r, e1, fun J As ρ1 M1 H1 r1 x1 hA _ wk L hD => ?_⟩
  refine ⟨fun i m H => m = xs.length - i ∧ i ≤ xs.length ∧ ∃ (ρ3 : List Addr) (M3 : Addr → Prop) (S3 : CH) (ks ds : List D), DcAt (kx X) F ρ1 M1 H1 L ρ3 M3 S3 H ks ds ∧ ks.length ≤ i ∧
    dcompM (fun d => bind d (σd.wipe vs)) mk mv (xs.drop i) ks ds S3 = some (.ok p S2), ⟨_, rfl, Nat.zero_le _, ρ1, _, S1, [], [], DcAt.start r1 hD, Nat.le_refl _, e2⟩, ?_⟩
  rintro i m H2 ⟨rfl, hi, ρ3, M3, S3, ks, ds, l, hdl, hc⟩
  have r3 : Rep (kx X) F H0 ρ3 M3 S3 σd σ H2 := r1.of_heap l.rh l.x
  obtain ⟨w1, w2⟩ := wk ρ3 M3 H2 l.x.stay r3.tr fun a ha => (l.x.mine a (hA a ha).1 (hA a ha).2).1
  rcases (Nat.lt_or_ge i xs.length).symm with hlt | hlt
  · have ei : i = xs.length := by omega
    subst ei
    refine .inl ⟨w2, ?_⟩
    rw [List.drop_length] at hc
    obtain ⟨rfl, rfl⟩ := pure_ok (show (pure (ks, ds) : Cm (List D × List D)) S3 = _ from hc)
    exact q _ ρ3 M3 H2 r3 (x1.trans l.x) ⟨L, rfl, x1.back r1.tr r1.mm hD, l.m, l.n, l.f, l.at_⟩
  · obtain ⟨go, yl⟩ := w1 i xs[i] (List.getElem?_eq_getElem hlt)
    rw [List.drop_eq_getElem_cons hlt] at hc
    have hc : (do
      let σ ← Cm.lift (bind xs[i] (σd.wipe vs))
      let kd ← mk σ
      let vd ← mv σ
      let p ← Cm.lift (dput kd vd ks ds)
      dcompM (fun d => bind d (σd.wipe vs)) mk mv (xs.drop (i + 1)) p.1 p.2) S3 = some (.ok p S2) := hc
    obtain ⟨σb, S4, f1, hc⟩ := bind_ok hc
    obtain ⟨f1', rfl⟩ := lift_ok f1
    obtain ⟨kd, S5, f2, hc⟩ := bind_ok hc
    obtain ⟨vd, S6, f3, hc⟩ := bind_ok hc
    obtain ⟨o, S7, f4, hc⟩ := bind_ok hc
    obtain ⟨f4', rfl⟩ := lift_ok f4
    refine .inr ⟨go, fun H' => ∃ m', m' < xs.length - i ∧ m' = xs.length - (i + 1) ∧ i + 1 ≤ xs.length ∧ ∃ (ρ4 : List Addr) (M4 : Addr → Prop) (S4 : CH) (ks ds : List D), DcAt (kx X) F ρ1 M1 H1 L ρ4 M4 S4 H' ks ds ∧ ks.length ≤ i + 1 ∧
      dcompM (fun d => bind d (σd.wipe vs)) mk mv (xs.drop (i + 1)) ks ds S4 = some (.ok p S2), fun H' ⟨m', h1, h2⟩ => ⟨m', h1, h2⟩, fun x H3 hy => ?_⟩
    obtain ⟨hH3, rv⟩ := yl x H3 hy
    have st : Rep (kx X) F H0 ρ3 M3 S3 σd σ H3 ∧ Ext ρ3 M3 H2 ρ3 M3 H3 := by
      rcases hH3 with rfl | ⟨T, o, hT, rfl⟩
      · exact ⟨r3, Ext.refl⟩
      · exact ⟨r3.new hT, Ext.new r3 hT⟩
    obtain ⟨r4, x4⟩ := st
    have l4 := l.step r4.heap x4
    refine ⟨F, H0, ρ3, M3, S3, σd.wipe vs, _, σb, r4.wipe vs, rv, f1', fun σ2 r5 hl hj => ?_⟩
    refine ⟨wipe_eq hl fun j hjv => hj j fun hjn => hjv (sub j hjn), ?_⟩
    refine ⟨F, H0, ρ3, M3, S3, σb, true, S3, r5, rfl, fun ρ6 M6 H6 r6 x6 => ?_⟩
    have l6 := l4.step r6.heap x6
    dsimp only
    rw [if_pos rfl]
    refine ⟨F, H0, ρ6, M6, S3, σb, kd, S5, r6, f2, fun vk ρ7 M7 H7 r7 x7 rv7 => ?_⟩
    have l7 := l6.step r7.heap x7
    refine ⟨F, H0, ρ7, M7, S5, σb, vd, S6, r7, f3, fun vv ρ8 M8 H8 r8 x8 rv8 => ?_⟩
    have l8 := l7.step r8.heap x8
    obtain ⟨ps, b, ha, rs⟩ := l8.at_
    have hlen := rs.len
    refine ⟨ps, b, ks, ds, kd, vd, o, M8, ρ8, ha, rs, rv7.ext x8, rv8, f4', by omega, fun ps' b' r' => ?_⟩
    refine ⟨xs.length - (i + 1), by omega, rfl, hlt, ρ8, M8, S6, o.1, o.2, l8.put hD r1.tr r', ?_, hc⟩
    have := dput_len f4'
    omega
end
end Cl

set_option Elab.async false
set_option linter.all false
set_option maxRecDepth 100000
/-! SoundJ: built-in functions by data. -/
namespace Cl
open PySem PySem.Spec PyProof.Rows L2

/-- results that are new lists, new dicts -/
def frBI : BI → Bool
  | .list => true
  | .sorted => true
  | .dict => true
  | _ => false
inductive RNs (K : Fg) (M : Addr → Prop) (ρ : List Addr) (H : Hp) : List D → List V → Prop
  | nil : RNs K M ρ H [] []
  | cons {d v ds vs} : RN K M ρ H d v → RNs K M ρ H ds vs → RNs K M ρ H (d :: ds) (v :: vs)
def RFV (fr : Bool) (K : Fg) (F M : Addr → Prop) (ρ : List Addr) (H H1 : Hp) (d : D) (w : V) : Prop := if fr then RF K F M ρ H H1 d w else RV K M ρ H1 d w
/-- what a built-in's call gives, by data -/
def rBI (K : Fg) (f : BI) : List V → Hp → VK → Prop := fun vs H Q => ∃ (F : Addr → Prop) (H0 : Hp) (ρ : List Addr) (M : Addr → Prop) (S : CH) (σd : Env) (σ : L2.St) (xs : List D) (d : D),
  Rep K F H0 ρ M S σd σ H ∧ RNs K M ρ H xs vs ∧ biD f xs = some d ∧ ∀ w ρ' M' H', Rep K F H0 ρ' M' S σd σ H' → Ext ρ M H ρ' M' H' → RFV (frBI f) K F M' ρ' H H' d w → Q w H'
theorem cimp {X : Cx} {u : Value} {r r' : List V → Hp → VK → Prop} (h : CallR X u r) (i : ∀ xs H Q, r' xs H Q → r xs H Q) : CallR X u r' := fun pins s σ H xs us Q I rx q => h pins s σ H xs us Q I rx (i _ _ _ q)

section
variable {K : Fg} {F : Addr → Prop} {H0 : Hp} {M M' : Addr → Prop} {ρ ρ' : List Addr} {S S' : CH} {σd : Env} {σ : L2.St} {H H' : Hp}
theorem RNs.one {d : D} {vs : List V} (r : RNs K M ρ H [d] vs) : ∃ v, vs = [v] ∧ RN K M ρ H d v := by
  cases r with
  | cons a b => cases b; exact ⟨_, rfl, a⟩
theorem RNs.two {d e : D} {vs : List V} (r : RNs K M ρ H [d, e] vs) : ∃ v u, vs = [v, u] ∧ RN K M ρ H d v ∧ RN K M ρ H e u := by
  cases r with
  | cons a b =>
    cases b with
    | cons b c => cases c; exact ⟨_, _, rfl, a, b⟩
theorem derefs_ok : ∀ {ds ds' : List D} {vs : List V} {S S' : CH}, Rep K F H0 ρ M S σd σ H → RBs K M ρ H ds vs → derefs ds S = some (.ok ds' S') → S' = S ∧ RNs K M ρ H ds' vs
  | [], ds', _, S, S', r, .nil, e => by
    obtain ⟨rfl, rfl⟩ := pure_ok (show (pure [] : Cm (List D)) S = _ from e)
    exact ⟨rfl, .nil⟩
  | d :: ds, ds', _, S, S', r, .cons b t, e => by
    have e : (do let x ← deref d; let xs ← derefs ds; pure (x :: xs)) S = some (.ok ds' S') := e
    obtain ⟨x, S1, e1, e⟩ := bind_ok e
    obtain ⟨xs, S2, e2, e⟩ := bind_ok e
    obtain ⟨rfl, rfl⟩ := pure_ok e
    obtain ⟨rfl, n1⟩ := deref_ok r b e1
    obtain ⟨rfl, n2⟩ := derefs_ok r t e2
    exact ⟨rfl, .cons n1 n2⟩
/-- a list that is readable at the moment -/
theorem RN.lst {ds : List D} {v : V} (r : RN K M ρ H (.lst ds) v) : ∃ a xs, v = .ref a ∧ SqL K.fr H a xs ∧ RVs K M ρ H ds xs := by
  rcases r with r | ⟨a, rfl, xs, h, rs⟩
  · cases r with
    | @lst a xs ds t rs => exact ⟨a, xs, rfl, t.sq, rs⟩
  · exact ⟨a, xs, rfl, SqL.of h, rs⟩
theorem RN.tup {ds : List D} {v : V} (r : RN K M ρ H (.tup ds) v) : ∃ a xs, v = .ref a ∧ TupAt K M H a xs ∧ RVs K M ρ H ds xs := by
  rcases r with r | ⟨a, rfl, z⟩
  · cases r with
    | @tup a xs ds t rs => exact ⟨a, xs, rfl, t, rs⟩
  · exact z.elim
theorem RN.dct {ks vs : List D} {v : V} (r : RN K M ρ H (.dct ks vs) v) : ∃ a ps b, v = .ref a ∧ H a = some (.ext (DI K.w a ps)) ∧ RVd K M ρ H b ks vs ps := by
  rcases r with r | ⟨a, rfl, ps, b, h, rs⟩
  · cases r with
    | dct h _ rs => exact ⟨_, _, _, rfl, h, rs⟩
  · exact ⟨a, ps, b, rfl, h, rs⟩
theorem RN.str {x : Str} {v : V} (r : RN K M ρ H (.str x) v) : v = .str x := by
  rcases r with r | ⟨a, rfl, z⟩
  · cases r; rfl
  · exact z.elim
theorem RN.bl {x : Bool} {v : V} (r : RN K M ρ H (.bl x) v) : v = .bl x := by
  rcases r with r | ⟨a, rfl, z⟩
  · cases r; rfl
  · exact z.elim
theorem RVs.bools : ∀ {ds : List D} {vs : List V} {bs : List Bool}, RVs K M ρ H ds vs → bools? ds = some bs → vs = bs.map V.bl
  | _, _, bs, .nil, e => by simp only [bools?] at e; cases e; rfl
  | _, _, bs, .cons (d := d) r t, e => by
    cases d with
    | bl b =>
      simp only [bools?] at e
      obtain ⟨bs', h, rfl⟩ := Option.map_eq_some_iff.mp e
      cases r
      rw [RVs.bools t h]; rfl
    | _ => simp only [bools?] at e; cases e
theorem RVs.ints : ∀ {ds : List D} {vs : List V} {bs : List Int}, RVs K M ρ H ds vs → ints? ds = some bs → vs = bs.map V.int
  | _, _, bs, .nil, e => by simp only [ints?] at e; cases e; rfl
  | _, _, bs, .cons (d := d) r t, e => by
    cases d with
    | int b =>
      simp only [ints?] at e
      obtain ⟨bs', h, rfl⟩ := Option.map_eq_some_iff.mp e
      cases r
      rw [RVs.ints t h]; rfl
    | _ => simp only [ints?] at e; cases e
end

section
variable {X : Cx}
def rLenX (K : Fg) : List V → Hp → VK → Prop := fun vs H Q => ∃ (a : Addr) (ps : List (NestedKey × DictEntry)) (b : Bool) (ks ds : List D) (M : Addr → Prop) (ρ : List Addr), vs = [.ref a] ∧ H a = some (.ext (DI K.w a ps)) ∧ RVd K M ρ H b ks ds ps ∧ Q (.int (ks.length : Nat)) H
theorem call_lenX : CallR X (.builtin "len") (rLenX (kx X)) := by
  intro pins s σ H xs us Q I r h
  obtain ⟨a, ps, b, ks, ds, M, ρ, rfl, e, rd, q⟩ := h
  obtain ⟨u, rfl, rx⟩ := vals1 r
  cases rx
  have hl := rd.len
  cases b with
  | false =>
    obtain ⟨hsm, dd, hz⟩ := flat_dict I e rd
    refine call_len_dict hsm dd (by rw [List.length_map]; omega) ⟨.int (ks.length : Nat), H, I.tok _, ⟨_, by rw [List.length_map, hl]⟩, q⟩
  | true =>
    obtain ⟨hsm, dd, hz⟩ := tup_dict I e rd
    refine call_len_dictH hsm dd (by rw [List.length_map]; omega) ⟨.int (ks.length : Nat), H, I.tok _, ⟨_, by rw [List.length_map, hl]⟩, q⟩
theorem size63 {n : Nat} (h : n ≤ sizeLine) : n ≤ sizeLine := h
theorem bi1 {f : BI} {xs : List D} {d : D} (h : biD f xs = some d) (hf : f = .len ∨ f = .abs ∨ f = .tuple ∨ f = .list ∨ f = .sorted ∨ f = .all ∨ f = .any ∨ f = .int ∨ f = .repr ∨ f = .dict) : ∃ x, xs = [x] := by
  unfold biD at h
  split at h <;> first | exact ⟨_, rfl⟩ | (cases h; done) | (rcases hf with h | h | h | h | h | h | h | h | h | h <;> cases h)
theorem c_len : CallR X (.builtin "len") (rBI (kx X) .len) := by
  refine cimp (CallR.or (call_len (X := X)) (call_lenX (X := X))) ?_
  rintro vs H Q ⟨F, H0, ρ, M, S, σd, σ, xs, d, r, rn, e, q⟩
  have q : ∀ w ρ' M' H', Rep (kx X) F H0 ρ' M' S σd σ H' → Ext ρ M H ρ' M' H' → RV (kx X) M' ρ' H' d w → Q w H' := q
  obtain ⟨x, rfl⟩ := bi1 e (.inl rfl)
  obtain ⟨v, rfl, r1⟩ := rn.one
  cases x with
  | tup ds =>
    obtain ⟨a, xs, rfl, t, rs⟩ := r1.tup
    simp only [biD] at e
    cases e
    refine .inl ⟨_, ds.length, rfl, .inr ⟨xs, t.sq, rs.length⟩, q _ ρ M H r Ext.refl (.int _)⟩
  | lst ds =>
    obtain ⟨a, xs, rfl, t, rs⟩ := r1.lst
    simp only [biD] at e
    cases e
    refine .inl ⟨_, ds.length, rfl, .inl ⟨xs, t, rs.length⟩, q _ ρ M H r Ext.refl (.int _)⟩
  | dct ks ds =>
    obtain ⟨a, ps, b, rfl, h, rd⟩ := r1.dct
    simp only [biD] at e
    cases e
    exact .inr ⟨a, ps, b, ks, ds, M, ρ, rfl, h, rd, q _ ρ M H r Ext.refl (.int _)⟩
  | str x =>
    cases r1.str
    simp only [biD] at e
    by_cases hx : x.length ≤ sizeLine
    · rw [if_pos hx] at e
      cases e
      exact .inl ⟨_, x.length, rfl, ⟨hx, rfl⟩, q _ ρ M H r Ext.refl (.int _)⟩
    · rw [if_neg hx] at e; cases e
  | _ => simp only [biD] at e; cases e
theorem c_abs : CallR X (.builtin "abs") (rBI (kx X) .abs) := by
  refine cimp (call_abs (X := X)) ?_
  rintro vs H Q ⟨F, H0, ρ, M, S, σd, σ, xs, d, r, rn, e, q⟩
  have q : ∀ w ρ' M' H', Rep (kx X) F H0 ρ' M' S σd σ H' → Ext ρ M H ρ' M' H' → RV (kx X) M' ρ' H' d w → Q w H' := q
  obtain ⟨x, rfl⟩ := bi1 e (.inr (.inl rfl))
  obtain ⟨v, rfl, r1⟩ := rn.one
  cases x with
  | int i =>
    cases r1.int
    simp only [biD] at e
    cases e
    exact ⟨i, rfl, q _ ρ M H r Ext.refl (.int _)⟩
  | _ => simp only [biD] at e; cases e
theorem c_int : CallR X (.type "int") (rBI (kx X) .int) := by
  refine cimp (call_int1 (X := X)) ?_
  rintro vs H Q ⟨F, H0, ρ, M, S, σd, σ, xs, d, r, rn, e, q⟩
  have q : ∀ w ρ' M' H', Rep (kx X) F H0 ρ' M' S σd σ H' → Ext ρ M H ρ' M' H' → RV (kx X) M' ρ' H' d w → Q w H' := q
  obtain ⟨x, rfl⟩ := bi1 e (by simp)
  obtain ⟨v, rfl, r1⟩ := rn.one
  cases x with
  | int i =>
    cases r1.int
    simp only [biD] at e
    cases e
    exact .inl ⟨i, rfl, q _ ρ M H r Ext.refl (.int _)⟩
  | bl i =>
    cases r1.bl
    simp only [biD] at e
    cases e
    exact .inr ⟨i, rfl, q _ ρ M H r Ext.refl (.int _)⟩
  | _ => simp only [biD] at e; cases e
theorem c_tuple : CallR X (.type "tuple") (rBI (kx X) .tuple) := by
  refine cimp (call_tuple_of (X := X)) ?_
  rintro vs H Q ⟨F, H0, ρ, M, S, σd, σ, xs, d, r, rn, e, q⟩
  have q : ∀ w ρ' M' H', Rep (kx X) F H0 ρ' M' S σd σ H' → Ext ρ M H ρ' M' H' → RV (kx X) M' ρ' H' d w → Q w H' := q
  obtain ⟨x, rfl⟩ := bi1 e (by simp)
  obtain ⟨v, rfl, r1⟩ := rn.one
  cases x with
  | tup ds =>
    obtain ⟨a, xs, rfl, t, rs⟩ := r1.tup
    simp only [biD] at e
    cases e
    exact ⟨a, xs, rfl, .inr ⟨t.sq, q _ ρ M H r Ext.refl (.tup t rs)⟩⟩
  | lst ds =>
    obtain ⟨a, xs, rfl, t, rs⟩ := r1.lst
    simp only [biD] at e
    cases e
    refine ⟨a, xs, rfl, .inl ⟨t, fun p hp => ?_⟩⟩
    obtain ⟨r4, x4, v4⟩ := new_tup r hp rs
    exact q _ ρ M _ r4 x4 v4
  | _ => simp only [biD] at e; cases e
theorem c_list : CallR X (.type "list") (rBI (kx X) .list) := by
  refine cimp (call_list_of (X := X)) ?_
  rintro vs H Q ⟨F, H0, ρ, M, S, σd, σ, xs, d, r, rn, e, q⟩
  have q : ∀ w ρ' M' H', Rep (kx X) F H0 ρ' M' S σd σ H' → Ext ρ M H ρ' M' H' → RF (kx X) F M' ρ' H H' d w → Q w H' := q
  obtain ⟨x, rfl⟩ := bi1 e (by simp)
  obtain ⟨v, rfl, r1⟩ := rn.one
  cases x with
  | tup ds =>
    obtain ⟨a, xs, rfl, t, rs⟩ := r1.tup
    simp only [biD] at e
    cases e
    refine ⟨a, xs, rfl, .inr t.sq, fun p hp => ?_⟩
    obtain ⟨r4, x4, v4⟩ := new_own r hp rs
    exact q _ ρ _ _ r4 x4 v4
  | lst ds =>
    obtain ⟨a, xs, rfl, t, rs⟩ := r1.lst
    simp only [biD] at e
    cases e
    refine ⟨a, xs, rfl, .inl t, fun p hp => ?_⟩
    obtain ⟨r4, x4, v4⟩ := new_own r hp rs
    exact q _ ρ _ _ r4 x4 v4
  | _ => simp only [biD] at e; cases e
theorem c_all (hc : X.calm = true) : CallR X (.builtin "all") (rBI (kx X) .all) := by
  refine cimp (cr_all hc) ?_
  rintro vs H Q ⟨F, H0, ρ, M, S, σd, σ, xs, d, r, rn, e, q⟩
  have q : ∀ w ρ' M' H', Rep (kx X) F H0 ρ' M' S σd σ H' → Ext ρ M H ρ' M' H' → RV (kx X) M' ρ' H' d w → Q w H' := q
  obtain ⟨x, rfl⟩ := bi1 e (by simp)
  obtain ⟨v, rfl, r1⟩ := rn.one
  cases x with
  | lst ds =>
    obtain ⟨a, xs, rfl, t, rs⟩ := r1.lst
    simp only [biD] at e
    obtain ⟨bs, hb, rfl⟩ := Option.map_eq_some_iff.mp e
    have := rs.bools hb
    subst this
    exact ⟨a, bs, rfl, t, q _ ρ M H r Ext.refl (.bl _)⟩
  | _ => simp only [biD] at e; cases e
theorem c_any (hc : X.calm = true) : CallR X (.builtin "any") (rBI (kx X) .any) := by
  refine cimp (cr_any hc) ?_
  rintro vs H Q ⟨F, H0, ρ, M, S, σd, σ, xs, d, r, rn, e, q⟩
  have q : ∀ w ρ' M' H', Rep (kx X) F H0 ρ' M' S σd σ H' → Ext ρ M H ρ' M' H' → RV (kx X) M' ρ' H' d w → Q w H' := q
  obtain ⟨x, rfl⟩ := bi1 e (by simp)
  obtain ⟨v, rfl, r1⟩ := rn.one
  cases x with
  | lst ds =>
    obtain ⟨a, xs, rfl, t, rs⟩ := r1.lst
    simp only [biD] at e
    obtain ⟨bs, hb, rfl⟩ := Option.map_eq_some_iff.mp e
    have := rs.bools hb
    subst this
    exact ⟨a, bs, rfl, t, q _ ρ M H r Ext.refl (.bl _)⟩
  | _ => simp only [biD] at e; cases e
theorem bi2 {f : BI} {xs : List D} {d : D} (h : biD f xs = some d) (hf : f = .max ∨ f = .min) : ∃ i j, xs = [.int i, .int j] := by
  unfold biD at h
  split at h <;> first | exact ⟨_, _, rfl⟩ | (cases h; done) | (rcases hf with h | h <;> cases h)
theorem c_max (hc : X.calm = true) : CallR X (.builtin "max") (rBI (kx X) .max) := by
  refine cimp (call_max2 hc) ?_
  rintro vs H Q ⟨F, H0, ρ, M, S, σd, σ, xs, d, r, rn, e, q⟩
  have q : ∀ w ρ' M' H', Rep (kx X) F H0 ρ' M' S σd σ H' → Ext ρ M H ρ' M' H' → RV (kx X) M' ρ' H' d w → Q w H' := q
  obtain ⟨i, j, rfl⟩ := bi2 e (.inl rfl)
  obtain ⟨v, u, rfl, r1, r2⟩ := rn.two
  cases r1.int
  cases r2.int
  simp only [biD] at e
  cases e
  exact ⟨i, j, rfl, q _ ρ M H r Ext.refl (.int _)⟩
theorem c_min (hc : X.calm = true) : CallR X (.builtin "min") (rBI (kx X) .min) := by
  refine cimp (call_min2 hc) ?_
  rintro vs H Q ⟨F, H0, ρ, M, S, σd, σ, xs, d, r, rn, e, q⟩
  have q : ∀ w ρ' M' H', Rep (kx X) F H0 ρ' M' S σd σ H' → Ext ρ M H ρ' M' H' → RV (kx X) M' ρ' H' d w → Q w H' := q
  obtain ⟨i, j, rfl⟩ := bi2 e (.inr rfl)
  obtain ⟨v, u, rfl, r1, r2⟩ := rn.two
  cases r1.int
  cases r2.int
  simp only [biD] at e
  cases e
  exact ⟨i, j, rfl, q _ ρ M H r Ext.refl (.int _)⟩
end

/-! ### isinstance -/
section
variable {X : Cx} {K : Fg} {M : Addr → Prop} {ρ : List Addr} {H : Hp} {e : Expr} {p pos p2 : Pos} {me : Env → Cm D}
def tyN : Ty → String
  | .int => "int" | .bool => "bool" | .str => "str" | .tuple => "tuple" | .list => "list" | .dict => "dict"
def dN : D → Option String
  | .non => some "NoneType" | .bl _ => some "bool" | .int _ => some "int" | .str _ => some "str" | .tup _ => some "tuple" | .lst _ => some "list" | _ => none
theorem ty_of {d : D} {v : V} {n : String} (r : RV K M ρ H d v) (h : dN d = some n) : TyX K.fr H v (.type n) := by
  cases r with
  | non => cases h; exact .base .non
  | bl b => cases h; exact .base (.bl b)
  | int i => cases h; exact .base (.int i)
  | str x => cases h; exact .base (.str x)
  | tup t rs =>
    cases h
    rcases t with ⟨h, _⟩ | ⟨o, its, n, h1, h2, _⟩
    · exact .base (.tup h)
    · exact .kTuple h1 h2
  | lst t rs => cases h; exact .base (.lst t.1)
  | _ => cases h
theorem isTy_kit {t : Ty} {d : D} {b : Bool} (h : isTy t d = some b) (hd : ∀ ks vs, d ≠ .dct ks vs) : ∃ n, dN d = some n ∧ kitB n (tyN t) = some b := by
  cases d with
  | non => cases t <;> (cases h; exact ⟨_, rfl, by decide +kernel⟩)
  | bl x => cases t <;> (cases h; exact ⟨_, rfl, by decide +kernel⟩)
  | int x => cases t <;> (cases h; exact ⟨_, rfl, by decide +kernel⟩)
  | str x => cases t <;> (cases h; exact ⟨_, rfl, by decide +kernel⟩)
  | tup x => cases t <;> (cases h; exact ⟨_, rfl, by decide +kernel⟩)
  | lst x => cases t <;> (cases h; exact ⟨_, rfl, by decide +kernel⟩)
  | dct x y => exact absurd rfl (hd x y)
  | ref n => cases t <;> cases h
  | frl ds => cases t <;> cases h
end
end Cl

set_option Elab.async false
set_option linter.all false
set_option maxRecDepth 100000
/-! SoundK: sorted, repr, dict(..) by data. -/
namespace Cl
open PySem PySem.Spec PyProof.Rows L2

section
variable {X : Cx} {pins : List (Addr × Obj)} {σ : L2.St} {H : Hp} {s : Shared} {M : Addr → Prop} {ρ : List Addr}
theorem RV.reads (I : Inv X pins σ H s) {d : D} {v : V} {u : Value} {p : PyData} (r : RV (kx X) M ρ H d v) (ru : RelV v u) (e : d.py = some p) : ∃ as, Reads s.heap u p as := Dp.reads I p v u (r.dp p e) ru
theorem RN.reads (I : Inv X pins σ H s) {d : D} {v : V} {u : Value} {p : PyData} (r : RN (kx X) M ρ H d v) (ru : RelV v u) (e : d.py = some p) : ∃ as, Reads s.heap u p as := Dp.reads I p v u (r.dp e) ru
/-- a value at hand is the datum -/
def RU (X : Cx) (M : Addr → Prop) (ρ : List Addr) (H : Hp) (u : Value) (d : D) : Prop := ∃ v, RelV v u ∧ RV (kx X) M ρ H d v
open PySem.W in
theorem each_RU : ∀ {ds : List D} {vs : List V} {us : List Value}, RVs (kx X) M ρ H ds vs → Vals vs us → EachIs (RU X M ρ H) us ds
  | _, _, _, .nil, .nil => .nil
  | _, _, _, .cons r t, .cons a b => .cons ⟨_, a, r⟩ (each_RU t b)
open PySem.W in
theorem of_RU : ∀ {ds : List D} {us : List Value}, EachIs (RU X M ρ H) us ds → ∃ vs, RVs (kx X) M ρ H ds vs ∧ Vals vs us
  | _, _, .nil => ⟨[], .nil, .nil⟩
  | _, _, .cons ⟨v, a, r⟩ t => by
    obtain ⟨vs, h1, h2⟩ := of_RU t
    exact ⟨v :: vs, .cons r h1, .cons a h2⟩
theorem enc_py {d : D} (h : hasPy d = true) : d.py = some (enc d) := by
  unfold hasPy at h
  unfold enc
  cases e : d.py with
  | none => rw [e] at h; cases h
  | some p => rfl
theorem py_tup {ds : List D} {p : PyData} (e : (D.tup ds).py = some p) : ∃ ps, D.pys ds = some ps ∧ p = .tuple ps := pys_tup e
/-- what sorted asks -/
structure SortOk (ds : List D) : Prop where
  py : ∀ d ∈ ds, hasPy d = true
  al : PySem.W.AllAlike (ds.map enc)
  so : PySem.W.Sortable (ds.map enc) ∨ (ds.length ≤ 1 ∧ ∀ d ∈ ds, enc d ≠ .none)
  dp : ∀ d ∈ ds, (enc d).depth ≤ 16
  ln : ds.length ≤ 1000000
theorem sortD_ok {ds es : List D} (h : sortD ds = some es) : SortOk ds ∧ es = ds.mergeSort (PySem.W.dataLe false enc) := by
  unfold sortD at h
  by_cases hc : (ds.all hasPy && alikeL ds && (ds.all isTupC || ds.all isFlat || (decide (ds.length ≤ 1) && ds.all fun d => !isNone d)) && ds.all (fun d => decide ((enc d).depth ≤ 16)) && decide (ds.length ≤ 1000000)) = true
  · rw [if_pos hc] at h
    cases h
    simp only [Bool.and_eq_true, Bool.or_eq_true, List.all_eq_true, decide_eq_true_eq] at hc
    obtain ⟨⟨⟨⟨h1, h2⟩, h3⟩, h4⟩, h5⟩ := hc
    refine ⟨⟨h1, fun p hp q hq => ?_, ?_, h4, h5⟩, rfl⟩
    · obtain ⟨a, ha, rfl⟩ := List.mem_map.mp hp
      obtain ⟨b, hb, rfl⟩ := List.mem_map.mp hq
      unfold alikeL at h2
      rw [List.all_eq_true] at h2
      have := h2 a ha
      rw [List.all_eq_true] at this
      exact this b hb
    · rcases h3 with (h3 | h3) | h3
      · refine .inl (.inl fun p hp => ?_)
        obtain ⟨a, ha, rfl⟩ := List.mem_map.mp hp
        have := h3 a ha
        cases a with
        | tup ds =>
          cases ds with
          | nil => cases this
          | cons d ds =>
            obtain ⟨ps, h6, h7⟩ := pys_tup (enc_py (h1 _ ha))
            obtain ⟨p, qs, _, _, h8⟩ := pys_cons h6
            exact ⟨p, qs, by rw [h7, h8]⟩
        | _ => cases this
      · refine .inl (.inr fun p hp => ?_)
        obtain ⟨a, ha, rfl⟩ := List.mem_map.mp hp
        have h9 := h3 a ha
        have h10 := enc_py (h1 a ha)
        cases a with
        | non => cases h9
        | tup _ => cases h9
        | bl b => simp only [D.py] at h10; rw [← Option.some.inj h10]; exact ⟨nofun, nofun⟩
        | int b => simp only [D.py] at h10; rw [← Option.some.inj h10]; exact ⟨nofun, nofun⟩
        | str b => simp only [D.py] at h10; rw [← Option.some.inj h10]; exact ⟨nofun, nofun⟩
        | lst b =>
          obtain ⟨ps, _, h7⟩ := pys_lst h10
          rw [h7]; exact ⟨nofun, nofun⟩
        | _ => simp only [D.py] at h10; cases h10
      · refine .inr ⟨h3.1, fun a ha => ?_⟩
        have h9 := h3.2 a ha
        have h10 := enc_py (h1 a ha)
        cases a with
        | non => cases h9
        | tup b => obtain ⟨ps, _, h7⟩ := pys_tup h10; rw [h7]; exact nofun
        | lst b => obtain ⟨ps, _, h7⟩ := pys_lst h10; rw [h7]; exact nofun
        | bl b => simp only [D.py] at h10; rw [← Option.some.inj h10]; exact nofun
        | int b => simp only [D.py] at h10; rw [← Option.some.inj h10]; exact nofun
        | str b => simp only [D.py] at h10; rw [← Option.some.inj h10]; exact nofun
        | _ => simp only [D.py] at h10; cases h10
  · rw [if_neg hc] at h; cases h
open PySem.W in
theorem each_reads (I : Inv X pins σ H s) : ∀ {ds : List D} {vs : List V} {us : List Value}, RVs (kx X) M ρ H ds vs → Vals vs us → (∀ d ∈ ds, hasPy d = true) → EachIs (fun v b => ∃ as, Reads s.heap v (enc b) as) us ds
  | _, _, _, .nil, .nil, _ => .nil
  | _, _, _, .cons r t, .cons a b, h => .cons (r.reads I a (enc_py (h _ List.mem_cons_self))) (each_reads I t b fun d hd => h d (List.mem_cons_of_mem _ hd))
open PySem.W in
/-- what can be sorted, one item too -/
theorem sortsAt {prog : Program} {w : World} {A : Around} {s : Shared} {vs : List Value} {ds : List D} (ok : SortOk ds) (e : EachIs (fun v b => ∃ as, Reads s.heap v (enc b) as) vs ds) (hu : ∀ d ∈ ds, A.units + (enc d).depth < cLine) : SortsAt prog w A s (dataKind s.heap (ds.map enc)) vs := by
  have em := each_map (R := fun v d => ∃ as, Reads s.heap v d as) enc e
  have hu' : ∀ d, d ∈ ds.map enc → A.units + d.depth < cLine := fun d hd => by
    obtain ⟨b, hb, rfl⟩ := List.mem_map.mp hd
    exact hu b hb
  rcases ok.so with so | ⟨hl, hn⟩
  · exact SortsAt.data em ok.al so hu'
  · refine ⟨fun v hv => ?_, general', fun E x y a b Q ha hb hq => ?_, fun h2 => ?_⟩
    · obtain ⟨d, hd, as, r⟩ := em.left v hv
      exact ⟨_, dataKind_some ok.al hd r⟩
    · obtain ⟨d, as, hd, ra, rfl⟩ := dataKind_inv ha
      obtain ⟨d', as', hd', rb, rfl⟩ := dataKind_inv hb
      show wpAny _ _ (oneLt' false x y) Q E s
      have hnn : d ≠ .none := by
        obtain ⟨b, hb, rfl⟩ := List.mem_map.mp hd
        exact hn b hb
      refine kat_one _ _ (lt_data ra rb (ok.al d hd d' hd') hnn (Nat.lt_of_le_of_lt (Nat.add_le_add_left (Nat.min_le_left _ _) _) (hu' d hd)) ?_)
      exact hq
    · have := e.length
      omega
theorem mergeSort_length' {α : Type} (l : List α) (le : α → α → Bool) : (l.mergeSort le).length = l.length := List.length_mergeSort l
/-- sorted of a list of data -/
theorem sorted_at {F : Addr → Prop} {H0 : Hp} {S : CH} {σd : Env} {σ' : L2.St} {a : Addr} {xs : List V} {ds es : List D} {Q : VK} (hu : X.A.units + 128 < cLine) (I : Inv X pins σ H s) (r : Rep (kx X) F H0 ρ M S σd σ' H) (hs : SqL X.K H a xs) (rs : RVs (kx X) M ρ H ds xs) (h : sortD ds = some es)
    (q : ∀ w ρ' M' H', Rep (kx X) F H0 ρ' M' S σd σ' H' → Ext ρ M H ρ' M' H' → RF (kx X) F M' ρ' H H' (.lst es) w → Q w H') :
    wpAny (model X.prog X.w) X.A (call (.builtin "sorted") [.ref a]) (EP X pins σ Q) X.xe s := by
  obtain ⟨ok, rfl⟩ := sortD_ok h
  obtain ⟨its, rv, hl, _⟩ := I.list hs
  have er := each_reads I rs rv ok.py
  have er' : PySem.W.EachIs (fun v b => ∃ as, Reads (PySem.W.sortingHeap (PySem.W.copyHeap s.heap its) (s.heap.objs.size + 1) its) v (enc b) as) its ds := er.mono fun _ _ ⟨as, r⟩ => ⟨as, PyProof.Rows.Reads.keeps (fun _ _ => PySem.W.sorting_copy_old) r⟩
  refine PySem.W.sorted_vals hl.isList (sortsAt (s := { s with heap := PySem.W.sortingHeap (PySem.W.copyHeap s.heap its) (s.heap.objs.size + 1) its }) ok er' fun b hb => by have := ok.dp b hb; show X.A.units + 1 + 1 + _ < cLine; omega) (by rw [← er.length.symm, size_line_eq]; have := ok.ln; omega) ?_
  have hlen := (PySem.W.sortVals_length (κ := PySem.W.dataKind (PySem.W.sortingHeap (PySem.W.copyHeap s.heap its) (s.heap.objs.size + 1) its) (ds.map enc)) false (rfl : its.length = its.length)).trans er.length
  have hout := PySem.W.sortVals_data (R := RU X M ρ H) false (each_RU rs rv) er' ok.al
  dsimp only
  generalize PySem.W.sortVals (PySem.W.dataKind (PySem.W.sortingHeap (PySem.W.copyHeap s.heap its) (s.heap.objs.size + 1) its) (ds.map enc)) false its its = out at hlen hout ⊢
  obtain ⟨vs, h1, h2⟩ := of_RU hout
  obtain ⟨ep, he'⟩ := PyProof.Rows.sortedAll_at s.heap its out.toArray
  have hlen2 : vs.length ≤ sizeLine := by
    rw [h2.length, hlen, size_line_eq]; have := ok.ln; omega
  have hp : H (s.heap.objs.size + 1) = none := I.hok.fresh (Nat.le_succ _)
  obtain ⟨r4, x4, v4⟩ := new_own r hp h1
  exact ⟨.ref _, upd H (s.heap.objs.size + 1) (.lst vs), I.laid (t' := s.toks) (fun _ _ => PyProof.Rows.sortedAll_old) (Nat.le_succ _) ⟨hlen2, out, ep, h2, he'⟩, rfl, q _ ρ _ _ r4 x4 v4⟩

/-! ### sorted(d): the keys -/
theorem rvd_keys {K : Fg} : ∀ {b : Bool} {ks ds : List D} {ps : List (NestedKey × DictEntry)}, RVd K M ρ H b ks ds ps → ∃ us, RVs K M ρ H ks us ∧ Vals us (ps.map fun p => p.2.key)
  | _, _, _, _, .nil => ⟨[], .nil, .nil⟩
  | _, _, _, _, .cons r1 u1 _ _ _ _ t => by
    obtain ⟨us, h1, h2⟩ := rvd_keys t
    exact ⟨_ :: us, .cons r1 h1, .cons u1 h2⟩
theorem items_keys {es : List DictEntry} {acc : Array Value} (h : ItemsOf (fun i v => ∃ en : DictEntry, es.toArray[i]? = some en ∧ v = en.key) acc es.toArray.size) : acc.toList = es.map (·.key) := by
  have hl : acc.toList.length = es.length := by rw [Array.length_toList, h.1]; simp
  apply List.ext_getElem?
  intro j
  rw [List.getElem?_map]
  cases hj : acc.toList[j]? with
  | none =>
    have h1 := List.getElem?_eq_none_iff.mp hj
    rw [List.getElem?_eq_none (by omega)]; rfl
  | some v =>
    obtain ⟨en, hen, hv⟩ := h.2 j v (by rw [← Array.getElem?_toList]; exact hj)
    have : es[j]? = some en := by simpa using hen
    rw [this, hv]; rfl
open PySem.W in
theorem sortedX_at {F : Addr → Prop} {H0 : Hp} {S : CH} {σd : Env} {σ' : L2.St} {a : Addr} {ps : List (NestedKey × DictEntry)} {b : Bool} {ks vs es : List D} {Q : VK} (hu : X.A.units + 128 < cLine) (hc : X.calm = true) (I : Inv X pins σ H s) (r : Rep (kx X) F H0 ρ M S σd σ' H)
    (e : H a = some (.ext (DI X.w a ps))) (rd : RVd (kx X) M ρ H b ks vs ps) (h : sortD ks = some es)
    (q : ∀ w ρ' M' H', Rep (kx X) F H0 ρ' M' S σd σ' H' → Ext ρ M H ρ' M' H' → RF (kx X) F M' ρ' H H' (.lst es) w → Q w H') :
    wpAny (model X.prog X.w) X.A (call (.builtin "sorted") [.ref a]) (EP X pins σ Q) X.xe s := by
  obtain ⟨ok, rfl⟩ := sortD_ok h
  obtain ⟨⟨hsm, hz, ⟨ep, ho⟩, _, _⟩, _⟩ := I.hok a _ e
  obtain ⟨us, rs, rv⟩ := rvd_keys rd
  refine Calls.call_function_entry PyProof.Rows.kind_sorted PyProof.Rows.plain_sorted PyProof.Rows.entry_sorted (PyProof.Rows.args_sorted1 _) ?_
  unfold Builtin.«sorted»
  refine wpAny_bind (m := checkCount "sorted" 1 1 _) (wpAny_pure ?_)
  have hlen := rd.len
  have hln := ok.ln
  refine wpAny_bind (PySem.W.kdu_collect (A := X.A.in1) (kdl_raw (o := { cls := .type "dict", data := .dict (ps.map (·.2)).toArray ep }) hsm ⟨rfl, rfl, rfl⟩ rfl) (I.ok.hd hc) ho (by rw [size_line_eq]; simp; omega) fun h' tk acc hk hacc => ?_)
  have ea := items_keys hacc
  rw [List.map_map] at ea
  rw [ea]
  have I1 : Inv X pins σ H { s with heap := h', toks := tk } := I.kept hk
  generalize hus : List.map ((fun x => x.key) ∘ fun x : NestedKey × DictEntry => x.snd) ps = us2
  have rv : Vals us us2 := by rw [← hus]; exact rv
  have hL : us2.length ≤ sizeLine := by rw [size_line_eq, ← hus, List.length_map]; omega
  refine wpAny_bind (wpAny_newList ?_ hL)
  have hoL : (h'.push (seqObj "list" us2.toArray 0)).get? h'.objs.size = some (seqObj "list" us2.toArray 0) := Heap.get?_push_size _ rfl
  show wpAny _ _ _ _ _ { s with heap := h'.push (seqObj "list" us2.toArray 0), toks := tk }
  have keep : ∀ b o, h'.get? b = some o → b ≠ h'.objs.size ∧ (sortingHeap (h'.push (seqObj "list" us2.toArray 0)) h'.objs.size us2).get? b = some o := fun b o eb => by
    have hlt := Heap.lt_size eb
    exact ⟨Nat.ne_of_lt hlt, sortingHeap_old (Nat.ne_of_lt hlt) (Heap.get?_push_of_some _ eb)⟩
  have er : EachIs (fun v b => ∃ as, Reads (sortingHeap (h'.push (seqObj "list" us2.toArray 0)) h'.objs.size us2) v (enc b) as) us2 ks :=
    (each_reads I1 rs rv ok.py).mono fun _ _ ⟨as, rr⟩ => ⟨as, PyProof.Rows.Reads.keeps (fun b o eb => (keep b o eb).2) rr⟩
  have so : SortsAt X.prog X.w X.A.in1.in1 { s with heap := sortingHeap (h'.push (seqObj "list" us2.toArray 0)) h'.objs.size us2, toks := tk } (dataKind (sortingHeap (h'.push (seqObj "list" us2.toArray 0)) h'.objs.size us2) (ks.map enc)) us2 := by
    refine sortsAt (s := { s with heap := sortingHeap (h'.push (seqObj "list" us2.toArray 0)) h'.objs.size us2, toks := tk }) ok er fun b hb => ?_
    have := ok.dp b hb
    show X.A.units + 1 + 1 + _ < cLine
    omega
  refine wpAny_bind (wpAny_holding (wpAny_call_entry PyProof.Rows.slot_list_sort ⟨_, hoL, rfl⟩ PyProof.Rows.entry_list_sort
    (list_sort_vals (s := { s with heap := h'.push (seqObj "list" us2.toArray 0), toks := tk }) hoL so hL ⟨_, rfl, ?_⟩) (PyProof.Rows.args_list_sort _)))
  have hout := sortVals_data (R := RU X M ρ H) false (each_RU rs rv) er ok.al
  obtain ⟨vs', h1, h2⟩ := of_RU hout
  generalize sortVals (dataKind (sortingHeap (h'.push (seqObj "list" us2.toArray 0)) h'.objs.size us2) (ks.map enc)) false us2 us2 = out at h2 ⊢
  obtain ⟨ep', he'⟩ := PyProof.Rows.sortedHeap_at (vs := us2) (out := out.toArray) hoL
  have hlen2 : vs'.length ≤ sizeLine := by
    rw [← h1.length, List.length_mergeSort, size_line_eq]; omega
  have hp : H h'.objs.size = none := I1.hok.fresh (Nat.le_refl _)
  obtain ⟨r4, x4, v4⟩ := new_own r hp h1
  refine wpAny_pure ⟨_, rfl, .ref _, upd H h'.objs.size (.lst vs'), I1.laid (t' := tk) (fun b o eb => ?_) (Nat.le_refl _) ⟨hlen2, out, ep', h2, he'⟩, rfl, q _ ρ _ _ r4 x4 v4⟩
  have hb : b < h'.objs.size := Heap.lt_size eb
  rw [PyProof.Rows.sortedHeap_old (Nat.ne_of_lt hb) (by rw [size_push']; exact Nat.lt_succ_of_lt hb)]
  exact Heap.get?_push_of_some _ eb
open PySem.W in
/-- sorted of a tuple of data -/
theorem sortedT_at {F : Addr → Prop} {H0 : Hp} {S : CH} {σd : Env} {σ' : L2.St} {a : Addr} {xs : List V} {ks es : List D} {Q : VK} (hu : X.A.units + 128 < cLine) (hc : X.calm = true) (I : Inv X pins σ H s) (r : Rep (kx X) F H0 ρ M S σd σ' H)
    (hs : SqT X.K H a xs) (rs : RVs (kx X) M ρ H ks xs) (h : sortD ks = some es)
    (q : ∀ w ρ' M' H', Rep (kx X) F H0 ρ' M' S σd σ' H' → Ext ρ M H ρ' M' H' → RF (kx X) F M' ρ' H H' (.lst es) w → Q w H') :
    wpAny (model X.prog X.w) X.A (call (.builtin "sorted") [.ref a]) (EP X pins σ Q) X.xe s := by
  obtain ⟨ok, rfl⟩ := sortD_ok h
  obtain ⟨us2, rv, ⟨o, ho, hcl, n, hdt⟩, hz⟩ := I.tuple hs
  refine Calls.call_function_entry PyProof.Rows.kind_sorted PyProof.Rows.plain_sorted PyProof.Rows.entry_sorted (PyProof.Rows.args_sorted1 _) ?_
  unfold Builtin.«sorted»
  refine wpAny_bind (m := checkCount "sorted" 1 1 _) (wpAny_pure ?_)
  have hlen : ks.length = us2.length := by rw [rs.length, rv.length]
  have hln := ok.ln
  have hL : us2.length ≤ sizeLine := by rw [size_line_eq]; omega
  refine wpAny_bind (wpAny_collect_seq (A := X.A.in1) a (.inr rfl) ho hcl hdt (fun h' hk => ?_) (by simpa using hL))
  have I1 : Inv X pins σ H { s with heap := h' } := I.kept (t' := s.toks) hk
  show wpAny _ _ (newList us2 >>= _) _ _ { s with heap := h' }
  refine wpAny_bind (wpAny_newList ?_ hL)
  have hoL : (h'.push (seqObj "list" us2.toArray 0)).get? h'.objs.size = some (seqObj "list" us2.toArray 0) := Heap.get?_push_size _ rfl
  show wpAny _ _ _ _ _ { s with heap := h'.push (seqObj "list" us2.toArray 0) }
  have keep : ∀ b o, h'.get? b = some o → b ≠ h'.objs.size ∧ (sortingHeap (h'.push (seqObj "list" us2.toArray 0)) h'.objs.size us2).get? b = some o := fun b o eb => by
    have hlt := Heap.lt_size eb
    exact ⟨Nat.ne_of_lt hlt, sortingHeap_old (Nat.ne_of_lt hlt) (Heap.get?_push_of_some _ eb)⟩
  have er : EachIs (fun v b => ∃ as, Reads (sortingHeap (h'.push (seqObj "list" us2.toArray 0)) h'.objs.size us2) v (enc b) as) us2 ks :=
    (each_reads I1 rs rv ok.py).mono fun _ _ ⟨as, rr⟩ => ⟨as, PyProof.Rows.Reads.keeps (fun b o eb => (keep b o eb).2) rr⟩
  have so : SortsAt X.prog X.w X.A.in1.in1 { s with heap := sortingHeap (h'.push (seqObj "list" us2.toArray 0)) h'.objs.size us2 } (dataKind (sortingHeap (h'.push (seqObj "list" us2.toArray 0)) h'.objs.size us2) (ks.map enc)) us2 := by
    refine sortsAt (s := { s with heap := sortingHeap (h'.push (seqObj "list" us2.toArray 0)) h'.objs.size us2 }) ok er fun b hb => ?_
    have := ok.dp b hb
    show X.A.units + 1 + 1 + _ < cLine
    omega
  refine wpAny_bind (wpAny_holding (wpAny_call_entry PyProof.Rows.slot_list_sort ⟨_, hoL, rfl⟩ PyProof.Rows.entry_list_sort
    (list_sort_vals (s := { s with heap := h'.push (seqObj "list" us2.toArray 0) }) hoL so hL ⟨_, rfl, ?_⟩) (PyProof.Rows.args_list_sort _)))
  have hout := sortVals_data (R := RU X M ρ H) false (each_RU rs rv) er ok.al
  obtain ⟨vs', h1, h2⟩ := of_RU hout
  generalize sortVals (dataKind (sortingHeap (h'.push (seqObj "list" us2.toArray 0)) h'.objs.size us2) (ks.map enc)) false us2 us2 = out at h2 ⊢
  obtain ⟨ep', he'⟩ := PyProof.Rows.sortedHeap_at (vs := us2) (out := out.toArray) hoL
  have hlen2 : vs'.length ≤ sizeLine := by
    rw [← h1.length, List.length_mergeSort, size_line_eq]; omega
  have hp : H h'.objs.size = none := I1.hok.fresh (Nat.le_refl _)
  obtain ⟨r4, x4, v4⟩ := new_own r hp h1
  refine wpAny_pure ⟨_, rfl, .ref _, upd H h'.objs.size (.lst vs'), I1.laid (t' := s.toks) (fun b o eb => ?_) (Nat.le_refl _) ⟨hlen2, out, ep', h2, he'⟩, rfl, q _ ρ _ _ r4 x4 v4⟩
  have hb : b < h'.objs.size := Heap.lt_size eb
  rw [PyProof.Rows.sortedHeap_old (Nat.ne_of_lt hb) (by rw [size_push']; exact Nat.lt_succ_of_lt hb)]
  exact Heap.get?_push_of_some _ eb
theorem c_sorted (hu : X.A.units + 128 < cLine) (hc : X.calm = true) : CallR X (.builtin "sorted") (rBI (kx X) .sorted) := by
  intro pins s σ H vs us Q I r h
  obtain ⟨F, H0, ρ, M, S, σd, σ', xs, d, rp, rn, e, q⟩ := h
  have q : ∀ w ρ' M' H', Rep (kx X) F H0 ρ' M' S σd σ' H' → Ext ρ M H ρ' M' H' → RF (kx X) F M' ρ' H H' d w → Q w H' := q
  obtain ⟨x, rfl⟩ := bi1 e (by simp)
  obtain ⟨v, rfl, r1⟩ := rn.one
  obtain ⟨u, rfl, rx⟩ := vals1 r
  cases x with
  | lst ds =>
    obtain ⟨a, xs, rfl, t, rs⟩ := r1.lst
    simp only [biD] at e
    obtain ⟨es, he, rfl⟩ := Option.map_eq_some_iff.mp e
    cases rx
    exact sorted_at hu I rp t rs he q
  | tup ds =>
    obtain ⟨a, xs, rfl, t, rs⟩ := r1.tup
    simp only [biD] at e
    obtain ⟨es, he, rfl⟩ := Option.map_eq_some_iff.mp e
    cases rx
    exact sortedT_at hu hc I rp t.sq rs he q
  | dct ks ds =>
    obtain ⟨a, ps, b, rfl, hh, rd⟩ := r1.dct
    simp only [biD] at e
    obtain ⟨es, he, rfl⟩ := Option.map_eq_some_iff.mp e
    cases rx
    exact sortedX_at hu hc I rp hh rd he q
  | _ => simp only [biD] at e; cases e

/-! ### repr -/
mutual
theorem py_noDict : ∀ (d : D) (p : PyData), d.py = some p → p.hasDict = false
  | .non, _, e => by simp only [D.py] at e; cases e; rfl
  | .bl _, _, e => by simp only [D.py] at e; cases e; rfl
  | .int _, _, e => by simp only [D.py] at e; cases e; rfl
  | .str _, _, e => by simp only [D.py] at e; cases e; rfl
  | .tup ds, p, e => by
    obtain ⟨ps, h, rfl⟩ := pys_tup e
    simp only [PyData.hasDict]
    exact pys_noDict ds ps h
  | .lst ds, p, e => by
    obtain ⟨ps, h, rfl⟩ := pys_lst e
    simp only [PyData.hasDict]
    exact pys_noDict ds ps h
  | .dct _ _, _, e => by simp only [D.py] at e; cases e
  | .ref _, _, e => by simp only [D.py] at e; cases e
  | .frl _, _, e => by simp only [D.py] at e; cases e
theorem pys_noDict : ∀ (ds : List D) (ps : List PyData), D.pys ds = some ps → PyData.hasDictAll ps = false
  | [], _, e => by simp only [D.pys] at e; cases e; rfl
  | d :: ds, q, e => by
    obtain ⟨p, ps, h1, h2, rfl⟩ := pys_cons e
    simp only [PyData.hasDictAll, py_noDict d p h1, pys_noDict ds ps h2, Bool.or_self]
end
theorem c_repr (hu : X.A.units + 128 < cLine) (hg : X.A.guards = some []) : CallR X (.builtin "repr") (rBI (kx X) .repr) := by
  intro pins s σ H vs us Q I r h
  obtain ⟨F, H0, ρ, M, S, σd, σ', xs, d, rp, rn, e, q⟩ := h
  have q : ∀ w ρ' M' H', Rep (kx X) F H0 ρ' M' S σd σ' H' → Ext ρ M H ρ' M' H' → RV (kx X) M' ρ' H' d w → Q w H' := q
  obtain ⟨x, rfl⟩ := bi1 e (by simp)
  obtain ⟨v, rfl, r1⟩ := rn.one
  obtain ⟨u, rfl, rx⟩ := vals1 r
  have e : reprD x = some d := by simpa only [biD] using e
  unfold reprD at e
  cases hp : x.py with
  | none => rw [hp] at e; cases e
  | some p =>
    rw [hp] at e
    simp only at e
    have hc : p.showable = true ∧ SeqAt.shaped p = true ∧ p.shown.length ≤ sizeLine := Classical.byContradiction fun hc => by rw [if_neg hc] at e; cases e
    rw [if_pos hc] at e
    cases e
    obtain ⟨as, rd⟩ := r1.reads I rx hp
    have seq : ∀ a, u = .ref a → wpAny (model X.prog X.w) X.A (call (.builtin "repr") [u]) (EP X pins σ Q) X.xe s := fun a ha => by
      subst ha
      have hd : p.depth ≤ 64 := by
        have := hc.2.1
        unfold SeqAt.shaped at this
        simp only [Bool.and_eq_true, decide_eq_true_eq] at this
        exact this.2
      exact repr_of_reads' rd hc.1 (fun z => by rw [py_noDict x p hp] at z; cases z) hg (by omega) (fun _ _ e => e) (fun h' t tk hk => ⟨.str _, H, I.kept hk, ⟨_, rfl⟩, q _ ρ M H rp Ext.refl (.str _)⟩) hc.2.2
    cases x with
    | tup ds =>
      obtain ⟨a, xs, rfl, t, rs⟩ := r1.tup
      exact seq a rx
    | lst ds =>
      obtain ⟨a, xs, rfl, t, rs⟩ := r1.lst
      exact seq a rx
    | int i =>
      cases r1.int
      simp only [D.py] at hp
      cases hp
      obtain ⟨t, rfl⟩ := rx
      have hz : i.natAbs.log2 < 1920 := by
        have := hc.1
        simp only [PyData.showable, decide_eq_true_eq] at this
        exact this
      refine PySem.P.repr_of_int hz ⟨.str _, H, I.tok _, ⟨_, rfl⟩, ?_⟩
      have := q (.str (PyData.shown (.int i))) ρ M H rp Ext.refl (.str _)
      simp only [PyData.shown] at this
      exact this
    | str x =>
      cases r1.str
      simp only [D.py] at hp
      cases hp
      obtain ⟨t, rfl⟩ := rx
      have hz := hc.2.2
      simp only [PyData.shown] at hz
      refine PySem.P.repr_of_str ⟨.str _, H, I.tok _, ⟨_, rfl⟩, ?_⟩ hz
      have := q (.str (PyData.shown (.str x))) ρ M H rp Ext.refl (.str _)
      simp only [PyData.shown] at this
      exact this
    | bl b =>
      cases r1.bl
      simp only [D.py] at hp
      cases hp
      cases rx
      refine PySem.P.repr_of_bool ⟨.str _, H, I.tok _, ⟨_, rfl⟩, ?_⟩
      have := q (.str (PyData.shown (.bool b))) ρ M H rp Ext.refl (.str _)
      simp only [PyData.shown] at this
      exact this
    | non =>
      cases r1.non
      simp only [D.py] at hp
      cases hp
      cases rx
      refine PySem.P.repr_of_none ⟨.str _, H, I.tok _, ⟨_, rfl⟩, ?_⟩
      have := q (.str (PyData.shown .none)) ρ M H rp Ext.refl (.str _)
      simp only [PyData.shown] at this
      exact this
    | dct _ _ => simp only [D.py] at hp; cases hp
    | ref _ => simp only [D.py] at hp; cases hp
    | frl _ => simp only [D.py] at hp; cases hp
end
end Cl

set_option Elab.async false
set_option linter.all false
set_option maxRecDepth 100000
/-! SoundL: dict(..) of pairs, of zip. -/
namespace Cl
open PySem PySem.Spec PyProof.Rows L2

/-- all pairs stored, from the left -/
def putAll (ps : List (NestedKey × DictEntry)) : List (NestedKey × DictEntry) → List (NestedKey × DictEntry)
  | [] => ps
  | p :: r => putAll (putP p.1 p.2 ps) r
/-- pairs of data as entries -/
inductive RVp (K : Fg) (M : Addr → Prop) (ρ : List Addr) (H : Hp) (b : Bool) : List (D × D) → List (NestedKey × DictEntry) → Prop
  | nil : RVp K M ρ H b [] []
  | cons {k d n e qs ps u v} : RV K M ρ H k u → RelV u e.key → RV K M ρ H d v → RelV v e.val → keyOf k = some n → kindN n = some b → RVp K M ρ H b qs ps → RVp K M ρ H b ((k, d) :: qs) ((n, e) :: ps)

def allK (b : Bool) (ks : List D) : Prop := ∀ k ∈ ks, kk k = some b
theorem dput_kk {b : Bool} {k d : D} : ∀ {ks vs : List D} {o : List D × List D}, ks ≠ [] → allK b ks → dput k d ks vs = some o → kk k = some b ∧ allK b o.1 ∧ o.1 ≠ []
  | [], _, _, h, _, _ => absurd rfl h
  | k' :: ks, [], _, _, _, h => by unfold dput at h; cases h
  | k' :: ks, v' :: vs, o, _, ha, h => by
    obtain ⟨h1, h2, h3⟩ := dput_cons h
    have hk : kk k = some b := by rw [← h2]; exact ha k' List.mem_cons_self
    refine ⟨hk, ?_⟩
    rcases h3 with ⟨_, rfl⟩ | ⟨_, p, hp, rfl⟩
    · exact ⟨ha, by simp⟩
    · refine ⟨fun x hx => ?_, by simp⟩
      rcases List.mem_cons.mp hx with rfl | hx
      · exact ha _ List.mem_cons_self
      · by_cases hks : ks = []
        · subst hks
          cases vs with
          | nil =>
            unfold dput at hp
            by_cases h4 : (kk k).isSome = true
            · rw [if_pos h4] at hp; cases hp
              rw [List.mem_singleton] at hx
              subst hx; exact hk
            · rw [if_neg h4] at hp; cases hp
          | cons _ _ => unfold dput at hp; cases hp
        · exact (dput_kk hks (fun y hy => ha y (List.mem_cons_of_mem _ hy)) hp).2.1 x hx
theorem dput_first {k d : D} {vs : List D} {o : List D × List D} (h : dput k d [] vs = some o) : ∃ b, kk k = some b ∧ allK b o.1 ∧ o.1 ≠ [] := by
  cases vs with
  | nil =>
    unfold dput at h
    by_cases h4 : (kk k).isSome = true
    · rw [if_pos h4] at h; cases h
      obtain ⟨b, hb⟩ := Option.isSome_iff_exists.mp h4
      exact ⟨b, hb, fun x hx => by rw [List.mem_singleton] at hx; subst hx; exact hb, by simp⟩
    · rw [if_neg h4] at h; cases h
  | cons _ _ => unfold dput at h; cases h
theorem dputs_kk {b : Bool} : ∀ {qs : List (D × D)} {ks vs : List D} {o : List D × List D}, ks ≠ [] → allK b ks → dputs qs ks vs = some o → ∀ q ∈ qs, kk q.1 = some b
  | [], _, _, _, _, _, _ => fun _ h => absurd h (by simp)
  | (k, d) :: qs, ks, vs, o, h0, ha, h => by
    unfold dputs at h
    cases hp : dput k d ks vs with
    | none => rw [hp] at h; cases h
    | some p =>
      rw [hp] at h
      obtain ⟨h1, h2, h3⟩ := dput_kk h0 ha hp
      intro q hq
      rcases List.mem_cons.mp hq with rfl | hq
      · exact h1
      · exact dputs_kk h3 h2 h q hq
theorem dputs_kind {qs : List (D × D)} {o : List D × List D} (h : dputs qs [] [] = some o) : ∃ b, ∀ q ∈ qs, kk q.1 = some b := by
  cases qs with
  | nil => exact ⟨false, fun _ h => absurd h (by simp)⟩
  | cons q qs =>
    obtain ⟨k, d⟩ := q
    unfold dputs at h
    cases hp : dput k d [] [] with
    | none => rw [hp] at h; cases h
    | some p =>
      rw [hp] at h
      obtain ⟨b, h1, h2, h3⟩ := dput_first hp
      refine ⟨b, fun q hq => ?_⟩
      rcases List.mem_cons.mp hq with rfl | hq
      · exact h1
      · exact dputs_kk h3 h2 h q hq
section
variable {K : Fg} {M : Addr → Prop} {ρ : List Addr} {H : Hp}
theorem rvd_putAll {b : Bool} : ∀ {qs : List (D × D)} {es ps : List (NestedKey × DictEntry)} {ks vs : List D} {o : List D × List D}, RVp K M ρ H b qs es → RVd K M ρ H b ks vs ps → dputs qs ks vs = some o → RVd K M ρ H b o.1 o.2 (putAll ps es)
  | _, _, _, _, _, _, .nil, r, h => by unfold dputs at h; cases h; exact r
  | _, _, _, ks, vs, o, .cons (k := k) (d := d) rk ru rd rv hk hn t, r, h => by
    unfold dputs at h
    cases hp : dput k d ks vs with
    | none => rw [hp] at h; cases h
    | some p =>
      rw [hp] at h
      exact rvd_putAll (ps := putP _ _ _) t (rvd_put rk ru rd rv hk hn r hp) h
theorem putAll_nodup : ∀ {es ps : List (NestedKey × DictEntry)}, (ps.map (·.1)).Nodup → ((putAll ps es).map (·.1)).Nodup
  | [], _, h => h
  | q :: es, ps, h => putAll_nodup (es := es) (ps := putP q.1 q.2 ps) (putP_nodup h)
theorem putAll_len : ∀ (es ps : List (NestedKey × DictEntry)), (putAll ps es).length ≤ ps.length + es.length
  | [], _ => Nat.le_refl _
  | p :: es, ps => by
    have h1 := putAll_len es (putP p.1 p.2 ps)
    have h2 := putP_len p.1 p.2 ps
    show (putAll (putP p.1 p.2 ps) es).length ≤ _
    simp; omega
theorem putP_kinds {b : Bool} {n : NestedKey} {e : DictEntry} (hn : kindN n = some b) : ∀ {ps : List (NestedKey × DictEntry)}, (∀ p ∈ ps, kindN p.1 = some b) → ∀ p ∈ putP n e ps, kindN p.1 = some b
  | [], _, p, hp => by simp only [putP, List.mem_singleton] at hp; subst hp; exact hn
  | (m, e') :: ps, h, p, hp => by
    unfold putP at hp
    by_cases hm : m = n
    · rw [if_pos hm] at hp
      rcases List.mem_cons.mp hp with rfl | hp
      · exact h (m, e') List.mem_cons_self
      · exact h p (List.mem_cons_of_mem _ hp)
    · rw [if_neg hm] at hp
      rcases List.mem_cons.mp hp with rfl | hp
      · exact h (m, e') List.mem_cons_self
      · exact putP_kinds hn (fun q hq => h q (List.mem_cons_of_mem _ hq)) p hp
theorem merged_flat : ∀ {es ps : List (NestedKey × DictEntry)}, (∀ p ∈ es, kindN p.1 = some false) → (∀ p ∈ ps, kindN p.1 = some false) → (ps.map (·.1)).Nodup →
    merged (ps.map fun p => (flatN p.1, p.2.val)) (es.map fun p => (flatN p.1, p.2.val)) = (putAll ps es).map fun p => (flatN p.1, p.2.val)
  | [], _, _, _, _ => rfl
  | q :: es, ps, h1, h2, nd => by
    have hq := h1 q List.mem_cons_self
    show merged (stored (ps.map fun p => (flatN p.1, p.2.val)) (flatN q.1) q.2.val) (es.map fun p => (flatN p.1, p.2.val)) = _
    rw [putP_flat hq h2 nd]
    exact merged_flat (fun p hp => h1 p (List.mem_cons_of_mem _ hp)) (putP_kinds hq h2) (putP_nodup nd)
theorem storedAll_tup : ∀ {es ps : List (NestedKey × DictEntry)}, (∀ p ∈ es, p.2.key = .ref (addrOf p.2.key)) → (ps.map (·.1)).Nodup →
    storedAllH (ps.map fun p => (p.1, addrOf p.2.key, p.2.val)) (es.map fun p => (p.1, addrOf p.2.key, p.2.val)) = (putAll ps es).map fun p => (p.1, addrOf p.2.key, p.2.val)
  | [], _, _, _ => rfl
  | q :: es, ps, h1, nd => by
    have hq := h1 q List.mem_cons_self
    show storedAllH (storedH (ps.map fun p => (p.1, addrOf p.2.key, p.2.val)) q.1 (addrOf q.2.key) q.2.val) (es.map fun p => (p.1, addrOf p.2.key, p.2.val)) = _
    rw [putP_tup hq nd]
    exact storedAll_tup (fun p hp => h1 p (List.mem_cons_of_mem _ hp)) (putP_nodup nd)
theorem putAll_hash {w : World} : ∀ {es ps : List (NestedKey × DictEntry)}, (∀ p ∈ es, p.2.hash = p.1.hash w) → (∀ p ∈ ps, p.2.hash = p.1.hash w) → ∀ p ∈ putAll ps es, p.2.hash = p.1.hash w
  | [], _, _, h => h
  | q :: es, ps, h1, h2 => putAll_hash (es := es) (ps := putP q.1 q.2 ps) (fun p hp => h1 p (List.mem_cons_of_mem _ hp)) (putP_hash (h1 q List.mem_cons_self) h2)
theorem RVp.len {b : Bool} : ∀ {qs : List (D × D)} {es : List (NestedKey × DictEntry)}, RVp K M ρ H b qs es → qs.length = es.length
  | _, _, .nil => rfl
  | _, _, .cons _ _ _ _ _ _ t => by rw [List.length_cons, List.length_cons, RVp.len t]
theorem RVp.kinds {b : Bool} : ∀ {qs : List (D × D)} {es : List (NestedKey × DictEntry)}, RVp K M ρ H b qs es → ∀ p ∈ es, kindN p.1 = some b
  | _, _, .nil, _, h => absurd h (by simp)
  | _, _, .cons _ _ _ _ _ hn t, p, hp => by
    rcases List.mem_cons.mp hp with rfl | hp
    · exact hn
    · exact RVp.kinds t p hp
end

section
variable {X : Cx} {pins : List (Addr × Obj)} {σ : L2.St} {H : Hp} {s : Shared} {M : Addr → Prop} {ρ : List Addr}
theorem rvp_is {b : Bool} (I : Inv X pins σ H s) : ∀ {qs : List (D × D)} {es : List (NestedKey × DictEntry)}, RVp (kx X) M ρ H b qs es → ∀ p ∈ es, NestedIs s.heap p.1 p.2.key ∧ ∀ b, p.2.key ≠ .bool b
  | _, _, .nil, _, h => absurd h (by simp)
  | _, _, .cons rk ru _ _ hk _ t, p, hp => by
    rcases List.mem_cons.mp hp with rfl | hp
    · exact ⟨key_is I rk _ _ ru hk, not_bool rk ru hk⟩
    · exact rvp_is I t p hp
/-- dict(..): from an argument whose pairs are es (hashes are the keys') -/
theorem x_dict {F : Addr → Prop} {H0 : Hp} {S : CH} {σd : Env} {σ' : L2.St} {hp : Heap} {tk0 : Nat} {T : String} {a : Addr} {fp wr : List Addr} {OK : Heap → Prop} {Rel : Nat → Value → Value → Prop} {b : Bool} {qs : List (D × D)} {es : List (NestedKey × DictEntry)} {o : List D × List D} {Q : VK} (hc : X.calm = true) (hu : X.A.units + 128 < cLine)
    (I : Inv X pins σ H s) (hks : ∀ b o, s.heap.get? b = some o → hp.get? b = some o) (hsz : s.heap.objs.size ≤ hp.objs.size) (r : Rep (kx X) F H0 ρ M S σd σ' H)
    (P : PairArg X.prog X.w T a fp wr es.length Rel OK) (hRel : ∀ i k v, Rel i k v → ∃ p, es[i]? = some p ∧ k = p.2.key ∧ v = p.2.val) (ok : OK hp) (hw : ∀ b ∈ wr, s.heap.get? b = none)
    (rp : RVp (kx X) M ρ H b qs es) (hh : ∀ p ∈ es, p.2.hash = p.1.hash X.w) (hd : dputs qs [] [] = some o) (hz : es.length ≤ 1000000)
    (q : ∀ w ρ' M' H', Rep (kx X) F H0 ρ' M' S σd σ' H' → Ext ρ M H ρ' M' H' → RF (kx X) F M' ρ' H H' (.dct o.1 o.2) w → Q w H') :
    wpAny (model X.prog X.w) X.A (call (.type "dict") [.ref a]) (EP X pins σ Q) X.xe { s with heap := hp, toks := tk0 } := by
  have I1 : Inv X pins σ H { s with heap := hp, toks := tk0 } := I.kept hks
  have rd : RVd (kx X) M ρ H b o.1 o.2 (putAll [] es) := rvd_putAll rp .nil hd
  have hle := putAll_len es []
  have hash' : ∀ p ∈ putAll [] es, p.2.hash = p.1.hash X.w := putAll_hash hh fun _ h => absurd h (by simp)
  have nd : ((putAll [] es).map (·.1)).Nodup := putAll_nodup List.nodup_nil
  have hsm : (hp.objs.size == sysModules) = false := beq_eq_false_iff_ne.mpr (Nat.ne_of_gt (Nat.lt_of_lt_of_le I.big hsz))
  have hn : H hp.objs.size = none := I1.hok.fresh (Nat.le_refl _)
  have fin : ∀ (h' : Heap) (tk : Nat) (ps' : List (NestedKey × DictEntry)) (b' : Bool), (∀ c o, c ∉ wr → hp.get? c = some o → h'.get? c = some o) → DI X.w hp.objs.size ps' h' → RVd (kx X) M ρ H b' o.1 o.2 ps' →
      EP X pins σ Q (.ref hp.objs.size) { s with heap := h', toks := tk } := by
    intro h' tk ps' b' hk hdi hrd
    obtain ⟨r4, x4, h3, h4⟩ := new_mine (o := .ext (DI X.w hp.objs.size ps')) r hn
    refine ⟨.ref hp.objs.size, _, I.laid (t' := tk) (fun c o e => hk c o (fun hm => by rw [hw c hm] at e; cases e) (hks c o e)) hsz (DI.ok hdi), rfl, q _ ρ _ _ r4 x4 ⟨hp.objs.size, rfl, hn, .inr rfl, h3, h4, ps', b', upd_same, hrd.ext x4⟩⟩
  cases b with
  | false =>
    refine call_dict_pairs (knd := mixKind X.prog X.w) (kvs := es.map fun p => (flatN p.1, p.2.val)) P (I.ok.hd hc) ok ⟨by rw [List.length_map], fun i key v hr => ?_⟩ (by rw [size_line_eq]; omega) fun h' tk dd hk => ?_
    · obtain ⟨p, hp, e1, e2⟩ := hRel i key v hr
      have hm := List.mem_of_getElem? hp
      obtain ⟨n1, n2⟩ := rvp_is I rp p hm
      refine ⟨flatN p.1, ?_, ?_⟩
      · rw [List.getElem?_map, hp, e2]; rfl
      · rw [e1]; exact (kind_flat (w := X.w) (rp.kinds p hm) n1 n2).1
    · have hm := merged_flat (es := es) (ps := []) rp.kinds (fun _ h => absurd h (by simp)) List.nodup_nil
      rw [List.map_nil] at hm
      rw [hm] at dd
      obtain ⟨⟨c, di, dt, sl⟩, ea, ep', ho', ⟨c1, c2, c3⟩, hdat, hkeys, pairs, _⟩ := dd
      simp only at c1 c2 c3 hdat
      subst c1 c2 c3 hdat
      obtain ⟨ps', a1, a2, a3, a4⟩ := rvd_rekey (P := X.prog) (w := X.w) rd pairs (fun en hen => by
        obtain ⟨k0, q1, q2⟩ := hkeys en (by simpa using hen)
        exact ⟨k0, q1, q2⟩)
      refine fin h' tk ps' false hk ⟨hsm, ?_, ⟨ep', ?_⟩, a4, ?_⟩ a3
      · have h1 := congrArg List.length a2
        rw [List.length_map, List.length_map] at h1
        simp at hle; omega
      · rw [a1]
        have : ea.toList.toArray = ea := by simp
        rw [this]; exact ho'
      · rw [a2]; exact nd
  | true =>
    have kref : ∀ p ∈ es, p.2.key = .ref (addrOf p.2.key) ∧ (nestedKind X.prog X.w).is hp p.1 (addrOf p.2.key) := fun p hm => by
      obtain ⟨n1, n2⟩ := rvp_is I1 rp p hm
      obtain ⟨ns, hns, hdep⟩ := kind_tup (rp.kinds p hm)
      rw [hns] at n1
      have hr := tup_ref n1
      exact ⟨hr, by rw [← hr, hns]; exact n1, hdep⟩
    refine call_dict_pairsH (knd := nestedKind X.prog X.w) (ps := es.map fun p => (p.1, addrOf p.2.key, p.2.val)) P (I.ok.hd hc) (by show X.A.units + 1 + 1 + 8 < cLine; omega) ok ⟨by rw [List.length_map], fun i key v hr => ?_⟩ ?_ (by rw [size_line_eq]; omega) fun h' tk dd hk => ?_
    · obtain ⟨p, hp, e1, e2⟩ := hRel i key v hr
      refine ⟨p.1, addrOf p.2.key, ?_, ?_⟩
      · rw [List.getElem?_map, hp, e2]; rfl
      · rw [e1]; exact (kref p (List.mem_of_getElem? hp)).1
    · intro h' hk' x hx
      obtain ⟨p, hm, rfl⟩ := List.mem_map.mp hx
      have hk2 : ∀ c o, s.heap.get? c = some o → h'.get? c = some o := fun c o e => hk' c o (Nat.ne_of_lt (Heap.lt_size (hks c o e))) (fun hm => by rw [hw c hm] at e; cases e) (hks c o e)
      have I2 : Inv X pins σ H { s with heap := h', toks := tk0 } := I.kept hk2
      obtain ⟨n1, n2⟩ := rvp_is I2 rp p hm
      obtain ⟨ns, hns, hdep⟩ := kind_tup (rp.kinds p hm)
      rw [hns] at n1
      have hr := tup_ref n1
      exact ⟨by rw [← hr, hns]; exact n1, hdep⟩
    · have hm := storedAll_tup (es := es) (ps := []) (fun p hm => (kref p hm).1) List.nodup_nil
      rw [List.map_nil] at hm
      rw [hm] at dd
      obtain ⟨⟨c, di, dt, sl⟩, ea, ep', ho', ⟨c1, c2, c3⟩, hdat, hes, _, _⟩ := dd
      simp only at c1 c2 c3 hdat
      subst c1 c2 c3 hdat
      refine fin h' tk (putAll [] es) true hk ⟨hsm, by simp at hle; omega, ⟨ep', ?_⟩, hash', nd⟩ rd
      have e1 : ea.toList = (putAll [] es).map (·.2) := by
        rw [hes, List.map_map]
        refine List.map_congr_left fun p hp => ?_
        have kr : p.2.key = .ref (addrOf p.2.key) := (each_tup I rd rfl p hp).1
        obtain ⟨m, hs0, ky, vl⟩ := p
        have a1 : hs0 = m.hash X.w := hash' _ hp
        show DictEntry.mk (m.hash X.w) (.ref (addrOf ky)) vl = DictEntry.mk hs0 ky vl
        have a2 : ky = .ref (addrOf ky) := kr
        rw [← a2, a1]
      have e2 : ea = ((putAll [] es).map (·.2)).toArray := by rw [← e1]
      rw [← e2]; exact ho'

theorem pairs_cons {d : D} {ds : List D} {qs : List (D × D)} (h : pairs? (d :: ds) = some qs) : ∃ k v r, d = .tup [k, v] ∧ pairs? ds = some r ∧ qs = (k, v) :: r := by
  unfold pairs? at h
  split at h
  · cases ‹_ = []›
  · rename_i k v ds' e
    cases e
    obtain ⟨r, h1, h2⟩ := Option.map_eq_some_iff.mp h
    exact ⟨k, v, r, rfl, h1, h2.symm⟩
  · cases h
/-- a key's kind, its hash -/
theorem kk_key {d : D} {b : Bool} (h : kk d = some b) : ∃ n, keyOf d = some n ∧ kindN n = some b := by
  unfold kk at h
  cases e : keyOf d with
  | none => rw [e] at h; cases h
  | some n => rw [e] at h; exact ⟨n, rfl, h⟩
theorem pair_entries {b : Bool} (I : Inv X pins σ H s) : ∀ {ds : List D} {xs : List V} {qs : List (D × D)}, RVs (kx X) M ρ H ds xs → pairs? ds = some qs → (∀ q ∈ qs, kk q.1 = some b) →
    ∃ (Ts : List Addr) (es : List (NestedKey × DictEntry)), xs = Ts.map V.ref ∧ RVp (kx X) M ρ H b qs es ∧ (∀ p ∈ es, p.2.hash = p.1.hash X.w) ∧ Ts.length = es.length ∧ ∀ (j : Nat) T p, Ts[j]? = some T → es[j]? = some p → s.heap.IsTuple T #[p.2.key, p.2.val]
  | [], _, qs, .nil, h, _ => by
    simp only [pairs?] at h; cases h
    exact ⟨[], [], rfl, .nil, fun _ h => absurd h (by simp), rfl, fun j T p h => by simp at h⟩
  | d :: ds, _, qs, .cons r t, h, hq => by
    obtain ⟨k, v, qr, rfl, h1, rfl⟩ := pairs_cons h
    obtain ⟨Ts, es, e1, e2, e3, e4, e5⟩ := pair_entries I t h1 fun q hm => hq q (List.mem_cons_of_mem _ hm)
    obtain ⟨n, hk, hn⟩ := kk_key (hq (k, v) List.mem_cons_self)
    cases r with
    | @tup T us _ tt rs =>
      cases rs with
      | cons ra rs =>
        cases rs with
        | cons rb rs =>
          cases rs
          obtain ⟨its, rv, pt, _⟩ := I.tuple tt.sq
          cases rv with
          | cons ua rv =>
            cases rv with
            | cons ub rv =>
              cases rv
              rename_i u1 _ u2 _
              refine ⟨T :: Ts, (n, ⟨n.hash X.w, _, _⟩) :: es, by rw [e1]; rfl, .cons ra ua rb ub hk hn e2, fun p hp => ?_, by rw [List.length_cons, List.length_cons, e4], fun j T' p hj hp => ?_⟩
              · rcases List.mem_cons.mp hp with rfl | hp
                · rfl
                · exact e3 p hp
              · cases j with
                | zero =>
                  simp at hj hp
                  subst hj hp
                  exact pt
                | succ j =>
                  exact e5 j T' p (by simpa using hj) (by simpa using hp)
def rDictX (K : Fg) : List V → Hp → VK → Prop := fun vs H Q => ∃ (F : Addr → Prop) (H0 : Hp) (ρ : List Addr) (M : Addr → Prop) (S : CH) (σd : Env) (σ : L2.St) (a : Addr) (xs : List V) (ds : List D) (qs : List (D × D)) (o : List D × List D), vs = [.ref a] ∧ Rep K F H0 ρ M S σd σ H ∧ SqL K.fr H a xs ∧ RVs K M ρ H ds xs ∧ pairs? ds = some qs ∧ dputs qs [] [] = some o ∧ ds.length ≤ 1000000 ∧
  ∀ w ρ' M' H', Rep K F H0 ρ' M' S σd σ H' → Ext ρ M H ρ' M' H' → RF K F M' ρ' H H' (.dct o.1 o.2) w → Q w H'
theorem pairs_len : ∀ {ds : List D} {qs : List (D × D)}, pairs? ds = some qs → qs.length = ds.length
  | [], _, h => by simp only [pairs?] at h; cases h; rfl
  | d :: ds, qs, h => by
    obtain ⟨k, v, r, rfl, h1, rfl⟩ := pairs_cons h
    rw [List.length_cons, List.length_cons, pairs_len h1]
theorem call_dictX (hc : X.calm = true) (hu : X.A.units + 128 < cLine) : CallR X (.type "dict") (rDictX (kx X)) := by
  intro pins s σ H vs us Q I r h
  obtain ⟨F, H0, ρ, M, S, σd, σ', a, xs, ds, qs, o, rfl, rp, hs, rs, hp, hd, hz, q⟩ := h
  obtain ⟨u, rfl, rx⟩ := vals1 r
  cases rx
  obtain ⟨b, hb⟩ := dputs_kind hd
  obtain ⟨Ts, es, e1, e2, e3, e4, e5⟩ := pair_entries I rs hp hb
  have hlen : es.length = ds.length := by rw [← e2.len, pairs_len hp]
  have hit : ∀ its, Vals xs its → its = Ts.map Value.ref := fun its rv => by rw [e1] at rv; exact refs_at rv
  have pit : PairItems s.heap (Ts.map Value.ref).toArray (fun j => Ts.getD j 0) (es.map fun p => (p.2.key, p.2.val)) := by
    refine ⟨by simp [e4], fun j k v hj => ?_⟩
    rw [List.getElem?_map] at hj
    obtain ⟨p, hpj, hpe⟩ := Option.map_eq_some_iff.mp hj
    cases hpe
    have hlt : j < Ts.length := by rw [e4]; exact (List.getElem?_eq_some_iff.mp hpj).1
    have ht : Ts[j]? = some Ts[j] := List.getElem?_eq_getElem hlt
    have hg : Ts.getD j 0 = Ts[j] := by simp [List.getD, ht]
    refine ⟨by simp [hlt], ?_⟩
    show PairAt s.heap (Ts.getD j 0) _ _
    rw [hg]
    exact .inl (e5 j _ p ht hpj)
  have rel : ∀ i k v, PairRel (es.map fun p => (p.2.key, p.2.val)) i k v → ∃ p, es[i]? = some p ∧ k = p.2.key ∧ v = p.2.val := fun i k v hr => by
    have hr : (es.map fun p => (p.2.key, p.2.val))[i]? = some (k, v) := hr
    rw [List.getElem?_map] at hr
    obtain ⟨p, h1, h2⟩ := Option.map_eq_some_iff.mp hr
    cases h2
    exact ⟨p, h1, rfl, rfl⟩
  obtain ⟨its, rv, pl, _⟩ := I.list hs
  have := hit its rv
  subst this
  obtain ⟨ob, n, ho, hcl, hdd, hdt⟩ := pl
  have P := PairArg.list (prog := X.prog) (w := X.w) a (Ts.map Value.ref).toArray (fun j => Ts.getD j 0) (es.map fun p => (p.2.key, p.2.val))
  rw [List.length_map] at P
  exact x_dict hc hu I (fun _ _ e => e) (Nat.le_refl _) rp P rel ⟨⟨ob, n, ho, hcl, hdd, hdt⟩, pit⟩ (fun _ h => absurd h (by simp)) e2 e3 hd (by omega) q
theorem c_dict (hc : X.calm = true) (hu : X.A.units + 128 < cLine) : CallR X (.type "dict") (rBI (kx X) .dict) := by
  refine cimp (call_dictX hc hu) ?_
  rintro vs H Q ⟨F, H0, ρ, M, S, σd, σ, xs, d, r, rn, e, q⟩
  have q : ∀ w ρ' M' H', Rep (kx X) F H0 ρ' M' S σd σ H' → Ext ρ M H ρ' M' H' → RF (kx X) F M' ρ' H H' d w → Q w H' := q
  obtain ⟨x, rfl⟩ := bi1 e (by simp)
  obtain ⟨v, rfl, r1⟩ := rn.one
  cases x with
  | lst ds =>
    obtain ⟨a, xs, rfl, t, rs⟩ := r1.lst
    simp only [biD] at e
    cases hp : pairs? ds with
    | none => rw [hp] at e; cases e
    | some qs =>
      rw [hp] at e
      simp only at e
      by_cases hl : ds.length ≤ 1000000
      · rw [if_pos hl] at e
        obtain ⟨o, ho, rfl⟩ := Option.map_eq_some_iff.mp e
        exact ⟨F, H0, ρ, M, S, σd, σ, a, xs, ds, qs, o, rfl, r, t, rs, hp, ho, hl, q⟩
      · rw [if_neg hl] at e; cases e
  | _ => simp only [biD] at e; cases e
end
end Cl

set_option Elab.async false
set_option linter.all false
set_option maxRecDepth 100000
/-! SoundM: dict(zip(..)) over lists and tuples of either kind (the held turns follow the library's for two lists). -/
namespace Cl
open PySem PySem.Spec PyProof.Rows L2
open Sem (wp)

theorem ItAt.there {t : Bool} {h : Heap} {it a : Addr} {i : Nat} (x : ItAt t h it a i) : ∃ o, h.get? it = some o := let ⟨o, e, _⟩ := x.cell; ⟨o, e⟩
theorem SeqA.there {t : Bool} {h : Heap} {a : Addr} {items : Array Value} (x : SeqA t h a items) : ∃ o, h.get? a = some o := by
  cases t <;> (obtain ⟨o, e, _⟩ := x; exact ⟨o, e⟩)
theorem SeqA.at {t : Bool} {h h' : Heap} {a : Addr} {items : Array Value} (x : SeqA t h a items) (k : ∀ o, h.get? a = some o → h'.get? a = some o) : SeqA t h' a items := by
  cases t
  · exact Heap.IsList.at x k
  · exact Heap.IsTuple.at x k
theorem ItAt.extBut {t : Bool} {h h' : Heap} {it a b : Addr} {i : Nat} (x : ItAt t h it a i) (hs : Heap.ExtBut b h h') (hb : it ≠ b) : ItAt t h' it a i := x.at fun o e => hs it o hb e
theorem SeqA.extBut {t : Bool} {h h' : Heap} {a b : Addr} {items : Array Value} (x : SeqA t h a items) (hs : Heap.ExtBut b h h') (hb : a ≠ b) : SeqA t h' a items := x.at fun o e => hs a o hb e
section
variable {prog : Program} {w : World} {A : Around} {E : Value → Shared → Prop} {s : Shared}
theorem nextK_item {t : Bool} {it l : Addr} {i : Nat} {items : Array Value} {x : Value} {Q : Value → Shared → Prop} (hit : ItAt t s.heap it l i) (hl : SeqA t s.heap l items) (hx : items[i]? = some x)
    (hQ : ∀ h', ItAt t h' it l (i + 1) → Heap.SameBut it s.heap h' → Q x { s with heap := h' }) : wpAny (model prog w) A (Builtin.SmallTypes.nextOf (.ref it)) Q E s := by
  cases t
  · exact wpAny_nextOf_list_item hit hl hx hQ
  · exact PySem.wpAny_nextOf_tuple_item hit hl hx hQ
theorem nextK_end {t : Bool} {it l : Addr} {i : Nat} {items : Array Value} {Q : Value → Shared → Prop} (hh : A.handled = none) (hit : ItAt t s.heap it l i) (hl : SeqA t s.heap l items) (hx : items[i]? = none)
    (hE : ∀ h' e, Heap.ExtBut it s.heap h' → (∃ o, h'.get? e = some o ∧ o.cls = .type "StopIteration") → E (.ref e) { s with heap := h' }) : wpAny (model prog w) A (Builtin.SmallTypes.nextOf (.ref it)) Q E s := by
  cases t
  · exact wpAny_nextOf_list_end hh hit hl hx hE
  · exact PySem.wpAny_nextOf_tuple_end hh hit hl hx hE
theorem sep_of {z TI TO i1 i2 l1 l2 : Addr} (D : ZipApart z TI TO i1 i2 l1 l2) : ZipSep2 z TI TO i1 i2 [i1, l1] [i2, l2] where
  TIz := D.TIz
  TOz := D.TOz
  TITO := D.TITO
  TIi1 := D.TIi1
  mem1 := by simp
  zf1 := by simp [D.i1z.symm, D.l1z.symm]
  Tf1 := by simp [D.TOi1, D.l1TO.symm]
  TIi2 := D.TIi2
  mem2 := by simp
  zf2 := by simp [D.i2z.symm, D.l2z.symm]
  Tf2 := by simp [D.TOi2, D.l2TO.symm]
  sep1_2 := by simp [D.i12, D.l2i1.symm]
  sep2_1 := by simp [D.i12.symm, D.l1i2.symm]
theorem pyNext_zip0_item {ta tb : Bool} {z TI TO i1 i2 l1 l2 : Addr} {k1 : Nat} {xs ys : Array Value} {x y a b : Value} {Q : Option Value → Shared → Prop} (hh : A.handled = none) (D : ZipApart z TI TO i1 i2 l1 l2)
    (hz : IsZip s.heap z TI TO .none) (hTI : IsPair s.heap TI (.ref i1) (.ref i2)) (hTO : IsPair s.heap TO a b)
    (h1 : ItAt ta s.heap i1 l1 k1) (h2 : ItAt tb s.heap i2 l2 k1) (hl1 : SeqA ta s.heap l1 xs) (hl2 : SeqA tb s.heap l2 ys) (hx : xs[k1]? = some x) (hy : ys[k1]? = some y)
    (hQ : ∀ h' tk, IsZip h' z TI TO (rawInt s.heap.objs.size) → IsPair h' TO x y → ItAt ta h' i1 l1 (k1 + 1) → ItAt tb h' i2 l2 (k1 + 1) → IsPair h' s.heap.objs.size x y → h'.objs.size = s.heap.objs.size + 1 →
      (∀ c o, c ≠ z → c ≠ TO → c ≠ i1 → c ≠ i2 → s.heap.get? c = some o → h'.get? c = some o) → Q (some (.ref s.heap.objs.size)) { s with heap := h', toks := tk }) :
    wpAny (model prog w) A (pyNext (.ref z)) Q E s := by
  have e1 := (Array.getElem?_eq_some_iff.mp hx).1
  have e2 := (Array.getElem?_eq_some_iff.mp hy).1
  refine wpAny_pyNext_zipD2_item (sep_of D) (drawsK (prog := prog) (w := w) (A := A.in1) hh ta i1 l1 D.l1i1 xs) (drawsK (prog := prog) (w := w) (A := A.in1) hh tb i2 l2 D.l2i2 ys) hz hTI hTO ⟨h1, hl1⟩ ⟨h2, hl2⟩ e1 e2
    fun x1 x2 h' tk y1 y2 b1 b2 d1 d2 b5 b6 b7 => ?_
  rw [hx] at y1
  rw [hy] at y2
  cases y1
  cases y2
  exact hQ h' tk b1 b2 d1.1 d2.1 b5 b6 b7
theorem pyNext_zip0_end {ta tb : Bool} {z TI TO i1 i2 l1 l2 : Addr} {xs ys : Array Value} {a b : Value} {Q : Option Value → Shared → Prop} (hh : A.handled = none) (D : ZipApart z TI TO i1 i2 l1 l2)
    (hz : IsZip s.heap z TI TO .none) (hTI : IsPair s.heap TI (.ref i1) (.ref i2)) (hTO : IsPair s.heap TO a b)
    (h1 : ItAt ta s.heap i1 l1 (min xs.size ys.size)) (h2 : ItAt tb s.heap i2 l2 (min xs.size ys.size)) (hl1 : SeqA ta s.heap l1 xs) (hl2 : SeqA tb s.heap l2 ys)
    (hQ : ∀ h' tk, (∀ c o, c ≠ z → c ≠ TO → c ≠ i1 → c ≠ i2 → s.heap.get? c = some o → h'.get? c = some o) → Q none { s with heap := h', toks := tk }) : wpAny (model prog w) A (pyNext (.ref z)) Q E s :=
  wpAny_pyNext_zipD2_end (sep_of D) (drawsK (prog := prog) (w := w) (A := A.in1) hh ta i1 l1 D.l1i1 xs) (drawsK (prog := prog) (w := w) (A := A.in1) hh tb i2 l2 D.l2i2 ys) hz hTI hTO ⟨h1, hl1⟩ ⟨h2, hl2⟩ (by omega) (by omega) (by omega) hQ
theorem zipK_next_item {ta tb : Bool} {z TI TO T i1 i2 l1 l2 : Addr} {f : Bool} {oT : Obj} {k1 k2 : Nat} {xs ys : Array Value} {x y : Value} {Q : Value → Shared → Prop} (D : ZipApart z TI TO i1 i2 l1 l2)
    (hz : IsZipHeld s.heap z TI TO T f) (hT : s.heap.get? T = some oT) (hTI : IsPair s.heap TI (.ref i1) (.ref i2))
    (h1 : ItAt ta s.heap i1 l1 k1) (h2 : ItAt tb s.heap i2 l2 k2) (hl1 : SeqA ta s.heap l1 xs) (hl2 : SeqA tb s.heap l2 ys) (hx : xs[k1]? = some x) (hy : ys[k2]? = some y)
    (hQ : ∀ h', IsZipHeld h' z TI TO T true → ItAt ta h' i1 l1 (k1 + 1) → ItAt tb h' i2 l2 (k2 + 1) → IsPair h' s.heap.objs.size x y → h'.objs.size = s.heap.objs.size + 1 →
      (∀ c o, c ≠ z → c ≠ i1 → c ≠ i2 → s.heap.get? c = some o → h'.get? c = some o) → Q (.ref s.heap.objs.size) { s with heap := h' }) :
    wpAny (model prog w) A (Builtin.«zip.__next__» ⟨[.ref z], []⟩) (fun fin s' => ∃ v, fin = .done (.ret v) ∧ Q v s') E s := by
  show wpAny _ _ (field (.ref z) 2 >>= _) _ _ _
  refine wpAny_bind (wpAny_field hz rfl (x := .bool false) rfl ?_)
  show wpAny _ _ (field (.ref z) 3 >>= _) _ _ _
  refine wpAny_bind (wpAny_field hz rfl (x := .ref TI) rfl ?_)
  refine wpAny_bind (wpAny_seqItems hTI rfl ?_)
  show wpAny _ _ (Builtin.SmallTypes.ownedTupleIsFree (.ref z) >>= _) _ _ _
  refine wpAny_bind (wpAny_tupleHeld_zip hz hT fun h₁ hz₁ hs₁ => ?_)
  simp only [Bool.false_eq_true, if_false]
  refine wpAny_bind ?_
  rw [← Array.forIn_toList]
  simp only [List.forIn_cons, List.forIn_nil]
  refine wpAny_bind (wpAny_bind (wpAny_holding ?_))
  show wpAny _ _ (Builtin.SmallTypes.nextOf (.ref i1) >>= _) _ _ _
  refine wpAny_bind (nextK_item (s := { s with heap := h₁ }) (h1.extBut hs₁.extBut D.i1z) (hl1.extBut hs₁.extBut D.l1z) hx fun h₂ h1₂ hs₂ => wpAny_pure ?_)
  refine wpAny_pure ?_
  refine wpAny_bind (wpAny_bind (wpAny_holding ?_))
  show wpAny _ _ (Builtin.SmallTypes.nextOf (.ref i2) >>= _) _ _ _
  refine wpAny_bind (nextK_item (s := { s with heap := h₂ }) ((h2.extBut hs₁.extBut D.i2z).extBut hs₂.extBut D.i12.symm) ((hl2.extBut hs₁.extBut D.l2z).extBut hs₂.extBut D.l2i1) hy fun h₃ h2₃ hs₃ => wpAny_pure ?_)
  refine wpAny_pure (wpAny_pure ?_)
  show wpAny _ _ (newTuple [x, y] >>= _) _ _ _
  refine wpAny_bind (wpAny_newTuple ?_)
  have hsz : h₃.objs.size = s.heap.objs.size := by rw [hs₃.1, hs₂.1, hs₁.1]
  have hz₃ : IsZipHeld h₃ z TI TO T true := hs₃.extBut _ _ D.i2z.symm (hs₂.extBut _ _ D.i1z.symm hz₁)
  have hk : ∀ c o, c ≠ z → c ≠ i1 → c ≠ i2 → s.heap.get? c = some o → h₃.get? c = some o := fun c o c1 c2 c3 e => hs₃.extBut _ _ c3 (hs₂.extBut _ _ c2 (hs₁.extBut _ _ c1 e))
  have h1₃ : ItAt ta h₃ i1 l1 (k1 + 1) := h1₂.extBut hs₃.extBut D.i12
  refine wpAny_pure ⟨_, rfl, ?_⟩
  show Q (.ref h₃.objs.size) _
  have hp : IsPair (h₃.push { cls := .type "tuple", data := .seq #[x, y] }) h₃.objs.size x y := Heap.get?_push_size _ rfl
  have hz4 : (h₃.push { cls := .type "tuple", data := .seq #[x, y] }).objs.size = h₃.objs.size + 1 := Heap.size_push ..
  rw [hsz] at hp hz4 ⊢
  exact hQ _ (Heap.get?_push_of_some _ hz₃) (h1₃.at fun o e => Heap.get?_push_of_some _ e) (h2₃.at fun o e => Heap.get?_push_of_some _ e) hp hz4 fun c o c1 c2 c3 e => Heap.get?_push_of_some _ (hk c o c1 c2 c3 e)

theorem zipK_next_end {ta tb : Bool} {z TI TO T i1 i2 l1 l2 : Addr} {f : Bool} {oT : Obj} {k1 k2 : Nat} {xs ys : Array Value} {Q : Fin → Shared → Prop} (hh : A.handled = none) (D : ZipApart z TI TO i1 i2 l1 l2)
    (hz : IsZipHeld s.heap z TI TO T f) (hT : s.heap.get? T = some oT) (hTI : IsPair s.heap TI (.ref i1) (.ref i2))
    (h1 : ItAt ta s.heap i1 l1 k1) (h2 : ItAt tb s.heap i2 l2 k2) (hl1 : SeqA ta s.heap l1 xs) (hl2 : SeqA tb s.heap l2 ys) (hend : xs[k1]? = none ∨ ys[k2]? = none)
    (hE : ∀ h' e, (∀ c o, c ≠ z → c ≠ i1 → c ≠ i2 → s.heap.get? c = some o → h'.get? c = some o) → (∃ o, h'.get? e = some o ∧ o.cls = .type "StopIteration") → E (.ref e) { s with heap := h' }) :
    wpAny (model prog w) A (Builtin.«zip.__next__» ⟨[.ref z], []⟩) Q E s := by
  show wpAny _ _ (field (.ref z) 2 >>= _) _ _ _
  refine wpAny_bind (wpAny_field hz rfl (x := .bool false) rfl ?_)
  show wpAny _ _ (field (.ref z) 3 >>= _) _ _ _
  refine wpAny_bind (wpAny_field hz rfl (x := .ref TI) rfl ?_)
  refine wpAny_bind (wpAny_seqItems hTI rfl ?_)
  show wpAny _ _ (Builtin.SmallTypes.ownedTupleIsFree (.ref z) >>= _) _ _ _
  refine wpAny_bind (wpAny_tupleHeld_zip hz hT fun h₁ hz₁ hs₁ => ?_)
  simp only [Bool.false_eq_true, if_false]
  refine wpAny_bind ?_
  rw [← Array.forIn_toList]
  simp only [List.forIn_cons, List.forIn_nil]
  refine wpAny_bind (wpAny_bind (wpAny_holding ?_))
  show wpAny _ _ (Builtin.SmallTypes.nextOf (.ref i1) >>= _) _ _ _
  cases hx : xs[k1]? with
  | none =>
    refine wpAny_bind (nextK_end (s := { s with heap := h₁ }) hh (h1.extBut hs₁.extBut D.i1z) (hl1.extBut hs₁.extBut D.l1z) hx fun h₂ e hs₂ he => ?_)
    exact hE h₂ e (fun c o c1 c2 _ x => hs₂ _ _ c2 (hs₁.extBut _ _ c1 x)) he
  | some x =>
    have hy : ys[k2]? = none := by rcases hend with h | h; rw [hx] at h; cases h; exact h
    refine wpAny_bind (nextK_item (s := { s with heap := h₁ }) (h1.extBut hs₁.extBut D.i1z) (hl1.extBut hs₁.extBut D.l1z) hx fun h₂ h1₂ hs₂ => wpAny_pure ?_)
    refine wpAny_pure ?_
    refine wpAny_bind (wpAny_bind (wpAny_holding ?_))
    show wpAny _ _ (Builtin.SmallTypes.nextOf (.ref i2) >>= _) _ _ _
    refine wpAny_bind (nextK_end (s := { s with heap := h₂ }) hh ((h2.extBut hs₁.extBut D.i2z).extBut hs₂.extBut D.i12.symm) ((hl2.extBut hs₁.extBut D.l2z).extBut hs₂.extBut D.l2i1) hy fun h₃ e hs₃ he => ?_)
    exact hE h₃ e (fun c o c1 c2 c3 x => hs₃ _ _ c3 (hs₂.extBut _ _ c2 (hs₁.extBut _ _ c1 x))) he

theorem pyNext_zipK_item {ta tb : Bool} {z TI TO T i1 i2 l1 l2 : Addr} {f : Bool} {oT : Obj} {k1 k2 : Nat} {xs ys : Array Value} {x y : Value} {Q : Option Value → Shared → Prop} (D : ZipApart z TI TO i1 i2 l1 l2)
    (hz : IsZipHeld s.heap z TI TO T f) (hT : s.heap.get? T = some oT) (hTI : IsPair s.heap TI (.ref i1) (.ref i2))
    (h1 : ItAt ta s.heap i1 l1 k1) (h2 : ItAt tb s.heap i2 l2 k2) (hl1 : SeqA ta s.heap l1 xs) (hl2 : SeqA tb s.heap l2 ys) (hx : xs[k1]? = some x) (hy : ys[k2]? = some y)
    (hQ : ∀ h', IsZipHeld h' z TI TO T true → ItAt ta h' i1 l1 (k1 + 1) → ItAt tb h' i2 l2 (k2 + 1) → IsPair h' s.heap.objs.size x y → h'.objs.size = s.heap.objs.size + 1 →
      (∀ c o, c ≠ z → c ≠ i1 → c ≠ i2 → s.heap.get? c = some o → h'.get? c = some o) → Q (some (.ref s.heap.objs.size)) { s with heap := h' }) :
    wpAny (model prog w) A (pyNext (.ref z)) Q E s := by
  have hTy : s.TypeIs (.ref z) "zip" := ⟨_, hz, rfl⟩
  unfold pyNext
  exact wpAny_bind (wpAny_attempt (wpAny_callSpecial?_slot (name := Str.ofString "__next__") hTy F.slot_zip_next
    (wpAny_call_entry F.slot_zip_next hTy F.entry_zip_next
      (zipK_next_item D hz hT hTI h1 h2 hl1 hl2 hx hy fun h' a1 a3 a4 a5 a6 a7 => wpAny_pure (hQ h' a1 a3 a4 a5 a6 a7)) (F.args_zip_next_1 _))))
theorem pyNext_zipK_end {ta tb : Bool} {z TI TO T i1 i2 l1 l2 : Addr} {f : Bool} {oT : Obj} {k1 k2 : Nat} {xs ys : Array Value} {Q : Option Value → Shared → Prop} (hh : A.handled = none) (D : ZipApart z TI TO i1 i2 l1 l2)
    (hz : IsZipHeld s.heap z TI TO T f) (hT : s.heap.get? T = some oT) (hTI : IsPair s.heap TI (.ref i1) (.ref i2))
    (h1 : ItAt ta s.heap i1 l1 k1) (h2 : ItAt tb s.heap i2 l2 k2) (hl1 : SeqA ta s.heap l1 xs) (hl2 : SeqA tb s.heap l2 ys) (hend : xs[k1]? = none ∨ ys[k2]? = none)
    (hQ : ∀ h', (∀ c o, c ≠ z → c ≠ i1 → c ≠ i2 → s.heap.get? c = some o → h'.get? c = some o) → Q none { s with heap := h' }) : wpAny (model prog w) A (pyNext (.ref z)) Q E s := by
  have hTy : s.TypeIs (.ref z) "zip" := ⟨_, hz, rfl⟩
  unfold pyNext
  refine wpAny_bind (wpAny_attempt (wpAny_callSpecial?_slot (name := Str.ofString "__next__") hTy F.slot_zip_next
    (wpAny_call_entry F.slot_zip_next hTy F.entry_zip_next (zipK_next_end hh D hz hT hTI h1 h2 hl1 hl2 hend fun h' e hk he => ?_) (F.args_zip_next_1 _))))
  obtain ⟨o, ho, hc⟩ := he
  refine wpAny_bind (wpAny_isInstance (T := "StopIteration") (b := true) ⟨o, ho, hc⟩ isSubtype_stop ?_)
  exact wpAny_pure (hQ _ hk)

end
section
variable {prog : Program} {w : World}
theorem PairArg_zipK (ta tb : Bool) (z TI TO i1 i2 l1 l2 : Addr) (D : ZipApart z TI TO i1 i2 l1 l2) (xs ys : Array Value) :
    PairArg prog w "zip" z [z, TI, TO, i1, i2, l1, l2] [z, TO, i1, i2] (min xs.size ys.size) (fun i k v => xs[i]? = some k ∧ ys[i]? = some v)
      (fun h => IsZip h z TI TO .none ∧ IsPair h TI (.ref i1) (.ref i2) ∧ (∃ a b, IsPair h TO a b) ∧ ItAt ta h i1 l1 0 ∧ ItAt tb h i2 l2 0 ∧ SeqA ta h l1 xs ∧ SeqA tb h l2 ys) where
  type := fun s ok => ⟨_, ok.1, rfl⟩
  notDict := by decide
  keep := fun h h' ok hk => by
    obtain ⟨hz, hTI, ⟨a, b, hTO⟩, h1, h2, hl1, hl2⟩ := ok
    exact ⟨hk _ _ hz, hk _ _ hTI, ⟨a, b, hk _ _ hTO⟩, h1.at fun o e => hk _ o e, h2.at fun o e => hk _ o e, hl1.at fun o e => hk _ o e, hl2.at fun o e => hk _ o e⟩
  there := fun h ok b hb => by
    obtain ⟨hz, hTI, ⟨a, c, hTO⟩, k1, k2, k3, k4⟩ := ok
    obtain ⟨o1, h1⟩ := k1.there
    obtain ⟨o2, h2⟩ := k2.there
    obtain ⟨o3, hl1⟩ := k3.there
    obtain ⟨o4, hl2⟩ := k4.there
    simp only [List.mem_cons, List.not_mem_nil, or_false] at hb
    rcases hb with rfl | rfl | rfl | rfl | rfl | rfl | rfl
    all_goals first | exact ⟨_, hz⟩ | exact ⟨_, hTI⟩ | exact ⟨_, hTO⟩ | exact ⟨_, h1⟩ | exact ⟨_, h2⟩ | exact ⟨_, hl1⟩ | exact ⟨_, hl2⟩
  sub := fun b hb => by simp at hb ⊢; rcases hb with rfl | rfl | rfl | rfl <;> simp
  noKeys := fun A s Q E hA ok h => getAttrOr_miss_zip ok.1 rfl rfl rfl zip_no_keys (by decide +kernel) hA h
  iter := fun A s d Q E hA ok hd hdf h => by
    obtain ⟨hz, hTI, ⟨a, b, hTO⟩, h1, h2, hl1, hl2⟩ := ok
    simp only [List.mem_cons, List.not_mem_nil, or_false, not_or] at hdf
    obtain ⟨dz, dTI, dTO, di1, di2, dl1, dl2⟩ := hdf
    refine wpAny_pyIter_zip hz (h z [z, TO, i1, i2] (fun i h => IsPair h TI (.ref i1) (.ref i2) ∧ ItAt ta h i1 l1 i ∧ ItAt tb h i2 l2 i ∧ SeqA ta h l1 xs ∧ SeqA tb h l2 ys ∧
      ((IsZip h z TI TO .none ∧ ∃ a b, IsPair h TO a b) ∨ ∃ T f oT, IsZipHeld h z TI TO T f ∧ h.get? T = some oT ∧ T ≠ z ∧ T ≠ i1 ∧ T ≠ i2 ∧ T ≠ d)) s.heap s.toks ?_
      ⟨hTI, h1, h2, hl1, hl2, .inl ⟨hz, a, b, hTO⟩⟩ (fun _ _ e => e) fun b hb => .inl hb)
    exact {
      off := fun hm => by
        simp only [List.mem_cons, List.not_mem_nil, or_false] at hm
        rcases hm with e | e | e | e
        · exact dz e
        · exact dTO e
        · exact di1 e
        · exact di2 e
      frame := fun i h₁ h₂ st hk => by
        obtain ⟨hTI, h1, h2, hl1, hl2, hz⟩ := st
        refine ⟨hk _ _ (Ne.symm dTI) hTI, h1.at fun o e => hk _ o (Ne.symm di1) e, h2.at fun o e => hk _ o (Ne.symm di2) e, hl1.at fun o e => hk _ o (Ne.symm dl1) e, hl2.at fun o e => hk _ o (Ne.symm dl2) e, ?_⟩
        rcases hz with ⟨hz, a, b, hTO⟩ | ⟨T, f, oT, hz, hT, r1, r2, r3, r4⟩
        · exact .inl ⟨hk _ _ (Ne.symm dz) hz, a, b, hk _ _ (Ne.symm dTO) hTO⟩
        · exact .inr ⟨T, f, oT, hk _ _ (Ne.symm dz) hz, hk _ _ r4 hT, r1, r2, r3, r4⟩
      item := fun i s₁ Q₁ E₁ hi st hds hQ => by
        obtain ⟨hTI, h1, h2, hl1, hl2, hz⟩ := st
        have hix : i < xs.size := Nat.lt_of_lt_of_le hi (Nat.min_le_left ..)
        have hiy : i < ys.size := Nat.lt_of_lt_of_le hi (Nat.min_le_right ..)
        have ex := Array.getElem?_eq_getElem hix
        have ey := Array.getElem?_eq_getElem hiy
        have lt : ∀ {c o}, s₁.heap.get? c = some o → s₁.heap.objs.size ≠ c := fun e => Nat.ne_of_gt (Heap.lt_size e)
        have n1 : s₁.heap.objs.size ≠ i1 := let ⟨_, e⟩ := h1.there; lt e
        have n2 : s₁.heap.objs.size ≠ i2 := let ⟨_, e⟩ := h2.there; lt e
        rcases hz with ⟨hz, a, b, hTO⟩ | ⟨T, f, oT, hz, hT, r1, r2, r3, r4⟩
        · refine pyNext_zip0_item hA D hz hTI hTO h1 h2 hl1 hl2 ex ey fun h' tk a1 a2 a3 a4 a5 a6 hk => ?_
          exact hQ s₁.heap.objs.size _ _ h' tk ⟨ex, ey⟩ (.inl ⟨_, a5, rfl, _, rfl⟩)
            ⟨hk _ _ D.TIz D.TITO D.TIi1 D.TIi2 hTI, a3, a4, hl1.at fun o e => hk _ o D.l1z D.l1TO D.l1i1 D.l1i2 e, hl2.at fun o e => hk _ o D.l2z D.l2TO D.l2i1 D.l2i2 e,
              .inr ⟨s₁.heap.objs.size, false, _, a1, a5, lt hz, n1, n2, Nat.ne_of_gt hds⟩⟩
            fun c o hc e => hk c o (fun x => hc (by simp [x])) (fun x => hc (by simp [x])) (fun x => hc (by simp [x])) (fun x => hc (by simp [x])) e
        · refine pyNext_zipK_item D hz hT hTI h1 h2 hl1 hl2 ex ey fun h' a1 a3 a4 a5 a6 hk => ?_
          exact hQ s₁.heap.objs.size _ _ h' s₁.toks ⟨ex, ey⟩ (.inl ⟨_, a5, rfl, _, rfl⟩)
            ⟨hk _ _ D.TIz D.TIi1 D.TIi2 hTI, a3, a4, hl1.at fun o e => hk _ o D.l1z D.l1i1 D.l1i2 e, hl2.at fun o e => hk _ o D.l2z D.l2i1 D.l2i2 e,
              .inr ⟨T, true, oT, a1, hk _ _ r1 r2 r3 hT, r1, r2, r3, r4⟩⟩
            fun c o hc e => hk c o (fun x => hc (by simp [x])) (fun x => hc (by simp [x])) (fun x => hc (by simp [x])) e
      done := fun s₁ Q₁ E₁ st hQ => by
        obtain ⟨hTI, h1, h2, hl1, hl2, hz⟩ := st
        have hend : xs[min xs.size ys.size]? = none ∨ ys[min xs.size ys.size]? = none := by
          rcases Nat.le_total xs.size ys.size with h | h
          · exact .inl (Array.getElem?_eq_none (by rw [Nat.min_eq_left h]; exact Nat.le_refl _))
          · exact .inr (Array.getElem?_eq_none (by rw [Nat.min_eq_right h]; exact Nat.le_refl _))
        rcases hz with ⟨hz, a, b, hTO⟩ | ⟨T, f, oT, hz, hT, r1, r2, r3, r4⟩
        · exact pyNext_zip0_end hA D hz hTI hTO h1 h2 hl1 hl2 fun h' tk hk => hQ h' tk fun c o hc e => hk c o (fun x => hc (by simp [x])) (fun x => hc (by simp [x])) (fun x => hc (by simp [x])) (fun x => hc (by simp [x])) e
        · exact pyNext_zipK_end hA D hz hT hTI h1 h2 hl1 hl2 hend fun h' hk => hQ h' s₁.toks fun c o hc e => hk c o (fun x => hc (by simp [x])) (fun x => hc (by simp [x])) (fun x => hc (by simp [x])) e }


end

section
variable {X : Cx} {pins : List (Addr × Obj)} {σ : L2.St} {H : Hp} {s : Shared} {M : Addr → Prop} {ρ : List Addr}
theorem zip_entries {b : Bool} : ∀ {ds es : List D} {us vs : List V} {its its2 : List Value}, RVs (kx X) M ρ H ds us → Vals us its → RVs (kx X) M ρ H es vs → Vals vs its2 → (∀ q ∈ ds.zip es, kk q.1 = some b) →
    ∃ ents : List (NestedKey × DictEntry), RVp (kx X) M ρ H b (ds.zip es) ents ∧ (∀ p ∈ ents, p.2.hash = p.1.hash X.w) ∧ ents.length = min its.length its2.length ∧
      ∀ (i : Nat) k v, its[i]? = some k → its2[i]? = some v → ∃ p, ents[i]? = some p ∧ k = p.2.key ∧ v = p.2.val
  | _, _, _, _, _, _, .nil, .nil, _, _, _ => ⟨[], .nil, fun _ h => absurd h (by simp), by simp, fun i k v h => by simp at h⟩
  | _, _, _, _, _, _, .cons _ _, .cons _ _, .nil, .nil, _ => ⟨[], .nil, fun _ h => absurd h (by simp), by simp, fun i k v _ h => by simp at h⟩
  | _, _, _, _, _, _, .cons (d := k) ra ta, .cons ua va, .cons (d := d) rb tb, .cons ub vb, hq => by
    obtain ⟨ents, e1, e2, e3, e4⟩ := zip_entries ta va tb vb fun q hm => hq q (by rw [List.zip_cons_cons]; exact List.mem_cons_of_mem _ hm)
    obtain ⟨n, hk, hn⟩ := kk_key (hq (k, d) (by rw [List.zip_cons_cons]; exact List.mem_cons_self))
    refine ⟨(n, ⟨n.hash X.w, _, _⟩) :: ents, by rw [List.zip_cons_cons]; exact .cons ra ua rb ub hk hn e1, fun p hp => ?_, by rw [List.length_cons, List.length_cons, List.length_cons, e3]; omega, fun i k v h1 h2 => ?_⟩
    · rcases List.mem_cons.mp hp with rfl | hp
      · rfl
      · exact e2 p hp
    · cases i with
      | zero =>
        simp at h1 h2
        subst h1 h2
        exact ⟨_, rfl, rfl, rfl⟩
      | succ i => exact e4 i k v (by simpa using h1) (by simpa using h2)

variable {e e2 : Expr} {p p2 pos pos2 : Pos} {ma mb : Env → Cm D}
theorem f_dzip (hc : X.calm = true) (hu : X.A.units + 128 < cLine) (hgd : Gl X "dict") (hmd : X.mg "dict" = none) (hgz : Gl X "zip") (hmz : X.mg "zip" = none) (h1 : PE X e (tB (kx X) ma)) (h2 : PE X e2 (tB (kx X) mb)) (hs : nost e = true) (hs2 : nost e2 = true) :
    PE X (.Call (.Name "dict" p) [.Call (.Name "zip" p2) [e, e2] [] pos2] [] pos) (tF (kx X) fun σ => do
        let x ← ma σ
        let y ← mb σ
        let xs ← Cm.lift (seq? x)
        let ys ← Cm.lift (seq? y)
        if xs.length ≤ 1000000 then do
          let p ← Cm.lift (dputs (xs.zip ys) [] [])
          pure (.dct p.1 p.2)
        else Cm.fail) := by
  refine ⟨fun pins s σ H Q I hh => ?_⟩
  obtain ⟨F, H0, ρ, M, S, σd, d, S', r, e, q⟩ := hh
  obtain ⟨x, S1, e1, e⟩ := bind_ok e
  obtain ⟨y, S2, e2, e⟩ := bind_ok e
  obtain ⟨xs, S3, e3, e⟩ := bind_ok e
  obtain ⟨ys, S4, e4, e⟩ := bind_ok e
  obtain ⟨e3', rfl⟩ := lift_ok e3
  obtain ⟨e4', rfl⟩ := lift_ok e4
  have e := (ite_ok e).resolve_right fun z => (fail_ok z.2).elim
  obtain ⟨hxs, e⟩ := e
  obtain ⟨o, S5, e5, e⟩ := bind_ok e
  obtain ⟨e5', rfl⟩ := lift_ok e5
  obtain ⟨rfl, rfl⟩ := pure_ok e
  refine wpAny_Call_Name_kw (ld_blt I hgd hmd boot_dict ?_)
  refine callWith_type1 ?_ (starEach_no rfl) rfl
  rw [starEach_no rfl]
  show wpAny _ _ (spliced ((false, eval (.Call (.Name "zip" p2) [_, _] [] pos2) X.env) :: backTo pos (starEach [] X.env))) _ _ s
  refine Calls.spliced_cons ?_
  refine wpAny_Call_Name_kw (ld_blt I hgz hmz boot_zip ?_)
  refine callWith_type1 (thn ((PA2 h1 h2 hs hs2).run pos2 pins s σ H (fun vs H1 => ∃ x' y' ρ1 M1, vs = [x', y'] ∧ Rep (kx X) F H0 ρ1 M1 S2 σd σ H1 ∧ Ext ρ M H ρ1 M1 H1 ∧ RB (kx X) M1 ρ1 H1 x x' ∧ RB (kx X) M1 ρ1 H1 y y') I ?_) fun us s1 ⟨vs, H1, I1, r1, q1⟩ => ?_) (starEach_no hs) (star1 hs2)
  · refine ⟨F, H0, ρ, M, S, σd, x, S1, r, e1, fun v ρ1 M1 H1 r1 x1 v1 => ?_⟩
    exact ⟨F, H0, ρ1, M1, S1, σd, y, S2, r1, e2, fun u ρ2 M2 H2 r2 x2 v2 => ⟨v, u, ρ2, M2, rfl, r2, x1.trans x2, v1.ext x2, v2⟩⟩
  obtain ⟨x', y', ρ1, M1, rfl, rp, xt, rx, ry⟩ := q1
  obtain ⟨a, us1, A1, rfl, g1, g2, g3⟩ := srcK rx e3'
  obtain ⟨b, us2, A2, rfl, k1, k2, k3⟩ := srcK ry e4'
  cases r1 with
  | cons ra rr =>
    cases rr with
    | cons rb rr =>
      cases rr
      cases ra
      cases rb
      obtain ⟨its, rv, p1⟩ := seqK I1 g2
      obtain ⟨its2, rv2, p3⟩ := seqK I1 k2
      refine zip_begins2 (begK (isTup x) a its.toArray) (begK (isTup y) b its2.toArray) p1 p3 fun h' hz hTI hTO h1 h2 hsz hk => ?_
      refine Calls.spliced_nil ?_
      obtain ⟨bb, hb⟩ := dputs_kind e5'
      obtain ⟨ents, n1, n2, n3, n4⟩ := zip_entries g3.rs rv k3.rs rv2 hb
      have la := p1.lt
      have lb := p3.lt
      have ap : ZipApart (s1.heap.objs.size + 4) (s1.heap.objs.size + 2) (s1.heap.objs.size + 3) s1.heap.objs.size (s1.heap.objs.size + 1) a b := PySem.W.ktu_apart s1.heap.objs.size a b la lb
      have P := PairArg_zipK (prog := X.prog) (w := X.w) (isTup x) (isTup y) _ _ _ _ _ a b ap its.toArray its2.toArray
      have hn : min its.toArray.size its2.toArray.size = ents.length := by rw [n3]; simp
      rw [hn] at P
      have hle : ents.length ≤ 1000000 := by
        rw [n3, ← rv.length, ← g3.rs.length]; omega
      refine x_dict hc hu I1 hk (by rw [hsz]; omega) rp P (fun i k v ⟨z1, z2⟩ => n4 i k v (by simpa using z1) (by simpa using z2)) ⟨hz, hTI, ⟨_, _, hTO⟩, newK h1, newK h2, p1.at fun o => hk _ o, p3.at fun o => hk _ o⟩ (fun c hc => ?_) n1 n2 e5' hle
        fun w ρ' M' H' r' xe f => q w ρ' M' H' r' (xt.trans xe) ?_
      · refine Heap.get?_none_of_le ?_
        have : c = s1.heap.objs.size + 4 ∨ c = s1.heap.objs.size + 3 ∨ c = s1.heap.objs.size ∨ c = s1.heap.objs.size + 1 := by simpa using hc
        have hge : ∀ n : Nat, s1.heap.objs.size ≤ s1.heap.objs.size + n := fun n => Nat.le_add_right _ _
        rcases this with z | z | z | z <;> rw [z]
        · exact hge 4
        · exact hge 3
        · exact hge 0
        · exact hge 1
      · obtain ⟨a, f1, f2, f3, f4, f5, f6⟩ := f
        exact ⟨a, f1, xt.back rp.tr rp.mm f2, f3, f4, f5, f6⟩
end
end Cl

set_option Elab.async false
set_option linter.all false
set_option maxRecDepth 100000
/-! SoundN: comprehensions, calls of built-ins, the other forms, as readings. -/
namespace Cl
open PySem PySem.Spec PyProof.Rows L2

def notSet : Expr → Bool
  | .Set .. => false
  | _ => true
theorem folded_no {e : Expr} {env : PySem.Env} (h : notSet e = true) : ∀ x, foldedSetIterable e env x = pure x := by
  intro x
  cases e <;> first | rfl | cases h
mutual
theorem gbind1 : ∀ (g : G) (d : D) (σ σ' : Env), g.bind d σ = some σ' → ∀ i s, σ'.at i = some s → isOwn s = true → σ.at i = some s ∧ i ∉ G.names g
  | .nm j, d, σ, σ', h, i, s, hs, io => by
    simp only [G.bind] at h
    cases h
    by_cases e : j = i
    · subst e
      have hi := Env.at_lt hs
      rw [Env.put_length] at hi
      rw [Env.at_put_self hi] at hs
      cases hs; cases io
    · rw [Env.at_put_ne e] at hs
      exact ⟨hs, by simp only [G.names, List.mem_singleton]; exact fun z => e z.symm⟩
  | .tup gs, d, σ, σ', h, i, s, hs, io => by
    cases d with
    | tup ds =>
      simp only [G.bind] at h
      have := gbindsL gs ds σ σ' h i s hs io
      simp only [G.names]
      exact this
    | lst ds =>
      simp only [G.bind] at h
      have := gbindsL gs ds σ σ' h i s hs io
      simp only [G.names]
      exact this
    | _ => simp only [G.bind] at h; cases h
theorem gbindsL : ∀ (gs : List G) (ds : List D) (σ σ' : Env), G.binds gs ds σ = some σ' → ∀ i s, σ'.at i = some s → isOwn s = true → σ.at i = some s ∧ i ∉ G.names.names' gs
  | [], ds, σ, σ', h, i, s, hs, io => by
    cases ds with
    | nil => simp only [G.binds] at h; cases h; exact ⟨hs, by simp only [G.names.names', List.not_mem_nil, not_false_eq_true]⟩
    | cons _ _ => simp only [G.binds] at h; cases h
  | g :: gs, ds, σ, σ', h, i, s, hs, io => by
    cases ds with
    | nil => simp only [G.binds] at h; cases h
    | cons d ds =>
      simp only [G.binds] at h
      cases hb : g.bind d σ with
      | none => rw [hb] at h; cases h
      | some σ1 =>
        rw [hb] at h
        obtain ⟨h1, h2⟩ := gbindsL gs ds σ1 σ' h i s hs io
        obtain ⟨h3, h4⟩ := gbind1 g d σ σ1 hb i s h1 io
        exact ⟨h3, by simp only [G.names.names', List.mem_append, not_or]; exact ⟨h4, h2⟩⟩
end
theorem gbinds (g : G) : BindOk (G.names g) fun d σ => g.bind d σ := fun d σ σ' h i s hs io => gbind1 g d σ σ' h i s hs io

/-- a list or a dict, if it is one, is fresh -/
def isLD : D → Bool
  | .lst _ => true
  | .dct _ _ => true
  | _ => false
abbrev tG (K : Fg) (m : Env → Cm D) : TE := tW K (fun F M ρ H H1 d v => isLD d = true → RF K F M ρ H H1 d v) m
def RFG (fr : Bool) (K : Fg) (F M : Addr → Prop) (ρ : List Addr) (H H1 : Hp) (d : D) (w : V) : Prop := if fr then (isLD d = true → RF K F M ρ H H1 d w) else RV K M ρ H1 d w
theorem tG_of_tF {X : Cx} {K : Fg} {e : Expr} {m : Env → Cm D} (h : PE X e (tF K m)) : PE X e (tG K m) := h.imp fun σ H Q ⟨F, H0, ρ, M, S, σd, d, S', r, e, q⟩ => ⟨F, H0, ρ, M, S, σd, d, S', r, e, fun v ρ' M' H' r' x f => q v ρ' M' H' r' x fun _ => f⟩
section
variable {X : Cx} {elt tg iter tg1 iter1 ke ve : Expr} {ifs : List Expr} {scope : Scope} {own : List (Str × Nat)} {pos : Pos} {g g1 : G} {mi mi1 : Env → Cm (List D)} {mt : Env → Cm Bool} {me mk mv : Env → Cm D} {vs1 : List Nat}
theorem pts_nil' : PTs X [] (tT (kx X) fun _ => pure true) := ⟨fun pins s σ H Q I ⟨F, H0, ρ, M, S, σd, d, S', r, e, q⟩ => by
  obtain ⟨rfl, rfl⟩ := pure_ok e
  exact pts_nil.run pins s σ H Q I (q ρ M H r Ext.refl)⟩
theorem pts_one' {c : Expr} (h : PT X c (tT (kx X) mt)) : PTs X [c] (tT (kx X) fun σ => do if ← mt σ then pure true else pure false) := pts_one (h.imp fun σ H Q ⟨F, H0, ρ, M, S, σd, d, S', r, e, q⟩ => by
  obtain ⟨z, S1, e1, e⟩ := bind_ok e
  refine ⟨F, H0, ρ, M, S, σd, z, S1, r, e1, fun ρ1 M1 H1 r1 x1 => ?_⟩
  cases z with
  | true => rw [if_pos rfl] at e; obtain ⟨rfl, rfl⟩ := pure_ok e; exact q ρ1 M1 H1 r1 x1
  | false => rw [if_neg Bool.false_ne_true] at e; obtain ⟨rfl, rfl⟩ := pure_ok e; exact q ρ1 M1 H1 r1 x1)
theorem f_comp (hc : X.calm = true) (hN : X.N.Nodup) (hi : PI X tg iter (tI (kx X) true mi)) (ok : BlkOk X.N X.env.scope scope own)
    (hg : ∀ (s : Shared) (H : Hp) (C : Addr) (cl : List (Str × Addr)) (fp : List Addr), PG (X.blk s H scope (compEnvC scope cl C X.env) fp) tg (gB (kx X) (G.names g) fun d σ => g.bind d σ))
    (ht : ∀ (s : Shared) (H : Hp) (C : Addr) (cl : List (Str × Addr)) (fp : List Addr), PTs (X.blk s H scope (compEnvC scope cl C X.env) fp) ifs (tT (kx X) mt))
    (he : ∀ (s : Shared) (H : Hp) (C : Addr) (cl : List (Str × Addr)) (fp : List Addr), PE (X.blk s H scope (compEnvC scope cl C X.env) fp) elt (tV (kx X) me)) (hs : notSet iter = true)
    (sub : ∀ j ∈ G.names g, j ∈ own.map (·.2)) :
    PE X (.ListComp elt [⟨tg, iter, ifs, 0⟩] scope pos) (tF (kx X) fun σ => do
      let xs ← mi σ
      if xs.length ≤ 1000000 then do
        let ys ← compM (fun d => g.bind d (σ.wipe (own.map (·.2)))) mt me xs
        pure (.lst ys)
      else Cm.fail) :=
  (pe_lc hc hN hi ok hg ht he (folded_no hs)).imp fun σ H Q h => tLc_of sub h
theorem f_comp2 (hc : X.calm = true) (hN : X.N.Nodup) (hi : PI X tg iter (tI (kx X) true mi)) (ok : BlkOk X.N X.env.scope scope own) (hv : ∀ i ∈ vs1, i ∈ own.map (·.2))
    (hg : ∀ (s : Shared) (H : Hp) (C : Addr) (cl : List (Str × Addr)) (fp : List Addr), PG (X.blk s H scope (compEnvC scope cl C X.env) fp) tg (gB (kx X) (G.names g) fun d σ => g.bind d σ))
    (hi1 : ∀ (s : Shared) (H : Hp) (C : Addr) (cl : List (Str × Addr)) (fp : List Addr), PI (X.blk s H scope (compEnvC scope cl C X.env) fp) tg1 iter1 (tI (kx X) false mi1))
    (hg1 : ∀ (s : Shared) (H : Hp) (C : Addr) (cl : List (Str × Addr)) (fp : List Addr), PG (X.blk s H scope (compEnvC scope cl C X.env) fp) tg1 (gB (kx X) (G.names g1) fun d σ => g1.bind d σ))
    (he : ∀ (s : Shared) (H : Hp) (C : Addr) (cl : List (Str × Addr)) (fp : List Addr), PE (X.blk s H scope (compEnvC scope cl C X.env) fp) elt (tV (kx X) me)) (hs : notSet iter = true) (hs1 : notSet iter1 = true)
    (sub : ∀ j ∈ G.names g, j ∈ own.map (·.2)) (sub1 : ∀ j ∈ G.names g1, j ∈ vs1) :
    PE X (.ListComp elt [⟨tg, iter, [], 0⟩, ⟨tg1, iter1, [], 0⟩] scope pos) (tF (kx X) fun σ => do
      let xs ← mi σ
      let ys ← comp2M (fun d => g.bind d (σ.wipe (own.map (·.2)))) (fun σ' => do
        let zs ← mi1 σ'
        compM (fun d => g1.bind d (σ'.wipe vs1)) (fun _ => pure true) me zs) xs
      if ys.length ≤ 1000000 then pure (.lst ys) else Cm.fail) :=
  (pe_lc2 hc hN hi ok hv hg (fun s H C cl fp => pts_nil' (X := X.blk s H scope (compEnvC scope cl C X.env) fp)) hi1 hg1 (fun s H C cl fp => pts_nil' (X := X.blk s H scope (compEnvC scope cl C X.env) fp)) he (folded_no hs) fun env x => folded_no hs1 x).imp fun σ H Q h => tLc2_of sub sub1 (gbinds g) h
theorem f_dcomp (hu : X.A.units + 8 < cLine) (hc : X.calm = true) (hN : X.N.Nodup) (hi : PI X tg iter (tI (kx X) true mi)) (ok : BlkOk X.N X.env.scope scope own)
    (hg : ∀ (s : Shared) (H : Hp) (C : Addr) (cl : List (Str × Addr)) (fp : List Addr), PG (X.blk s H scope (compEnvC scope cl C X.env) fp) tg (gB (kx X) (G.names g) fun d σ => g.bind d σ))
    (hk : ∀ (s : Shared) (H : Hp) (C : Addr) (cl : List (Str × Addr)) (fp : List Addr), PE (X.blk s H scope (compEnvC scope cl C X.env) fp) ke (tV (kx X) mk))
    (he : ∀ (s : Shared) (H : Hp) (C : Addr) (cl : List (Str × Addr)) (fp : List Addr), PE (X.blk s H scope (compEnvC scope cl C X.env) fp) ve (tV (kx X) mv)) (hs : notSet iter = true)
    (sub : ∀ j ∈ G.names g, j ∈ own.map (·.2)) :
    PE X (.DictComp ke ve [⟨tg, iter, [], 0⟩] scope pos) (tF (kx X) fun σ => do
      let xs ← mi σ
      if xs.length ≤ 1000000 then do
        let p ← dcompM (fun d => g.bind d (σ.wipe (own.map (·.2)))) mk mv xs [] []
        pure (.dct p.1 p.2)
      else Cm.fail) :=
  (pe_dx hu hc hN hi ok hg (fun s H C cl fp => pts_nil' (X := X.blk s H scope (compEnvC scope cl C X.env) fp)) hk he (folded_no hs)).imp fun σ H Q h => tDx_of sub h
end

/-! ### built-in functions -/
def biS : BI → Str
  | .len => "len" | .abs => "abs" | .tuple => "tuple" | .list => "list" | .sorted => "sorted" | .all => "all" | .any => "any" | .sum => "sum" | .int => "int" | .str => "str" | .repr => "repr" | .max => "max" | .min => "min" | .dict => "dict"
def biV : BI → Value
  | .tuple => .type "tuple" | .list => .type "list" | .int => .type "int" | .str => .type "str" | .dict => .type "dict"
  | .len => .builtin "len" | .abs => .builtin "abs" | .sorted => .builtin "sorted" | .all => .builtin "all" | .any => .builtin "any" | .sum => .builtin "sum" | .repr => .builtin "repr" | .max => .builtin "max" | .min => .builtin "min"
def biOk : BI → Bool
  | .sum => false
  | .str => false
  | _ => true
section
variable {X : Cx} {e : Expr} {es : List Expr} {p pos p2 : Pos} {m : Env → Cm (List D)} {me mk md : Env → Cm D}
theorem c_bi (hu : X.A.units + 128 < cLine) (hc : X.calm = true) (hg : X.A.guards = some []) (f : BI) (hf : biOk f = true) : CallR X (biV f) (rBI (kx X) f) := by
  cases f with
  | len => exact c_len
  | abs => exact c_abs
  | tuple => exact c_tuple
  | list => exact c_list
  | sorted => exact c_sorted hu hc
  | all => exact c_all hc
  | any => exact c_any hc
  | int => exact c_int
  | repr => exact c_repr hu hg
  | max => exact c_max hc
  | min => exact c_min hc
  | dict => exact c_dict hc hu
  | sum => cases hf
  | str => cases hf
theorem w_bi (hu : X.A.units + 128 < cLine) (hc : X.calm = true) (hgd : X.A.guards = some []) (f : BI) (hf : biOk f = true) (hg : Gl X (biS f)) (hm : X.mg (biS f) = none) (ha : PA X (e :: es) (tBs (kx X) m)) (hs : (e :: es).all nost = true) :
    PE X (.Call (.Name (biS f) p) (e :: es) [] pos) (tW (kx X) (RFV (frBI f) (kx X)) fun σ => do let xs ← m σ; let xs' ← derefs xs; Cm.lift (biD f xs')) := by
  rw [List.all_cons, Bool.and_eq_true] at hs
  have key : PE X (.Call (.Name (biS f) p) (e :: es) [] pos) (tCB (rBI (kx X) f) (tBs (kx X) m)) := by
    have h := c_bi hu hc hgd f hf
    cases f with
    | len => exact pe_callB h hg hm boot_len ha (by decide) (by decide) (starEach_no hs.1) (star_any hs.2)
    | abs => exact pe_callB h hg hm boot_abs ha (by decide) (by decide) (starEach_no hs.1) (star_any hs.2)
    | sorted => exact pe_callB h hg hm boot_sorted ha (by decide) (by decide) (starEach_no hs.1) (star_any hs.2)
    | all => exact pe_callB h hg hm (by decide +kernel) ha (by decide) (by decide) (starEach_no hs.1) (star_any hs.2)
    | any => exact pe_callB h hg hm (by decide +kernel) ha (by decide) (by decide) (starEach_no hs.1) (star_any hs.2)
    | repr => exact pe_callB h hg hm boot_repr ha (by decide) (by decide) (starEach_no hs.1) (star_any hs.2)
    | max => exact pe_callB h hg hm boot_max ha (by decide) (by decide) (starEach_no hs.1) (star_any hs.2)
    | min => exact pe_callB h hg hm boot_min ha (by decide) (by decide) (starEach_no hs.1) (star_any hs.2)
    | tuple => exact pe_callTy h hg hm boot_tuple ha (by decide) (by decide) (starEach_no hs.1) (star_any hs.2)
    | list => exact pe_callTy h hg hm boot_list ha (by decide) (by decide) (starEach_no hs.1) (star_any hs.2)
    | int => exact pe_callTy h hg hm boot_int ha (by decide) (by decide) (starEach_no hs.1) (star_any hs.2)
    | dict => exact pe_callTy h hg hm boot_dict ha (by decide) (by decide) (starEach_no hs.1) (star_any hs.2)
    | sum => cases hf
    | str => cases hf
  refine key.imp fun σ H Q ⟨F, H0, ρ, M, S, σd, d, S', r, e, q⟩ => ?_
  obtain ⟨xs, S1, e1, e⟩ := bind_ok e
  obtain ⟨xs', S2, e2, e⟩ := bind_ok e
  obtain ⟨e3, rfl⟩ := lift_ok e
  refine ⟨F, H0, ρ, M, S, σd, xs, S1, r, e1, fun vs ρ1 M1 H1 r1 x1 v1 => ?_⟩
  obtain ⟨rfl, n1⟩ := derefs_ok r1 v1 e2
  refine ⟨F, H0, ρ1, M1, S2, σd, σ, xs', d, r1, n1, e3, fun w ρ2 M2 H2 r2 x2 f2 => q w ρ2 M2 H2 r2 (x1.trans x2) ?_⟩
  unfold RFV at f2 ⊢
  by_cases hfr : frBI f = true
  · rw [if_pos hfr] at f2 ⊢
    obtain ⟨a, f1, f2, f3, f4, f5, f6⟩ := f2
    exact ⟨a, f1, x1.back r1.tr r1.mm f2, f3, f4, f5, f6⟩
  · rw [if_neg hfr] at f2 ⊢
    exact f2
theorem w_val {K : Fg} {fr : Bool} {m : Env → Cm D} (h : PE X e (tW K (RFV fr K) m)) : PE X e (tV K m) := by
  cases fr with
  | true =>
    have h' : PE X e (tF K m) := h.imp fun σ H Q ⟨F, H0, ρ, M, S, σd, d, S', r, e, q⟩ => ⟨F, H0, ρ, M, S, σd, d, S', r, e, fun v ρ' M' H' r' x f => q v ρ' M' H' r' x f⟩
    exact tV_of_tF h'
  | false => exact h.imp fun σ H Q ⟨F, H0, ρ, M, S, σd, d, S', r, e, q⟩ => ⟨F, H0, ρ, M, S, σd, d, S', r, e, fun v ρ' M' H' r' x f => q v ρ' M' H' r' x f⟩
theorem w_fresh {K : Fg} {fr : Bool} {m : Env → Cm D} (hfr : fr = true) (h : PE X e (tW K (RFV fr K) m)) : PE X e (tF K m) := by
  subst hfr
  exact h.imp fun σ H Q ⟨F, H0, ρ, M, S, σd, d, S', r, e, q⟩ => ⟨F, H0, ρ, M, S, σd, d, S', r, e, fun v ρ' M' H' r' x f => q v ρ' M' H' r' x f⟩
/-- isinstance(e, T) -/
def tyS : Ty → Str
  | .int => "int" | .bool => "bool" | .str => "str" | .tuple => "tuple" | .list => "list" | .dict => "dict"
theorem boot_ty (t : Ty) : bootBuiltins (tyS t) = some (.type (tyN t)) := by cases t <;> decide +kernel
theorem v_isi (t : Ty) (hg : Gl X "isinstance") (hm : X.mg "isinstance" = none) (hgt : Gl X (tyS t)) (hmt : X.mg (tyS t) = none) (ha : PE X e (tV (kx X) me)) (hs : nost e = true) :
    PE X (.Call (.Name "isinstance" p) [e, .Name (tyS t) p2] [] pos) (tV (kx X) fun σ => do let x ← me σ; Cm.lift ((isTy t x).map .bl)) := by
  have pt : PE X (.Name (tyS t) p2) (tC (.ty (tyN t))) := pe_bltn hgt hmt (boot_ty t) rfl (by cases t <;> decide) (by cases t <;> decide)
  refine (pe_callB (id := "isinstance") call_isi hg hm boot_isinstance (PA2 ha pt hs rfl) (by decide) (by decide) (starEach_no hs) (star_any rfl)).imp fun σ H Q ⟨F, H0, ρ, M, S, σd, d, S', r, e, q⟩ => ?_
  obtain ⟨x, S1, e1, e⟩ := bind_ok e
  obtain ⟨e2, rfl⟩ := lift_ok e
  obtain ⟨b, hb, rfl⟩ := Option.map_eq_some_iff.mp e2
  refine ⟨F, H0, ρ, M, S, σd, x, S1, r, e1, fun v ρ1 M1 H1 r1 x1 v1 => ?_⟩
  obtain ⟨n, h1, h2⟩ := isTy_kit hb (by rintro ks vs rfl; cases t <;> cases hb)
  exact ⟨v, .ty (tyN t), .type n, .type (tyN t), b, rfl, .ty _, ty_of v1 h1, kit_ty h2, q _ ρ1 M1 H1 r1 x1 (.bl b)⟩

/-- {} -/
theorem f_dnew : PE X (.Dict [] [] pos) (tF (kx X) fun _ => pure (.dct [] [])) := ⟨fun pins s σ H Q I ⟨F, H0, ρ, M, S, σd, d, S', r, e, q⟩ => by
  obtain ⟨rfl, rfl⟩ := pure_ok e
  refine wpAny_Dict_empty ?_
  have hn : H s.heap.objs.size = none := I.hok.fresh (Nat.le_refl _)
  obtain ⟨r4, x4, h3, h4⟩ := new_mine (o := .ext (DI X.w s.heap.objs.size [])) r hn
  exact ⟨.ref s.heap.objs.size, _, I.laid (a := s.heap.objs.size) (o := .ext (DI X.w s.heap.objs.size [])) (t' := s.toks) (fun _ _ q => Heap.get?_push_of_some _ q) (Nat.le_refl _) (DI.new s.heap I.big), rfl,
    q _ ρ _ _ r4 x4 ⟨_, rfl, hn, .inr rfl, h3, h4, [], false, upd_same, .nil⟩⟩⟩

/-- a fresh list becomes a shared one -/
theorem v_new (he : PE X e (tG (kx X) me)) : PE X e (tV (kx X) fun σ => do
    let x ← me σ
    match x with
    | .lst ds => fun S => some (.ok (.ref S.length) (S ++ [.lst ds]))
    | _ => Cm.fail) := by
  refine he.imp fun σ H Q ⟨F, H0, ρ, M, S, σd, d, S', r, e, q⟩ => ?_
  obtain ⟨x, S1, e1, e⟩ := bind_ok e
  cases x with
  | lst ds =>
    have e : some (R.ok (D.ref S1.length) (S1 ++ [CO.lst ds])) = some (.ok d S') := e
    cases e
    refine ⟨F, H0, ρ, M, S, σd, _, S1, r, e1, fun v ρ' M' H' r' x f => ?_⟩
    obtain ⟨a, rfl, hn, ma, na, fa, xs, hx, rs⟩ := f rfl
    have ne : ∀ b, M b → b ≠ a := fun b mb z => by subst z; exact r.tr _ mb hn
    have st : Stay ρ' M' H' (ρ' ++ [a]) M' H' := ⟨fun b o h n => ⟨h, n⟩, fun n b h => by
      rw [List.getElem?_append_left (List.getElem?_eq_some_iff.mp h).1]; exact h⟩
    have hat : (ρ' ++ [a])[S1.length]? = some a := by rw [← r'.len, List.getElem?_append_right (Nat.le_refl _)]; simp
    have ext : Ext ρ M H (ρ' ++ [a]) M' H' := by
      refine ⟨x.keep, fun b mb nb => ?_, fun n b h => st.2 n b (x.refs n b h)⟩
      obtain ⟨h1, m1, n1⟩ := x.mine b mb nb
      exact ⟨h1, m1, fun z => by
        rcases List.mem_append.mp z with z | z
        · exact n1 z
        · rw [List.mem_singleton] at z; exact ne b mb z⟩
    refine q _ (ρ' ++ [a]) M' H' ⟨?_, ?_, fun b hb => ?_, fun n b co h1 h2 => ?_, r'.tr, r'.ln, fun i s hs => ?_, r'.ow, fun b fb => ?_⟩ ext (.ref hat)
    · rw [List.length_append, List.length_append, r'.len]; rfl
    · rw [List.nodup_append]
      refine ⟨r'.nd, by simp, ?_⟩
      intro y hy z hz
      rw [List.mem_singleton] at hz
      subst hz
      exact fun w => na (w ▸ hy)
    · rcases List.mem_append.mp hb with hb | hb
      · exact r'.mm b hb
      · rw [List.mem_singleton] at hb; subst hb; exact ma
    · by_cases hlt : n < ρ'.length
      · rw [List.getElem?_append_left hlt] at h1
        rw [List.getElem?_append_left (by rw [← r'.len]; exact hlt)] at h2
        exact (r'.ob n b co h1 h2).stay st rfl
      · have hlen := (List.getElem?_eq_some_iff.mp h1).1
        rw [List.length_append] at hlen
        have en : n = S1.length := by rw [← r'.len]; simp at hlen; omega
        subst en
        rw [hat] at h1
        cases h1
        rw [List.getElem?_append_right (Nat.le_refl _)] at h2
        simp at h2
        subst h2
        exact ⟨xs, hx, rs.stay st⟩
    · rcases r'.sl i s hs with ⟨io, v, e1, r1⟩ | ⟨io, b, e1, mb, nb, fb, rb⟩
      · exact .inl ⟨io, v, e1, r1.stay st⟩
      · refine .inr ⟨io, b, e1, mb, fun z => ?_, fb, rb.stay st rfl⟩
        rcases List.mem_append.mp z with z | z
        · exact nb z
        · rw [List.mem_singleton] at z
          rcases r.sl i s hs with ⟨io', _⟩ | ⟨_, c, e2, mc, _⟩
          · rw [io] at io'; cases io'
          · rw [e1] at e2; cases e2
            exact ne b mc z
    · obtain ⟨m1, n1, e1⟩ := r'.fo b fb
      exact ⟨m1, fun z => by
        rcases List.mem_append.mp z with z | z
        · exact n1 z
        · rw [List.mem_singleton] at z; subst z; exact fa fb, e1⟩
  | _ => exact (fail_ok e).elim
theorem get_or {K : Fg} {M : Addr → Prop} {ρ : List Addr} {H : Hp} {b : Bool} {ks vs : List D} {ps : List (NestedKey × DictEntry)} {k dd : D} {n : NestedKey} {ov : Option D} {z : V} {fv : Value} (r : RVd K M ρ H b ks vs ps) (hk : keyOf k = some n) (h : dfind k ks vs = some ov) (rz : RelV z fv) (vz : RV K M ρ H dd z) :
    ∃ y, RelV y (((ps.find? fun p => decide (p.1 = n)).map fun p => p.2.val).getD fv) ∧ RV K M ρ H (ov.getD dd) y := by
  have fd := find_data r k n ov hk h
  cases ov with
  | some d =>
    obtain ⟨p, v', h1, h2, h3⟩ := fd
    rw [h1]; exact ⟨v', h2, h3⟩
  | none =>
    have fd : ps.find? (fun p => decide (p.1 = n)) = none := fd
    rw [fd]; exact ⟨z, rz, vz⟩
/-- d.get(k, x) -/
theorem v_get2 {o ek ed : Expr} {apos cpos : Pos} {mo : Env → Cm D} (hu : X.A.units + 64 < cLine) (ho : PE X o (tB (kx X) mo)) (hk : PE X ek (tV (kx X) mk)) (hd : PE X ed (tV (kx X) md)) (m : M2 X o "get" apos ek ed cpos) :
    PE X (.Call (.Attribute o "get" apos) [ek, ed] [] cpos) (tV (kx X) fun σ => do
      let x ← mo σ
      let kd ← mk σ
      let dd ← md σ
      match x with
      | .dct ks vs => Cm.lift ((dfind kd ks vs).map fun o => o.getD dd)
      | _ => Cm.fail) := by
  refine ⟨fun pins s σ H Q I ⟨F, H0, ρ, M, S, σd, d, S', r, e, q⟩ => ?_⟩
  obtain ⟨x, S1, e1, e⟩ := bind_ok e
  obtain ⟨kd, S2, e2, e⟩ := bind_ok e
  obtain ⟨dd, S3, e3, e⟩ := bind_ok e
  cases x with
  | dct ks vs =>
    obtain ⟨e4, rfl⟩ := lift_ok e
    obtain ⟨ov, hf, rfl⟩ := Option.map_eq_some_iff.mp e4
    refine wpAny_Call_method m.base m.few m.line PySem.F.plainAttrs_dict PySem.F.slot_dict_get PySem.F.type_dict_get (thn (ho.run pins s σ H (fun v H1 => ∃ ρ1 M1, Rep (kx X) F H0 ρ1 M1 S1 σd σ H1 ∧ Ext ρ M H ρ1 M1 H1 ∧ RB (kx X) M1 ρ1 H1 (.dct ks vs) v) I
      ⟨F, H0, ρ, M, S, σd, _, S1, r, e1, fun v ρ1 M1 H1 a b c => ⟨ρ1, M1, a, b, c⟩⟩) fun u s1 ⟨v, H1, I1, rx, ρ1, M1, r1, x1, v1⟩ => ?_)
    obtain ⟨a, ps, b, rfl, ha, rd⟩ := v1.now.dct
    obtain rfl : u = Value.ref a := rx
    obtain ⟨⟨hsm, _, ⟨ep, hob⟩, _⟩, _⟩ := I1.hok a _ ha
    refine ⟨⟨_, hob, rfl⟩, fun b' eb => by cases eb; exact ⟨_, hob, rfl⟩, ?_⟩
    rw [m.trees]
    refine Calls.callWith_builtin rfl (Calls.evalArgs_plain (Calls.spliced_cons (thn (hk.run pins s1 σ H1 (fun v H2 => ∃ ρ2 M2, Rep (kx X) F H0 ρ2 M2 S2 σd σ H2 ∧ Ext ρ1 M1 H1 ρ2 M2 H2 ∧ RV (kx X) M2 ρ2 H2 kd v) I1
      ⟨F, H0, ρ1, M1, S1, σd, _, S2, r1, e2, fun v ρ2 M2 H2 a b c => ⟨ρ2, M2, a, b, c⟩⟩) fun iv s2 ⟨y, H2, I2, ry, ρ2, M2, r2, x2, v2⟩ =>
      Calls.spliced_cons (thn (hd.run pins s2 σ H2 (fun v H3 => ∃ ρ3 M3, Rep (kx X) F H0 ρ3 M3 S3 σd σ H3 ∧ Ext ρ2 M2 H2 ρ3 M3 H3 ∧ RV (kx X) M3 ρ3 H3 dd v) I2
      ⟨F, H0, ρ2, M2, S2, σd, _, S3, r2, e3, fun v ρ3 M3 H3 a b c => ⟨ρ3, M3, a, b, c⟩⟩) fun fv s3 ⟨z, H3, I3, rz, ρ3, M3, r3, x3, v3⟩ => Calls.spliced_nil ?_))))
    have v1' := (v1.ext x2).ext x3
    obtain ⟨a', ps', b', ea, ha', rd'⟩ := v1'.now.dct
    cases ea
    have hks : ∃ n, keyOf kd = some n := by
      cases ks <;> cases vs <;> simp only [dfind] at hf
      · split at hf
        · rename_i h1; unfold kk at h1; cases hk : keyOf kd with
          | none => rw [hk] at h1; simp at h1
          | some n => exact ⟨n, rfl⟩
        · cases hf
      · cases hf
      · cases hf
      · split at hf
        · rename_i h1; have h1 := h1.1; unfold kk at h1; cases hk : keyOf kd with
          | none => rw [hk] at h1; simp at h1
          | some n => exact ⟨n, rfl⟩
        · cases hf
    obtain ⟨n, hkn⟩ := hks
    obtain ⟨c, hc, rc⟩ := find_kind rd' hkn hf
    have hi := key_is I3 (v2.ext x3) iv n ry hkn
    have fin := get_or rd' hkn hf rz v3
    cases c with
    | false =>
      obtain ⟨hsm', dct, hz⟩ := flat_dict I3 ha' rc
      have hfl := each_flat I3 rc rfl (by obtain ⟨⟨_, _, _, hh, _⟩, _⟩ := I3.hok a _ ha'; exact hh)
      have hv := valueAt_find ps' n hc fun q hq => (hfl.1 q hq).2.2
      refine call_meetsIn PySem.F.slot_dict_get dct.typeIs PySem.F.entry_dict_get (PySem.F.args_dict_get_3 _ _ _) (meets_dict_get_default (mixKind X.prog X.w) a (kind_flat (w := X.w) hc hi (not_bool (v2.ext x3) ry hkn)).1 hsm' fv) ⟨_, dct.mapOf, ?_⟩
      rw [hv]
      obtain ⟨y', g1, g2⟩ := fin
      exact ⟨y', H3, I3.tok _, g1, q _ ρ3 M3 H3 r3 ((x1.trans x2).trans x3) g2⟩
    | true =>
      obtain ⟨hsm', dct, hz⟩ := tup_dict I3 ha' rc
      obtain ⟨ns, rfl, hdep⟩ := kind_tup hc
      have hr := tup_ref hi
      rw [hr]
      have hv := atKey_find ps' (.tup ns)
      refine call_meetsIn PySem.F.slot_dict_get dct.typeIs PySem.F.entry_dict_get (PySem.F.args_dict_get_3 _ _ _) (meetsH_dict_get_default (nestedKind X.prog X.w) a (addrOf iv) hsm' fv) ⟨by show X.A.units + 1 + 8 < cLine; omega, .tup ns, _, ⟨by rw [← hr]; exact hi, hdep⟩, dct, ?_⟩
      rw [hv]
      obtain ⟨y', g1, g2⟩ := fin
      exact ⟨y', H3, I3.tok _, g1, q _ ρ3 M3 H3 r3 ((x1.trans x2).trans x3) g2⟩
  | _ => exact (fail_ok e).elim
end
end Cl

set_option Elab.async false
set_option linter.all false
set_option maxRecDepth 100000
/-! SoundO: statements. -/
namespace Cl
open PySem PySem.Spec PyProof.Rows L2

/-- how a statement's ways out are met -/
def Out (K : Fg) (F : Addr → Prop) (H0 : Hp) (ρ : List Addr) (M : Addr → Prop) (H : Hp) (S' : CH) (D : Ends) : Fl → Prop
  | .nx σd => ∀ σ' ρ' M' H', Rep K F H0 ρ' M' S' σd σ' H' → Stay ρ M H ρ' M' H' → D.nx σ' H'
  | .bk σd => ∀ σ' ρ' M' H', Rep K F H0 ρ' M' S' σd σ' H' → Stay ρ M H ρ' M' H' → D.bk σ' H'
  | .ct σd => ∀ σ' ρ' M' H', Rep K F H0 ρ' M' S' σd σ' H' → Stay ρ M H ρ' M' H' → D.ct σ' H'
  | .rt d => ∀ v ρ' M' H', RepH K ρ' M' S' H' → (∀ a, F a → M' a ∧ a ∉ ρ' ∧ H' a = H0 a) → Stay ρ M H ρ' M' H' → RV K M' ρ' H' d v → D.rt v H'
def tSt (K : Fg) (m : Env → Cm Fl) : TS := fun D σ H =>
  ∃ (F : Addr → Prop) (H0 : Hp) (ρ : List Addr) (M : Addr → Prop) (S : CH) (σd : Env) (fl : Fl) (S' : CH), Rep K F H0 ρ M S σd σ H ∧ m σd S = some (.ok fl S') ∧ Out K F H0 ρ M H S' D fl

theorem Stay.trans {ρ ρ' ρ2 : List Addr} {M M' M2 : Addr → Prop} {H H' H2 : Hp} (x : Stay ρ M H ρ' M' H') (y : Stay ρ' M' H' ρ2 M2 H2) : Stay ρ M H ρ2 M2 H2 :=
  ⟨fun a o h n => let ⟨h1, n1⟩ := x.1 a o h n; y.1 a o h1 n1, fun n a h => y.2 n a (x.2 n a h)⟩
theorem Stay.refl {ρ : List Addr} {M : Addr → Prop} {H : Hp} : Stay ρ M H ρ M H := ⟨fun _ _ h n => ⟨h, n⟩, fun _ _ h => h⟩
section
variable {K : Fg} {F : Addr → Prop} {H0 : Hp} {M M' : Addr → Prop} {ρ ρ' : List Addr} {S S' : CH} {H H' : Hp}
theorem Out.later {D : Ends} {fl : Fl} (st : Stay ρ M H ρ' M' H') (o : Out K F H0 ρ M H S D fl) : Out K F H0 ρ' M' H' S D fl := by
  cases fl with
  | nx σd => exact fun σ' ρ2 M2 H2 r s => o σ' ρ2 M2 H2 r (st.trans s)
  | bk σd => exact fun σ' ρ2 M2 H2 r s => o σ' ρ2 M2 H2 r (st.trans s)
  | ct σd => exact fun σ' ρ2 M2 H2 r s => o σ' ρ2 M2 H2 r (st.trans s)
  | rt d => exact fun v ρ2 M2 H2 r f s rv => o v ρ2 M2 H2 r f (st.trans s) rv
theorem Out.mono {D D' : Ends} {fl : Fl} (hn : ∀ σ H, D.nx σ H → D'.nx σ H) (hb : ∀ σ H, D.bk σ H → D'.bk σ H) (hc : ∀ σ H, D.ct σ H → D'.ct σ H) (hr : ∀ v H, D.rt v H → D'.rt v H) (o : Out K F H0 ρ M H S D fl) : Out K F H0 ρ M H S D' fl := by
  cases fl with
  | nx σd => exact fun σ' ρ2 M2 H2 r s => hn _ _ (o σ' ρ2 M2 H2 r s)
  | bk σd => exact fun σ' ρ2 M2 H2 r s => hb _ _ (o σ' ρ2 M2 H2 r s)
  | ct σd => exact fun σ' ρ2 M2 H2 r s => hc _ _ (o σ' ρ2 M2 H2 r s)
  | rt d => exact fun v ρ2 M2 H2 r f s rv => hr _ _ (o v ρ2 M2 H2 r f s rv)
end

section
variable {X : Cx} {K : Fg} {st : Stmt} {rest sts : List Stmt} {e c tg : Expr} {pos : Pos} {m m1 m2 : Env → Cm Fl} {me mk : Env → Cm D} {mt : Env → Cm Bool}
theorem s_nil : PSs X [] (tSt K fun σ => pure (.nx σ)) := pss_nil.imp fun D σ H ⟨F, H0, ρ, M, S, σd, fl, S', r, e, o⟩ => by
  obtain ⟨rfl, rfl⟩ := pure_ok e
  exact o σ ρ M H r Stay.refl
theorem s_cons (h1 : PS X st (tSt K m1)) (h2 : PSs X rest (tSt K m2)) : PSs X (st :: rest) (tSt K fun σ => do
    match ← m1 σ with
    | .nx σ' => m2 σ'
    | .bk σ' => pure (.bk σ')
    | .ct σ' => pure (.ct σ')
    | .rt d => pure (.rt d)) := by
  refine (pss_cons h1 h2).imp fun D σ H ⟨F, H0, ρ, M, S, σd, fl, S', r, e, o⟩ => ?_
  obtain ⟨fl1, S1, e1, e⟩ := bind_ok e
  refine ⟨F, H0, ρ, M, S, σd, fl1, S1, r, e1, ?_⟩
  cases fl1 with
  | nx σ1 => exact fun σ' ρ' M' H' r' st => ⟨F, H0, ρ', M', S1, σ1, fl, S', r', e, o.later st⟩
  | bk σ1 => obtain ⟨rfl, rfl⟩ := pure_ok e; exact o
  | ct σ1 => obtain ⟨rfl, rfl⟩ := pure_ok e; exact o
  | rt d => obtain ⟨rfl, rfl⟩ := pure_ok e; exact o
theorem s_pass : PS X (.Pass pos) (tSt K fun σ => pure (.nx σ)) := ps_pass.imp fun D σ H ⟨F, H0, ρ, M, S, σd, fl, S', r, e, o⟩ => by
  obtain ⟨rfl, rfl⟩ := pure_ok e
  exact o σ ρ M H r Stay.refl
theorem s_doc {x : Str} {j : Nat} {pos' : Pos} : PS X (.Expr (.Constant (.str x) j pos') pos) (tSt K fun σ => pure (.nx σ)) := ps_doc.imp fun D σ H ⟨F, H0, ρ, M, S, σd, fl, S', r, e, o⟩ => by
  obtain ⟨rfl, rfl⟩ := pure_ok e
  exact o σ ρ M H r Stay.refl
theorem s_brk : PS X (.Break pos) (tSt K fun σ => pure (.bk σ)) := ps_break.imp fun D σ H ⟨F, H0, ρ, M, S, σd, fl, S', r, e, o⟩ => by
  obtain ⟨rfl, rfl⟩ := pure_ok e
  exact o σ ρ M H r Stay.refl
theorem s_cnt : PS X (.Continue pos) (tSt K fun σ => pure (.ct σ)) := ps_continue.imp fun D σ H ⟨F, H0, ρ, M, S, σd, fl, S', r, e, o⟩ => by
  obtain ⟨rfl, rfl⟩ := pure_ok e
  exact o σ ρ M H r Stay.refl
/-- raise: never come to -/
theorem s_never : PS X st (tSt K fun _ => Cm.fail) := ps_never.imp fun D σ H ⟨F, H0, ρ, M, S, σd, fl, S', r, e, o⟩ => (fail_ok e).elim
theorem s_ret (he : PE X e (tV K me)) : PS X (.Return (some e) pos) (tSt K fun σ => do let x ← me σ; pure (.rt x)) := (ps_ret he).imp fun D σ H ⟨F, H0, ρ, M, S, σd, fl, S', r, e, o⟩ => by
  obtain ⟨x, S1, e1, e⟩ := bind_ok e
  obtain ⟨rfl, rfl⟩ := pure_ok e
  exact ⟨F, H0, ρ, M, S, σd, x, S1, r, e1, fun v ρ' M' H' r' x' rv => o v ρ' M' H' r'.heap r'.fo x'.stay rv⟩
theorem s_retN : PS X (.Return none pos) (tSt K fun _ => pure (.rt .non)) := ps_retN.imp fun D σ H ⟨F, H0, ρ, M, S, σd, fl, S', r, e, o⟩ => by
  obtain ⟨rfl, rfl⟩ := pure_ok e
  exact o .non ρ M H r.heap r.fo Stay.refl .non
theorem s_if {a b : List Stmt} (hc : PT X c (tT K mt)) (ha : PSs X a (tSt K m1)) (hb : PSs X b (tSt K m2)) : PS X (.If c a b pos) (tSt K fun σ => do if ← mt σ then m1 σ else m2 σ) := (ps_if hc ha hb).imp fun D σ H ⟨F, H0, ρ, M, S, σd, fl, S', r, e, o⟩ => by
  obtain ⟨x, S1, e1, e⟩ := bind_ok e
  refine ⟨F, H0, ρ, M, S, σd, x, S1, r, e1, fun ρ' M' H' r' x' => ?_⟩
  cases x with
  | true => exact ⟨F, H0, ρ', M', S1, σd, fl, S', r', e, o.later x'.stay⟩
  | false => exact ⟨F, H0, ρ', M', S1, σd, fl, S', r', e, o.later x'.stay⟩
theorem s_exp (he : PE X e (tV K me)) (hs : swapsWith e none pos.line X.env = pure false) : PS X (.Expr e pos) (tSt K fun σ => do let _ ← me σ; pure (.nx σ)) := (ps_expr he hs).imp fun D σ H ⟨F, H0, ρ, M, S, σd, fl, S', r, e, o⟩ => by
  obtain ⟨x, S1, e1, e⟩ := bind_ok e
  obtain ⟨rfl, rfl⟩ := pure_ok e
  exact ⟨F, H0, ρ, M, S, σd, x, S1, r, e1, fun v ρ' M' H' r' x' rv => o σ ρ' M' H' r' x'.stay⟩

/-! ### target = value -/
/-- any assignment that reads as tAsg over a value's reading -/
theorem s_asgV {ns : List Nat} {bind : D → Env → Option Env} (h : PS X st (tAsg (tV K me) (gB K ns bind))) : PS X st (tSt K fun σ => do let x ← me σ; let σ' ← Cm.lift (bind x σ); pure (.nx σ')) := h.imp fun D σ H ⟨F, H0, ρ, M, S, σd, fl, S', r, e, o⟩ => by
  obtain ⟨x, S1, e1, e⟩ := bind_ok e
  obtain ⟨σ1, S2, e2, e⟩ := bind_ok e
  obtain ⟨e2', rfl⟩ := lift_ok e2
  obtain ⟨rfl, rfl⟩ := pure_ok e
  exact ⟨F, H0, ρ, M, S, σd, x, S1, r, e1, fun v ρ' M' H' r' x' rv => ⟨F, H0, ρ', M', S1, σd, x, σ1, r', rv, e2', fun σ' r'' _ _ => o σ' ρ' M' H' r'' x'.stay⟩⟩
/-- a fresh value stored into a slot, owned -/
theorem Rep.putOwn {F : Addr → Prop} {H0 H : Hp} {ρ : List Addr} {M : Addr → Prop} {S : CH} {σd : Env} {σ : L2.St} (r : Rep K F H0 ρ M S σd σ H) {i : Nat} {s : Sl} {a : Addr} (io : isOwn s = true) (ma : M a) (na : a ∉ ρ) (fa : ¬ F a) (ow : Own K M ρ H a (slotD s)) (no : NoSl a σd σ) :
    Rep K F H0 ρ M S (σd.put i (some s)) (σ.set i (some (.ref a))) H where
  len := r.len
  nd := r.nd
  mm := r.mm
  ob := r.ob
  tr := r.tr
  ln := by rw [Env.put_length, List.length_set]; exact r.ln
  sl := fun j t hs => by
    by_cases hj : i = j
    · subst hj
      have hi : i < σd.length := by rw [← Env.put_length σd i (some s)]; exact Env.at_lt hs
      rw [Env.at_put_self hi] at hs
      cases hs
      exact .inr ⟨io, a, slotV_set_self (by rw [← r.ln]; exact hi), ma, na, fa, ow⟩
    · rw [Env.at_put_ne hj] at hs
      rw [slotV_set_ne hj]
      exact r.sl j t hs
  ow := fun j l t u b hs ht os ot e1 e2 => by
    by_cases hj : i = j
    · subst hj
      have hi : i < σd.length := by rw [← Env.put_length σd i (some s)]; exact Env.at_lt hs
      rw [slotV_set_self (by rw [← r.ln]; exact hi)] at e1
      cases e1
      by_cases hl : i = l
      · exact hl
      · rw [Env.at_put_ne hl] at ht
        rw [slotV_set_ne hl] at e2
        exact absurd e2 (no l u ht ot)
    · rw [Env.at_put_ne hj] at hs
      rw [slotV_set_ne hj] at e1
      by_cases hl : i = l
      · subst hl
        have hi : i < σd.length := by rw [← Env.put_length σd i (some s)]; exact Env.at_lt ht
        rw [slotV_set_self (by rw [← r.ln]; exact hi)] at e2
        cases e2
        exact absurd e1 (no j t hs os)
      · rw [Env.at_put_ne hl] at ht
        rw [slotV_set_ne hl] at e2
        exact r.ow j l t u b hs ht os ot e1 e2
  fo := r.fo
theorem owned_own {d : D} {s : Sl} (h : owned d = some s) : isOwn s = true ∧ slotD s = d := by
  cases d <;> first | (cases h; exact ⟨rfl, rfl⟩) | cases h
theorem owned_ld {d : D} {s : Sl} (h : owned d = some s) : isLD d = true := by cases d <;> first | rfl | cases h
theorem s_own {i : Nat} (h : PS X st (tAsg (tG K me) (gName i))) : PS X st (tSt K fun σ => do let x ← me σ; let s ← Cm.lift (owned x); pure (.nx (σ.put i (some s)))) := h.imp fun D σ H ⟨F, H0, ρ, M, S, σd, fl, S', r, e, o⟩ => by
  obtain ⟨x, S1, e1, e⟩ := bind_ok e
  obtain ⟨s, S2, e2, e⟩ := bind_ok e
  obtain ⟨e2', rfl⟩ := lift_ok e2
  obtain ⟨rfl, rfl⟩ := pure_ok e
  refine ⟨F, H0, ρ, M, S, σd, x, S1, r, e1, fun v ρ' M' H' r' x' f => ?_⟩
  obtain ⟨a, rfl, hn, ma, na, fa, ow⟩ := f (owned_ld e2')
  obtain ⟨io, sd⟩ := owned_own e2'
  exact o _ ρ' M' H' (r'.putOwn io ma na fa (by rw [sd]; exact ow) (r.noSl hn)) x'.stay
end
end Cl

set_option Elab.async false
set_option linter.all false
set_option maxRecDepth 100000
/-! SoundO2: statements that change lists and dicts. -/
namespace Cl
open PySem PySem.Spec PyProof.Rows L2

section
variable {K : Fg} {F : Addr → Prop} {H0 : Hp} {M : Addr → Prop} {ρ : List Addr} {S : CH} {σd : Env} {σ : L2.St} {H : Hp}
/-- a slot's own place -/
theorem Rep.mine (r : Rep K F H0 ρ M S σd σ H) {i : Nat} {s : Sl} (h : σd.at i = some s) (io : isOwn s = true) : ∃ a, slotV σ i = some (.ref a) ∧ M a ∧ a ∉ ρ ∧ ¬ F a ∧ Own K M ρ H a (slotD s) := by
  rcases r.sl i s h with ⟨io', _⟩ | ⟨_, a, e, m, n, f, ow⟩
  · rw [io] at io'; cases io'
  · exact ⟨a, e, m, n, f, ow⟩
/-- it changes -/
theorem Rep.mut (r : Rep K F H0 ρ M S σd σ H) {i : Nat} {s s' : Sl} {a : Addr} {o : HO} (h : σd.at i = some s) (io : isOwn s = true) (hv : slotV σ i = some (.ref a)) (ma : M a) (na : a ∉ ρ) (fa : ¬ F a) (io' : isOwn s' = true) (ow : Own K M ρ (upd H a o) a (slotD s')) :
    Rep K F H0 ρ M S (σd.put i (some s')) σ (upd H a o) where
  len := r.len
  nd := r.nd
  mm := r.mm
  ob := (r.heap.poke ma na).ob
  tr := (r.heap.poke ma na).tr
  ln := by rw [Env.put_length]; exact r.ln
  sl := fun j t hs => by
    by_cases hj : i = j
    · subst hj
      rw [Env.at_put_self (Env.at_lt h)] at hs
      cases hs
      exact .inr ⟨io', a, hv, ma, na, fa, ow⟩
    · rw [Env.at_put_ne hj] at hs
      rcases r.sl j t hs with ⟨jo, v, e, rv⟩ | ⟨jo, b, e, m, n, f, owb⟩
      · exact .inl ⟨jo, v, e, rv.stay (stay_poke ma)⟩
      · have ne : b ≠ a := fun z => hj (r.ow i j s t a h hs io jo hv (by rw [e, z]))
        exact .inr ⟨jo, b, e, m, n, f, owb.stay (stay_poke ma) (upd_ne ne)⟩
  ow := fun j l t u b hs ht os ot e1 e2 => by
    have back : ∀ {j : Nat} {t : Sl}, (σd.put i (some s')).at j = some t → isOwn t = true → ∃ t', σd.at j = some t' ∧ isOwn t' = true := fun {j t} hs os => by
      by_cases hj : i = j
      · subst hj; exact ⟨s, h, io⟩
      · rw [Env.at_put_ne hj] at hs; exact ⟨t, hs, os⟩
    obtain ⟨t', h1, o1⟩ := back hs os
    obtain ⟨u', h2, o2⟩ := back ht ot
    exact r.ow j l t' u' b h1 h2 o1 o2 e1 e2
  fo := fun b fb => let ⟨m, n, e⟩ := r.fo b fb; ⟨m, n, by rw [upd_ne (fun z => fa (by rw [← z]; exact fb))]; exact e⟩
theorem nd_inj {α : Type} : ∀ {l : List α} {i j : Nat} {a : α}, l.Nodup → l[i]? = some a → l[j]? = some a → i = j
  | [], _, _, _, _, h, _ => by simp at h
  | x :: l, 0, 0, _, _, _, _ => rfl
  | x :: l, 0, j + 1, a, nd, h1, h2 => by
    simp at h1 h2
    subst h1
    exact absurd (List.mem_of_getElem? h2) (List.nodup_cons.mp nd).1
  | x :: l, i + 1, 0, a, nd, h1, h2 => by
    simp at h1 h2
    subst h2
    exact absurd (List.mem_of_getElem? h1) (List.nodup_cons.mp nd).1
  | x :: l, i + 1, j + 1, a, nd, h1, h2 => by
    simp at h1 h2
    rw [nd_inj (List.nodup_cons.mp nd).2 h1 h2]
/-- a shared list changes -/
theorem Rep.shr (r : Rep K F H0 ρ M S σd σ H) {n : Nat} {a : Addr} {ds : List D} {xs : List V} (hn : ρ[n]? = some a) (rs : RVs K M ρ H ds xs) : Rep K F H0 ρ M (S.set n (.lst ds)) σd σ (upd H a (.lst xs)) where
  len := by rw [List.length_set]; exact r.len
  nd := r.nd
  mm := r.mm
  ob := fun k b co h1 h2 => by
    have ma := r.mm a (List.mem_of_getElem? hn)
    by_cases hk : n = k
    · subst hk
      rw [hn] at h1
      cases h1
      have hlt : n < S.length := by rw [← r.len]; exact (List.getElem?_eq_some_iff.mp hn).1
      rw [List.getElem?_set_self hlt] at h2
      cases h2
      exact ⟨xs, upd_same, rs.stay (stay_poke ma)⟩
    · rw [List.getElem?_set_ne hk] at h2
      refine (r.ob k b co h1 h2).stay (stay_poke ma) (upd_ne fun z => hk ?_)
      subst z
      exact nd_inj r.nd hn h1
  tr := fun b mb => by
    by_cases h : b = a
    · subst h; rw [upd_same]; exact fun z => by cases z
    · rw [upd_ne h]; exact r.tr b mb
  ln := r.ln
  sl := fun i s hs => by
    have ma := r.mm a (List.mem_of_getElem? hn)
    rcases r.sl i s hs with ⟨io, v, e, rv⟩ | ⟨io, b, e, m, nb, f, ow⟩
    · exact .inl ⟨io, v, e, rv.stay (stay_poke ma)⟩
    · exact .inr ⟨io, b, e, m, nb, f, ow.stay (stay_poke ma) (upd_ne fun z => nb (z ▸ List.mem_of_getElem? hn))⟩
  ow := r.ow
  fo := fun b fb => let ⟨m, nb, e⟩ := r.fo b fb; ⟨m, nb, by rw [upd_ne (fun z => by subst z; exact nb (List.mem_of_getElem? hn))]; exact e⟩
end

theorem few1 {e : Expr} {env : PySem.Env} {cpos : Pos} (h : nost e = true) : ((backTo cpos (starEach [e] env)).all (fun x => !x.1) && (backToKw cpos (keywordEach [] env)).all (fun x => x.1.isSome)
      && decide ([e].length + ([] : List Keyword).length + (if ([] : List Keyword).isEmpty then 0 else 1) < 30)) = true := by rw [starEach_no h]; rfl
theorem few2 {e f : Expr} {env : PySem.Env} {cpos : Pos} (h : nost e = true) (h2 : nost f = true) : ((backTo cpos (starEach [e, f] env)).all (fun x => !x.1) && (backToKw cpos (keywordEach [] env)).all (fun x => x.1.isSome)
      && decide ([e, f].length + ([] : List Keyword).length + (if ([] : List Keyword).isEmpty then 0 else 1) < 30)) = true := by rw [starEach_no h, starEach_no h2]; rfl
section
variable {X : Cx} {e f : Expr} {x : Str} {i : Nat} {p apos cpos pos : Pos} {me mk : Env → Cm D}
theorem s_app (hN : X.N[i]? = some x) (hv : Vis X.env.scope x) (hd : (x == ("__debug__" : Str)) = false) (hcd : (x == ("__classdict__" : Str)) = false) (he : PE X e (tV (kx X) me)) (hs : nost e = true) (hl : (apos.endLine == cpos.line) = true) :
    PS X (.Expr (.Call (.Attribute (.Name x p) "append" apos) [e] [] cpos) pos) (tSt (kx X) fun σ => do
      let x ← me σ
      match σ.at i with
      | some (.ol ds) => if ds.length < 1000000 then pure (.nx (σ.put i (some (.ol (ds ++ [x]))))) else Cm.fail
      | _ => Cm.fail) := by
  refine (ps_expr (pe_bm PySem.F.plainAttrs_list PySem.F.slot_list_append PySem.F.type_list_append mt_append (pe_var hN hv hd hcd) (pa_cons he pa_nil (starEach_no hs)) rfl (few1 hs) hl (starEach_no hs) rfl) rfl).imp fun D σ H ⟨F, H0, ρ, M, S, σd, fl, S', r, e, o⟩ => ?_
  obtain ⟨d, S1, e1, e⟩ := bind_ok e
  cases hat : σd.at i with
  | none => simp only [hat] at e; exact (fail_ok e).elim
  | some sl =>
    cases sl with
    | ol ds =>
      simp only [hat] at e
      have e := (ite_ok e).resolve_right fun z => (fail_ok z.2).elim
      obtain ⟨hlen, e⟩ := e
      obtain ⟨rfl, rfl⟩ := pure_ok e
      obtain ⟨a, ha, _, _, _, xs, hx, rs⟩ := r.mine hat rfl
      refine ⟨.ref a, slotV_lt ha, .inl ⟨rfl, xs, SqL.of hx⟩, F, H0, ρ, M, S, σd, d, S1, r, e1, fun v ρ' M' H' r' x' rv => ?_⟩
      obtain ⟨a', ha', ma, na, fa, xs', hx', rs'⟩ := r'.mine hat rfl
      rw [ha] at ha'; cases ha'
      refine ⟨a, xs', v, rfl, rfl, hx', by rw [← rs'.length, size_line_eq]; omega, o σ ρ' M' _ (r'.mut hat rfl ha ma na fa rfl ⟨xs' ++ [v], upd_same, (rs'.append (.cons rv .nil)).stay (stay_poke ma)⟩) (x'.stay.trans (stay_poke ma))⟩
    | v _ => simp only [hat] at e; exact (fail_ok e).elim
    | od _ _ => simp only [hat] at e; exact (fail_ok e).elim
theorem s_ext (hN : X.N[i]? = some x) (hv : Vis X.env.scope x) (hd : (x == ("__debug__" : Str)) = false) (hcd : (x == ("__classdict__" : Str)) = false) (he : PE X e (tV (kx X) me)) (hs : nost e = true) (hl : (apos.endLine == cpos.line) = true) :
    PS X (.Expr (.Call (.Attribute (.Name x p) "extend" apos) [e] [] cpos) pos) (tSt (kx X) fun σ => do
      let x ← me σ
      match σ.at i, x with
      | some (.ol ds), .lst xs => if ds.length + xs.length ≤ 1000000 then pure (.nx (σ.put i (some (.ol (ds ++ xs))))) else Cm.fail
      | _, _ => Cm.fail) := by
  refine (ps_expr (pe_bm PySem.F.plainAttrs_list PySem.F.slot_list_extend PySem.F.type_list_extend mt_extend (pe_var hN hv hd hcd) (pa_cons he pa_nil (starEach_no hs)) rfl (few1 hs) hl (starEach_no hs) rfl) rfl).imp fun D σ H ⟨F, H0, ρ, M, S, σd, fl, S', r, e, o⟩ => ?_
  obtain ⟨d, S1, e1, e⟩ := bind_ok e
  cases hat : σd.at i with
  | none => simp only [hat] at e; exact (fail_ok e).elim
  | some sl =>
    cases sl with
    | ol ds =>
      cases d with
      | lst es =>
        simp only [hat] at e
        have e := (ite_ok e).resolve_right fun z => (fail_ok z.2).elim
        obtain ⟨hlen, e⟩ := e
        obtain ⟨rfl, rfl⟩ := pure_ok e
        obtain ⟨a, ha, _, _, _, xs, hx, rs⟩ := r.mine hat rfl
        refine ⟨.ref a, slotV_lt ha, .inl ⟨rfl, xs, SqL.of hx⟩, F, H0, ρ, M, S, σd, .lst es, S1, r, e1, fun v ρ' M' H' r' x' rv => ?_⟩
        obtain ⟨a', ha', ma, na, fa, xs', hx', rs'⟩ := r'.mine hat rfl
        rw [ha] at ha'; cases ha'
        cases rv with
        | @lst b ys _ t vs =>
          refine ⟨a, b, xs', ys, rfl, rfl, hx', t.1, by rw [← rs'.length, ← vs.length, size_line_eq]; omega, o σ ρ' M' _ (r'.mut hat rfl ha ma na fa rfl ⟨xs' ++ ys, upd_same, (rs'.append vs).stay (stay_poke ma)⟩) (x'.stay.trans (stay_poke ma))⟩
      | _ => simp only [hat] at e; exact (fail_ok e).elim
    | v _ => cases d <;> (simp only [hat] at e; exact (fail_ok e).elim)
    | od _ _ => cases d <;> (simp only [hat] at e; exact (fail_ok e).elim)
end
end Cl

set_option Elab.async false
set_option linter.all false
set_option maxRecDepth 100000
/-! SoundO3: o[i] = e, o[i] op= e, x op= e. -/
namespace Cl
open PySem PySem.Spec PyProof.Rows L2

def notSl : Expr → Bool
  | .Slice .. => false
  | _ => true
section
variable {X : Cx}
theorem get_L : PGet X (rIxL X.K) := by
  intro pins s σ H x y v u Q I rx ry h
  obtain ⟨p, xs, i, z, rfl, rfl, hq, he, q⟩ := h
  cases rx
  obtain ⟨t, rfl⟩ := ry
  obtain ⟨its, r, pl, hz⟩ := I.list hq
  obtain ⟨j, h1, h2, h3, h4, h5⟩ := atI_get he
  obtain ⟨w, ew, rw'⟩ := r.get h2
  have hl := r.length
  have hn := line63
  have fin : EP X pins σ Q w s := ⟨z, H, I, rw', q⟩
  by_cases h0 : 0 ≤ i
  · have hj : i.toNat = j := by
      rw [seqIndex_of h0 h5] at h1
      exact Option.some.inj h1
    exact wpAny_getItem_list pl.isList h0 (by omega) (by rw [hj]; simpa using ew) fin
  · have hj : (i + (its.toArray.size : Int)).toNat = j := by
      rw [seqIndex_neg (by omega) h4] at h1
      rw [List.size_toArray, ← hl]
      exact Option.some.inj h1
    exact wpAny_getItem_list_neg pl.isList (by omega) (by rw [List.size_toArray] <;> omega) (by omega) (by rw [hj]; simpa using ew) fin
theorem get_T : PGet X (rIxT X.K) := by
  intro pins s σ H x y v u Q I rx ry h
  obtain ⟨p, xs, i, z, rfl, rfl, hq, he, q⟩ := h
  cases rx
  obtain ⟨t, rfl⟩ := ry
  obtain ⟨its, r, pl, hz⟩ := I.tuple hq
  obtain ⟨j, h1, h2, h3, h4, h5⟩ := atI_get he
  obtain ⟨w, ew, rw'⟩ := r.get h2
  have hl := r.length
  have hn := line63
  exact getItem_tuple (j := j) pl (by omega) (by omega) (by rw [List.size_toArray, ← hl]; exact h1) (by simpa using ew) ⟨z, H, I, rw', q⟩
theorem get_X (hu : X.A.units + 64 < cLine) : PGet X (rIxX (kx X)) := by
  intro pins s σ H x y v u Q I rx ry h
  obtain ⟨a, ps, b, ks, vs, k, d, M, ρ, rfl, e, r, rk, hf, q⟩ := h
  cases rx
  exact x_getItem hu I e r rk ry hf fun w' s' y I' ry' rd => ⟨y, H, I', ry', q y rd⟩
theorem PGet.or {t u : V → V → Hp → VK → Prop} (h : PGet X t) (h' : PGet X u) : PGet X fun x y H Q => t x y H Q ∨ u x y H Q :=
  fun pins s σ H x y v u Q I rx ry q => q.elim (h pins s σ H x y v u Q I rx ry) (h' pins s σ H x y v u Q I rx ry)
theorem PSet.or {t u : TSet} (h : PSet X t) (h' : PSet X u) : PSet X fun x y z H Q => t x y z H Q ∨ u x y z H Q :=
  fun pins s σ H x y z v u w Q I rx ry rz q => q.elim (h pins s σ H x y z v u w Q I rx ry rz) (h' pins s σ H x y z v u w Q I rx ry rz)
def rSetX (K : Fg) : TSet := fun o i v H Q => ∃ (a : Addr) (ps : List (NestedKey × DictEntry)) (b : Bool) (ks ds : List D) (k d : D) (oo : List D × List D) (M : Addr → Prop) (ρ : List Addr), o = .ref a ∧ H a = some (.ext (DI K.w a ps)) ∧ RVd K M ρ H b ks ds ps ∧ RV K M ρ H k i ∧ RV K M ρ H d v ∧
  dput k d ks ds = some oo ∧ ps.length < 16777216 ∧ ∀ ps' b', RVd K M ρ H b' oo.1 oo.2 ps' → Q (upd H a (.ext (DI K.w a ps')))
theorem set_X (hu : X.A.units + 64 < cLine) : PSet X (rSetX (kx X)) := by
  intro pins s σ H o i v ov iv u Q I ro ri rv h
  obtain ⟨a, ps, b, ks, ds, k, d, oo, M, ρ, rfl, e, rd, rk, rdv, hp, hl, q⟩ := h
  cases ro
  exact x_setItem hu I e rd rk ri rdv rv hp hl fun s' ps' b' I' r' => ⟨_, I', q ps' b' r'⟩
theorem place_ix {n : Nat} {i : Int} {j : Nat} (h : place? n i = some j) : ixN n i = some j := by
  unfold place? at h
  unfold ixN
  by_cases h0 : 0 ≤ i
  · rw [if_pos h0] at h ⊢
    by_cases h1 : i.toNat < n
    · rw [if_pos h1] at h; rw [if_pos (by omega)]; exact h
    · rw [if_neg h1] at h; cases h
  · rw [if_neg h0] at h ⊢
    by_cases h1 : 0 ≤ i + n
    · rw [if_pos h1] at h; rw [if_pos (by omega)]; exact h
    · rw [if_neg h1] at h; cases h
theorem sw_sub {e o i : Expr} {p : Pos} {l : Nat} {env : PySem.Env} : swapsWithSole [.Subscript o i p] e l env = pure false := by cases e <;> rfl
theorem ss_sub {e o i : Expr} {p : Pos} {env : PySem.Env} : swappedStores [.Subscript o i p] e env = pure none := by cases e <;> rfl
theorem asg_sub {o i : Expr} {pos : Pos} {env : PySem.Env} (h : notSl i = true) : ∀ v, assign (.Subscript o i pos) env v = (do
      let ov ← holding [v] (eval o env)
      let iv ← holding [v, ov] (eval i env)
      standAt pos
      holding [v, ov, iv] (setItem ov iv v)
      release [v, ov, iv] []) := by
  intro v
  cases i <;> first | rfl | cases h
theorem aug_sub {i : Expr} (h : notSl i = true) : ∀ ov iv new, augStore i ov iv new = (do holding [new, ov, iv] (setItem ov iv new); release [new, ov, iv] []; pure .next) := by
  intro ov iv new
  cases i <;> first | rfl | cases h
end
section
variable {X : Cx} {e ei : Expr} {x : Str} {i : Nat} {p tpos pos : Pos} {me mk : Env → Cm D}
/-- storing by data: at a state, into what slot i holds -/
theorem store_at {F : Addr → Prop} {H0 : Hp} {ρ : List Addr} {M : Addr → Prop} {S S' : CH} {σd σd' : Env} {σ : L2.St} {H : Hp} {k d : D} {vk vd vo : V} {Q : Hp → Prop} (r : Rep (kx X) F H0 ρ M S σd σ H) (ho : σ[i]? = some (some vo)) (rk : RV (kx X) M ρ H k vk) (rd : RV (kx X) M ρ H d vd)
    (e : storeAt (.var i) σd Cm.fail k d S = some (.ok σd' S') ∨ ∃ ov, storeAt (.var i) σd ov k d S = some (.ok σd' S')) (q : ∀ H', Rep (kx X) F H0 ρ M S' σd' σ H' → Stay ρ M H ρ M H' → Q H') :
    rSetL vo vk vd H Q ∨ rSetX (kx X) vo vk vd H Q := by
  have e : ∃ ov, storeAt (.var i) σd ov k d S = some (.ok σd' S') := e.elim (fun h => ⟨_, h⟩) id
  obtain ⟨ov, e⟩ := e
  have e : (match σd.at i with
    | some (.v d') => do storeRef d' k d; pure σd
    | some s => do let s' ← Cm.lift (storeSl s k d); pure (σd.put i (some s'))
    | none => Cm.fail) S = some (.ok σd' S') := e
  have hslot : slotV σ i = some vo := slotV_of ho
  cases hat : σd.at i with
  | none => rw [hat] at e; exact (fail_ok e).elim
  | some s =>
    rw [hat] at e
    cases s with
    | v d' =>
      simp only at e
      obtain ⟨u, S1, e1, e⟩ := bind_ok e
      obtain ⟨rfl, rfl⟩ := pure_ok e
      unfold storeRef at e1
      cases d' with
      | ref n =>
        cases k with
        | int kk =>
          simp only at e1
          cases hS : S[n]? with
          | none => rw [hS] at e1; cases e1
          | some co =>
            cases co with
            | lst ds =>
              rw [hS] at e1
              simp only at e1
              obtain ⟨j, hj, hr⟩ := Option.map_eq_some_iff.mp e1
              cases hr
              rcases r.sl i _ hat with ⟨_, w, hw, rw'⟩ | ⟨z, _⟩
              · rw [hslot] at hw; cases hw
                cases rw' with
                | @ref _ a hn =>
                  obtain ⟨xs, hx, rs⟩ := r.ob n a _ hn hS
                  cases rk
                  refine .inl ⟨a, xs, kk, j, rfl, rfl, hx, by rw [← rs.length]; exact place_ix hj, q _ (r.shr hn (rs.set j rd)) (stay_poke (r.mm a (List.mem_of_getElem? hn)))⟩
              · cases z
        | _ => simp only at e1; cases e1
      | _ => cases k <;> (simp only at e1; cases e1)
    | ol ds =>
      simp only at e
      obtain ⟨s', S1, e1, e⟩ := bind_ok e
      obtain ⟨e1', rfl⟩ := lift_ok e1
      obtain ⟨rfl, rfl⟩ := pure_ok e
      obtain ⟨a, ha, ma, na, fa, xs, hx, rs⟩ := r.mine hat rfl
      rw [hslot] at ha; cases ha
      unfold storeSl at e1'
      cases k with
      | int kk =>
        simp only at e1'
        obtain ⟨j, hj, rfl⟩ := Option.map_eq_some_iff.mp e1'
        cases rk
        exact .inl ⟨a, xs, kk, j, rfl, rfl, hx, by rw [← rs.length]; exact place_ix hj, q _ (r.mut hat rfl hslot ma na fa rfl ⟨_, upd_same, (rs.set j rd).stay (stay_poke ma)⟩) (stay_poke ma)⟩
      | _ => simp only at e1'; cases e1'
    | od ks vs =>
      simp only at e
      obtain ⟨s', S1, e1, e⟩ := bind_ok e
      obtain ⟨e1', rfl⟩ := lift_ok e1
      obtain ⟨rfl, rfl⟩ := pure_ok e
      obtain ⟨a, ha, ma, na, fa, ps, b, hx, rs⟩ := r.mine hat rfl
      rw [hslot] at ha; cases ha
      unfold storeSl at e1'
      simp only at e1'
      by_cases hlen : ks.length ≤ 1000000
      · rw [if_pos hlen] at e1'
        obtain ⟨oo, hoo, rfl⟩ := Option.map_eq_some_iff.mp e1'
        have hl := rs.len
        exact .inr ⟨a, ps, b, ks, vs, k, d, oo, M, ρ, rfl, hx, rs, rk, rd, hoo, by omega, fun ps' b' r' => q _ (r.mut hat rfl hslot ma na fa rfl ⟨ps', b', upd_same, r'.stay (stay_poke ma)⟩) (stay_poke ma)⟩
      · rw [if_neg hlen] at e1'; cases e1'
theorem s_set (hu : X.A.units + 64 < cLine) (hN : X.N[i]? = some x) (hv : Vis X.env.scope x) (hd : (x == ("__debug__" : Str)) = false) (hcd : (x == ("__classdict__" : Str)) = false) (he : PE X e (tV (kx X) me)) (hi : PE X ei (tV (kx X) mk)) (hp : notSl ei = true) :
    PS X (.Assign [.Subscript (.Name x p) ei tpos] e pos) (tSt (kx X) fun σ => do
      let x ← me σ
      let k ← mk σ
      let σ' ← storeAt (.var i) σ (Cm.lift (val σ i)) k x
      pure (.nx σ')) := by
  refine (ps_asg he (pg_sub (pe_var hN hv hd hcd) hi (PSet.or set_list (set_X hu)) (asg_sub hp)) sw_sub ss_sub rfl).imp fun D σ H ⟨F, H0, ρ, M, S, σd, fl, S', r, e, o⟩ => ?_
  obtain ⟨d, S1, e1, e⟩ := bind_ok e
  obtain ⟨k, S2, e2, e⟩ := bind_ok e
  obtain ⟨σ1, S3, e3, e⟩ := bind_ok e
  obtain ⟨rfl, rfl⟩ := pure_ok e
  refine ⟨F, H0, ρ, M, S, σd, d, S1, r, e1, fun v ρ1 M1 H1 r1 x1 rv => ?_⟩
  have hsl : ∃ vo, σ[i]? = some (some vo) := by
    have e3 : (match σd.at i with
      | some (.v d') => do storeRef d' k d; pure σd
      | some s => do let s' ← Cm.lift (storeSl s k d); pure (σd.put i (some s'))
      | none => Cm.fail) S2 = some (.ok σ1 S3) := e3
    cases hat : σd.at i with
    | none => rw [hat] at e3; exact (fail_ok e3).elim
    | some s =>
      rcases r.sl i s hat with ⟨_, w, hw, _⟩ | ⟨_, a, ha, _⟩
      · exact ⟨_, slotV_lt hw⟩
      · exact ⟨_, slotV_lt ha⟩
  obtain ⟨vo, ho⟩ := hsl
  refine ⟨vo, ho, F, H0, ρ1, M1, S1, σd, k, S2, r1, e2, fun u ρ2 M2 H2 r2 x2 ru => ?_⟩
  exact store_at r2 ho ru (rv.ext x2) (.inr ⟨_, e3⟩) fun H' r' st => o σ ρ2 M2 H' r' ((x1.trans x2).stay.trans st)

/-! ### in place -/
def ipR : Operator → TIp
  | .Add => fun x y H Q => ipI (fun i j => i + j) x y H Q
  | .Sub => ipI fun i j => i - j
  | _ => fun _ _ _ _ => False
theorem ipR_op : ∀ op : Operator, PIp X op (ipR op)
  | .Add => ip_add
  | .Sub => ip_sub
  | .Mult => fun _ _ _ _ _ _ _ _ _ _ _ _ h => h.elim | .FloorDiv => fun _ _ _ _ _ _ _ _ _ _ _ _ h => h.elim | .Mod => fun _ _ _ _ _ _ _ _ _ _ _ _ h => h.elim | .Pow => fun _ _ _ _ _ _ _ _ _ _ _ _ h => h.elim
  | .MatMult => fun _ _ _ _ _ _ _ _ _ _ _ _ h => h.elim | .Div => fun _ _ _ _ _ _ _ _ _ _ _ _ h => h.elim | .LShift => fun _ _ _ _ _ _ _ _ _ _ _ _ h => h.elim | .RShift => fun _ _ _ _ _ _ _ _ _ _ _ _ h => h.elim
  | .BitOr => fun _ _ _ _ _ _ _ _ _ _ _ _ h => h.elim | .BitXor => fun _ _ _ _ _ _ _ _ _ _ _ _ h => h.elim | .BitAnd => fun _ _ _ _ _ _ _ _ _ _ _ _ h => h.elim
theorem ipR_data {K : Fg} {M : Addr → Prop} {ρ : List Addr} {H : Hp} {op : Operator} {a b d : D} {v u : V} {Q : VK} (ra : RV K M ρ H a v) (rb : RV K M ρ H b u) (h : ipD op a b = some d) (q : ∀ w, (∀ M ρ H, RV K M ρ H d w) → Q w H) : ipR op v u H Q := by
  cases op <;> cases a <;> cases b <;> first | (simp only [ipD] at h; cases h; done) | skip
  all_goals
    simp only [ipD] at h
    cases h
    cases ra
    cases rb
    exact ⟨_, _, rfl, rfl, q _ fun _ _ _ => .int _⟩
theorem s_aug {op : Operator} (hNd : X.N.Nodup) (hN : X.N[i]? = some x) (hv : Loc X.env.scope x) (hf : X.fn x = true ∨ X.env.scope.names.lookup x = some .local) (he : PE X e (tV (kx X) me)) :
    PS X (.AugAssign (.Name x p) op e pos) (tSt (kx X) fun σ => do
      let x ← Cm.lift (val σ i)
      let y ← me σ
      let z ← Cm.lift (ipD op x y)
      pure (.nx (σ.put i (some (.v z))))) := by
  refine (ps_aug hNd hN hv he (ipR_op op) hf).imp fun D σ H ⟨F, H0, ρ, M, S, σd, fl, S', r, e, o⟩ => ?_
  obtain ⟨a, S1, e1, e⟩ := bind_ok e
  obtain ⟨e1', rfl⟩ := lift_ok e1
  obtain ⟨b, S2, e2, e⟩ := bind_ok e
  obtain ⟨d, S3, e3, e⟩ := bind_ok e
  obtain ⟨e3', rfl⟩ := lift_ok e3
  obtain ⟨rfl, rfl⟩ := pure_ok e
  obtain ⟨v, hs, rv⟩ := r.val e1'
  refine ⟨v, hs, F, H0, ρ, M, _, σd, b, _, r, e2, fun u ρ1 M1 H1 r1 x1 ru => ?_⟩
  exact ipR_data (rv.ext x1) ru e3' fun w hw => o _ ρ1 M1 H1 (r1.put (hw _ _ _)) x1.stay
theorem s_augS {op : Operator} (hu : X.A.units + 64 < cLine) (hN : X.N[i]? = some x) (hv : Vis X.env.scope x) (hd : (x == ("__debug__" : Str)) = false) (hcd : (x == ("__classdict__" : Str)) = false) (hi : PE X ei (tV (kx X) mk)) (he : PE X e (tV (kx X) me)) (hp : notSl ei = true) :
    PS X (.AugAssign (.Subscript (.Name x p) ei tpos) op e pos) (tSt (kx X) fun σ => do
      let a ← Cm.lift (look σ i)
      let k ← mk σ
      let a' ← deref a
      let x ← Cm.lift (idxD a' k)
      let y ← me σ
      let z ← Cm.lift (ipD op x y)
      let σ' ← storeAt (.var i) σ Cm.fail k z
      pure (.nx σ')) := by
  refine (ps_augS (pe_var hN hv hd hcd) hi (PGet.or get_L (PGet.or get_T (get_X hu))) he (ipR_op op) (PSet.or set_list (set_X hu)) (aug_sub hp)).imp fun D σ H ⟨F, H0, ρ, M, S, σd, fl, S', r, e, o⟩ => ?_
  obtain ⟨a, S1, e1, e⟩ := bind_ok e
  obtain ⟨e1', rfl⟩ := lift_ok e1
  obtain ⟨k, S2, e2, e⟩ := bind_ok e
  obtain ⟨a', S3, e3, e⟩ := bind_ok e
  obtain ⟨x0, S4, e4, e⟩ := bind_ok e
  obtain ⟨e4', rfl⟩ := lift_ok e4
  obtain ⟨y0, S5, e5, e⟩ := bind_ok e
  obtain ⟨z0, S6, e6, e⟩ := bind_ok e
  obtain ⟨e6', rfl⟩ := lift_ok e6
  obtain ⟨σ1, S7, e7, e⟩ := bind_ok e
  obtain ⟨rfl, rfl⟩ := pure_ok e
  have hl : ∃ vo, σ[i]? = some (some vo) ∧ RB (kx X) M ρ H a vo := by
    unfold look at e1'
    cases es : σd.at i with
    | none => rw [es] at e1'; cases e1'
    | some s =>
      rw [es] at e1'
      have ed : a = slotD s := by cases s <;> (cases e1'; rfl)
      subst ed
      rcases r.sl i _ es with ⟨_, v, h1, r1⟩ | ⟨_, a, h1, ma, na, fa, ow⟩
      · exact ⟨v, slotV_lt h1, .inl r1⟩
      · exact ⟨.ref a, slotV_lt h1, .inr ⟨a, rfl, ma, na, ow⟩⟩
  obtain ⟨vo, ho, rb⟩ := hl
  refine ⟨vo, ho, F, H0, ρ, M, _, σd, k, _, r, e2, fun u ρ1 M1 H1 r1 x1 ru => ?_⟩
  obtain ⟨rfl, rn⟩ := deref_ok r1 (rb.ext x1) e3
  have post : ∀ w, RV (kx X) M1 ρ1 H1 x0 w → (tV (kx X) me) σ H1 fun y H4 => ipR op w y H4 fun z H5 => (fun x y z H Q => rSetL x y z H Q ∨ rSetX (kx X) x y z H Q) vo u z H5 fun H6 => D.nx σ H6 := fun w rw' =>
    ⟨F, H0, ρ1, M1, _, σd, y0, _, r1, e5, fun yv ρ2 M2 H2 r2 x2 ry => ipR_data (rw'.ext x2) ry e6' fun zv hz => store_at r2 ho (ru.ext x2) (hz _ _ _) (.inl e7) fun H' r' st => o σ ρ2 M2 H' r' ((x1.trans x2).stay.trans st)⟩
  -- the item: a list's or a dict's
  exact idx_data (Q := fun w H => (tV (kx X) me) σ H fun y H4 => ipR op w y H4 fun z H5 => (fun x y z H Q => rSetL x y z H Q ∨ rSetX (kx X) x y z H Q) vo u z H5 fun H6 => D.nx σ H6) rn ru e4' post
end
end Cl

set_option Elab.async false
set_option linter.all false
set_option maxRecDepth 100000
/-! SoundO4: loops, pairs, freezing. -/
namespace Cl
open PySem PySem.Spec PyProof.Rows L2

theorem whlM_ok {mt : Env → Cm Bool} {mb : Env → Cm Fl} {σ : Env} {S : CH} {r : R Fl} (e : whlM mt mb σ S = some r) : ∃ n, whlN mt mb n σ S = some r := by
  unfold whlM at e
  split at e
  · exact ⟨_, e⟩
  · cases e
section
variable {X : Cx} {K : Fg} {tg c iter : Expr} {body sts : List Stmt} {pos : Pos} {m mb : Env → Cm Fl} {mt : Env → Cm Bool} {mi : Env → Cm (List D)} {me : Env → Cm D}
theorem stepped {F : Addr → Prop} {H0 H H' : Hp} {ρ : List Addr} {M : Addr → Prop} {S : CH} {σd : Env} {σ : L2.St} (r : Rep K F H0 ρ M S σd σ H) (h : H' = H ∨ ∃ T o, H T = none ∧ H' = upd H T o) : Rep K F H0 ρ M S σd σ H' ∧ Ext ρ M H ρ M H' := by
  rcases h with rfl | ⟨T, o, hT, rfl⟩
  · exact ⟨r, Ext.refl⟩
  · exact ⟨r.new hT, Ext.new r hT⟩
theorem s_whl (hx : X.xe = fun _ _ => False) (hc : PT X c (tT K mt)) (hb : PSs X body (tSt K mb)) : PS X (.While c body [] pos) (tSt K fun σ => whlM mt mb σ) := by
  refine (ps_while (by rw [hx]; exact PassesOwn.never) hc hb).imp fun D σ H ⟨F, H0, ρ, M, S, σd, fl, S', r, e, o⟩ => ?_
  obtain ⟨n0, e⟩ := whlM_ok e
  refine ⟨fun n σ' H' => ∃ ρ1 M1 S1 σd1, Rep K F H0 ρ1 M1 S1 σd1 σ' H' ∧ Stay ρ M H ρ1 M1 H' ∧ whlN mt mb n σd1 S1 = some (.ok fl S'), ⟨n0, ρ, M, S, σd, r, Stay.refl, e⟩, ?_⟩
  rintro n σ1 H1 ⟨ρ1, M1, S1, σd1, r1, st1, e1⟩
  cases n with
  | zero => exact (fail_ok (show (Cm.fail : Cm Fl) S1 = _ from e1)).elim
  | succ n =>
    have e1 : (do
      if ← mt σd1 then do
        match ← mb σd1 with
        | .nx σ' => whlN mt mb n σ'
        | .ct σ' => whlN mt mb n σ'
        | .bk σ' => pure (.nx σ')
        | .rt d => pure (.rt d)
      else pure (.nx σd1)) S1 = some (.ok fl S') := e1
    obtain ⟨b, S2, e2, e1⟩ := bind_ok e1
    refine ⟨F, H0, ρ1, M1, S1, σd1, b, S2, r1, e2, fun ρ2 M2 H2 r2 x2 => ?_⟩
    cases b with
    | false =>
      rw [if_neg Bool.false_ne_true] at e1
      obtain ⟨rfl, rfl⟩ := pure_ok e1
      dsimp only
      rw [if_neg Bool.false_ne_true]
      exact o σ1 ρ2 M2 H2 r2 (st1.trans x2.stay)
    | true =>
      rw [if_pos rfl] at e1
      dsimp only
      rw [if_pos rfl]
      obtain ⟨fl1, S3, e3, e1⟩ := bind_ok e1
      refine ⟨fun σ' H' => ∃ ρ1 M1 S1 σd1, Rep K F H0 ρ1 M1 S1 σd1 σ' H' ∧ Stay ρ M H ρ1 M1 H' ∧ whlN mt mb n σd1 S1 = some (.ok fl S'), fun σ' H' hh => ⟨n, Nat.lt_succ_self n, hh⟩, F, H0, ρ2, M2, S2, σd1, fl1, S3, r2, e3, ?_⟩
      have stt := st1.trans x2.stay
      cases fl1 with
      | nx σ2 => exact fun σ' ρ' M' H' r' st => ⟨ρ', M', S3, σ2, r', stt.trans st, e1⟩
      | ct σ2 => exact fun σ' ρ' M' H' r' st => ⟨ρ', M', S3, σ2, r', stt.trans st, e1⟩
      | bk σ2 => obtain ⟨rfl, rfl⟩ := pure_ok e1; exact fun σ' ρ' M' H' r' st => o σ' ρ' M' H' r' (stt.trans st)
      | rt d => obtain ⟨rfl, rfl⟩ := pure_ok e1; exact fun v ρ' M' H' r' f st rv => o v ρ' M' H' r' f (stt.trans st) rv
theorem s_for {ns : List Nat} {bind : D → Env → Option Env} (hx : X.xe = fun _ _ => False) (hc : X.calm = true) (hi : PI X tg iter (tI K false mi)) (hg : PG X tg (gB K ns bind)) (hb : PSs X body (tSt K mb)) (hs : notSet iter = true) :
    PS X (.For tg iter body [] pos) (tSt K fun σ => do let xs ← mi σ; forM bind mb xs σ) := by
  refine (ps_for (by rw [hx]; exact PassesOwn.never) hc hi hg hb (folded_no hs)).imp fun D σ H ⟨F, H0, ρ, M, S, σd, fl, S', r, e, o⟩ => ?_
  obtain ⟨xs, S1, e1, e⟩ := bind_ok e
  refine ⟨F, H0, ρ, M, S, σd, xs, S1, r, e1, fun J As ρ1 M1 H1 r1 x1 _ hA wk => ?_⟩
  have hA := hA rfl
  subst hA
  refine ⟨fun i m σ' H' => m = xs.length - i ∧ i ≤ xs.length ∧ ∃ ρ2 M2 S2 σd2, Rep K F H0 ρ2 M2 S2 σd2 σ' H' ∧ Stay ρ1 M1 H1 ρ2 M2 H' ∧ forM bind mb (xs.drop i) σd2 S2 = some (.ok fl S'), ⟨_, rfl, Nat.zero_le _, ρ1, M1, S1, σd, r1, Stay.refl, e⟩, ?_⟩
  rintro i m σ2 H2 ⟨rfl, hi, ρ2, M2, S2, σd2, r2, st2, e2⟩
  obtain ⟨w1, w2⟩ := wk ρ2 M2 H2 st2 r2.tr (fun a ha => absurd ha (by simp))
  rcases (Nat.lt_or_ge i xs.length).symm with hlt | hlt
  · have ei : i = xs.length := by omega
    subst ei
    refine .inl ⟨w2, ?_⟩
    rw [List.drop_length] at e2
    obtain ⟨rfl, rfl⟩ := pure_ok (show (pure (.nx σd2) : Cm Fl) S2 = _ from e2)
    exact o σ2 ρ2 M2 H2 r2 (x1.stay.trans st2)
  · obtain ⟨go, yl⟩ := w1 i xs[i] (List.getElem?_eq_getElem hlt)
    rw [List.drop_eq_getElem_cons hlt] at e2
    have e2 : (do
      let σ1 ← Cm.lift (bind xs[i] σd2)
      match ← mb σ1 with
      | .nx σ' => forM bind mb (xs.drop (i + 1)) σ'
      | .ct σ' => forM bind mb (xs.drop (i + 1)) σ'
      | .bk σ' => pure (.nx σ')
      | .rt d => pure (.rt d)) S2 = some (.ok fl S') := e2
    obtain ⟨σb, S3, f1, e2⟩ := bind_ok e2
    obtain ⟨f1', rfl⟩ := lift_ok f1
    obtain ⟨fl1, S4, f2, e2⟩ := bind_ok e2
    refine .inr ⟨go, fun σ' H' => ∃ m', m' < xs.length - i ∧ m' = xs.length - (i + 1) ∧ i + 1 ≤ xs.length ∧ ∃ ρ2 M2 S2 σd2, Rep K F H0 ρ2 M2 S2 σd2 σ' H' ∧ Stay ρ1 M1 H1 ρ2 M2 H' ∧ forM bind mb (xs.drop (i + 1)) σd2 S2 = some (.ok fl S'), fun σ' H' ⟨m', h1, h2⟩ => ⟨m', h1, h2⟩, fun x H3 hy => ?_⟩
    obtain ⟨hH3, rv⟩ := yl x H3 hy
    obtain ⟨r4, x4⟩ := stepped r2 hH3
    refine ⟨F, H0, ρ2, M2, _, σd2, _, σb, r4, rv, f1', fun σ3 r5 _ _ => ?_⟩
    have stt := st2.trans x4.stay
    refine ⟨F, H0, ρ2, M2, _, σb, fl1, S4, r5, f2, ?_⟩
    cases fl1 with
    | nx σ4 => exact fun σ' ρ' M' H' r' st => ⟨xs.length - (i + 1), by omega, rfl, hlt, ρ', M', S4, σ4, r', stt.trans st, e2⟩
    | ct σ4 => exact fun σ' ρ' M' H' r' st => ⟨xs.length - (i + 1), by omega, rfl, hlt, ρ', M', S4, σ4, r', stt.trans st, e2⟩
    | bk σ4 => obtain ⟨rfl, rfl⟩ := pure_ok e2; exact fun σ' ρ' M' H' r' st => o σ' ρ' M' H' r' ((x1.stay.trans stt).trans st)
    | rt d => obtain ⟨rfl, rfl⟩ := pure_ok e2; exact fun v ρ' M' H' r' f st rv => o v ρ' M' H' r' f ((x1.stay.trans stt).trans st) rv

/-! ### freezing: a slot's own object becomes a value -/
theorem Rep.freeze {F : Addr → Prop} {H0 H : Hp} {ρ : List Addr} {M : Addr → Prop} {S : CH} {σd : Env} {σ : L2.St} (r : Rep K F H0 ρ M S σd σ H) {i : Nat} {s : Sl} (h : σd.at i = some s) (io : isOwn s = true) :
    ∃ M', Rep K F H0 ρ M' S (σd.put i (some (.v (slotD s)))) σ H ∧ Stay ρ M H ρ M' H := by
  obtain ⟨a, ha, ma, na, fa, ow⟩ := r.mine h io
  have st : Stay ρ M H ρ (fun b => M b ∧ b ≠ a) H := ⟨fun b o h n => ⟨h, fun z => n z.1⟩, fun _ _ h => h⟩
  refine ⟨fun b => M b ∧ b ≠ a, ⟨r.len, r.nd, fun b hb => ⟨r.mm b hb, fun z => na (by rw [← z]; exact hb)⟩, fun n b co h1 h2 => (r.ob n b co h1 h2).stay st rfl, fun b mb => r.tr b mb.1, by rw [Env.put_length]; exact r.ln, fun j t hs => ?_, fun j l t u b hs ht os ot e1 e2 => ?_, fun b fb => ?_⟩, st⟩
  · by_cases hj : i = j
    · subst hj
      rw [Env.at_put_self (Env.at_lt h)] at hs
      cases hs
      exact .inl ⟨rfl, .ref a, ha, (ow.stay st rfl).rv fun z => z.2 rfl⟩
    · rw [Env.at_put_ne hj] at hs
      rcases r.sl j t hs with ⟨jo, v, e, rv⟩ | ⟨jo, b, e, mb, nb, fb, owb⟩
      · exact .inl ⟨jo, v, e, rv.stay st⟩
      · exact .inr ⟨jo, b, e, ⟨mb, fun z => hj (r.ow i j s t a h hs io jo ha (by rw [e, z]))⟩, nb, fb, owb.stay st rfl⟩
  · have nj : ∀ {j : Nat} {t : Sl}, (σd.put i (some (.v (slotD s)))).at j = some t → isOwn t = true → i ≠ j := fun {j t} hs os z => by
      subst z
      rw [Env.at_put_self (Env.at_lt h)] at hs
      cases hs; cases os
    have h1 := nj hs os
    have h2 := nj ht ot
    rw [Env.at_put_ne h1] at hs
    rw [Env.at_put_ne h2] at ht
    exact r.ow j l t u b hs ht os ot e1 e2
  · obtain ⟨m1, n1, e1⟩ := r.fo b fb
    exact ⟨⟨m1, fun z => fa (by rw [← z]; exact fb)⟩, n1, e1⟩
def frzM (i : Nat) (σ : Env) : Cm Fl := match σ.at i with
    | some (.ol ds) => pure (.nx (σ.put i (some (.v (.lst ds)))))
    | some (.od ks vs) => pure (.nx (σ.put i (some (.v (.dct ks vs)))))
    | _ => Cm.fail
/-- ahead of a block -/
theorem s_frz {i : Nat} (h : PSs X sts (tSt K m)) : PSs X sts (tSt K fun σ => do
    match ← frzM i σ with
    | .nx σ' => m σ'
    | .bk σ' => pure (.bk σ')
    | .ct σ' => pure (.ct σ')
    | .rt d => pure (.rt d)) := h.imp fun D σ H ⟨F, H0, ρ, M, S, σd, fl, S', r, e, o⟩ => by
  obtain ⟨fl1, S1, e1, e⟩ := bind_ok e
  unfold frzM at e1
  cases hat : σd.at i with
  | none => simp only [hat] at e1; exact (fail_ok e1).elim
  | some s =>
    have key : ∀ d, isOwn s = true → slotD s = d → (pure (Fl.nx (σd.put i (some (.v d)))) : Cm Fl) S = some (.ok fl1 S1) → tSt K m D σ H := fun d io sd e1 => by
      obtain ⟨rfl, rfl⟩ := pure_ok e1
      obtain ⟨M', r', st⟩ := r.freeze hat io
      rw [sd] at r'
      exact ⟨F, H0, ρ, M', _, _, fl, S', r', e, o.later st⟩
    cases s with
    | ol ds => simp only [hat] at e1; exact key _ rfl rfl e1
    | od ks vs => simp only [hat] at e1; exact key _ rfl rfl e1
    | v _ => simp only [hat] at e1; exact (fail_ok e1).elim

theorem Rep.forget {F : Addr → Prop} {H0 H : Hp} {ρ : List Addr} {M : Addr → Prop} {S : CH} {σd : Env} {σ : L2.St} (r : Rep K F H0 ρ M S σd σ H) (is : List Nat) : Rep K F H0 ρ M S (σd.wipe is) σ H where
  len := r.len
  nd := r.nd
  mm := r.mm
  ob := r.ob
  tr := r.tr
  ln := by rw [show (σd.wipe is).length = σd.length from by induction is with | nil => rfl | cons i is ih => show ((σd.wipe is).put i none).length = _; rw [Env.put_length, ih]]; exact r.ln
  sl := fun i s h => r.sl i s (wipeD_at is σd i s h).1
  ow := fun i j s t a h1 h2 => r.ow i j s t a (wipeD_at is σd i s h1).1 (wipeD_at is σd j t h2).1
  fo := r.fo
theorem s_kil {is : List Nat} (h : PSs X sts (tSt K m)) : PSs X sts (tSt K fun σ => do
    match ← (pure (.nx (σ.wipe is)) : Cm Fl) with
    | .nx σ' => m σ'
    | .bk σ' => pure (.bk σ')
    | .ct σ' => pure (.ct σ')
    | .rt d => pure (.rt d)) := h.imp fun D σ H ⟨F, H0, ρ, M, S, σd, fl, S', r, e, o⟩ => by
  obtain ⟨fl1, S1, e1, e⟩ := bind_ok e
  obtain ⟨rfl, rfl⟩ := pure_ok e1
  exact ⟨F, H0, ρ, M, _, _, fl, S', r.forget is, e, o⟩

/-! ### a, b = x, y -/
theorem put_FV {F : Addr → Prop} {H0 H : Hp} {ρ : List Addr} {M : Addr → Prop} {S : CH} {σd : Env} {σ : L2.St} (r : Rep K F H0 ρ M S σd σ H) {i : Nat} {fr : Bool} {d : D} {v : V} {s : Sl} (hs : slotOf fr d = some s)
    (h : (fr = false ∧ RV K M ρ H d v) ∨ (fr = true ∧ ∃ a, v = .ref a ∧ M a ∧ a ∉ ρ ∧ ¬ F a ∧ Own K M ρ H a d ∧ NoSl a σd σ)) : Rep K F H0 ρ M S (σd.put i (some s)) (σ.set i (some v)) H := by
  rcases h with ⟨rfl, rv⟩ | ⟨rfl, a, rfl, ma, na, fa, ow, no⟩
  · have : s = .v d := by unfold slotOf at hs; rw [if_neg Bool.false_ne_true] at hs; exact (Option.some.inj hs).symm
    subst this
    exact r.put rv
  · have : owned d = some s := by unfold slotOf at hs; rw [if_pos rfl] at hs; exact hs
    obtain ⟨io, sd⟩ := owned_own this
    exact r.putOwn io ma na fa (by rw [sd]; exact ow) no
theorem NoSl.put {L : Addr} {σd : Env} {σ : L2.St} (no : NoSl L σd σ) {i : Nat} {s : Sl} {v : V} (h : isOwn s = true → v ≠ .ref L) : NoSl L (σd.put i (some s)) (σ.set i (some v)) := fun j t hs io e => by
  by_cases hj : i = j
  · subst hj
    by_cases hlt : i < σ.length
    · rw [slotV_set_self hlt] at e; cases e
      have hl := Env.at_lt hs
      rw [Env.put_length] at hl
      rw [Env.at_put_self hl] at hs; cases hs
      exact h io rfl
    · unfold slotV at e
      rw [List.getElem?_eq_none (by rw [List.length_set]; omega)] at e; cases e
  · rw [Env.at_put_ne hj] at hs
    rw [slotV_set_ne hj] at e
    exact no j t hs io e
theorem s_par {a b : Expr} {x y : Str} {i j : Nat} {oi oj : Bool} {px py pt : Pos} {kt k2 : Nat} {pt2 : Pos} {ma mb : Env → Cm D} (hc : X.calm = true) (hN : X.N.Nodup) (hi : X.N[i]? = some x) (hj : X.N[j]? = some y) (hij : i ≠ j)
    (hx : X.env.scope.names.lookup x = some .local) (hy : X.env.scope.names.lookup y = some .local) (ha : PE X a (tW K (RFG oi K) ma)) (hb : PE X b (tW K (RFG oj K) mb)) (na : nost a = true) (nb : nost b = true)
    (hw : swappedStores [.Tuple [.Name x px, .Name y py] kt pt] (.Tuple [a, b] k2 pt2) X.env = pure (some [x, y])) :
    PS X (.Assign [.Tuple [.Name x px, .Name y py] kt pt] (.Tuple [a, b] k2 pt2) pos) (tSt K fun σ => do
      let x ← ma σ
      let y ← mb σ
      let s ← Cm.lift (slotOf oi x)
      let t ← Cm.lift (slotOf oj y)
      pure (.nx ((σ.put i (some s)).put j (some t)))) := by
  refine (ps_par hc hN hi hj hij hx hy (PA2 ha hb na nb) hw rfl).imp fun D σ H ⟨F, H0, ρ, M, S, σd, fl, S', r, e, o⟩ => ?_
  obtain ⟨d1, S1, e1, e⟩ := bind_ok e
  obtain ⟨d2, S2, e2, e⟩ := bind_ok e
  obtain ⟨s1, S3, e3, e⟩ := bind_ok e
  obtain ⟨s2, S4, e4, e⟩ := bind_ok e
  obtain ⟨e3', rfl⟩ := lift_ok e3
  obtain ⟨e4', rfl⟩ := lift_ok e4
  obtain ⟨rfl, rfl⟩ := pure_ok e
  refine ⟨F, H0, ρ, M, S, σd, d1, S1, r, e1, fun v ρ1 M1 H1 r1 x1 f1 => ?_⟩
  refine ⟨F, H0, ρ1, M1, S1, σd, d2, _, r1, e2, fun u ρ2 M2 H2 r2 x2 f2 => ⟨v, u, rfl, ?_⟩⟩
  have p1 : (oi = false ∧ RV K M2 ρ2 H2 d1 v) ∨ (oi = true ∧ ∃ a, v = .ref a ∧ M2 a ∧ a ∉ ρ2 ∧ ¬ F a ∧ Own K M2 ρ2 H2 a d1 ∧ NoSl a σd σ ∧ H1 a ≠ none) := by
    cases oi with
    | false => exact .inl ⟨rfl, RV.ext x2 f1⟩
    | true =>
      obtain ⟨a, rfl, hn, m1, n1, fa, ow⟩ := (show isLD d1 = true → RF K F M1 ρ1 H H1 d1 v from f1) (owned_ld (by unfold slotOf at e3'; rw [if_pos rfl] at e3'; exact e3'))
      obtain ⟨h2, m2, n2⟩ := x2.mine a m1 n1
      exact .inr ⟨rfl, a, rfl, m2, n2, fa, ow.stay x2.stay h2, r.noSl hn, r1.tr a m1⟩
  have q1 : Rep K F H0 ρ2 M2 _ (σd.put i (some s1)) (σ.set i (some v)) H2 := put_FV r2 e3' (p1.imp id fun ⟨h, a, e, m, n, f, ow, no, _⟩ => ⟨h, a, e, m, n, f, ow, no⟩)
  refine o _ ρ2 M2 H2 (put_FV q1 e4' ?_) (x1.stay.trans x2.stay)
  cases oj with
  | false => exact .inl ⟨rfl, f2⟩
  | true =>
    obtain ⟨a, rfl, hn, m1, n1, fa, ow⟩ := (show isLD d2 = true → RF K F M2 ρ2 H1 H2 d2 u from f2) (owned_ld (by unfold slotOf at e4'; rw [if_pos rfl] at e4'; exact e4'))
    refine .inr ⟨rfl, a, rfl, m1, n1, fa, ow, (r1.noSl hn).put fun io z => ?_⟩
    rcases p1 with ⟨rfl, rv⟩ | ⟨rfl, a', e', _, _, _, _, _, nn⟩
    · unfold slotOf at e3'
      rw [if_neg Bool.false_ne_true] at e3'
      cases e3'
      cases io
    · rw [e'] at z; cases z; exact nn hn
end
end Cl

set_option Elab.async false
set_option linter.all false
set_option maxRecDepth 100000
/-! SoundP: the check that an expression of the text is the small one, and what it gives. -/
namespace Cl
open PySem PySem.Spec PyProof.Rows L2

structure Tab where
  N : List Str
  fns : List Str
  gls : List Str

def visB (sc : Scope) (x : Str) : Bool := match sc.names.lookup x with | some .local => true | some .cell => true | some .free => true | _ => false
def locB (sc : Scope) (x : Str) : Bool := match sc.names.lookup x with | some .local => true | some .cell => true | _ => false
def isLoc (sc : Scope) (x : Str) : Bool := match sc.names.lookup x with | some .local => true | _ => false
def glB (sc : Scope) (x : Str) : Bool := match sc.names.lookup x with | some .globalImplicit => true | _ => false
def plainN (x : Str) : Bool := (x == ("__debug__" : Str)) == false && (x == ("__classdict__" : Str)) == false
def varB (T : Tab) (sc : Scope) (i : Nat) (x : Str) : Bool := decide (T.N[i]? = some x) && visB sc x && plainN x
def conB : D → Const → Bool
  | .non, .none => true
  | .bl b, .bool c => b == c
  | .int i, .int j => decide (i = j)
  | .str x, .str y => decide (x = y)
  | _, _ => false
def relS (scope sc : Scope) : Scope :=
  { scope with names := scope.names.map fun (n, k) => if (k == .free && sc.kind == .function && sc.names.lookup n == some .cell) then (n, .cell) else (n, k) }
theorem relS_eq (scope : Scope) (env : PySem.Env) : relabel scope env = relS scope env.scope := rfl
def fnOf (scope : Scope) : Str → Bool := fun x => scope.names.lookup x == some .cell
/-- the scope of a comprehension: own names with their places -/
def blkB (N : List Str) (sc scope : Scope) (own : List (Str × Nat)) : Bool :=
  decide (scope.kind = .function) && scope.names.all (fun y => decide (scope.names.lookup y.1 = some y.2)) && own.all (fun p => decide (N[p.2]? = some p.1)) &&
  scope.names.all (fun y => !decide (y.2 = .free) || decide (sc.names.lookup y.1 = some .cell) || decide (sc.names.lookup y.1 = some .free)) &&
  scope.names.all (fun y => !(decide (y.2 = .local) || decide (y.2 = .cell)) || (own.map (·.1)).contains y.1 || !N.contains y.1)
def ownOf (N : List Str) (own : List Nat) : List (Str × Nat) := own.map fun i => (N.getD i "", i)
mutual
def agG (T : Tab) (sc : Scope) (fnb : Str → Bool) : G → Expr → Bool
  | .nm i, e => match e with
    | .Name x _ => decide (T.N[i]? = some x) && locB sc x && (fnb x || isLoc sc x)
    | _ => false
  | .tup gs, e => match e with
    | .Tuple es _ _ => agGs T sc fnb gs es
    | _ => false
def agGs (T : Tab) (sc : Scope) (fnb : Str → Bool) : List G → List Expr → Bool
  | [], [] => true
  | g :: gs, e :: es => agG T sc fnb g e && agGs T sc fnb gs es
  | _, _ => false
end
def noStar : Expr → Bool
  | .Starred .. => false
  | _ => true
def isStarE : E → Bool
  | .star _ => true
  | _ => false
def capE : List E → Nat
  | [] => 0
  | e :: es => (if isStarE e then 1000000 else 1) + capE es
def isTupX : Expr → Bool
  | .Tuple .. => true
  | _ => false
/-- may be walked with this target -/
def tgOk : E → Expr → Bool
  | .zip .., t => isTupX t
  | .zip3 .., t => isTupX t
  | .enum .., t => isTupX t
  | _, _ => true
def isBo : Expr → Bool
  | .BoolOp .. => true
  | _ => false
def isVarE : E → Bool
  | .var _ => true
  | _ => false
def isNameX : Expr → Bool
  | .Name .. => true
  | _ => false
/-- gives a new list, a new dict (if a list, a dict at all) -/
def frE : E → Bool
  | .lst _ => true
  | .comp .. => true
  | .comp2 .. => true
  | .dcomp .. => true
  | .dct _ => true
  | .dzip .. => true
  | .bi f _ => frBI f
  | .bin .. => true
  | _ => false
mutual
def agE (T : Tab) : Scope → E → Expr → Bool
  | sc, .var i, pe => match pe with
    | .Name x _ => varB T sc i x
    | _ => false
  | sc, .glob x, pe => match pe with
    | .Name y _ => decide (x = y) && T.gls.contains x && glB sc x && plainN x
    | _ => false
  | _, .con d, pe => match pe with
    | .Constant k _ _ => conB d k
    | _ => false
  | sc, .bin op a b, pe => match pe with
    | .BinOp pa op' pb _ => decide (op = op') && agE T sc a pa && agE T sc b pb
    | _ => false
  | sc, .neg a, pe => match pe with
    | .UnaryOp .USub pa _ => agE T sc a pa
    | _ => false
  | sc, .not a, pe => match pe with
    | .UnaryOp .Not pa _ => agE T sc a pa
    | _ => false
  | sc, .and a b, pe => match pe with
    | .BoolOp .And (pa :: pb :: rest) pos => agE T sc a pa && (match rest with
      | [] => agE T sc b pb
      | _ :: _ => agE T sc b (.BoolOp .And (pb :: rest) pos))
    | _ => false
  | sc, .or a b, pe => match pe with
    | .BoolOp .Or (pa :: pb :: rest) pos => agE T sc a pa && (match rest with
      | [] => agE T sc b pb
      | _ :: _ => agE T sc b (.BoolOp .Or (pb :: rest) pos))
    | _ => false
  | sc, .ite t a b, pe => match pe with
    | .IfExp pt pa pb _ => agE T sc t pt && agE T sc a pa && agE T sc b pb
    | _ => false
  | sc, .cmp op a b, pe => match pe with
    | .Compare pa [op'] [pb] _ => decide (op = op') && !decide (op = .In) && !decide (op = .NotIn) && agE T sc a pa && agE T sc b pb
    | _ => false
  | sc, .chn op op2 a b c, pe => match pe with
    | .Compare pa [op', op2'] [pb, pc] _ => decide (op = op') && decide (op2 = op2') && !decide (op = .In) && !decide (op = .NotIn) && !decide (op2 = .In) && !decide (op2 = .NotIn) && agE T sc a pa && agE T sc b pb && agE T sc c pc
    | _ => false
  | sc, .tup es, pe => match pe with
    | .Tuple pes _ _ => agEs T sc es pes && decide (capE es ≤ 16777216)
    | _ => false
  | sc, .lst es, pe => match pe with
    | .List pes _ => agEs T sc es pes && decide (capE es ≤ 16777216)
    | _ => false
  | sc, .star a, pe => match pe with
    | .Starred pa _ => agE T sc a pa
    | _ => false
  | _, .dct kvs, pe => match pe with
    | .Dict [] [] _ => kvs.isEmpty
    | _ => false
  | sc, .idx a i, pe => match pe with
    | .Subscript pa pi _ => agE T sc a pa && agE T sc i pi && notSl pi
    | _ => false
  | sc, .slc a lo hi, pe => match pe with
    | .Subscript pa (.Slice plo phi none _) _ => agE T sc a pa && agO T sc lo plo && agO T sc hi phi
    | _ => false
  | _, .rev _, _ => false
  | sc, .call f es, pe => match pe with
    | .Call (.Name x _) pes [] _ => decide (f = x) && T.fns.contains f && glB sc f && plainN f && agEs T sc es pes && pes.all nost
    | _ => false
  | sc, .bi f es, pe => match pe with
    | .Call (.Name x _) pes [] _ => decide (x = biS f) && biOk f && glB sc x && !pes.isEmpty && agEs T sc es pes && pes.all nost && !(es.any isStarE)
    | _ => false
  | sc, .isi a t, pe => match pe with
    | .Call (.Name x _) [pa, .Name y _] [] _ => decide (x = "isinstance") && decide (y = tyS t) && glB sc x && glB sc y && agE T sc a pa && nost pa
    | _ => false
  | sc, .get2 a k d, pe => match pe with
    | .Call (.Attribute pa m apos) [pk, pd] [] cpos => decide (m = "get") && isNameX pa && agE T sc a pa && agE T sc k pk && agE T sc d pd && nost pk && nost pd && (apos.endLine == cpos.line)
    | _ => false
  | sc, .comp own elt g it ifs, pe => match pe with
    | .ListComp pelt [⟨tg, iter, pifs, 0⟩] scope _ => agE T sc it iter && tgOk it tg && notSet iter && blkB T.N sc scope (ownOf T.N own) && agG T (relS scope sc) (fnOf scope) g tg && (G.names g).all (own.contains ·) && agE T (relS scope sc) elt pelt &&
      agEs T (relS scope sc) ifs pifs && decide (ifs.length ≤ 1) && !(ifs.any isStarE)
    | _ => false
  | sc, .comp2 own own2 elt g it g2 it2, pe => match pe with
    | .ListComp pelt [⟨tg, iter, [], 0⟩, ⟨tg2, iter2, [], 0⟩] scope _ => agE T sc it iter && tgOk it tg && notSet iter && blkB T.N sc scope (ownOf T.N own) && agG T (relS scope sc) (fnOf scope) g tg && (G.names g).all (own.contains ·) &&
      agE T (relS scope sc) it2 iter2 && tgOk it2 tg2 && notSet iter2 && agG T (relS scope sc) (fnOf scope) g2 tg2 && (G.names g2).all (own2.contains ·) && own2.all (own.contains ·) && agE T (relS scope sc) elt pelt
    | _ => false
  | sc, .dcomp own k v g it, pe => match pe with
    | .DictComp pk pv [⟨tg, iter, [], 0⟩] scope _ => agE T sc it iter && tgOk it tg && notSet iter && blkB T.N sc scope (ownOf T.N own) && agG T (relS scope sc) (fnOf scope) g tg && (G.names g).all (own.contains ·) && agE T (relS scope sc) k pk && agE T (relS scope sc) v pv
    | _ => false
  | sc, .rng es, pe => match pe with
    | .Call (.Name x _) pes [] _ => decide (x = "range") && glB sc x && agEs T sc es pes && pes.all nost && !(es.any isStarE) && (decide (pes.length = 1) || decide (pes.length = 2) || decide (pes.length = 3))
    | _ => false
  | sc, .zip a b, pe => match pe with
    | .Call (.Name x _) [pa, pb] [] _ => decide (x = "zip") && glB sc x && agE T sc a pa && agE T sc b pb && nost pa && nost pb
    | _ => false
  | sc, .zip3 a b e, pe => match pe with
    | .Call (.Name x _) [pa, pb, pc] [] _ => decide (x = "zip") && glB sc x && agE T sc a pa && agE T sc b pb && agE T sc e pc && nost pa && nost pb && nost pc
    | _ => false
  | sc, .enum a, pe => match pe with
    | .Call (.Name x _) [pa] [] _ => decide (x = "enumerate") && glB sc x && agE T sc a pa && nost pa
    | _ => false
  | sc, .dzip a b, pe => match pe with
    | .Call (.Name x _) [.Call (.Name y _) [pa, pb] [] _] [] _ => decide (x = "dict") && decide (y = "zip") && glB sc x && glB sc y && agE T sc a pa && agE T sc b pb && nost pa && nost pb
    | _ => false
  | sc, .new a, pe => frE a && agE T sc a pe
  | sc, .indexOf a e, pe => match pe with
    | .Call (.Attribute pa m apos) [pk] [] cpos => decide (m = "index") && isNameX pa && agE T sc a pa && agE T sc e pk && nost pk && (apos.endLine == cpos.line)
    | _ => false
def agEs (T : Tab) : Scope → List E → List Expr → Bool
  | _, [], [] => true
  | sc, e :: es, pe :: pes => agE T sc e pe && (isStarE e || nost pe) && agEs T sc es pes
  | _, _, _ => false
def agO (T : Tab) : Scope → Option E → Option Expr → Bool
  | _, none, none => true
  | sc, some e, some pe => agE T sc e pe
  | _, _, _ => false
end
end Cl

set_option Elab.async false
set_option linter.all false
set_option maxRecDepth 100000
/-! SoundQ: expressions that pass the check. -/
namespace Cl
open PySem PySem.Spec PyProof.Rows L2

structure Gd (X : Cx) (c : Cfg) (T : Tab) (sc : Scope) (fnb : Str → Bool) : Prop where
  calm : X.calm = true
  nd : X.N.Nodup
  N : X.N = T.N
  sc : X.env.scope = sc
  fn : X.fn = fnb
  hu : X.A.units + 128 < cLine
  gd : X.A.guards = some []
  xe : X.xe = fun _ _ => False
  blt : ∀ x : Str, x ∈ (["len", "abs", "tuple", "list", "sorted", "all", "any", "sum", "int", "str", "repr", "max", "min", "dict", "bool", "range", "zip", "enumerate", "isinstance"] : List Str) → X.mg x = none
  fns : ∀ f, f ∈ T.fns → ∃ k fa fd ps, Room k X.A ∧ FnG X.prog X.w X.K X.mg X.base k fa fd ps (c.call f) ∧ X.mg f = some (.ref fa) ∧ PySem.W.keepIn X.K (.ref fa) = true ∧ Binds X.K fd ps []
  gls : ∀ x, x ∈ T.gls → ∀ d, c.glob x = some d → ∃ v u, X.mg x = some u ∧ RelV v u ∧ ∀ M ρ H, RV (kx X) M ρ H d v

theorem Gd.blk {X : Cx} {c : Cfg} {T : Tab} {sc : Scope} {fnb : Str → Bool} (gd : Gd X c T sc fnb) (s : Shared) (H : Hp) (scope : Scope) (C : Addr) (cl : List (Str × Addr)) (fp : List Addr) :
    Gd (X.blk s H scope (compEnvC scope cl C X.env) fp) c T (relS scope sc) (fnOf scope) where
  calm := gd.calm
  nd := gd.nd
  N := gd.N
  sc := by show relabel scope X.env = _; rw [relS_eq, gd.sc]
  fn := rfl
  hu := gd.hu
  gd := gd.gd
  xe := rfl
  blt := gd.blt
  fns := gd.fns
  gls := gd.gls

/-! ### looks -/
theorem visB_ok {sc : Scope} {x : Str} (h : visB sc x = true) : Vis sc x := by
  unfold visB at h
  split at h
  · exact .inl ‹_›
  · exact .inr (.inl ‹_›)
  · exact .inr (.inr ‹_›)
  · cases h
theorem locB_ok {sc : Scope} {x : Str} (h : locB sc x = true) : Loc sc x := by
  unfold locB at h
  split at h
  · exact .inl ‹_›
  · exact .inr ‹_›
  · cases h
theorem isLoc_ok {sc : Scope} {x : Str} (h : isLoc sc x = true) : sc.names.lookup x = some .local := by
  unfold isLoc at h
  split at h
  · assumption
  · cases h
theorem glB_ok {sc : Scope} {x : Str} (h : glB sc x = true) : sc.names.lookup x = some .globalImplicit := by
  unfold glB at h
  split at h
  · assumption
  · cases h
theorem blkB_ok {N : List Str} {sc scope : Scope} {own : List (Str × Nat)} (h : blkB N sc scope own = true) : BlkOk N sc scope own := by
  unfold blkB at h
  simp only [Bool.and_eq_true, decide_eq_true_eq, List.all_eq_true, Bool.or_eq_true, Bool.not_eq_true', decide_eq_false_iff_not] at h
  obtain ⟨⟨⟨⟨h1, h2⟩, h3⟩, h4⟩, h5⟩ := h
  refine ⟨h1, h2, h3, fun y hy e => ?_, fun y hy e => ?_⟩
  · rcases h4 y hy with (z | z) | z
    · exact absurd e z
    · exact .inl z
    · exact .inr z
  · rcases h5 y hy with (z | z) | z
    · exfalso
      rw [Bool.or_eq_false_iff] at z
      rcases e with e | e
      · exact absurd e (of_decide_eq_false z.1)
      · exact absurd e (of_decide_eq_false z.2)
    · exact .inl (by simpa using z)
    · exact .inr (by simpa using z)
theorem ownOf_snd (N : List Str) (own : List Nat) : (ownOf N own).map (·.2) = own := by
  unfold ownOf
  rw [List.map_map]
  have : ((fun x : Str × Nat => x.2) ∘ fun i : Nat => (N.getD i "", i)) = id := rfl
  rw [this, List.map_id]
section
variable {X : Cx} {c : Cfg} {T : Tab} {sc : Scope} {fnb : Str → Bool}
theorem Gd.gl (gd : Gd X c T sc fnb) {x : Str} (h : glB sc x = true) : Gl X x := by show X.env.scope.names.lookup x = _; rw [gd.sc]; exact glB_ok h
theorem Gd.vis (gd : Gd X c T sc fnb) {x : Str} (h : visB sc x = true) : Vis X.env.scope x := by rw [gd.sc]; exact visB_ok h
theorem Gd.loc (gd : Gd X c T sc fnb) {x : Str} (h : locB sc x = true) : Loc X.env.scope x := by rw [gd.sc]; exact locB_ok h
theorem Gd.lc (gd : Gd X c T sc fnb) {x : Str} (h : isLoc sc x = true) : X.env.scope.names.lookup x = some .local := by rw [gd.sc]; exact isLoc_ok h
theorem Gd.var (gd : Gd X c T sc fnb) {i : Nat} {x : Str} (h : varB T sc i x = true) : X.N[i]? = some x ∧ Vis X.env.scope x ∧ (x == ("__debug__" : Str)) = false ∧ (x == ("__classdict__" : Str)) = false := by
  unfold varB plainN at h
  simp only [Bool.and_eq_true, decide_eq_true_eq, beq_iff_eq] at h
  exact ⟨by rw [gd.N]; exact h.1.1, gd.vis h.1.2, by simpa using h.2.1, by simpa using h.2.2⟩
mutual
theorem okG (gd : Gd X c T sc fnb) : ∀ (g : G) (e : Expr), agG T sc fnb g e = true → PG X e (gB (kx X) (G.names g) fun d σ => g.bind d σ)
  | .nm i, e, h => by
    cases e with
    | Name x p =>
      simp only [agG, Bool.and_eq_true, decide_eq_true_eq, Bool.or_eq_true] at h
      have := g_name (K := kx X) (pos := p) gd.nd (by rw [gd.N]; exact h.1.1) (gd.loc h.1.2) (h.2.imp (fun z => by rw [gd.fn]; exact z) fun z => gd.lc z)
      exact this
    | _ => simp only [agG] at h; cases h
  | .tup gs, e, h => by
    cases e with
    | Tuple es k p =>
      simp only [agG] at h
      obtain ⟨h1, h2, h3⟩ := okGs gd gs es h
      exact g_tup gd.calm h1 rfl (by rw [h2]) h3
    | _ => simp only [agG] at h; cases h
theorem okGs (gd : Gd X c T sc fnb) : ∀ (gs : List G) (es : List Expr), agGs T sc fnb gs es = true → PGs X es (gBs (kx X) (G.names.names' gs) fun ds σ => G.binds gs ds σ) ∧ (assignEach es X.env).length = gs.length ∧ (assignEach es X.env).findIdx? (·.1) = none
  | [], es, h => by
    cases es with
    | nil => exact ⟨gs_nil, rfl, rfl⟩
    | cons _ _ => simp only [agGs] at h; cases h
  | g :: gs, es, h => by
    cases es with
    | nil => simp only [agGs] at h; cases h
    | cons e es =>
      simp only [agGs, Bool.and_eq_true] at h
      have h1 := okG gd g e h.1
      obtain ⟨h2, h3, h4⟩ := okGs gd gs es h.2
      have ns : assignEach (e :: es) X.env = (false, assign e X.env) :: assignEach es X.env := by
        cases g with
        | nm i => cases e <;> first | rfl | (simp only [agG] at h; exact absurd h.1 Bool.false_ne_true)
        | tup gs => cases e <;> first | rfl | (simp only [agG] at h; exact absurd h.1 Bool.false_ne_true)
      refine ⟨gs_cons h1 h2 (by rw [ns]; rfl), by rw [ns, List.length_cons, List.length_cons, h3], ?_⟩
      rw [ns, List.findIdx?_cons]
      simp [h4]
end
end
end Cl

set_option Elab.async false
set_option linter.all false
set_option maxRecDepth 100000
/-! SoundR: what a checked expression gives. -/
namespace Cl
open PySem PySem.Spec PyProof.Rows L2

def isCmpE : E → Bool
  | .comp .. => true
  | .comp2 .. => true
  | .dcomp .. => true
  | _ => false
structure OkE (X : Cx) (c : Cfg) (e : E) (pe : Expr) : Prop where
  v : PE X pe (tV (kx X) fun σ => (ev c e σ).v)
  t : PT X pe (tT (kx X) fun σ => (ev c e σ).t)
  b : PE X pe (tB (kx X) fun σ => (ev c e σ).b)
  i : ∀ tg, tgOk e tg = true → PI X tg pe (tI (kx X) true fun σ => (ev c e σ).i)
  w : ∀ tg, tgOk e tg = true → PI X tg pe (tI (kx X) false fun σ => (ev c e σ).w)
  f : frE e = true → PE X pe (tG (kx X) fun σ => (ev c e σ).v)
  pw : isBo pe = true → PW X pe (tT (kx X) fun σ => (ev c e σ).t)
  as : isCmpE e = true → ∀ (i : Nat) (y : Str) (py sp : Pos), X.N[i]? = some y → X.env.scope.names.lookup y = some .local → swapsWith pe (some (.Name y py)) sp.line X.env = pure true → PS X (.Assign [.Name y py] pe sp) (tAsg (tF (kx X) fun σ => (ev c e σ).v) (gName i))
  s : isStarE e = false → ∀ σ, (ev c e σ).s = Cm.bind (ev c e σ).v fun x => Cm.pure [x]

section
variable {X : Cx} {c : Cfg} {e : E} {pe : Expr} {m : Env → Cm D} {mt : Env → Cm Bool}
theorem v_bad {K : Fg} {e : Expr} : PE X e (tV K fun _ => Cm.fail) := ⟨fun _ _ _ _ _ _ ⟨_, _, _, _, _, _, _, _, _, e, _⟩ => (fail_ok e).elim⟩
theorem b_bad {K : Fg} {e : Expr} : PE X e (tB K fun _ => Cm.fail) := ⟨fun _ _ _ _ _ _ ⟨_, _, _, _, _, _, _, _, _, e, _⟩ => (fail_ok e).elim⟩
theorem t_bad {K : Fg} {e : Expr} : PT X e (tT K fun _ => Cm.fail) := ⟨fun _ _ _ _ _ _ ⟨_, _, _, _, _, _, _, _, _, e, _⟩ => (fail_ok e).elim⟩
theorem i_bad {K : Fg} {own : Bool} {tg e : Expr} : PI X tg e (tI K own fun _ => Cm.fail) := ⟨fun _ _ _ _ _ _ ⟨_, _, _, _, _, _, _, _, _, e, _⟩ => (fail_ok e).elim⟩
theorem OkE.of (hev : ∀ σ, ev c e σ = { Md.of (m σ) with t := mt σ }) (hv : PE X pe (tV (kx X) m)) (ht : PT X pe (tT (kx X) mt)) (hf : frE e = true → PE X pe (tG (kx X) m)) (hpw : isBo pe = true → PW X pe (tT (kx X) mt)) (has : isCmpE e = true → ∀ (i : Nat) (y : Str) (py sp : Pos), X.N[i]? = some y → X.env.scope.names.lookup y = some .local → swapsWith pe (some (.Name y py)) sp.line X.env = pure true → PS X (.Assign [.Name y py] pe sp) (tAsg (tF (kx X) m) (gName i))) : OkE X c e pe := by
  have e1 : (fun σ => (ev c e σ).v) = m := funext fun σ => by rw [hev]; rfl
  have e2 : (fun σ => (ev c e σ).t) = mt := funext fun σ => by rw [hev]
  have e3 : (fun σ => (ev c e σ).b) = m := funext fun σ => by rw [hev]; rfl
  have e4 : (fun σ => (ev c e σ).i) = fun σ => Cm.bind (m σ) fun x => Cm.lift (seq? x) := funext fun σ => by rw [hev]; rfl
  have e5 : (fun σ => (ev c e σ).w) = fun σ => Cm.bind (m σ) fun x => Cm.lift (seq? x) := funext fun σ => by rw [hev]; rfl
  exact {
    v := by rw [e1]; exact hv
    t := by rw [e2]; exact ht
    b := by rw [e3]; exact tB_of_tV hv
    i := fun tg _ => by rw [e4]; exact i_wide (i_srcV hv)
    w := fun tg _ => by rw [e5]; exact i_srcV hv
    f := fun h => by rw [e1]; exact hf h
    pw := fun h => by rw [e2]; exact hpw h
    as := fun h i y py sp h1 h2 h3 => by rw [e1]; exact has h i y py sp h1 h2 h3
    s := fun _ σ => by rw [hev]; rfl }
theorem OkE.plain (hev : ∀ σ, ev c e σ = Md.of (m σ)) (hv : PE X pe (tV (kx X) m)) (he : ∀ whole, isTrue pe X.env whole = (do let v ← whole; standAt pe.pos; holding [v] (truthy v))) (hf : frE e = true → PE X pe (tG (kx X) m)) (hb : isBo pe = false) (hc : isCmpE e = false) : OkE X c e pe :=
  OkE.of (mt := fun σ => Cm.bind (m σ) fun x => Cm.lift (truth x)) (fun σ => by rw [hev]; rfl) hv (t_truth hv he) hf (fun h => by rw [hb] at h; cases h) (fun h => by rw [hc] at h; cases h)
theorem lift_bind {α β : Type} (o : Option α) (f : α → Option β) : (Cm.lift (o.bind f) : Cm β) = Cm.bind (Cm.lift o) fun x => Cm.lift (f x) := by
  funext S
  unfold Cm.bind Cm.lift
  cases o <;> rfl

variable {T : Tab} {sc : Scope} {fnb : Str → Bool} {p pos : Pos} {x : Str}
theorem ok_var (gd : Gd X c T sc fnb) {i : Nat} (h : varB T sc i x = true) : OkE X c (.var i) (.Name x p) := by
  obtain ⟨h1, h2, h3, h4⟩ := gd.var h
  have e4 : (fun σ => (ev c (.var i) σ).i) = fun σ => Cm.bind (Cm.lift (look σ i)) fun x => Cm.lift (seq? x) := funext fun σ => lift_bind _ _
  have e5 : (fun σ => (ev c (.var i) σ).w) = fun σ => Cm.bind (Cm.lift (val σ i)) fun x => Cm.lift (seq? x) := funext fun σ => lift_bind _ _
  exact {
    v := v_var h1 h2 h3 h4
    t := t_var h1 h2 h3 h4
    b := b_var h1 h2 h3 h4
    i := fun tg _ => by rw [e4]; exact i_srcB (b_var h1 h2 h3 h4)
    w := fun tg _ => by rw [e5]; exact i_srcV (v_var h1 h2 h3 h4)
    f := fun h => by cases h
    pw := fun h => by cases h
    as := fun h => by cases h
    s := fun _ σ => rfl }
theorem ok_glob (gd : Gd X c T sc fnb) (h1 : x ∈ T.gls) (h2 : glB sc x = true) (h3 : plainN x = true) : OkE X c (.glob x) (.Name x p) := by
  refine OkE.plain (m := fun _ => Cm.lift (c.glob x)) (fun σ => rfl) ?_ (fun _ => rfl) (fun h => by cases h) rfl rfl
  unfold plainN at h3
  simp only [Bool.and_eq_true, beq_iff_eq] at h3
  cases ho : c.glob x with
  | none => exact ⟨fun _ _ _ _ _ _ ⟨_, _, _, _, _, _, _, _, _, e, _⟩ => by obtain ⟨z, _⟩ := lift_ok e; cases z⟩
  | some d =>
    obtain ⟨v, u, hm, ru, hr⟩ := gd.gls x h1 d ho
    exact v_glob (pe_glob (gd.gl h2) hm ru (by simpa using h3.1)) fun d' hd' => by cases hd'; exact hr
theorem ok_con {d : D} {k : Const} {j : Nat} (h : conB d k = true) : OkE X c (.con d) (.Constant k j p) := by
  refine OkE.plain (m := fun _ => pure d) (fun σ => rfl) ?_ (fun _ => rfl) (fun h => by cases h) rfl rfl
  cases d <;> cases k <;> first | (simp only [conB] at h; cases h; done) | skip
  · exact v_con pe_non fun _ _ _ => .non
  · simp only [conB, beq_iff_eq] at h; subst h; exact v_con pe_bl fun _ _ _ => .bl _
  · simp only [conB, decide_eq_true_eq] at h; subst h; exact v_con pe_int fun _ _ _ => .int _
  · simp only [conB, decide_eq_true_eq] at h; subst h; exact v_con pe_str fun _ _ _ => .str _
theorem bin_new {op : Operator} {x y d : D} (h : binD op x y = some d) (hl : isLD d = true) :
    (op = .Add ∧ ∃ a b, x = .lst a ∧ y = .lst b ∧ a.length + b.length ≤ 1000000 ∧ d = .lst (a ++ b)) ∨
    (op = .Mult ∧ ∃ a n, x = .lst a ∧ y = .int n ∧ (-1000000 ≤ n ∧ n ≤ 1000000 ∧ a.length * n.toNat ≤ 1000000) ∧ d = .lst (repL n a)) := by
  unfold binD at h
  split at h
  case h_8 a b =>
    split at h
    · cases h; exact .inl ⟨rfl, a, b, rfl, rfl, ‹_›, rfl⟩
    · cases h
  case h_9 a n =>
    split at h
    · cases h; exact .inr ⟨rfl, a, n, rfl, rfl, ‹_›, rfl⟩
    · cases h
  all_goals first
    | (cases h; done)
    | (cases h; cases hl; done)
    | (split at h <;> first | (cases h; done) | (cases h; cases hl; done))
/-- what was free after is free before -/
theorem free_back {K : Fg} {F : Addr → Prop} {H0 : Hp} {ρ ρ1 : List Addr} {M M1 : Addr → Prop} {S S1 : CH} {σd σd1 : Env} {σ : L2.St} {H H1 : Hp} {p : Addr} (r : Rep K F H0 ρ M S σd σ H) (r1 : Rep K F H0 ρ1 M1 S1 σd1 σ H1) (x : Ext ρ M H ρ1 M1 H1) (h : H1 p = none) : H p = none := by
  cases hH : H p with
  | none => rfl
  | some o =>
    exfalso
    by_cases hm : M p
    · by_cases hρ : p ∈ ρ
      · obtain ⟨n, hn⟩ := List.mem_iff_getElem?.mp hρ
        exact r1.tr p (r1.mm p (List.mem_of_getElem? (x.refs n p hn))) h
      · exact r1.tr p (x.mine p hm hρ).2.1 h
    · rw [(x.keep p o hH hm).1] at h; cases h
theorem g_bin {a b : Expr} {op : Operator} {ma mb : Env → Cm D} (ha : PE X a (tV (kx X) ma)) (hb : PE X b (tV (kx X) mb)) : PE X (.BinOp a op b pos) (tG (kx X) fun σ => do let x ← ma σ; let y ← mb σ; Cm.lift (binD op x y)) := by
  refine (pe_op (binR_op op) ha hb).imp fun σ H Q ⟨F, H0, ρ, M, S, σd, d, S', r, e, q⟩ => ?_
  obtain ⟨x, S1, e1, e⟩ := bind_ok e
  obtain ⟨y, S2, e2, e⟩ := bind_ok e
  obtain ⟨e3, rfl⟩ := lift_ok e
  refine ⟨F, H0, ρ, M, S, σd, x, S1, r, e1, fun v ρ1 M1 H1 r1 x1 v1 => ?_⟩
  refine ⟨F, H0, ρ1, M1, S1, σd, y, S2, r1, e2, fun u ρ2 M2 H2 r2 x2 v2 => ?_⟩
  have v1' := v1.ext x2
  cases hl : isLD d with
  | false => exact binR_data op F H0 ρ2 M2 S2 σd σ H2 x y d v u Q r2 v1' v2 e3 fun w ρ' M' H' r' x' w' => q w ρ' M' H' r' ((x1.trans x2).trans x') fun z => by rw [hl] at z; cases z
  | true =>
    rcases bin_new e3 hl with ⟨rfl, xs, ys, rfl, rfl, hc, rfl⟩ | ⟨rfl, xs, n, rfl, rfl, ⟨h1, h2, h3⟩, rfl⟩
    · cases v1' with
      | @lst p xs' _ tx vx =>
      cases v2 with
      | @lst p2 ys' _ ty vy =>
      refine .inr (.inr (.inl ⟨p, p2, xs', ys', rfl, rfl, tx.sq, ty.sq, by rw [← vx.length, ← vy.length, size_line_eq]; omega, fun p' hp => ?_⟩))
      obtain ⟨r', x', k1, k2, k3, k4, k5, k6, k7⟩ := new_own r2 hp (vx.append vy)
      exact q _ ρ2 _ _ r' ((x1.trans x2).trans x') fun _ => ⟨k1, k2, free_back r r2 (x1.trans x2) k3, k4, k5, k6, k7⟩
    · cases v1' with
      | @lst p xs' _ tx vx =>
      cases v2
      refine .inr (.inl ⟨p, n, xs', rfl, rfl, tx.1, by omega, by omega, by rw [← vx.length, size_line_eq]; omega, fun p' hp => ?_⟩)
      obtain ⟨r', x', k1, k2, k3, k4, k5, k6, k7⟩ := new_own r2 hp (vx.flat n.toNat)
      exact q _ ρ2 _ _ r' ((x1.trans x2).trans x') fun _ => ⟨k1, k2, free_back r r2 (x1.trans x2) k3, k4, k5, k6, k7⟩
theorem ok_bin (gd : Gd X c T sc fnb) {a b : E} {pa pb : Expr} {op : Operator} (ha : OkE X c a pa) (hb : OkE X c b pb) : OkE X c (.bin op a b) (.BinOp pa op pb p) :=
  OkE.plain (fun σ => rfl) (v_bin (binR_op op) (binR_data op) ha.v hb.v) (fun _ => rfl) (fun _ => g_bin ha.v hb.v) rfl rfl
theorem ok_neg {a : E} {pa : Expr} (ha : OkE X c a pa) : OkE X c (.neg a) (.UnaryOp .USub pa p) :=
  OkE.plain (fun σ => rfl) (v_neg ha.v) (fun _ => rfl) (fun h => by cases h) rfl rfl
theorem ok_not {a : E} {pa : Expr} (ha : OkE X c a pa) : OkE X c (.not a) (.UnaryOp .Not pa p) :=
  OkE.of (mt := fun σ => do let b ← (ev c a σ).t; pure (!b)) (fun σ => rfl) (v_not ha.v) (t_not ha.t) (fun h => by cases h) (fun h => by cases h) (fun h => by cases h)
theorem ok_and1 {a b : E} {pa pb : Expr} (ha : OkE X c a pa) (hb : OkE X c b pb) : OkE X c (.and a b) (.BoolOp .And [pa, pb] p) :=
  OkE.of (mt := fun σ => do if ← (ev c a σ).t then (ev c b σ).t else pure false) (fun σ => rfl) (v_and ha.v (pe_one hb.v)) (PW.pt (w_and ha.t (pw_and1 hb.t))) (fun h => by cases h) (fun _ => w_and ha.t (pw_and1 hb.t)) (fun h => by cases h)
theorem ok_and2 {a b : E} {pa pb pc : Expr} {rest : List Expr} (ha : OkE X c a pa) (hb : OkE X c b (.BoolOp .And (pb :: pc :: rest) p)) : OkE X c (.and a b) (.BoolOp .And (pa :: pb :: pc :: rest) p) :=
  OkE.of (mt := fun σ => do if ← (ev c a σ).t then (ev c b σ).t else pure false) (fun σ => rfl) (v_and ha.v hb.v) (PW.pt (w_and ha.t (hb.pw rfl))) (fun h => by cases h) (fun _ => w_and ha.t (hb.pw rfl)) (fun h => by cases h)
theorem ok_or1 {a b : E} {pa pb : Expr} (ha : OkE X c a pa) (hb : OkE X c b pb) : OkE X c (.or a b) (.BoolOp .Or [pa, pb] p) :=
  OkE.of (mt := fun σ => do if ← (ev c a σ).t then pure true else (ev c b σ).t) (fun σ => rfl) (v_or ha.v (pe_one hb.v)) (PW.pt (w_or ha.t (pw_or1 hb.t))) (fun h => by cases h) (fun _ => w_or ha.t (pw_or1 hb.t)) (fun h => by cases h)
theorem ok_or2 {a b : E} {pa pb pc : Expr} {rest : List Expr} (ha : OkE X c a pa) (hb : OkE X c b (.BoolOp .Or (pb :: pc :: rest) p)) : OkE X c (.or a b) (.BoolOp .Or (pa :: pb :: pc :: rest) p) :=
  OkE.of (mt := fun σ => do if ← (ev c a σ).t then pure true else (ev c b σ).t) (fun σ => rfl) (v_or ha.v hb.v) (PW.pt (w_or ha.t (hb.pw rfl))) (fun h => by cases h) (fun _ => w_or ha.t (hb.pw rfl)) (fun h => by cases h)
theorem ok_ite {t a b : E} {pt pa pb : Expr} (ht : OkE X c t pt) (ha : OkE X c a pa) (hb : OkE X c b pb) : OkE X c (.ite t a b) (.IfExp pt pa pb p) :=
  OkE.of (mt := fun _ => Cm.fail) (fun σ => rfl) (v_ite ht.t ha.v hb.v) t_bad (fun h => by cases h) (fun h => by cases h) (fun h => by cases h)
theorem ok_cmp (gd : Gd X c T sc fnb) {a b : E} {pa pb : Expr} {op : CmpOp} (h1 : op ≠ .In) (h2 : op ≠ .NotIn) (ha : OkE X c a pa) (hb : OkE X c b pb) : OkE X c (.cmp op a b) (.Compare pa [op] [pb] p) :=
  OkE.of (fun σ => rfl) (v_cmp (by have := gd.hu; omega) h1 h2 ha.b hb.b) (t_cmp (by have := gd.hu; omega) h1 h2 ha.b hb.b) (fun h => by cases h) (fun h => by cases h) (fun h => by cases h)
theorem ok_chn (gd : Gd X c T sc fnb) {a b e : E} {pa pb pe : Expr} {op op' : CmpOp} (h1 : op ≠ .In) (h2 : op ≠ .NotIn) (h3 : op' ≠ .In) (h4 : op' ≠ .NotIn) (ha : OkE X c a pa) (hb : OkE X c b pb) (he : OkE X c e pe) : OkE X c (.chn op op' a b e) (.Compare pa [op, op'] [pb, pe] p) :=
  OkE.of (mt := fun _ => Cm.fail) (fun σ => rfl) (v_chn (by have := gd.hu; omega) h1 h2 h3 h4 ha.v hb.v he.v (nomark _ h3 h4)) t_bad (fun h => by cases h) (fun h => by cases h) (fun h => by cases h)
theorem ok_idx (gd : Gd X c T sc fnb) {a i : E} {pa pi : Expr} (ha : OkE X c a pa) (hi : OkE X c i pi) (h : notSl pi = true) : OkE X c (.idx a i) (.Subscript pa pi p) :=
  OkE.plain (fun σ => rfl) (v_idx (by have := gd.hu; omega) ha.b hi.v (plain_ix (by cases pi <;> first | rfl | cases h))) (fun _ => rfl) (fun h => by cases h) rfl rfl
end
end Cl

set_option Elab.async false
set_option linter.all false
set_option maxRecDepth 100000
/-! SoundR2: lists of expressions, calls, comprehensions, walks. -/
namespace Cl
open PySem PySem.Spec PyProof.Rows L2

theorem one_len {m : Cm D} {S S' : CH} {xs : List D} (h : Cm.bind m (fun x => Cm.pure [x]) S = some (.ok xs S')) : xs.length ≤ 1 := by
  obtain ⟨z, S0, _, h⟩ := mbind_ok h
  obtain ⟨rfl, _⟩ := mpure_ok h
  exact Nat.le_refl _
theorem s_of {c : Cfg} {e : E} (h : isStarE e = false) (σ : Env) : (ev c e σ).s = Cm.bind (ev c e σ).v fun x => Cm.pure [x] := by
  cases e <;> first | (cases h; done) | rfl
theorem s_len {c : Cfg} {e : E} {σ : Env} {S S' : CH} {xs : List D} (h : (ev c e σ).s S = some (.ok xs S')) : xs.length ≤ (if isStarE e then 1000000 else 1) := by
  cases hz : isStarE e with
  | false =>
    rw [s_of hz σ] at h
    exact one_len h
  | true =>
    cases e <;> first | cases hz | skip
    rename_i a
    have h : (do let x ← (ev c a σ).b; let xs ← Cm.lift (seq? x); if xs.length ≤ 1000000 then pure xs else Cm.fail : Cm (List D)) S = some (.ok xs S') := h
    obtain ⟨x, S0, _, h⟩ := bind_ok h
    obtain ⟨ys, S1, _, h⟩ := bind_ok h
    have h := (ite_ok h).resolve_right fun z => (fail_ok z.2).elim
    obtain ⟨hl, h⟩ := h
    obtain ⟨rfl, _⟩ := pure_ok h
    exact hl
theorem evs_len {c : Cfg} : ∀ {es : List E} {σ : Env} {S S' : CH} {ds : List D}, evs c es σ S = some (.ok ds S') → ds.length ≤ capE es
  | [], σ, S, S', ds, h => by
    obtain ⟨rfl, _⟩ := pure_ok (show (pure [] : Cm (List D)) S = _ from h)
    exact Nat.zero_le _
  | e :: es, σ, S, S', ds, h => by
    have h : (do let x ← (ev c e σ).s; let xs ← evs c es σ; pure (x ++ xs)) S = some (.ok ds S') := h
    obtain ⟨x, S1, h1, h⟩ := bind_ok h
    obtain ⟨xs, S2, h2, h⟩ := bind_ok h
    obtain ⟨rfl, _⟩ := pure_ok h
    have a := s_len h1
    have b := evs_len h2
    rw [List.length_append]
    unfold capE
    omega
theorem evs_one {c : Cfg} : ∀ {es : List E} {σ : Env} {S S' : CH} {ds : List D}, es.any isStarE = false → evs c es σ S = some (.ok ds S') → ds.length ≤ es.length
  | [], σ, S, S', ds, _, h => by
    obtain ⟨rfl, _⟩ := pure_ok (show (pure [] : Cm (List D)) S = _ from h)
    exact Nat.zero_le _
  | e :: es, σ, S, S', ds, hs, h => by
    have h : (do let x ← (ev c e σ).s; let xs ← evs c es σ; pure (x ++ xs)) S = some (.ok ds S') := h
    obtain ⟨x, S1, h1, h⟩ := bind_ok h
    obtain ⟨xs, S2, h2, h⟩ := bind_ok h
    obtain ⟨rfl, _⟩ := pure_ok h
    rw [List.any_cons, Bool.or_eq_false_iff] at hs
    have a := s_len h1
    rw [hs.1] at a
    have b := evs_one hs.2 h2
    rw [List.length_append, List.length_cons]
    simp at a
    omega

/-- of a list -/
structure OkEs (X : Cx) (c : Cfg) (es : List E) (pes : List Expr) : Prop where
  a : PA X pes (tVs (kx X) fun σ => evs c es σ)
  b : (es.any isStarE) = false → PA X pes (tBs (kx X) fun σ => evBs c es σ)
  len : pes.length = es.length
  ns : (es.any isStarE) = false → pes.all nost = true
section
variable {X : Cx} {c : Cfg} {T : Tab} {sc : Scope} {fnb : Str → Bool} {p pos : Pos} {x : Str}
theorem pw_bad {K : Fg} {e : Expr} : PW X e (tT K fun _ => Cm.fail) := ⟨fun _ _ _ _ _ _ _ ⟨_, _, _, _, _, _, _, _, _, e, _⟩ => (fail_ok e).elim⟩
theorem oks_nil : OkEs X c [] [] := ⟨a_nil, fun _ => ab_nil, rfl, fun _ => rfl⟩
theorem oks_cons {e : E} {pe : Expr} {es : List E} {pes : List Expr} (h : OkE X c e pe) (hs : isStarE e = false) (hn : nost pe = true) (hr : OkEs X c es pes) : OkEs X c (e :: es) (pe :: pes) where
  a := by
    have := a_cons h.v hr.a hn
    have e1 : (fun σ => evs c (e :: es) σ) = fun σ => Cm.bind (Cm.bind (ev c e σ).v fun x => Cm.pure [x]) fun x => Cm.bind (evs c es σ) fun xs => Cm.pure (x ++ xs) :=
      funext fun σ => congrArg (fun m => Cm.bind m fun x => Cm.bind (evs c es σ) fun xs => Cm.pure (x ++ xs)) (s_of hs σ)
    rw [e1]; exact this
  b := fun hn2 => by
    rw [List.any_cons, Bool.or_eq_false_iff] at hn2
    exact ab_cons h.b (hr.b hn2.2) hn
  len := by rw [List.length_cons, List.length_cons, hr.len]
  ns := fun hn2 => by
    rw [List.any_cons, Bool.or_eq_false_iff] at hn2
    rw [List.all_cons, hn, hr.ns hn2.2]; rfl
theorem oks_star {a : E} {pa : Expr} {es : List E} {pes : List Expr} (h : OkE X c a pa) (hr : OkEs X c es pes) : OkEs X c (.star a :: es) (.Starred pa p :: pes) where
  a := a_star h.b hr.a
  b := fun hn2 => by rw [List.any_cons] at hn2; cases hn2
  len := by rw [List.length_cons, List.length_cons, hr.len]
  ns := fun hn2 => by rw [List.any_cons] at hn2; cases hn2
theorem ok_star {a : E} {pe : Expr} : OkE X c (.star a) pe where
  v := v_bad
  t := t_bad
  b := b_bad
  i := fun _ _ => i_bad
  w := fun _ _ => i_bad
  f := fun h => by cases h
  pw := fun h => pw_bad
  as := fun h => by cases h
  s := fun h => by cases h
theorem ok_tup {es : List E} {pes : List Expr} {k : Nat} (h : OkEs X c es pes) (hc : capE es ≤ 16777216) : OkE X c (.tup es) (.Tuple pes k p) :=
  OkE.plain (fun σ => rfl) (v_tup h.a fun σ S ds S' e => Nat.le_trans (evs_len e) hc) (fun _ => rfl) (fun h => by cases h) rfl rfl
theorem ok_lst {es : List E} {pes : List Expr} (h : OkEs X c es pes) (hc : capE es ≤ 16777216) : OkE X c (.lst es) (.List pes p) :=
  have hf := f_lst (pos := p) h.a fun σ S ds S' e => Nat.le_trans (evs_len e) hc
  OkE.plain (fun σ => rfl) (tV_of_tF hf) (fun _ => rfl) (fun _ => tG_of_tF hf) rfl rfl
theorem ok_slc (gd : Gd X c T sc fnb) {a : E} {pa : Expr} {lo hi : Option E} {plo phi : Option Expr} {p2 : Pos} (ha : OkE X c a pa) (hl : PO X plo (tPt (kx X) fun σ => evO c lo σ)) (hh : PO X phi (tPt (kx X) fun σ => evO c hi σ)) : OkE X c (.slc a lo hi) (.Subscript pa (.Slice plo phi none p2) p) :=
  OkE.plain (fun σ => rfl) (v_slc ha.b hl hh) (fun _ => rfl) (fun h => by cases h) rfl rfl
theorem plainN_ok {x : Str} (h : plainN x = true) : (x == ("__debug__" : Str)) = false := by
  unfold plainN at h
  simp only [Bool.and_eq_true, beq_iff_eq] at h
  simpa using h.1
theorem ok_call (gd : Gd X c T sc fnb) {f : Str} {es : List E} {pes : List Expr} (h1 : f ∈ T.fns) (h2 : glB sc f = true) (h3 : plainN f = true) (h : OkEs X c es pes) (hn : pes.all nost = true) : OkE X c (.call f es) (.Call (.Name f pos) pes [] p) := by
  obtain ⟨k, fa, fd, ps, hr, hf, hm, hk, hb⟩ := gd.fns f h1
  refine OkE.plain (m := fun σ => do let xs ← evs c es σ; c.call f xs) (fun σ => rfl) ?_ (fun _ => rfl) (fun h => by cases h) rfl rfl
  cases pes with
  | nil =>
    cases es with
    | nil => exact v_call0 hf hr gd.gd (gd.gl h2) hm hk hb (plainN_ok h3)
    | cons _ _ => have := h.len; simp at this
  | cons e0 es' => exact v_call hf hr gd.gd (gd.gl h2) hm hk hb h.a hn (plainN_ok h3)
theorem biS_mem (f : BI) : biS f ∈ (["len", "abs", "tuple", "list", "sorted", "all", "any", "sum", "int", "str", "repr", "max", "min", "dict", "bool", "range", "zip", "enumerate", "isinstance"] : List Str) := by cases f <;> simp [biS]
theorem tyS_mem (f : Ty) : tyS f ∈ (["len", "abs", "tuple", "list", "sorted", "all", "any", "sum", "int", "str", "repr", "max", "min", "dict", "bool", "range", "zip", "enumerate", "isinstance"] : List Str) := by cases f <;> simp [tyS]
theorem ok_bi (gd : Gd X c T sc fnb) {f : BI} {es : List E} {pes : List Expr} (hf : biOk f = true) (hg : glB sc (biS f) = true) (he : pes.isEmpty = false) (h : OkEs X c es pes) (hs : es.any isStarE = false) : OkE X c (.bi f es) (.Call (.Name (biS f) pos) pes [] p) := by
  cases pes with
  | nil => cases he
  | cons e0 pes =>
    have hw := w_bi (p := pos) (pos := p) gd.hu gd.calm gd.gd f hf (gd.gl hg) (gd.blt _ (biS_mem f)) (h.b hs) (h.ns hs)
    refine OkE.plain (m := fun σ => do let xs ← evBs c es σ; let xs' ← derefs xs; Cm.lift (biD f xs')) (fun σ => rfl) (w_val hw) (fun _ => rfl) (fun hfr => tG_of_tF (w_fresh hfr hw)) rfl rfl
theorem ok_isi (gd : Gd X c T sc fnb) {a : E} {pa : Expr} {t : Ty} {p2 : Pos} (ha : OkE X c a pa) (h1 : glB sc "isinstance" = true) (h2 : glB sc (tyS t) = true) (hn : nost pa = true) : OkE X c (.isi a t) (.Call (.Name "isinstance" pos) [pa, .Name (tyS t) p2] [] p) :=
  OkE.plain (fun σ => rfl) (v_isi t (gd.gl h1) (gd.blt _ (by simp)) (gd.gl h2) (gd.blt _ (tyS_mem t)) ha.v hn) (fun _ => rfl) (fun h => by cases h) rfl rfl
theorem ok_get2 (gd : Gd X c T sc fnb) {a k d : E} {pa pk pd : Expr} {apos : Pos} (ha : OkE X c a pa) (hk : OkE X c k pk) (hd : OkE X c d pd) (h1 : isNameX pa = true) (nk : nost pk = true) (nd : nost pd = true) (hl : (apos.endLine == p.line) = true) : OkE X c (.get2 a k d) (.Call (.Attribute pa "get" apos) [pk, pd] [] p) :=
  OkE.plain (m := fun σ => do
    let x ← (ev c a σ).b
    let kd ← (ev c k σ).v
    let dd ← (ev c d σ).v
    match x with
    | .dct ks vs => Cm.lift ((dfind kd ks vs).map fun o => o.getD dd)
    | _ => Cm.fail) (fun σ => rfl) (v_get2 (by have := gd.hu; omega) ha.b hk.v hd.v {
      base := by cases pa <;> first | (cases h1; done) | rfl
      few := few2 nk nd
      line := hl
      trees := by rw [starEach_no nk, starEach_no nd]; rfl }) (fun _ => rfl) (fun h => by cases h) rfl rfl
theorem ok_dct : OkE X c (.dct []) (.Dict [] [] p) :=
  have hm : (fun σ : Env => (do let xs ← evs c [] σ; let ps ← Cm.lift (pairUp xs); let q ← Cm.lift (dputs ps [] []); pure (.dct q.1 q.2) : Cm D)) = fun _ => pure (.dct [] []) := funext fun σ => rfl
  OkE.plain (m := fun σ => do let xs ← evs c [] σ; let ps ← Cm.lift (pairUp xs); let q ← Cm.lift (dputs ps [] []); pure (.dct q.1 q.2)) (fun σ => rfl) (by rw [hm]; exact tV_of_tF f_dnew) (fun _ => rfl) (fun _ => by rw [hm]; exact tG_of_tF f_dnew) rfl rfl
theorem ok_dzip (gd : Gd X c T sc fnb) {a b : E} {pa pb : Expr} {p2 pos2 : Pos} (ha : OkE X c a pa) (hb : OkE X c b pb) (h1 : glB sc "dict" = true) (h2 : glB sc "zip" = true) (na : nost pa = true) (nb : nost pb = true) : OkE X c (.dzip a b) (.Call (.Name "dict" pos) [.Call (.Name "zip" p2) [pa, pb] [] pos2] [] p) :=
  have hf := f_dzip (p := pos) (p2 := p2) (pos := p) (pos2 := pos2) gd.calm gd.hu (gd.gl h1) (gd.blt _ (by simp)) (gd.gl h2) (gd.blt _ (by simp)) ha.b hb.b na nb
  OkE.plain (fun σ => rfl) (tV_of_tF hf) (fun _ => rfl) (fun _ => tG_of_tF hf) rfl rfl
theorem ok_new {a : E} {pe : Expr} (ha : OkE X c a pe) (hf : frE a = true) (he : ∀ whole, isTrue pe X.env whole = (do let v ← whole; standAt pe.pos; holding [v] (truthy v))) (hb : isBo pe = false) : OkE X c (.new a) pe :=
  OkE.plain (m := fun σ => do
    let x ← (ev c a σ).v
    match x with
    | .lst ds => fun S => some (.ok (.ref S.length) (S ++ [.lst ds]))
    | _ => Cm.fail) (fun σ => rfl) (v_new (ha.f hf)) he (fun h => by cases h) hb rfl
end
end Cl

set_option Elab.async false
set_option linter.all false
set_option maxRecDepth 100000
/-! SoundZ4: l.index(x). -/
namespace Cl
open PySem PySem.Spec PyProof.Rows L2
section
variable {X : Cx} {o ek : Expr} {apos cpos : Pos} {mo mk : Env → Cm D}
theorem RB.n {K : Fg} {ρ : List Addr} {M : Addr → Prop} {H : Hp} {d : D} {v : V} (r : RB K M ρ H d v) : RN K M ρ H d v := r.now
theorem v_indexOf (hu : X.A.units + 65 < cLine) (ho : PE X o (tB (kx X) mo)) (hk : PE X ek (tV (kx X) mk)) (hb : attributeBase o "index" X.env (eval o X.env) = eval o X.env) (nk : nost ek = true) (hl : (apos.endLine == cpos.line) = true) :
    PE X (.Call (.Attribute o "index" apos) [ek] [] cpos) (tV (kx X) fun σ => do
      let x ← mo σ
      let y ← mk σ
      Cm.lift (indexD x y)) := by
  refine (pe_bm PySem.F.plainAttrs_list PySem.F.slot_list_index PySem.F.type_list_index (mt_indexD hu) ho (pa_cons hk pa_nil (starEach_no nk)) hb (few1 nk) hl (starEach_no nk) rfl).imp fun σ H Q ⟨F, H0, ρ, M, S, σd, d, S', r, e, q⟩ => ?_
  obtain ⟨x, S1, e1, e⟩ := bind_ok e
  obtain ⟨y, S2, e2, e⟩ := bind_ok e
  obtain ⟨e3, rfl⟩ := lift_ok e
  refine ⟨F, H0, ρ, M, S, σd, x, S1, r, e1, fun v ρ1 M1 H1 r1 x1 v1 => ?_⟩
  unfold indexD at e3
  cases x with
  | lst ds =>
    simp only at e3
    obtain ⟨a, xs, As, rfl, h1, h2, h3⟩ := srcK v1 (show seq? (.lst ds) = some ds from rfl)
    refine ⟨.inl ⟨rfl, xs, h2⟩, F, H0, ρ1, M1, S1, σd, y, _, r1, e2, fun u ρ2 M2 H2 r2 x2 v2 => ?_⟩
    split at e3
    · rename_i ps q' hp hq
      split at e3
      · rename_i sh
        obtain ⟨j, hj, rfl⟩ := Option.map_eq_some_iff.mp e3
        have dl := (v1.ext x2).n.dp hp
        obtain ⟨hj1, hj2, hj3⟩ := List.findIdx?_eq_some_iff_getElem.mp hj
        refine ⟨a, u, q', ps, j, ps[j], rfl, rfl, dl, v2.dp _ hq, sh.1, sh.2, List.getElem?_eq_getElem hj1, hj2, fun m z' hm hz => ?_, q _ ρ2 M2 H2 r2 (x1.trans x2) (.int _)⟩
        obtain ⟨hm1, rfl⟩ := List.getElem?_eq_some_iff.mp hz
        have := hj3 m hm
        simpa using this
      · cases e3
    · cases e3
  | _ => cases e3
end
end Cl

set_option Elab.async false
set_option linter.all false
set_option maxRecDepth 100000
/-! SoundR3: comprehensions and walks that pass the check. -/
namespace Cl
open PySem PySem.Spec PyProof.Rows L2

/-- name = {..: ..} on one line, the name a local -/
theorem x_setDx {X : Cx} {i : Nat} {y : Str} {py : Pos} {ke ve tg iter : Expr} {ifs : List Expr} {scope : Scope} {own : List (Str × Nat)} {pos spos : Pos} {wi : TI} {g : TG} {tt : TT} {tk tv : TE} (hu : X.A.units + 8 < cLine) (hc : X.calm = true) (hN : X.N.Nodup) (hy : X.N[i]? = some y) (hyl : X.env.scope.names.lookup y = some .local)
    (hsw : swapsWith (.DictComp ke ve [⟨tg, iter, ifs, 0⟩] scope pos) (some (.Name y py)) spos.line X.env = pure true) (hi : PI X tg iter wi) (ok : BlkOk X.N X.env.scope scope own)
    (hg : ∀ (s : Shared) (H : Hp) (C : Addr) (cl : List (Str × Addr)) (fp : List Addr), PG (X.blk s H scope (compEnvC scope cl C X.env) fp) tg g) (ht : ∀ (s : Shared) (H : Hp) (C : Addr) (cl : List (Str × Addr)) (fp : List Addr), PTs (X.blk s H scope (compEnvC scope cl C X.env) fp) ifs tt)
    (hk : ∀ (s : Shared) (H : Hp) (C : Addr) (cl : List (Str × Addr)) (fp : List Addr), PE (X.blk s H scope (compEnvC scope cl C X.env) fp) ke tk)
    (he : ∀ (s : Shared) (H : Hp) (C : Addr) (cl : List (Str × Addr)) (fp : List Addr), PE (X.blk s H scope (compEnvC scope cl C X.env) fp) ve tv) (hs : ∀ x, foldedSetIterable iter X.env x = pure x) :
    PS X (.Assign [.Name y py] (.DictComp ke ve [⟨tg, iter, ifs, 0⟩] scope pos) spos) (tAsg (tDx (X := X) X.w wi g tt tk tv (own.map (·.2))) (gName i)) := by
  refine ⟨fun pins s σ H D I h => ?_⟩
  rw [exec_Assign_Name_used _ _ _ _ hsw]
  refine wpAny_bind (wpAny_standAt (wpAny_bind ?_))
  show wpAny _ X.A (do let _ ← comprehension (.DictComp ke ve [⟨tg, iter, ifs, 0⟩] scope pos) scope X.env (firstIterPos [⟨tg, iter, ifs, 0⟩] pos) newDict false (eval iter X.env) (some (assign (.Name y py) X.env))) _ _ s
  have h : tDx (X := X) X.w wi g tt tk tv (own.map (·.2)) σ H (fun x H1 => gName i x σ H1 D.nx) := h
  refine wpAny_bind (thn (dx_core (Qf := fun _ s' => SP X pins D .next s') hu hc hN I hi ok hg ht hk he hs h fun L C s' m H' I' q hn f => ?_) fun _ s' hq => wpAny_pure (wpAny_pure hq))
  show wpAny _ _ (assign (.Name y py) X.env (.ref L)) _ _ _
  refine wpAny_assign_Name (store_ok2 (v := V.ref L) I' hN hy (.inl hyl) rfl (fun s2 I2 ⟨a, sb, ha⟩ => ?_) (.inr hyl))
  obtain ⟨f0, f1, f2, f3, f4, f5⟩ := f
  have haC : C ≠ a := by
    rcases ha with z | z
    · rw [z]; exact f1
    · exact fun e => f4 y a z e.symm
  refine ⟨m, hn.sameBut sb haC, fun h3 sb3 => ?_⟩
  exact ⟨_, H', I2.turned (t' := s2.toks) (fun b o hb e => (sb3.2 b hb).trans e) f0 f1 f3 f4 f5, q⟩

section
variable {X : Cx} {c : Cfg} {T : Tab} {sc : Scope} {fnb : Str → Bool} {p pos : Pos} {x : Str}
/-- everywhere within a comprehension's block -/
abbrev InB (X : Cx) (scope : Scope) (P : Cx → Prop) : Prop := ∀ (s : Shared) (H : Hp) (C : Addr) (cl : List (Str × Addr)) (fp : List Addr), P (X.blk s H scope (compEnvC scope cl C X.env) fp)
theorem ok_comp (gd : Gd X c T sc fnb) {own : List Nat} {elt it : E} {g : G} {ifs : List E} {pelt tg iter : Expr} {pifs : List Expr} {scope : Scope}
    (hi : OkE X c it iter) (htg : tgOk it tg = true) (hs : notSet iter = true) (hb : blkB T.N sc scope (ownOf T.N own) = true)
    (hg : agG T (relS scope sc) (fnOf scope) g tg = true) (sub : (G.names g).all (own.contains ·) = true)
    (he : InB X scope fun Y => OkE Y c elt pelt)
    (ht : InB X scope fun Y => PTs Y pifs (tT (kx Y) fun σ => evIfs c ifs σ)) :
    OkE X c (.comp own elt g it ifs) (.ListComp pelt [⟨tg, iter, pifs, 0⟩] scope p) := by
  have hb' : BlkOk X.N X.env.scope scope (ownOf T.N own) := by rw [gd.N, gd.sc]; exact blkB_ok hb
  have hsub : ∀ j ∈ G.names g, j ∈ (ownOf T.N own).map (·.2) := by
    rw [ownOf_snd]; intro j hj
    have := List.all_eq_true.mp sub j hj
    simpa using this
  have hgg : InB X scope fun Y => PG Y tg (gB (kx X) (G.names g) fun d σ => g.bind d σ) := fun s H C cl fp => okG (gd.blk s H scope C cl fp) g tg hg
  have hm := ownOf_snd T.N own
  have hf := f_comp (pos := p) gd.calm gd.nd (hi.i tg htg) hb' hgg ht (fun s H C cl fp => (he s H C cl fp).v) hs hsub
  rw [hm] at hf
  refine OkE.of (m := fun σ => do
    let xs ← (ev c it σ).i
    if xs.length ≤ 1000000 then do
      let ys ← compM (fun d => g.bind d (σ.wipe own)) (fun σ' => evIfs c ifs σ') (fun σ' => (ev c elt σ').v) xs
      pure (.lst ys)
    else Cm.fail) (mt := _) (fun σ => rfl) (tV_of_tF hf) (t_truth (tV_of_tF hf) fun _ => rfl) (fun _ => tG_of_tF hf) (fun h => by cases h) fun _ i y py sp h1 h2 h3 => ?_
  refine (ps_setLc (te := tV (kx X) fun σ => (ev c elt σ).v) (tt := tT (kx X) fun σ => evIfs c ifs σ) gd.calm gd.nd h1 h2 h3 (hi.i tg htg) hb' hgg ht (fun s H C cl fp => (he s H C cl fp).v) (folded_no hs)).imp fun D σ H h => ?_
  have h2 := tLc_of hsub (K := kx X) (mi := fun σ => (ev c it σ).i) (bind := fun d σ => g.bind d σ) (mt := fun σ' => evIfs c ifs σ') (me := fun σ' => (ev c elt σ').v) (σ := σ) (H := H) (Q := fun x H1 => gName i x σ H1 D.nx) (by rw [hm]; exact h)
  exact h2
theorem ok_comp2 (gd : Gd X c T sc fnb) {own own2 : List Nat} {elt it it2 : E} {g g2 : G} {pelt tg iter tg2 iter2 : Expr} {scope : Scope}
    (hi : OkE X c it iter) (htg : tgOk it tg = true) (hs : notSet iter = true) (hb : blkB T.N sc scope (ownOf T.N own) = true)
    (hg : agG T (relS scope sc) (fnOf scope) g tg = true) (sub : (G.names g).all (own.contains ·) = true)
    (hi2 : InB X scope fun Y => OkE Y c it2 iter2) (htg2 : tgOk it2 tg2 = true) (hs2 : notSet iter2 = true)
    (hg2 : agG T (relS scope sc) (fnOf scope) g2 tg2 = true) (sub2 : (G.names g2).all (own2.contains ·) = true) (sub3 : own2.all (own.contains ·) = true)
    (he : InB X scope fun Y => OkE Y c elt pelt) :
    OkE X c (.comp2 own own2 elt g it g2 it2) (.ListComp pelt [⟨tg, iter, [], 0⟩, ⟨tg2, iter2, [], 0⟩] scope p) := by
  have hb' : BlkOk X.N X.env.scope scope (ownOf T.N own) := by rw [gd.N, gd.sc]; exact blkB_ok hb
  have hsub : ∀ j ∈ G.names g, j ∈ (ownOf T.N own).map (·.2) := by
    rw [ownOf_snd]; intro j hj
    have := List.all_eq_true.mp sub j hj
    simpa using this
  have hsub2 : ∀ j ∈ G.names g2, j ∈ own2 := by
    intro j hj
    have := List.all_eq_true.mp sub2 j hj
    simpa using this
  have hv : ∀ j ∈ own2, j ∈ (ownOf T.N own).map (·.2) := by
    rw [ownOf_snd]; intro j hj
    have := List.all_eq_true.mp sub3 j hj
    simpa using this
  have hgg : InB X scope fun Y => PG Y tg (gB (kx X) (G.names g) fun d σ => g.bind d σ) := fun s H C cl fp => okG (gd.blk s H scope C cl fp) g tg hg
  have hgg2 : InB X scope fun Y => PG Y tg2 (gB (kx X) (G.names g2) fun d σ => g2.bind d σ) := fun s H C cl fp => okG (gd.blk s H scope C cl fp) g2 tg2 hg2
  have hm := ownOf_snd T.N own
  have hf := f_comp2 (pos := p) gd.calm gd.nd (hi.i tg htg) hb' hv hgg (fun s H C cl fp => (hi2 s H C cl fp).w tg2 htg2) hgg2 (fun s H C cl fp => (he s H C cl fp).v) hs hs2 hsub hsub2
  rw [hm] at hf
  refine OkE.of (m := fun σ => do
    let xs ← (ev c it σ).i
    let ys ← comp2M (fun d => g.bind d (σ.wipe own)) (fun σ' => do
      let zs ← (ev c it2 σ').w
      compM (fun d => g2.bind d (σ'.wipe own2)) (fun _ => pure true) (fun σ2 => (ev c elt σ2).v) zs) xs
    if ys.length ≤ 1000000 then pure (.lst ys) else Cm.fail) (mt := _) (fun σ => rfl) (tV_of_tF hf) (t_truth (tV_of_tF hf) fun _ => rfl) (fun _ => tG_of_tF hf) (fun h => by cases h) fun _ i y py sp h1 h2 h3 => ?_
  refine (ps_setLc2 (te := tV (kx X) fun σ => (ev c elt σ).v) (tt := tT (kx X) fun _ => pure true) (tt1 := tT (kx X) fun _ => pure true) (wi1 := tI (kx X) false fun σ => (ev c it2 σ).w) gd.calm gd.nd h1 h2 h3 (hi.i tg htg) hb' hv hgg (fun s H C cl fp => pts_nil' (X := X.blk s H scope (compEnvC scope cl C X.env) fp)) (fun s H C cl fp => (hi2 s H C cl fp).w tg2 htg2) hgg2 (fun s H C cl fp => pts_nil' (X := X.blk s H scope (compEnvC scope cl C X.env) fp)) (fun s H C cl fp => (he s H C cl fp).v) (folded_no hs) fun env x => folded_no hs2 x).imp fun D σ H h => ?_
  have h2 := tLc2_of hsub hsub2 (gbinds g) (K := kx X) (mi := fun σ => (ev c it σ).i) (mi1 := fun σ => (ev c it2 σ).w) (bind1 := fun d σ => g2.bind d σ) (me := fun σ' => (ev c elt σ').v) (σ := σ) (H := H) (Q := fun x H1 => gName i x σ H1 D.nx) (by rw [hm]; exact h)
  exact h2
theorem ok_dcomp (gd : Gd X c T sc fnb) {own : List Nat} {k v it : E} {g : G} {pk pv tg iter : Expr} {scope : Scope}
    (hi : OkE X c it iter) (htg : tgOk it tg = true) (hs : notSet iter = true) (hb : blkB T.N sc scope (ownOf T.N own) = true)
    (hg : agG T (relS scope sc) (fnOf scope) g tg = true) (sub : (G.names g).all (own.contains ·) = true)
    (hk : InB X scope fun Y => OkE Y c k pk) (he : InB X scope fun Y => OkE Y c v pv) :
    OkE X c (.dcomp own k v g it) (.DictComp pk pv [⟨tg, iter, [], 0⟩] scope p) := by
  have hb' : BlkOk X.N X.env.scope scope (ownOf T.N own) := by rw [gd.N, gd.sc]; exact blkB_ok hb
  have hsub : ∀ j ∈ G.names g, j ∈ (ownOf T.N own).map (·.2) := by
    rw [ownOf_snd]; intro j hj
    have := List.all_eq_true.mp sub j hj
    simpa using this
  have hu : X.A.units + 8 < cLine := by have := gd.hu; omega
  have hgg : InB X scope fun Y => PG Y tg (gB (kx X) (G.names g) fun d σ => g.bind d σ) := fun s H C cl fp => okG (gd.blk s H scope C cl fp) g tg hg
  have hm := ownOf_snd T.N own
  have hf := f_dcomp (pos := p) hu gd.calm gd.nd (hi.i tg htg) hb' hgg (fun s H C cl fp => (hk s H C cl fp).v) (fun s H C cl fp => (he s H C cl fp).v) hs hsub
  rw [hm] at hf
  refine OkE.of (m := fun σ => do
    let xs ← (ev c it σ).i
    if xs.length ≤ 1000000 then do
      let p ← dcompM (fun d => g.bind d (σ.wipe own)) (fun σ' => (ev c k σ').v) (fun σ' => (ev c v σ').v) xs [] []
      pure (.dct p.1 p.2)
    else Cm.fail) (mt := _) (fun σ => rfl) (tV_of_tF hf) (t_truth (tV_of_tF hf) fun _ => rfl) (fun _ => tG_of_tF hf) (fun h => by cases h) fun _ i y py sp h1 h2 h3 => ?_
  refine (x_setDx (tk := tV (kx X) fun σ => (ev c k σ).v) (tv := tV (kx X) fun σ => (ev c v σ).v) (tt := tT (kx X) fun _ => pure true) hu gd.calm gd.nd h1 h2 h3 (hi.i tg htg) hb' hgg (fun s H C cl fp => pts_nil' (X := X.blk s H scope (compEnvC scope cl C X.env) fp)) (fun s H C cl fp => (hk s H C cl fp).v) (fun s H C cl fp => (he s H C cl fp).v) (folded_no hs)).imp fun D σ H h => ?_
  have h2 := tDx_of hsub (X := X) (mi := fun σ => (ev c it σ).i) (bind := fun d σ => g.bind d σ) (mk := fun σ' => (ev c k σ').v) (mv := fun σ' => (ev c v σ').v) (σ := σ) (H := H) (Q := fun x H1 => gName i x σ H1 D.nx) (by rw [hm]; exact h)
  exact h2
theorem evs_eq {c : Cfg} : ∀ {es : List E} {σ : Env} {S S' : CH} {ds : List D}, es.any isStarE = false → evs c es σ S = some (.ok ds S') → ds.length = es.length
  | [], σ, S, S', ds, _, h => by
    obtain ⟨rfl, _⟩ := pure_ok (show (pure [] : Cm (List D)) S = _ from h)
    rfl
  | e :: es, σ, S, S', ds, hs, h => by
    have h : (do let x ← (ev c e σ).s; let xs ← evs c es σ; pure (x ++ xs)) S = some (.ok ds S') := h
    obtain ⟨x, S1, h1, h⟩ := bind_ok h
    obtain ⟨xs, S2, h2, h⟩ := bind_ok h
    obtain ⟨rfl, _⟩ := pure_ok h
    rw [List.any_cons, Bool.or_eq_false_iff] at hs
    have b := evs_eq hs.2 h2
    rw [s_of hs.1 σ] at h1
    obtain ⟨z, S0, _, h1⟩ := mbind_ok h1
    obtain ⟨rfl, _⟩ := mpure_ok h1
    rw [List.length_append, List.length_cons, b]
    simp
    omega
theorem Gd.rg (gd : Gd X c T sc fnb) : X.mg "range" = none := gd.blt _ (by simp)
theorem rng_pi (gd : Gd X c T sc fnb) {tg : Expr} {es : List E} {pes : List Expr} (h : OkEs X c es pes) (hs : es.any isStarE = false) (hn : pes.all nost = true) (hg : glB sc "range" = true) (h3 : pes.length = 1 ∨ pes.length = 2 ∨ pes.length = 3) (own : Bool) :
    PI X tg (.Call (.Name "range" pos) pes [] p) (tI (kx X) own fun σ => do let xs ← evs c es σ; Cm.lift (rngD xs)) := by
  have hl : ∀ (σ : Env) (S : CH) (ds : List D) (S' : CH), evs c es σ S = some (.ok ds S') → ds.length = pes.length := fun σ S ds S' e => by rw [h.len]; exact evs_eq hs e
  match pes, h3 with
  | [a], _ =>
    simp only [List.all_cons, Bool.and_eq_true] at hn
    exact i_rng1 (gd.gl hg) gd.rg h.a hn.1 hl own
  | [a, b], _ =>
    simp only [List.all_cons, Bool.and_eq_true] at hn
    exact i_rng2 (gd.gl hg) gd.rg h.a hn.1 hn.2.1 hl own
  | [a, b, c], _ =>
    rw [List.all_cons, Bool.and_eq_true] at hn
    exact i_rng3 (gd.gl hg) gd.rg h.a hn.1 hn.2 hl own
theorem OkE.walk {e : E} {pe : Expr} {mi mw : Env → Cm (List D)} (hev : ∀ σ, ev c e σ = { Md.bad with i := mi σ, w := mw σ }) (hi : ∀ tg, tgOk e tg = true → PI X tg pe (tI (kx X) true mi)) (hw : ∀ tg, tgOk e tg = true → PI X tg pe (tI (kx X) false mw)) (hf : frE e = false) (hb : isBo pe = false) (hc : isCmpE e = false) : OkE X c e pe where
  v := by
    have : (fun σ => (ev c e σ).v) = fun _ => Cm.fail := funext fun σ => by rw [hev]; rfl
    rw [this]; exact v_bad
  t := by
    have : (fun σ => (ev c e σ).t) = fun _ => Cm.fail := funext fun σ => by rw [hev]; rfl
    rw [this]; exact t_bad
  b := by
    have : (fun σ => (ev c e σ).b) = fun _ => Cm.fail := funext fun σ => by rw [hev]; rfl
    rw [this]; exact b_bad
  i := fun tg h => by
    have : (fun σ => (ev c e σ).i) = mi := funext fun σ => by rw [hev]
    rw [this]; exact hi tg h
  w := fun tg h => by
    have : (fun σ => (ev c e σ).w) = mw := funext fun σ => by rw [hev]
    rw [this]; exact hw tg h
  f := fun h => by rw [hf] at h; cases h
  pw := fun h => by rw [hb] at h; cases h
  as := fun h => by rw [hc] at h; cases h
  s := fun h σ => s_of h σ
theorem ok_rng (gd : Gd X c T sc fnb) {es : List E} {pes : List Expr} (h : OkEs X c es pes) (hs : es.any isStarE = false) (hn : pes.all nost = true) (hg : glB sc "range" = true) (h3 : pes.length = 1 ∨ pes.length = 2 ∨ pes.length = 3) : OkE X c (.rng es) (.Call (.Name "range" pos) pes [] p) :=
  OkE.walk (fun σ => rfl) (fun tg _ => rng_pi gd h hs hn hg h3 true) (fun tg _ => rng_pi gd h hs hn hg h3 false) rfl rfl rfl
theorem ok_zip (gd : Gd X c T sc fnb) {a b : E} {pa pb : Expr} (ha : OkE X c a pa) (hb : OkE X c b pb) (hg : glB sc "zip" = true) (na : nost pa = true) (nb : nost pb = true) : OkE X c (.zip a b) (.Call (.Name "zip" pos) [pa, pb] [] p) :=
  OkE.walk (fun σ => rfl) (fun tg h => by
    cases tg with
    | Tuple es k q => exact i_zipB (gd.gl hg) (gd.blt _ (by simp)) ha.b hb.b na nb
    | _ => cases h) (fun tg h => by
    cases tg with
    | Tuple es k q => exact i_zipV (gd.gl hg) (gd.blt _ (by simp)) ha.v hb.v na nb
    | _ => cases h) rfl rfl rfl
theorem ok_enum (gd : Gd X c T sc fnb) {a : E} {pa : Expr} (ha : OkE X c a pa) (hg : glB sc "enumerate" = true) (na : nost pa = true) : OkE X c (.enum a) (.Call (.Name "enumerate" pos) [pa] [] p) :=
  OkE.walk (fun σ => rfl) (fun tg h => by
    cases tg with
    | Tuple es k q => exact i_enumB (gd.gl hg) (gd.blt _ (by simp)) ha.b na
    | _ => cases h) (fun tg h => by
    cases tg with
    | Tuple es k q => exact i_enumV (gd.gl hg) (gd.blt _ (by simp)) ha.v na
    | _ => cases h) rfl rfl rfl
theorem ok_zip3 (gd : Gd X c T sc fnb) {a b e : E} {pa pb pc : Expr} (ha : OkE X c a pa) (hb : OkE X c b pb) (he : OkE X c e pc) (hg : glB sc "zip" = true) (na : nost pa = true) (nb : nost pb = true) (nc : nost pc = true) : OkE X c (.zip3 a b e) (.Call (.Name "zip" pos) [pa, pb, pc] [] p) :=
  OkE.walk (fun σ => rfl) (fun tg h => by
    cases tg with
    | Tuple es k q => exact i_zip3B (gd.gl hg) (gd.blt _ (by simp)) ha.b hb.b he.b na nb nc
    | _ => cases h) (fun tg h => by
    cases tg with
    | Tuple es k q => exact i_zip3V (gd.gl hg) (gd.blt _ (by simp)) ha.v hb.v he.v na nb nc
    | _ => cases h) rfl rfl rfl
theorem ok_indexOf (gd : Gd X c T sc fnb) {a k : E} {pa pk : Expr} {apos : Pos} (ha : OkE X c a pa) (hk : OkE X c k pk) (h1 : isNameX pa = true) (nk : nost pk = true) (hl : (apos.endLine == p.line) = true) : OkE X c (.indexOf a k) (.Call (.Attribute pa "index" apos) [pk] [] p) :=
  OkE.plain (fun σ => rfl) (v_indexOf (by have := gd.hu; omega) ha.b hk.v (by cases pa <;> first | (cases h1; done) | rfl) nk hl) (fun _ => rfl) (fun h => by cases h) rfl rfl
end
end Cl

set_option Elab.async false
set_option linter.all false
set_option maxRecDepth 100000
/-! SoundS: an expression that passes the check is what the small semantics says. -/
namespace Cl
open PySem PySem.Spec PyProof.Rows L2

theorem new_plain {T : Tab} {sc : Scope} {a : E} {pe : Expr} {env : PySem.Env} (hf : frE a = true) (h : agE T sc a pe = true) : (∀ whole, isTrue pe env whole = (do let v ← whole; standAt pe.pos; holding [v] (truthy v))) ∧ isBo pe = false := by
  cases a <;> first | (cases hf; done) | skip
  all_goals cases pe <;> first | exact ⟨fun _ => rfl, rfl⟩ | (simp only [agE] at h; cases h; done)
theorem star_ne {es : List E} {pes : List Expr} {T : Tab} {sc : Scope} {e : E} {pe : Expr} (hs : isStarE e = true) (h : agE T sc e pe = true) : ∃ a pa p, e = .star a ∧ pe = .Starred pa p ∧ agE T sc a pa = true := by
  cases e <;> first | (cases hs; done) | skip
  cases pe <;> first | (simp only [agE] at h; cases h; done) | skip
  simp only [agE] at h
  exact ⟨_, _, _, rfl, rfl, h⟩

mutual
theorem okE {c : Cfg} {T : Tab} : ∀ (e : E) {X : Cx} {sc : Scope} {fnb : Str → Bool} (gd : Gd X c T sc fnb) (pe : Expr), agE T sc e pe = true → OkE X c e pe
  | .var i, X, sc, fnb, gd, pe, h => by
    cases pe <;> simp only [agE] at h <;> first | (cases h; done) | skip
    exact ok_var gd h
  | .glob x, X, sc, fnb, gd, pe, h => by
    cases pe <;> simp only [agE, Bool.and_eq_true, decide_eq_true_eq] at h <;> first | (cases h; done) | skip
    obtain ⟨⟨⟨rfl, h1⟩, h2⟩, h3⟩ := h
    exact ok_glob gd (by simpa using h1) h2 h3
  | .con d, X, sc, fnb, gd, pe, h => by
    cases pe <;> simp only [agE] at h <;> first | (cases h; done) | skip
    exact ok_con h
  | .bin op a b, X, sc, fnb, gd, pe, h => by
    cases pe <;> simp only [agE, Bool.and_eq_true, decide_eq_true_eq] at h <;> first | (cases h; done) | skip
    obtain ⟨⟨rfl, h1⟩, h2⟩ := h
    exact ok_bin gd (okE a gd _ h1) (okE b gd _ h2)
  | .neg a, X, sc, fnb, gd, pe, h => by
    cases pe <;> first | (simp only [agE] at h; cases h; done) | skip
    rename_i op _ _
    cases op <;> simp only [agE] at h <;> first | (cases h; done) | skip
    exact ok_neg (okE a gd _ h)
  | .not a, X, sc, fnb, gd, pe, h => by
    cases pe <;> first | (simp only [agE] at h; cases h; done) | skip
    rename_i op _ _
    cases op <;> simp only [agE] at h <;> first | (cases h; done) | skip
    exact ok_not (okE a gd _ h)
  | .and a b, X, sc, fnb, gd, pe, h => by
    unfold agE at h
    split at h
    · rw [Bool.and_eq_true] at h
      obtain ⟨h1, h2⟩ := h
      split at h2
      · exact ok_and1 (okE a gd _ h1) (okE b gd _ h2)
      · exact ok_and2 (okE a gd _ h1) (okE b gd _ h2)
    · cases h
  | .or a b, X, sc, fnb, gd, pe, h => by
    unfold agE at h
    split at h
    · rw [Bool.and_eq_true] at h
      obtain ⟨h1, h2⟩ := h
      split at h2
      · exact ok_or1 (okE a gd _ h1) (okE b gd _ h2)
      · exact ok_or2 (okE a gd _ h1) (okE b gd _ h2)
    · cases h
  | .ite t a b, X, sc, fnb, gd, pe, h => by
    unfold agE at h
    split at h
    · simp only [Bool.and_eq_true] at h
      exact ok_ite (okE t gd _ h.1.1) (okE a gd _ h.1.2) (okE b gd _ h.2)
    · cases h
  | .cmp op a b, X, sc, fnb, gd, pe, h => by
    unfold agE at h
    split at h
    · simp only [Bool.and_eq_true, decide_eq_true_eq, Bool.not_eq_true', decide_eq_false_iff_not] at h
      obtain ⟨⟨⟨⟨rfl, h1⟩, h2⟩, h3⟩, h4⟩ := h
      exact ok_cmp gd h1 h2 (okE a gd _ h3) (okE b gd _ h4)
    · cases h
  | .chn op op' a b e, X, sc, fnb, gd, pe, h => by
    unfold agE at h
    split at h
    · simp only [Bool.and_eq_true, decide_eq_true_eq, Bool.not_eq_true', decide_eq_false_iff_not] at h
      obtain ⟨⟨⟨⟨⟨⟨⟨⟨rfl, rfl⟩, h1⟩, h2⟩, h3⟩, h4⟩, ha⟩, hb⟩, hc⟩ := h
      exact ok_chn gd h1 h2 h3 h4 (okE a gd _ ha) (okE b gd _ hb) (okE e gd _ hc)
    · cases h
  | .tup es, X, sc, fnb, gd, pe, h => by
    unfold agE at h
    split at h
    · simp only [Bool.and_eq_true, decide_eq_true_eq] at h
      exact ok_tup (okEs es gd _ h.1) h.2
    · cases h
  | .lst es, X, sc, fnb, gd, pe, h => by
    unfold agE at h
    split at h
    · simp only [Bool.and_eq_true, decide_eq_true_eq] at h
      exact ok_lst (okEs es gd _ h.1) h.2
    · cases h
  | .star a, X, sc, fnb, gd, pe, h => ok_star
  | .dct kvs, X, sc, fnb, gd, pe, h => by
    unfold agE at h
    split at h
    · cases kvs with
      | nil => exact ok_dct
      | cons _ _ => cases h
    · cases h
  | .idx a i, X, sc, fnb, gd, pe, h => by
    unfold agE at h
    split at h
    · simp only [Bool.and_eq_true] at h
      exact ok_idx gd (okE a gd _ h.1.1) (okE i gd _ h.1.2) h.2
    · cases h
  | .slc a lo hi, X, sc, fnb, gd, pe, h => by
    unfold agE at h
    split at h
    · simp only [Bool.and_eq_true] at h
      exact ok_slc gd (okE a gd _ h.1.1) (okO lo gd _ h.1.2) (okO hi gd _ h.2)
    · cases h
  | .rev _, X, sc, fnb, gd, pe, h => by unfold agE at h; cases h
  | .call f es, X, sc, fnb, gd, pe, h => by
    unfold agE at h
    split at h
    · simp only [Bool.and_eq_true, decide_eq_true_eq] at h
      obtain ⟨⟨⟨⟨⟨rfl, h1⟩, h2⟩, h3⟩, h4⟩, h5⟩ := h
      exact ok_call gd (by simpa using h1) h2 h3 (okEs es gd _ h4) h5
    · cases h
  | .bi f es, X, sc, fnb, gd, pe, h => by
    unfold agE at h
    split at h
    · simp only [Bool.and_eq_true, decide_eq_true_eq, Bool.not_eq_true'] at h
      obtain ⟨⟨⟨⟨⟨⟨rfl, h1⟩, h2⟩, h3⟩, h4⟩, h5⟩, h6⟩ := h
      exact ok_bi gd h1 h2 h3 (okEs es gd _ h4) h6
    · cases h
  | .isi a t, X, sc, fnb, gd, pe, h => by
    unfold agE at h
    split at h
    · simp only [Bool.and_eq_true, decide_eq_true_eq] at h
      obtain ⟨⟨⟨⟨⟨rfl, rfl⟩, h1⟩, h2⟩, h3⟩, h4⟩ := h
      exact ok_isi gd (okE a gd _ h3) h1 h2 h4
    · cases h
  | .get2 a k d, X, sc, fnb, gd, pe, h => by
    unfold agE at h
    split at h
    · simp only [Bool.and_eq_true, decide_eq_true_eq] at h
      obtain ⟨⟨⟨⟨⟨⟨⟨rfl, h1⟩, h2⟩, h3⟩, h4⟩, h5⟩, h6⟩, h7⟩ := h
      exact ok_get2 gd (okE a gd _ h2) (okE k gd _ h3) (okE d gd _ h4) h1 h5 h6 h7
    · cases h
  | .comp own elt g it ifs, X, sc, fnb, gd, pe, h => by
    unfold agE at h
    split at h
    · simp only [Bool.and_eq_true, decide_eq_true_eq, Bool.not_eq_true'] at h
      obtain ⟨⟨⟨⟨⟨⟨⟨⟨⟨h1, h2⟩, h3⟩, h4⟩, h5⟩, h6⟩, h7⟩, h8⟩, h9⟩, h10⟩ := h
      exact ok_comp gd (okE it gd _ h1) h2 h3 h4 h5 h6 (fun s H C cl fp => okE elt (gd.blk s H _ C cl fp) _ h7) fun s H C cl fp => okT ifs (gd.blk s H _ C cl fp) _ h8 h9
    · cases h
  | .comp2 own own2 elt g it g2 it2, X, sc, fnb, gd, pe, h => by
    unfold agE at h
    split at h
    · simp only [Bool.and_eq_true] at h
      obtain ⟨⟨⟨⟨⟨⟨⟨⟨⟨⟨⟨⟨h1, h2⟩, h3⟩, h4⟩, h5⟩, h6⟩, h7⟩, h8⟩, h9⟩, h10⟩, h11⟩, h12⟩, h13⟩ := h
      exact ok_comp2 gd (okE it gd _ h1) h2 h3 h4 h5 h6 (fun s H C cl fp => okE it2 (gd.blk s H _ C cl fp) _ h7) h8 h9 h10 h11 h12 fun s H C cl fp => okE elt (gd.blk s H _ C cl fp) _ h13
    · cases h
  | .dcomp own k v g it, X, sc, fnb, gd, pe, h => by
    unfold agE at h
    split at h
    · simp only [Bool.and_eq_true] at h
      obtain ⟨⟨⟨⟨⟨⟨⟨h1, h2⟩, h3⟩, h4⟩, h5⟩, h6⟩, h7⟩, h8⟩ := h
      exact ok_dcomp gd (okE it gd _ h1) h2 h3 h4 h5 h6 (fun s H C cl fp => okE k (gd.blk s H _ C cl fp) _ h7) fun s H C cl fp => okE v (gd.blk s H _ C cl fp) _ h8
    · cases h
  | .rng es, X, sc, fnb, gd, pe, h => by
    unfold agE at h
    split at h
    · simp only [Bool.and_eq_true, decide_eq_true_eq, Bool.not_eq_true', Bool.or_eq_true] at h
      obtain ⟨⟨⟨⟨⟨rfl, h1⟩, h2⟩, h3⟩, h4⟩, h5⟩ := h
      exact ok_rng gd (okEs es gd _ h2) h4 h3 h1 (or_assoc.mp h5)
    · cases h
  | .zip a b, X, sc, fnb, gd, pe, h => by
    unfold agE at h
    split at h
    · simp only [Bool.and_eq_true, decide_eq_true_eq] at h
      obtain ⟨⟨⟨⟨⟨rfl, h1⟩, h2⟩, h3⟩, h4⟩, h5⟩ := h
      exact ok_zip gd (okE a gd _ h2) (okE b gd _ h3) h1 h4 h5
    · cases h
  | .enum a, X, sc, fnb, gd, pe, h => by
    unfold agE at h
    split at h
    · simp only [Bool.and_eq_true, decide_eq_true_eq] at h
      obtain ⟨⟨⟨rfl, h1⟩, h2⟩, h3⟩ := h
      exact ok_enum gd (okE a gd _ h2) h1 h3
    · cases h
  | .dzip a b, X, sc, fnb, gd, pe, h => by
    unfold agE at h
    split at h
    · simp only [Bool.and_eq_true, decide_eq_true_eq] at h
      obtain ⟨⟨⟨⟨⟨⟨⟨rfl, rfl⟩, h1⟩, h2⟩, h3⟩, h4⟩, h5⟩, h6⟩ := h
      exact ok_dzip gd (okE a gd _ h3) (okE b gd _ h4) h1 h2 h5 h6
    · cases h
  | .new a, X, sc, fnb, gd, pe, h => by
    unfold agE at h
    rw [Bool.and_eq_true] at h
    exact ok_new (okE a gd pe h.2) h.1 (new_plain h.1 h.2).1 (new_plain (env := X.env) h.1 h.2).2
  | .indexOf a e, X, sc, fnb, gd, pe, h => by
    unfold agE at h
    split at h
    · simp only [Bool.and_eq_true, decide_eq_true_eq] at h
      obtain ⟨⟨⟨⟨⟨rfl, h1⟩, h2⟩, h3⟩, h4⟩, h5⟩ := h
      exact ok_indexOf gd (okE a gd _ h2) (okE e gd _ h3) h1 h4 h5
    · cases h
  | .zip3 a b e, X, sc, fnb, gd, pe, h => by
    unfold agE at h
    split at h
    · simp only [Bool.and_eq_true, decide_eq_true_eq] at h
      obtain ⟨⟨⟨⟨⟨⟨⟨rfl, h1⟩, h2⟩, h3⟩, h4⟩, h5⟩, h6⟩, h7⟩ := h
      exact ok_zip3 gd (okE a gd _ h2) (okE b gd _ h3) (okE e gd _ h4) h1 h5 h6 h7
    · cases h
theorem okEs {c : Cfg} {T : Tab} : ∀ (es : List E) {X : Cx} {sc : Scope} {fnb : Str → Bool} (gd : Gd X c T sc fnb) (pes : List Expr), agEs T sc es pes = true → OkEs X c es pes
  | [], X, sc, fnb, gd, pes, h => by
    cases pes with
    | nil => exact oks_nil
    | cons _ _ => unfold agEs at h; cases h
  | e :: es, X, sc, fnb, gd, pes, h => by
    cases pes with
    | nil => unfold agEs at h; cases h
    | cons pe pes =>
      unfold agEs at h
      simp only [Bool.and_eq_true, Bool.or_eq_true] at h
      obtain ⟨⟨h1, h3⟩, h2⟩ := h
      have hr := okEs es gd _ h2
      cases hs : isStarE e with
      | true =>
        obtain ⟨a, pa, p, rfl, rfl, ha⟩ := okStar e gd pe hs h1
        exact oks_star ha hr
      | false => exact oks_cons (okE e gd _ h1) hs (h3.resolve_left (by rw [hs]; intro z; cases z)) hr
theorem okStar {c : Cfg} {T : Tab} : ∀ (e : E) {X : Cx} {sc : Scope} {fnb : Str → Bool} (gd : Gd X c T sc fnb) (pe : Expr), isStarE e = true → agE T sc e pe = true → ∃ a pa p, e = .star a ∧ pe = .Starred pa p ∧ OkE X c a pa
  | .star a, X, sc, fnb, gd, pe, hs, h => by
    cases pe <;> first | (simp only [agE] at h; cases h; done) | skip
    simp only [agE] at h
    exact ⟨a, _, _, rfl, rfl, okE a gd _ h⟩
  | .var _, _, _, _, _, _, hs, _ => by cases hs
  | .glob _, _, _, _, _, _, hs, _ => by cases hs
  | .con _, _, _, _, _, _, hs, _ => by cases hs
  | .bin _ _ _, _, _, _, _, _, hs, _ => by cases hs
  | .neg _, _, _, _, _, _, hs, _ => by cases hs
  | .not _, _, _, _, _, _, hs, _ => by cases hs
  | .and _ _, _, _, _, _, _, hs, _ => by cases hs
  | .or _ _, _, _, _, _, _, hs, _ => by cases hs
  | .ite _ _ _, _, _, _, _, _, hs, _ => by cases hs
  | .cmp _ _ _, _, _, _, _, _, hs, _ => by cases hs
  | .chn _ _ _ _ _, _, _, _, _, _, hs, _ => by cases hs
  | .tup _, _, _, _, _, _, hs, _ => by cases hs
  | .lst _, _, _, _, _, _, hs, _ => by cases hs
  | .dct _, _, _, _, _, _, hs, _ => by cases hs
  | .idx _ _, _, _, _, _, _, hs, _ => by cases hs
  | .slc _ _ _, _, _, _, _, _, hs, _ => by cases hs
  | .rev _, _, _, _, _, _, hs, _ => by cases hs
  | .call _ _, _, _, _, _, _, hs, _ => by cases hs
  | .bi _ _, _, _, _, _, _, hs, _ => by cases hs
  | .isi _ _, _, _, _, _, _, hs, _ => by cases hs
  | .get2 _ _ _, _, _, _, _, _, hs, _ => by cases hs
  | .comp _ _ _ _ _, _, _, _, _, _, hs, _ => by cases hs
  | .comp2 _ _ _ _ _ _ _, _, _, _, _, _, hs, _ => by cases hs
  | .dcomp _ _ _ _ _, _, _, _, _, _, hs, _ => by cases hs
  | .rng _, _, _, _, _, _, hs, _ => by cases hs
  | .zip _ _, _, _, _, _, _, hs, _ => by cases hs
  | .zip3 _ _ _, _, _, _, _, _, hs, _ => by cases hs
  | .enum _, _, _, _, _, _, hs, _ => by cases hs
  | .dzip _ _, _, _, _, _, _, hs, _ => by cases hs
  | .new _, _, _, _, _, _, hs, _ => by cases hs
  | .indexOf _ _, _, _, _, _, _, hs, _ => by cases hs
theorem okT {c : Cfg} {T : Tab} : ∀ (es : List E) {X : Cx} {sc : Scope} {fnb : Str → Bool} (gd : Gd X c T sc fnb) (pes : List Expr), agEs T sc es pes = true → es.length ≤ 1 → PTs X pes (tT (kx X) fun σ => evIfs c es σ)
  | [], X, sc, fnb, gd, pes, h, hl => by
    cases pes with
    | nil => exact pts_nil'
    | cons _ _ => unfold agEs at h; cases h
  | [e], X, sc, fnb, gd, pes, h, hl => by
    cases pes with
    | nil => unfold agEs at h; cases h
    | cons pe pes =>
      unfold agEs at h
      simp only [Bool.and_eq_true] at h
      cases pes with
      | nil => exact pts_one' (okE e gd _ h.1.1).t
      | cons _ _ => unfold agEs at h; cases h.2
  | _ :: _ :: _, X, sc, fnb, gd, pes, h, hl => by simp at hl
theorem okO {c : Cfg} {T : Tab} : ∀ (o : Option E) {X : Cx} {sc : Scope} {fnb : Str → Bool} (gd : Gd X c T sc fnb) (po : Option Expr), agO T sc o po = true → PO X po (tPt (kx X) fun σ => evO c o σ)
  | none, X, sc, fnb, gd, po, h => by
    cases po with
    | none => exact o_none
    | some _ => unfold agO at h; cases h
  | some e, X, sc, fnb, gd, po, h => by
    cases po with
    | none => unfold agO at h; cases h
    | some pe => unfold agO at h; exact o_some (okE e gd _ h).v
end
end Cl

set_option Elab.async false
set_option linter.all false
set_option maxRecDepth 100000
/-! SoundU: the check of statements, and what it gives. -/
namespace Cl
open PySem PySem.Spec PyProof.Rows L2

def swB (sc : Scope) (x : Str) (p : Pos) (pe : Expr) : Bool := match pe with
  | .ListComp _ _ s q => (sc.names.lookup x == some .local && p.line == q.line) && !(s.names.any fun (n, k) => n == x && (k == .local || k == .cell))
  | .DictComp _ _ _ s q => (sc.names.lookup x == some .local && p.line == q.line) && !(s.names.any fun (n, k) => n == x && (k == .local || k == .cell))
  | _ => false
def noSC : Expr → Bool
  | .SetComp .. => false
  | _ => true
def noCmp : Expr → Bool
  | .SetComp .. => false
  | .ListComp .. => false
  | .DictComp .. => false
  | _ => true
def swS (sc : Scope) (ts vs : List Expr) : Option (Option (List Str)) :=
  if !(ts.length == 2 || ts.length == 3) || vs.length != ts.length then some none
  else if vs.any (fun | .Starred .. => true | _ => false) then some none
  else
    let line := (ts.head?.map (·.pos.line)).getD 0
    let names := ts.filterMap fun
      | .Name id pos => if sc.names.lookup id == some .local && pos.line == line then some id else none
      | _ => none
    if names.length != ts.length || names.eraseDups.length != names.length then some none
    else if vs.all (foldedForSure 8) then some none
    else if vs.all (constantsAlone 8) then none
    else some (some names)
theorem bk_ok {env : PySem.Env} {sc : Scope} (h : env.scope = sc) (hk : sc.kind = .function) : env.blockKind = .function := by unfold Env.blockKind; rw [h, hk]; rfl
theorem swB_ok {env : PySem.Env} {sc : Scope} {x : Str} {p : Pos} {pe : Expr} {l : Nat} (h : env.scope = sc) (hk : sc.kind = .function) (hs : noSC pe = true) : swapsWith pe (some (.Name x p)) l env = pure (swB sc x p pe) := by
  have hb := bk_ok h hk
  have ky : env.kindOf x = sc.names.lookup x := by rw [← h]; rfl
  cases pe <;> first | rfl | (cases hs; done) | skip
  · unfold swapsWith swB
    simp only [hb, ky, Expr.pos]
    rfl
  · unfold swapsWith swB
    simp only [hb, ky, Expr.pos]
    rfl
theorem swN_ok {env : PySem.Env} {pe : Expr} {l : Nat} (h : noCmp pe = true) : swapsWith pe none l env = pure false := by
  cases pe <;> first | rfl | (cases h; done)
theorem swS_ok {env : PySem.Env} {sc : Scope} {ts vs : List Expr} {k k2 : Nat} {p p2 : Pos} {o : Option (List Str)} (h : env.scope = sc) (hk : sc.kind = .function) (hs : swS sc ts vs = some o) : swappedStores [.Tuple ts k p] (.Tuple vs k2 p2) env = pure o := by
  have hb := bk_ok h hk
  have ky : ∀ x, env.kindOf x = sc.names.lookup x := fun x => by rw [← h]; rfl
  unfold swS at hs
  unfold swappedStores
  simp only [hb, ky]
  by_cases c1 : (!(ts.length == 2 || ts.length == 3) || vs.length != ts.length) = true
  · rw [if_pos c1] at hs; cases hs
    simp only [c1]; rfl
  rw [if_neg c1] at hs
  rw [Bool.not_eq_true] at c1
  simp only [c1]
  have fF : ¬ ((false || ScopeKind.function != ScopeKind.function) = true) := by decide
  refine (if_neg fF).trans ?_
  split at hs
  · cases hs
    exact if_pos ‹_›
  refine (if_neg ‹_›).trans ?_
  dsimp only at hs
  split at hs
  · cases hs
    exact if_pos ‹_›
  refine (if_neg ‹_›).trans ?_
  split at hs
  · cases hs
    exact if_pos ‹_›
  refine (if_neg ‹_›).trans ?_
  split at hs
  · cases hs
  cases hs
  exact if_neg ‹_›

/-- may be stored by this target as it stands -/
def plainT (sc : Scope) (ts : List Expr) (pe : Expr) : Bool := match pe with
  | .Tuple vs _ _ => decide (swS sc ts vs = some none)
  | .SetComp .. => false
  | _ => true
def tgtB (T : Tab) (sc : Scope) (fnb : Str → Bool) (i : Nat) (x : Str) : Bool := decide (T.N[i]? = some x) && locB sc x && (fnb x || isLoc sc x)
def kFn (sc : Scope) : Bool := decide (sc.kind = .function)
mutual
def agS (T : Tab) (sc : Scope) (fnb : Str → Bool) : Sm → Stmt → Bool
  | .asg (.nm i) e, st => match st with
    | .Assign [.Name x p] pe _ => kFn sc && tgtB T sc fnb i x && agE T sc e pe && noSC pe && (!swB sc x p pe || (isCmpE e && isLoc sc x))
    | _ => false
  | .asg (.tup gs) e, st => match st with
    | .Assign [.Tuple ts k p] pe _ => kFn sc && agG T sc fnb (.tup gs) (.Tuple ts k p) && agE T sc e pe && plainT sc ts pe
    | _ => false
  | .own i e, st => match st with
    | .Assign [.Name x p] pe _ => kFn sc && tgtB T sc fnb i x && agE T sc e pe && frE e && noSC pe && (!swB sc x p pe || (isCmpE e && isLoc sc x))
    | _ => false
  | .par i oi a j oj b, st => match st with
    | .Assign [.Tuple [.Name x px, .Name y py] _ _] (.Tuple [pa, pb] _ _) _ => kFn sc && decide (T.N[i]? = some x) && decide (T.N[j]? = some y) && !decide (i = j) && isLoc sc x && isLoc sc y && agE T sc a pa && agE T sc b pb && (!oi || frE a) && (!oj || frE b) && nost pa && nost pb &&
      decide (swS sc [.Name x px, .Name y py] [pa, pb] = some (some [x, y]))
    | _ => false
  | .set o k e, st => match st with
    | .Assign [.Subscript (.Name x _) pk _] pe _ => (match o with | .var i => varB T sc i x | _ => false) && agE T sc e pe && agE T sc k pk && notSl pk
    | _ => false
  | .aug i op e, st => match st with
    | .AugAssign (.Name x _) op' pe _ => decide (op = op') && tgtB T sc fnb i x && agE T sc e pe
    | _ => false
  | .augS o k op e, st => match st with
    | .AugAssign (.Subscript (.Name x _) pk _) op' pe _ => decide (op = op') && (match o with | .var i => varB T sc i x | _ => false) && agE T sc e pe && agE T sc k pk && notSl pk
    | _ => false
  | .app i e, st => match st with
    | .Expr (.Call (.Attribute (.Name x _) m apos) [pe] [] cpos) _ => decide (m = "append") && varB T sc i x && agE T sc e pe && nost pe && (apos.endLine == cpos.line)
    | _ => false
  | .ext i e, st => match st with
    | .Expr (.Call (.Attribute (.Name x _) m apos) [pe] [] cpos) _ => decide (m = "extend") && varB T sc i x && agE T sc e pe && nost pe && (apos.endLine == cpos.line)
    | _ => false
  | .ins _ _ _, _ => false
  | .popA _ _ _, _ => false
  | .ite t a b, st => match st with
    | .If pt pa pb _ => agE T sc t pt && agSs T sc fnb a pa && agSs T sc fnb b pb
    | _ => false
  | .whl t b, st => match st with
    | .While pt pb [] _ => agE T sc t pt && agSs T sc fnb b pb
    | _ => false
  | .for_ g it b, st => match st with
    | .For tg iter pb [] _ => agG T sc fnb g tg && agE T sc it iter && tgOk it tg && notSet iter && agSs T sc fnb b pb
    | _ => false
  | .ret e, st => match st with
    | .Return (some pe) _ => agE T sc e pe
    | _ => false
  | .retN, st => match st with
    | .Return none _ => true
    | _ => false
  | .pass, st => match st with
    | .Pass _ => true
    | .Expr (.Constant (.str _) _ _) _ => true
    | _ => false
  | .brk, st => match st with
    | .Break _ => true
    | _ => false
  | .cnt, st => match st with
    | .Continue _ => true
    | _ => false
  | .exp e, st => match st with
    | .Expr pe _ => agE T sc e pe && noCmp pe
    | _ => false
  | .rais, _ => true
  | .frz _, _ => false
  | .kil _, _ => false
def agSs (T : Tab) (sc : Scope) (fnb : Str → Bool) : List Sm → List Stmt → Bool
  | [], sts => match sts with
    | [] => true
    | _ => false
  | .frz _ :: ss, sts => agSs T sc fnb ss sts
  | .kil _ :: ss, sts => agSs T sc fnb ss sts
  | s :: ss, sts => match sts with
    | st :: sts => agS T sc fnb s st && agSs T sc fnb ss sts
    | [] => false
end
section
variable {X : Cx} {c : Cfg} {T : Tab} {sc : Scope} {fnb : Str → Bool} {K : Fg} {m : Env → Cm D}
theorem gN_of {i : Nat} {v : V} {σ : L2.St} {H : Hp} {Q : L2.St → Hp → Prop} (h : gB K [i] (fun d σ => (G.nm i).bind d σ) v σ H Q) : gName i v σ H Q := by
  obtain ⟨F, H0, ρ, M, S, σd, d, σd', r, rv, e, q⟩ := h
  simp only [G.bind] at e
  cases e
  exact q _ (r.put rv) (by rw [List.length_set]) fun j hj => by rw [List.getElem?_set_ne (fun z => hj (by simp [z]))]
theorem Gd.tgt (gd : Gd X c T sc fnb) {i : Nat} {x : Str} (h : tgtB T sc fnb i x = true) : X.N[i]? = some x ∧ Loc X.env.scope x ∧ (X.fn x = true ∨ X.env.scope.names.lookup x = some .local) := by
  unfold tgtB at h
  simp only [Bool.and_eq_true, decide_eq_true_eq, Bool.or_eq_true] at h
  exact ⟨by rw [gd.N]; exact h.1.1, gd.loc h.1.2, h.2.imp (fun z => by rw [gd.fn]; exact z) fun z => gd.lc z⟩
/-- by a target name, however stored -/
theorem set_as (gd : Gd X c T sc fnb) {i : Nat} {x : Str} {p pos : Pos} {e : E} {pe : Expr} {te : TE} (hk : kFn sc = true) (ht : tgtB T sc fnb i x = true) (ok : OkE X c e pe) (hs : noSC pe = true) (hw : swB sc x p pe = false ∨ (isCmpE e = true ∧ isLoc sc x = true))
    (he : PE X pe te) (hf : ∀ σ H Q, te σ H Q → tF (kx X) (fun σ => (ev c e σ).v) σ H Q) : PS X (.Assign [.Name x p] pe pos) (tAsg te (gName i)) := by
  obtain ⟨h1, h2, h3⟩ := gd.tgt ht
  have hsw := swB_ok (l := pos.line) (p := p) (x := x) gd.sc (of_decide_eq_true hk) hs
  cases hb : swB sc x p pe with
  | false => exact ps_set gd.nd h1 h2 he (by rw [hsw, hb]) h3
  | true =>
    rcases hw with hw | ⟨hc, hl⟩
    · rw [hb] at hw; cases hw
    · exact (ok.as hc i x p pos h1 (gd.lc hl) (by rw [hsw, hb])).imp fun D σ H h => hf σ H _ h
theorem sw_tup {ts : List Expr} {k : Nat} {p : Pos} {e : Expr} {l : Nat} {env : PySem.Env} : swapsWithSole [.Tuple ts k p] e l env = pure false := by cases e <;> rfl
theorem plainT_ok (gd : Gd X c T sc fnb) {ts : List Expr} {k : Nat} {p : Pos} {pe : Expr} (hk : kFn sc = true) (h : plainT sc ts pe = true) : swappedStores [.Tuple ts k p] pe X.env = pure none := by
  cases pe <;> first | rfl | (cases h; done) | skip
  exact swS_ok gd.sc (of_decide_eq_true hk) (of_decide_eq_true h)
theorem rfg_of {e : E} {pe : Expr} {o : Bool} (ok : OkE X c e pe) (h : o = false ∨ frE e = true) : PE X pe (tW (kx X) (RFG o (kx X)) fun σ => (ev c e σ).v) := by
  cases o with
  | false => exact ok.v
  | true => exact ok.f (h.resolve_left fun z => by cases z)
mutual
theorem okS (gd : Gd X c T sc fnb) : ∀ (s : Sm) (st : Stmt), agS T sc fnb s st = true → PS X st (tSt (kx X) fun σ => ex c s σ)
  | .asg (.nm i) e, st, h => by
    unfold agS at h
    split at h
    · simp only [Bool.and_eq_true, Bool.or_eq_true, Bool.not_eq_true'] at h
      obtain ⟨⟨⟨⟨h1, h2⟩, h3⟩, h4⟩, h5⟩ := h
      have ok := okE e gd _ h3
      exact s_asgV ((set_as gd h1 h2 ok h4 h5 ok.v fun σ H Q => tV_imp).imp fun D σ H h => by
        obtain ⟨F, H0, ρ, M, S, σd, d, S', r, e, q⟩ := h
        exact ⟨F, H0, ρ, M, S, σd, d, S', r, e, fun v ρ' M' H' r' x f => gN_of (q v ρ' M' H' r' x f)⟩)
    · cases h
  | .asg (.tup gs) e, st, h => by
    unfold agS at h
    split at h
    · simp only [Bool.and_eq_true] at h
      obtain ⟨⟨⟨h1, h2⟩, h3⟩, h4⟩ := h
      exact s_asgV (ps_asg (okE e gd _ h3).v (okG gd _ _ h2) sw_tup (plainT_ok gd h1 h4) rfl)
    · cases h
  | .own i e, st, h => by
    unfold agS at h
    split at h
    · simp only [Bool.and_eq_true, Bool.or_eq_true, Bool.not_eq_true'] at h
      obtain ⟨⟨⟨⟨⟨h1, h2⟩, h3⟩, h4⟩, h5⟩, h6⟩ := h
      have ok := okE e gd _ h3
      exact s_own (set_as gd h1 h2 ok h5 h6 (ok.f h4) fun σ H Q ⟨F, H0, ρ, M, S, σd, d, S', r, e, q⟩ => ⟨F, H0, ρ, M, S, σd, d, S', r, e, fun v ρ' M' H' r' x f => q v ρ' M' H' r' x fun _ => f⟩)
    · cases h
  | .par i oi a j oj b, st, h => by
    unfold agS at h
    split at h
    · simp only [Bool.and_eq_true, Bool.or_eq_true, Bool.not_eq_true', decide_eq_true_eq, decide_eq_false_iff_not] at h
      obtain ⟨⟨⟨⟨⟨⟨⟨⟨⟨⟨⟨⟨h1, h2⟩, h3⟩, h4⟩, h5⟩, h6⟩, h7⟩, h8⟩, h9⟩, h10⟩, h11⟩, h12⟩, h13⟩ := h
      exact s_par gd.calm gd.nd (by rw [gd.N]; exact h2) (by rw [gd.N]; exact h3) h4 (gd.lc h5) (gd.lc h6) (rfg_of (okE a gd _ h7) h9) (rfg_of (okE b gd _ h8) h10) h11 h12 (swS_ok gd.sc (of_decide_eq_true h1) h13)
    · cases h
  | .set o k e, st, h => by
    unfold agS at h
    split at h
    · simp only [Bool.and_eq_true] at h
      obtain ⟨⟨⟨h1, h2⟩, h3⟩, h4⟩ := h
      split at h1
      · obtain ⟨v1, v2, v3, v4⟩ := gd.var h1
        exact s_set (by have := gd.hu; omega) v1 v2 v3 v4 (okE e gd _ h2).v (okE k gd _ h3).v h4
      · cases h1
    · cases h
  | .aug i op e, st, h => by
    unfold agS at h
    split at h
    · simp only [Bool.and_eq_true, decide_eq_true_eq] at h
      obtain ⟨⟨rfl, h2⟩, h3⟩ := h
      obtain ⟨t1, t2, t3⟩ := gd.tgt h2
      exact s_aug gd.nd t1 t2 t3 (okE e gd _ h3).v
    · cases h
  | .augS o k op e, st, h => by
    unfold agS at h
    split at h
    · simp only [Bool.and_eq_true, decide_eq_true_eq] at h
      obtain ⟨⟨⟨⟨rfl, h1⟩, h2⟩, h3⟩, h4⟩ := h
      split at h1
      · obtain ⟨v1, v2, v3, v4⟩ := gd.var h1
        exact s_augS (by have := gd.hu; omega) v1 v2 v3 v4 (okE k gd _ h3).v (okE e gd _ h2).v h4
      · cases h1
    · cases h
  | .app i e, st, h => by
    unfold agS at h
    split at h
    · simp only [Bool.and_eq_true, decide_eq_true_eq] at h
      obtain ⟨⟨⟨⟨rfl, h1⟩, h2⟩, h3⟩, h4⟩ := h
      obtain ⟨v1, v2, v3, v4⟩ := gd.var h1
      exact s_app v1 v2 v3 v4 (okE e gd _ h2).v h3 h4
    · cases h
  | .ext i e, st, h => by
    unfold agS at h
    split at h
    · simp only [Bool.and_eq_true, decide_eq_true_eq] at h
      obtain ⟨⟨⟨⟨rfl, h1⟩, h2⟩, h3⟩, h4⟩ := h
      obtain ⟨v1, v2, v3, v4⟩ := gd.var h1
      exact s_ext v1 v2 v3 v4 (okE e gd _ h2).v h3 h4
    · cases h
  | .ins _ _ _, st, h => by unfold agS at h; cases h
  | .popA _ _ _, st, h => by unfold agS at h; cases h
  | .ite t a b, st, h => by
    unfold agS at h
    split at h
    · simp only [Bool.and_eq_true] at h
      exact s_if (okE t gd _ h.1.1).t (okSs gd a _ h.1.2) (okSs gd b _ h.2)
    · cases h
  | .whl t b, st, h => by
    unfold agS at h
    split at h
    · simp only [Bool.and_eq_true] at h
      exact s_whl gd.xe (okE t gd _ h.1).t (okSs gd b _ h.2)
    · cases h
  | .for_ g it b, st, h => by
    unfold agS at h
    split at h
    · simp only [Bool.and_eq_true] at h
      obtain ⟨⟨⟨⟨h1, h2⟩, h3⟩, h4⟩, h5⟩ := h
      exact s_for gd.xe gd.calm ((okE it gd _ h2).w _ h3) (okG gd g _ h1) (okSs gd b _ h5) h4
    · cases h
  | .ret e, st, h => by
    unfold agS at h
    split at h
    · exact s_ret (okE e gd _ h).v
    · cases h
  | .retN, st, h => by
    unfold agS at h
    split at h
    · exact s_retN
    · cases h
  | .pass, st, h => by
    unfold agS at h
    split at h
    · exact s_pass
    · exact s_doc
    · cases h
  | .brk, st, h => by
    unfold agS at h
    split at h
    · exact s_brk
    · cases h
  | .cnt, st, h => by
    unfold agS at h
    split at h
    · exact s_cnt
    · cases h
  | .exp e, st, h => by
    unfold agS at h
    split at h
    · rw [Bool.and_eq_true] at h
      exact s_exp (okE e gd _ h.1).v (swN_ok h.2)
    · cases h
  | .rais, st, h => s_never
  | .frz _, st, h => by unfold agS at h; cases h
  | .kil _, st, h => by unfold agS at h; cases h
theorem okSs (gd : Gd X c T sc fnb) : ∀ (ss : List Sm) (sts : List Stmt), agSs T sc fnb ss sts = true → PSs X sts (tSt (kx X) fun σ => exs c ss σ)
  | [], sts, h => by
    cases sts with
    | nil => exact s_nil
    | cons _ _ => unfold agSs at h; cases h
  | s :: ss, sts, h => by
    by_cases hz : ∃ i, s = .frz i
    · obtain ⟨i, rfl⟩ := hz
      have h : agSs T sc fnb ss sts = true := by simpa only [agSs] using h
      exact s_frz (i := i) (okSs gd ss sts h)
    · by_cases hk : ∃ is, s = .kil is
      · obtain ⟨is, rfl⟩ := hk
        have h : agSs T sc fnb ss sts = true := by simpa only [agSs] using h
        exact s_kil (is := is) (okSs gd ss sts h)
      cases sts with
      | nil => exfalso; cases s <;> first | exact hz ⟨_, rfl⟩ | exact hk ⟨_, rfl⟩ | (simp only [agSs] at h; cases h; done)
      | cons st sts =>
        have h : (agS T sc fnb s st && agSs T sc fnb ss sts) = true := by
          cases s <;> first | exact absurd ⟨_, rfl⟩ hz | exact absurd ⟨_, rfl⟩ hk | (simp only [agSs] at h; exact h)
        rw [Bool.and_eq_true] at h
        exact s_cons (okS gd s st h.1) (okSs gd ss sts h.2)
end
end
end Cl

set_option Elab.async false
set_option linter.all false
set_option maxRecDepth 100000
/-! SoundV: a def from its body. -/
namespace Cl
open PySem PySem.Spec PyProof.Rows L2

/-- what a module gives to the bodies of its defs, calls to depth k -/
structure Mod (P : Program) (w : World) (K : PySem.W.Frag) (mg : Str → Option Value) (base : Heap) (k : Nat) (c : Cfg) (T : Tab) : Prop where
  blt : ∀ x : Str, x ∈ (["len", "abs", "tuple", "list", "sorted", "all", "any", "sum", "int", "str", "repr", "max", "min", "dict", "bool", "range", "zip", "enumerate", "isinstance"] : List Str) → mg x = none
  fns : ∀ f, f ∈ T.fns → ∃ fa fd ps, FnG P w K mg base k fa fd ps (c.call f) ∧ mg f = some (.ref fa) ∧ PySem.W.keepIn K (.ref fa) = true ∧ Binds K fd ps []
  gls : ∀ x, x ∈ T.gls → ∀ d, c.glob x = some d → ∃ v u, mg x = some u ∧ RelV v u ∧ ∀ M ρ H, RV ⟨K, w⟩ M ρ H d v

/-- the names at the entry -/
def entry (n : Nat) (ds : List D) : Env := ds.map (fun d => some (.v d)) ++ List.replicate (n - ds.length) none
theorem entry_at {n : Nat} {ds : List D} {i : Nat} {s : Sl} (h : (entry n ds).at i = some s) : ∃ d, ds[i]? = some d ∧ s = .v d := by
  rw [Env.at_get] at h
  unfold entry at h
  by_cases hi : i < ds.length
  · rw [List.getElem?_append_left (by simpa using hi), List.getElem?_map] at h
    cases e : ds[i]? with
    | none => rw [e] at h; cases h
    | some d => rw [e] at h; cases h; exact ⟨d, rfl, rfl⟩
  · rw [List.getElem?_append_right (by simpa using hi), List.getElem?_replicate] at h
    split at h <;> cases h
theorem rep_start {K : Fg} {ρ : List Addr} {M : Addr → Prop} {S : CH} {H : Hp} {ds : List D} {vs : List V} {N : List Str} (r : RepH K ρ M S H) (rs : RVs K M ρ H ds vs) : Rep K (fun a => M a ∧ a ∉ ρ) H ρ M S (entry N.length ds) (L2.start N vs) H where
  len := r.len
  nd := r.nd
  mm := r.mm
  ob := r.ob
  tr := r.tr
  ln := by unfold entry L2.start; rw [List.length_append, List.length_append, List.length_map, List.length_map, List.length_replicate, List.length_replicate, rs.length]
  sl := fun i s hs => by
    obtain ⟨d, e, rfl⟩ := entry_at hs
    obtain ⟨v, hv, rv⟩ := rs.get e
    refine .inl ⟨rfl, v, ?_, rv⟩
    have hi : i < vs.length := (List.getElem?_eq_some_iff.mp hv).1
    unfold slotV L2.start
    rw [List.getElem?_append_left (by simpa using hi), List.getElem?_map, hv]
    rfl
  ow := fun i j s t a hs _ io => by
    obtain ⟨d, e, rfl⟩ := entry_at hs
    cases io
  fo := fun a fa => ⟨fa.1, fa.2, rfl⟩
/-- a call by the body's statements -/
noncomputable def bodyM (c : Cfg) (fn : Fn) (args : List D) : Cm D :=
  if args.length = fn.params then do
    match ← exs c fn.body (args.map (fun d => some (.v d)) ++ List.replicate (fn.names - fn.params) none) with
    | .nx _ => pure .non
    | .rt d => pure d
    | _ => Cm.fail
  else Cm.fail
theorem bodyM_ok {c : Cfg} {fn : Fn} {ds : List D} {S S' : CH} {d : D} (h : bodyM c fn ds S = some (.ok d S')) : ds.length = fn.params ∧ ∃ fl, exs c fn.body (entry fn.names ds) S = some (.ok fl S') ∧ (fl = .rt d ∨ (∃ σ, fl = .nx σ ∧ d = .non)) := by
  unfold bodyM at h
  obtain ⟨hl, h⟩ := (ite_ok h).resolve_right fun z => (fail_ok z.2).elim
  obtain ⟨fl, S1, e1, h⟩ := bind_ok h
  refine ⟨hl, fl, ?_⟩
  unfold entry
  rw [hl]
  cases fl with
  | nx σ => obtain ⟨rfl, rfl⟩ := pure_ok h; exact ⟨e1, .inr ⟨σ, rfl, rfl⟩⟩
  | rt d => obtain ⟨rfl, rfl⟩ := pure_ok h; exact ⟨e1, .inl rfl⟩
  | bk _ => exact (fail_ok h).elim
  | ct _ => exact (fail_ok h).elim

section
variable {P : Program} {w : World} {K : PySem.W.Frag} {mg : Str → Option Value} {base : Heap} {k : Nat} {c : Cfg} {T : Tab}
theorem gd_of (md : Mod P w K mg base k c T) {scope : Scope} {ps : List Str} {qual : Str} {f : Addr} {cdv : Value} {A : Around} {outer : List PySem.Env} {s : Shared} {H : Hp} (S : FnScope T.N ps scope) (hr : Room (k + 1) A) (hg : A.guards = some []) :
    Gd (cxOf CX0 P w K mg base T.N qual scope f cdv A outer s H E0).nox c T scope (fun _ => true) where
  calm := rfl
  nd := S.nd
  N := rfl
  sc := rfl
  fn := rfl
  hu := by have := (hr.deeper (envOfC qual scope s.heap.objs.size f cdv)).un; show (A.deeper _).units + 128 < _; omega
  gd := hg
  xe := rfl
  blt := md.blt
  fns := fun x hx => by
    obtain ⟨fa, fd, ps, h1, h2, h3, h4⟩ := md.fns x hx
    exact ⟨k, fa, fd, ps, hr.deeper _, h1, h2, h3, h4⟩
  gls := md.gls
theorem fnG_of {x qual : Str} {st : Stmt} {f : Addr} {fd : FuncData} {ps : List Str} {fn : Fn} (md : Mod P w K mg base k c T) (F : L2.Fun K x qual st f fd) (S : FnScope T.N ps (defScope st))
    (ha : agSs T (defScope st) (fun _ => true) fn.body (defBody st) = true) (hp : fn.params = ps.length) (hn : fn.names = T.N.length) : FnG P w K mg base (k + 1) f fd ps (bodyM c fn) := by
  obtain ⟨oc, od, kV, doc, pm, an, cdv, ct, osl, rfl, lk, hcd⟩ := F.ex
  refine ⟨fun ds S d S' h => by rw [← hp]; exact (bodyM_ok h).1, fun A outer s H args us vs Q hr hg e0 hb r hsp => ?_⟩
  obtain ⟨ρ, M, S0, ds, d, S', h1, h2, h3, h4⟩ := hsp
  obtain ⟨hdl, fl, he, hfl⟩ := bodyM_ok h3
  have hl : vs.length = ps.length := by rw [← h2.length, hdl, hp]
  have KX : K.In s.heap := e0.mod.kin.keeps fun b o e => (e0.bs b o e).1
  have lim : s.heap.NoLimit := e0.mod.nolimit.keeps fun b o e => (e0.bs b o e).1
  have hkind : ∀ y ∈ ps.zip us, (defScope st).names.lookup y.1 = some .local ∨ ((defScope st).names.lookup y.1 = some .cell ∧ ((cellsFrom (s.heap.objs.size + 1) (defScope st).names []).lookup y.1).isSome = true) := fun ⟨n, v⟩ hy => by
    rcases S.par n (List.of_mem_zip hy).1 with q | q
    · exact .inl q
    · exact .inr ⟨q, PySem.W.cellsFrom_some _ _ _ (.inl q)⟩
  refine codeAny_call_function hr.depth (KX _ _ lk) rfl S.co S.gen rfl (PySem.W.codeRec_of KX hcd) (hb _ _ _ _ ?_)
  refine wpAny_newFunctionEnv_cells S.kind hkind fun env hev s1 x => ?_
  subst hev
  refine ⟨lim.keeps x.toInCall.keep, codeAny_func ?_⟩
  have I := inv_start (CX := CX0) (qual := qual) (f := f) (cd := cdv) (E := E0) S hr.hd e0 hl r x
  have gd := gd_of (qual := qual) (f := f) (cdv := cdv) (outer := outer) (s := s) (H := H) md S hr hg
  have out : Out ⟨K, w⟩ (fun a => M a ∧ a ∉ ρ) H ρ M H S' { nx := fun _ H' => Q .non H', rt := Q } fl := by
    rcases hfl with rfl | ⟨σ', rfl, rfl⟩
    · exact fun v ρ' M' H' r' fo st rv => h4 v ρ' M' H' r' ⟨st.1, fun a ma na => let ⟨m, n, e⟩ := fo a ⟨ma, na⟩; ⟨e, m, n⟩, st.2⟩ rv
    · exact fun σ2 ρ' M' H' r' st => h4 .non ρ' M' H' r'.heap ⟨st.1, fun a ma na => let ⟨m, n, e⟩ := r'.fo a ⟨ma, na⟩; ⟨e, m, n⟩, st.2⟩ .non
  have rp := rep_start (N := T.N) h1 h2
  rw [hn] at he
  refine wpAny_mono ((okSs gd fn.body (defBody st) ha).run [] s1 (L2.start T.N vs) H _ (I.wish _) ⟨_, _, ρ, M, S0, _, fl, S', rp, he, out⟩) (fun fw s' hs => ?_) fun e s' hs => False.elim hs
  have fin : ∀ {σ' : L2.St} {H' : Hp} {v : V} {u : Value}, Inv (cxOf CX0 P w K mg base T.N qual (defScope st) f cdv A outer s H E0).nox [] σ' H' s' → RelV v u → Q v H' → CE outer P w H s Q u s' :=
    fun {σ' H' v u} J rv q => ⟨v, H', J.os, J.bare, J.base, J.hok, rv, q⟩
  cases fw with
  | ret u =>
    obtain ⟨v, σ', H', J, rv, q⟩ := hs
    exact fin J rv q
  | next =>
    obtain ⟨σ', H', J, q⟩ := hs
    exact fin (v := V.non) (u := Value.none) J rfl q
  | brk =>
    obtain ⟨_, _, _, q⟩ := hs
    exact False.elim q
  | cont =>
    obtain ⟨_, _, _, q⟩ := hs
    exact False.elim q
end
end Cl

set_option Elab.async false
set_option linter.all false
set_option maxRecDepth 100000
/-! SoundW: the law's own call. -/
namespace Cl
open PySem PySem.Spec PyProof.Rows L2

section
variable {P : Program} {w : World} {K : PySem.W.Frag} {mg mb : Str → Option Value}
/-- what stands before the caller's call, if the heap shows nothing but the script -/
theorem env0_caller {s : Shared} {H : Hp} {a : Addr} {xs : Array Value} (KX : K.In s.heap) (n1 : s.heap.Ns mainGlobals mg) (n2 : s.heap.Ns builtinsNs mb) (n3 : ∀ x : Str, x ≠ "__name__" → mb x = bootBuiltins x) (lim : s.heap.NoLimit) (g : s.gens = #[])
    (ha : s.heap.get? a = some { cls := .type "list", data := .seq xs }) (ok : HOk P w H s.heap) (one : ∀ b, b ≠ a → H b = none) (own : H a = none ∨ K.lookup a = none) :
    (K.In (hidT s.heap H) ∧ (hidT s.heap H).Ns mainGlobals mg) ∧ Env0 P w K mg (hidT s.heap H) callerA [] s H := by
  have dictAt : ∀ {b : Addr} {m : Str → Option Value}, s.heap.Ns b m → (hidT s.heap H).Ns b m := by
    rintro b m ⟨o, es, ep, e, dt, rest⟩
    have ne : b ≠ a := by
      rintro rfl
      rw [ha] at e
      cases e
      exact Data.noConfusion dt
    exact ⟨o, es, ep, hidT_get e (one b ne), dt, rest⟩
  have part : K.In (hidT s.heap H) := by
    intro b o e
    refine hidT_get (KX b o e) ?_
    by_cases z : b = a
    · subst z
      rcases own with q | q
      · exact q
      · rw [q] at e; cases e
    · exact one b z
  obtain ⟨mc, l1, l2⟩ := lim
  exact ⟨⟨part, dictAt n1⟩, rfl, ⟨part, dictAt n1, ⟨mb, dictAt n2, n3⟩, mc, dictAt l1, l2⟩, fun b o e => of_hidT e, Nat.le_of_eq (hidT_size _ _), trivial, fun b hb => (by cases hb), ok, .of_eq g⟩
/-- the script, seen by the small semantics: a list that nobody changes -/
abbrev scr (ns : List Int) : D := .frl (ns.map fun n => .int n)
theorem rvs_ints {Kf : Fg} {M : Addr → Prop} {ρ : List Addr} {H : Hp} : ∀ ns : List Int, RVs Kf M ρ H (ns.map fun n => .int n) (ns.map V.int)
  | [] => .nil
  | n :: ns => .cons (.int n) (rvs_ints ns)
theorem call_end {k : Nat} {s : Shared} {H : Hp} {a fa : Addr} {vs : List Value} {ns : List Int} {fd : FuncData} {x : Str} {callf : List D → Cm D} {S' : CH} (hi : IntsAre vs ns) (hr : Room k callerA)
    (G : ∀ base : Heap, K.In base → base.Ns mainGlobals mg → FnG P w K mg base k fa fd [x] callf) (hb : ∀ (s : Shared) (u : Value), BindsTo s fd ⟨[u], []⟩ [(x, u)]) (ans : callf [scr ns] [] = some (.ok (.bl true) S'))
    (e0 : (K.In (hidT s.heap H) ∧ (hidT s.heap H).Ns mainGlobals mg) ∧ Env0 P w K mg (hidT s.heap H) callerA [] s H)
    (at_ : FrlAt ⟨K, w⟩ (fun _ => False) H a (ns.map V.int)) (only : ∀ b, H b = none ∨ ∃ o xs, H b = some (.frz o (.lst xs))) (ok : HOk P w H s.heap) :
    codeAny (model P w) callerA (.call (.ref fa) ⟨[.ref a], []⟩) (fun r s' => r = .ok (.ret (.bool true)) ∧ OldK s.heap s'.heap ∧ s'.os = s.os ∧ AllBare s'.gens) s := by
  have sp : spF ⟨K, w⟩ callf [.ref a] H fun v _ => v = .bl true := ⟨[], fun _ => False, [], [scr ns], .bl true, S', ⟨rfl, List.nodup_nil, fun _ h => (by cases h), fun n b co h _ => (by cases h), fun b h => h.elim⟩,
    .cons (.frl at_ (rvs_ints ns)) .nil, ans, fun v ρ' M' H' _ _ rv => by cases rv; rfl⟩
  refine codeAny_mono ((G _ e0.1.1 e0.1.2).run callerA [] s H ⟨[.ref a], []⟩ [.ref a] [.ref a] _ hr rfl e0.2 (hb s (.ref a)) (.cons rfl .nil) sp) fun r s' q => ?_
  match r, q with
  | .ok (.ret u), q =>
    obtain ⟨v, H', os, bare, un, ok', rv, rfl⟩ := q
    obtain rfl : u = Value.bool true := rv
    refine ⟨rfl, OldK.of_keep fun b o e => ?_, os, bare⟩
    rcases only b with z | ⟨ob, xs, z⟩
    · exact un.keep b o e z (fun q => List.not_mem_nil (show b ∈ ([] : List Addr) from q)) (by simp)
    · have h1 := (ok b _ z).1
      have h2 := (ok' b _ (un.frzs b ob _ z)).1
      rw [e] at h1
      cases h1
      exact h2
/-- THE END: the caller's call of the law's def answers True -/
theorem law_G {k : Nat} {s : Shared} {a fa : Addr} {vs : List Value} {ns : List Int} {fd : FuncData} {x : Str} {callf : List D → Cm D} {S' : CH} (KX : K.In s.heap) (n1 : s.heap.Ns mainGlobals mg) (n2 : s.heap.Ns builtinsNs mb) (n3 : ∀ x : Str, x ≠ "__name__" → mb x = bootBuiltins x) (lim : s.heap.NoLimit) (g : s.gens = #[])
    (ha : s.heap.get? a = some { cls := .type "list", data := .seq vs.toArray }) (hi : IntsAre vs ns) (hl : ns.length ≤ sizeLine) (hr : Room k callerA)
    (G : ∀ base : Heap, K.In base → base.Ns mainGlobals mg → FnG P w K mg base k fa fd [x] callf) (hb : ∀ (s : Shared) (u : Value), BindsTo s fd ⟨[u], []⟩ [(x, u)]) (ans : callf [scr ns] [] = some (.ok (.bl true) S')) :
    codeAny (model P w) callerA (.call (.ref fa) ⟨[.ref a], []⟩) (fun r s' => r = .ok (.ret (.bool true)) ∧ OldK s.heap s'.heap ∧ s'.os = s.os ∧ AllBare s'.gens) s := by
  have rv := vals_ints hi
  have sz : vs.length ≤ sizeLine := by rw [hi.length]; exact hl
  cases hk : K.lookup a with
  | some o =>
    obtain rfl : o = { cls := .type "list", data := .seq vs.toArray } := Option.some.inj ((KX a o hk).symm.trans ha)
    have ok : HOk P w (fun _ => none) s.heap := fun b u z => nomatch z
    exact call_end (H := fun _ => none) hi hr G hb ans (env0_caller KX n1 n2 n3 lim g ha ok (fun _ _ => rfl) (.inl rfl))
      (.inr ⟨_, vs.toArray, _, hk, rfl, rfl, rfl, by simpa using sz, by simpa using rv⟩) (fun _ => .inl rfl) ok
  | none =>
    have off : ∀ b, b ≠ a → (upd (fun _ => none) a (.frz { cls := .type "list", data := .seq vs.toArray } (.lst (ns.map V.int))) : Hp) b = none := fun b z => upd_ne z
    have ok : HOk P w (upd (fun _ => none) a (.frz { cls := .type "list", data := .seq vs.toArray } (.lst (ns.map V.int)))) s.heap := fun b u z => by
      by_cases q : b = a
      · subst q
        rw [upd_same] at z
        cases z
        exact ⟨ha, by rw [List.length_map]; exact hl, vs, _, rv, ha⟩
      · rw [off b q] at z; cases z
    refine call_end hi hr G hb ans (env0_caller KX n1 n2 n3 lim g ha ok off (.inr hk)) (.inl ⟨⟨_, upd_same⟩, fun z => z⟩) (fun b => ?_) ok
    by_cases q : b = a
    · exact .inr ⟨_, _, by rw [q]; exact upd_same⟩
    · exact .inl (off b q)
/-- the goal that k_head leaves -/
theorem walk_G {l : PySem.W.OpenLaw} {n k : Nat} {q : Program} {loose : List Str} {XP : (Str → Option Value) → Heap → Prop} {YP : World → Heap → Prop} {d : DefRec} {Kp : Params → PySem.W.Frag} {x : Str} {callf : List D → Cm D}
    (hn : l.most = some n) (hn2 : n ≤ sizeLine) (hdf : d.params.defaults = []) (hr : Room k callerA) (hY : ∀ (w : World) (h : Heap), YP w h → (Kp w.params).In h)
    (F : ∀ (w : World) (mg : Str → Option Value) (fa : Addr) (h : Heap), (Kp w.params).In h → h.Ns mainGlobals mg → mg d.name = some (.ref fa) →
      ∃ fd : FuncData, (∀ (s : Shared) (u : Value), BindsTo s fd ⟨[u], []⟩ [(x, u)]) ∧ ∀ base : Heap, (Kp w.params).In base → base.Ns mainGlobals mg → FnG l.prog w (Kp w.params) mg base k fa fd [x] callf)
    (ans : ∀ ns : List Int, ns.length ≤ n → ∃ S', callf [scr ns] [] = some (.ok (.bl true) S')) :
    PySem.W.WalkO q loose XP YP l.row.toRowW d [] (fun f vs => PySem.call f vs) := by
  refine Att.attach_call hn hdf fun w s₀ s₁ mg mb fa o pm cd doc a vs ns G Y ho hd hcd hmg hobj hints hlen hg => ?_
  obtain ⟨fd, hb, hF⟩ := F w mg fa _ (hY w _ Y) G.T.g hmg
  obtain ⟨S', e⟩ := ans ns hlen
  exact law_G (hY w _ Y) G.T.g G.T.b G.T.builtins G.T.nolimit hg hobj hints (Nat.le_trans hlen hn2) hr hF hb e
end
end Cl

set_option Elab.async false
set_option linter.all false
set_option maxRecDepth 100000
/-! SoundX: all defs of a module, by the depth of calls. -/
namespace Cl
open PySem PySem.Spec PyProof.Rows L2

/-- a Bool check that a def's scope is plain -/
def scB (N P : List Str) (sc : Scope) : Bool :=
  decide (sc.kind = .function) && !sc.isCoroutine && !sc.isGenerator && decide N.Nodup && decide (N.take P.length = P) && P.all (locB sc) && sc.names.all (fun y => !decide (y.2 = .free))
theorem scB_ok {N P : List Str} {sc : Scope} (h : scB N P sc = true) : FnScope N P sc := by
  unfold scB at h
  simp only [Bool.and_eq_true, decide_eq_true_eq, Bool.not_eq_true', List.all_eq_true] at h
  obtain ⟨⟨⟨⟨⟨⟨h1, h2⟩, h3⟩, h4⟩, h5⟩, h6⟩, h7⟩ := h
  exact ⟨h1, h2, h3, h4, h5, fun x hx => locB_ok (h6 x hx), fun y hy => by simpa using h7 y hy⟩
/-- the text of a def is the slim def -/
def defB (T : Tab) (ps : List Str) (fn : Fn) (st : Stmt) : Bool := scB T.N ps (defScope st) && agSs T (defScope st) (fun _ => true) fn.body (defBody st) && decide (fn.params = ps.length) && decide (fn.names = T.N.length)
section
variable {P : Program} {w : World} {K : PySem.W.Frag} {mg : Str → Option Value} {base : Heap} {m : Mo} {fns gls : List Str}
/-- a def of the module, and its slim def -/
structure Row (K : PySem.W.Frag) (mg : Str → Option Value) (m : Mo) (fns gls : List Str) (f : Str) : Prop where
  ex : ∃ (fa : Addr) (st : Stmt) (fd : FuncData) (fn : Fn) (N ps : List Str), L2.Fun K f f st fa fd ∧ defB ⟨N, fns, gls⟩ ps fn st = true ∧ m.defs f = some fn ∧ mg f = some (.ref fa) ∧ Binds K fd ps []
theorem fnG_zero {f : Str} {fa : Addr} {fd : FuncData} {ps : List Str} : FnG P w K mg base 0 fa fd ps (m.call 0 f) where
  len := fun ds S d S' h => (fail_ok (show (Cm.fail : Cm D) S = _ from h)).elim
  run := fun A outer s H args us vs Q _ _ _ _ _ ⟨ρ, M, S, ds, d, S', _, _, h, _⟩ => (fail_ok (show (Cm.fail : Cm D) S = _ from h)).elim
theorem call_body {f : Str} {fn : Fn} (h : m.defs f = some fn) (k : Nat) : m.call (k + 1) f = bodyM ⟨m.call k, m.glob⟩ fn := by
  funext args
  show (match m.defs f with
    | none => Cm.fail
    | some fn => _) = _
  rw [h]
  rfl
theorem mods (rows : ∀ f ∈ fns, Row K mg m fns gls f)
    (blt : ∀ x : Str, x ∈ (["len", "abs", "tuple", "list", "sorted", "all", "any", "sum", "int", "str", "repr", "max", "min", "dict", "bool", "range", "zip", "enumerate", "isinstance"] : List Str) → mg x = none)
    (gl : ∀ x, x ∈ gls → ∀ d, m.glob x = some d → ∃ v u, mg x = some u ∧ RelV v u ∧ ∀ M ρ H, RV ⟨K, w⟩ M ρ H d v) : ∀ (k : Nat) (N : List Str), Mod P w K mg base k ⟨m.call k, m.glob⟩ ⟨N, fns, gls⟩
  | 0, N => ⟨blt, fun f hf => by
      obtain ⟨fa, st, fd, fn, N', ps, F, _, _, hm, hb⟩ := (rows f hf).ex
      exact ⟨fa, fd, ps, fnG_zero (m := m) (f := f), hm, F.kp, hb⟩, gl⟩
  | k + 1, N => ⟨blt, fun f hf => by
      obtain ⟨fa, st, fd, fn, N', ps, F, hd, hm1, hm, hb⟩ := (rows f hf).ex
      unfold defB at hd
      simp only [Bool.and_eq_true, decide_eq_true_eq] at hd
      obtain ⟨⟨⟨h1, h2⟩, h3⟩, h4⟩ := hd
      refine ⟨fa, fd, ps, ?_, hm, F.kp, hb⟩
      show FnG P w K mg base (k + 1) fa fd ps (m.call (k + 1) f)
      rw [call_body hm1]
      exact fnG_of (T := ⟨N', fns, gls⟩) (mods rows blt gl k N') F (scB_ok h1) h2 h3 h4, gl⟩
end
end Cl

set_option Elab.async false
set_option linter.all false
set_option maxRecDepth 100000
/-! SoundY: the table of a law. -/
namespace Cl
open PySem PySem.Spec PyProof.Rows L2

section
variable {K : PySem.W.Frag} {mg : Str → Option Value} {h : Heap} {m : Mo} {fns gls : List Str}
/-- by what the top has written -/
theorem row_of {f : Str} {fn : Fn} {st : Stmt} {N ps : List Str} {fa : Addr} {od an : Option Addr} {sl : Array (Option Value)} {oc kV dc pm cd ct : Value} (X : K.In h) (G : h.Ns mainGlobals mg) (hm : m.defs f = some fn) (hd : defB ⟨N, fns, gls⟩ ps fn st = true)
    (a : PySem.W.nsIn K mainGlobals f = some (some (.ref fa))) (l : K.lookup fa = some ⟨oc, od, .func (PySem.W.fnOf f f (defArgs st) (defBody st) (defScope st) .none kV dc pm an cd ct), sl⟩) (c : PySem.W.codeIn K cd f = true) (k : PySem.W.keepIn K (.ref fa) = true)
    (hb : ∀ (kV doc pm : Value) (an : Option Addr) (cdv ct : Value) (us : List Value), us.length = ps.length → bindArgs (PySem.W.fnOf f f (defArgs st) (defBody st) (defScope st) .none kV doc pm an cdv ct) ⟨us, []⟩ = pure (ps.zip us)) : Row K mg m fns gls f :=
  ⟨fa, st, _, fn, N, ps, fun_mk l c k, hd, hm, PySem.W.mg_of X G a, (fun_mk l c k).binds hb⟩
theorem rows_nil : ∀ f ∈ ([] : List Str), Row K mg m fns gls f := fun f hf => by cases hf
theorem rows_cons {f : Str} {fs : List Str} (a : Row K mg m fns gls f) (b : ∀ f ∈ fs, Row K mg m fns gls f) : ∀ g ∈ f :: fs, Row K mg m fns gls g := fun g hg => by
  rcases List.mem_cons.mp hg with rfl | z
  · exact a
  · exact b g z
/-- a pair of whole numbers as a module's constant -/
theorem gl_pair {w : World} {x : Str} {z : Addr} {od : Option Addr} {sl : Array (Option Value)} {n : Nat} {i j : Int} {vi vj : Value} (X : K.In h) (G : h.Ns mainGlobals mg) (a : PySem.W.nsIn K mainGlobals x = some (some (.ref z)))
    (l : K.lookup z = some ⟨.type "tuple", od, .seq #[vi, vj] n, sl⟩) (ri : RelV (.int i) vi) (rj : RelV (.int j) vj) : ∃ v u, mg x = some u ∧ RelV v u ∧ ∀ M ρ H, RV ⟨K, w⟩ M ρ H (.tup [.int i, .int j]) v :=
  ⟨.ref z, .ref z, PySem.W.mg_of X G a, rfl, fun M ρ H => .tup (xs := [.int i, .int j]) (.inr ⟨_, #[vi, vj], n, l, rfl, rfl, by show 2 ≤ sizeLine; decide, .cons ri (.cons rj .nil)⟩) (.cons (.int i) (.cons (.int j) .nil))⟩
end
end Cl

set_option Elab.async false
set_option linter.all false
/-! PlA: rewriting rules by which a slim text is run. -/
namespace Cl.Pl
open PySem

/-! ### the monad -/
@[simp] theorem pure_bind {α β : Type} (a : α) (f : α → Cm β) : (pure a >>= f) = f a := id rfl
@[simp] theorem bind_pure {α : Type} (m : Cm α) : (m >>= fun a => pure a) = m := by
  funext S
  show (match m S with | some (.ok a S') => some (.ok a S') | some (.ex y S') => some (.ex y S') | none => none) = m S
  cases h : m S with
  | none => rfl
  | some r => cases r <;> rfl
@[simp] theorem bind_assoc {α β γ : Type} (x : Cm α) (f : α → Cm β) (g : β → Cm γ) : ((x >>= f) >>= g) = x >>= fun a => f a >>= g := by
  funext S
  show Cm.bind (Cm.bind x f) g S = Cm.bind x (fun a => Cm.bind (f a) g) S
  unfold Cm.bind
  cases x S with
  | none => rfl
  | some r => cases r <;> rfl
@[simp] theorem bind_is {α β : Type} (m : Cm α) (f : α → Cm β) : Cm.bind m f = m >>= f := id rfl
@[simp] theorem pure_is {α : Type} (a : α) : (Cm.pure a : Cm α) = pure a := id rfl
@[simp] theorem lift_some {α : Type} (a : α) : (Cm.lift (some a) : Cm α) = pure a := id rfl
@[simp] theorem lift_none {α : Type} : (Cm.lift none : Cm α) = Cm.fail := id rfl
@[simp] theorem fail_bind {α β : Type} (f : α → Cm β) : (Cm.fail >>= f) = Cm.fail := id rfl
@[simp] theorem lift_ite {α : Type} (p : Prop) [Decidable p] (a b : Option α) : (Cm.lift (if p then a else b) : Cm α) = if p then Cm.lift a else Cm.lift b := by split <;> rfl
theorem ite_bind' {α β : Type} (p : Prop) [Decidable p] (a b : Cm α) (f : α → Cm β) : ((if p then a else b) >>= f) = if p then a >>= f else b >>= f := by split <;> rfl

/-! ### places -/
@[simp] theorem at_zero {x : Option Sl} {σ : Env} : Env.at (x :: σ) 0 = x := id rfl
@[simp] theorem at_succ {x : Option Sl} {σ : Env} {i : Nat} : Env.at (x :: σ) (i + 1) = Env.at σ i := id rfl
@[simp] theorem put_zero {x y : Option Sl} {σ : Env} : Env.put (x :: σ) 0 y = y :: σ := id rfl
@[simp] theorem put_succ {x y : Option Sl} {σ : Env} {i : Nat} : Env.put (x :: σ) (i + 1) y = x :: Env.put σ i y := id rfl
@[simp] theorem wipe_nil {σ : Env} : σ.wipe [] = σ := id rfl
@[simp] theorem wipe_cons {σ : Env} {i : Nat} {is : List Nat} : σ.wipe (i :: is) = (σ.wipe is).put i none := id rfl
@[simp] theorem val_zero {d : D} {σ : Env} : val (some (.v d) :: σ) 0 = some d := id rfl
@[simp] theorem val_succ {x : Option Sl} {σ : Env} {i : Nat} : val (x :: σ) (i + 1) = val σ i := id rfl
@[simp] theorem look_zero {d : D} {σ : Env} : look (some (.v d) :: σ) 0 = some d := id rfl
@[simp] theorem look_zero_ol {ds : List D} {σ : Env} : look (some (.ol ds) :: σ) 0 = some (.lst ds) := id rfl
@[simp] theorem look_zero_od {ks vs : List D} {σ : Env} : look (some (.od ks vs) :: σ) 0 = some (.dct ks vs) := id rfl
@[simp] theorem look_succ {x : Option Sl} {σ : Env} {i : Nat} : look (x :: σ) (i + 1) = look σ i := id rfl

/-! ### targets -/
@[simp] theorem g_nm {i : Nat} {d : D} {σ : Env} : G.bind (.nm i) d σ = some (σ.put i (some (.v d))) := by unfold G.bind; rfl
@[simp] theorem g_tup {gs : List G} {ds : List D} {σ : Env} : G.bind (.tup gs) (.tup ds) σ = G.binds gs ds σ := by rw [G.bind]
@[simp] theorem g_lst {gs : List G} {ds : List D} {σ : Env} : G.bind (.tup gs) (.lst ds) σ = G.binds gs ds σ := by rw [G.bind]
@[simp] theorem gs_nil {σ : Env} : G.binds [] [] σ = some σ := by unfold G.binds; rfl
@[simp] theorem gs_cons {g : G} {gs : List G} {d : D} {ds : List D} {σ : Env} : G.binds (g :: gs) (d :: ds) σ = (G.bind g d σ).bind (G.binds gs ds) := by
  rw [G.binds]; cases G.bind g d σ <;> rfl

/-! ### expressions -/
section
variable {m : Cm D}
@[simp] theorem of_v : (Md.of m).v = m := id rfl
@[simp] theorem of_b : (Md.of m).b = m := id rfl
@[simp] theorem of_t : (Md.of m).t = m >>= fun x => Cm.lift (truth x) := id rfl
@[simp] theorem of_i : (Md.of m).i = m >>= fun x => Cm.lift (seq? x) := id rfl
@[simp] theorem of_w : (Md.of m).w = m >>= fun x => Cm.lift (seq? x) := id rfl
@[simp] theorem of_s : (Md.of m).s = m >>= fun x => pure [x] := id rfl
variable {σ : Env} {i : Nat}
@[simp] theorem slot_v : (Md.slot σ i).v = Cm.lift (val σ i) := id rfl
@[simp] theorem slot_b : (Md.slot σ i).b = Cm.lift (look σ i) := id rfl
@[simp] theorem slot_t : (Md.slot σ i).t = Cm.lift ((look σ i).bind truth) := id rfl
@[simp] theorem slot_i : (Md.slot σ i).i = Cm.lift ((look σ i).bind seq?) := id rfl
@[simp] theorem slot_w : (Md.slot σ i).w = Cm.lift ((val σ i).bind seq?) := id rfl
@[simp] theorem slot_s : (Md.slot σ i).s = Cm.lift (val σ i) >>= fun x => pure [x] := id rfl
end
/-- a comprehension's turns, by its text -/
def compL (c : Cfg) (own : List Nat) (elt : E) (g : G) (ifs : List E) (σ : Env) (xs : List D) : Cm (List D) :=
  compM (fun d => g.bind d (σ.wipe own)) (fun σ' => evIfs c ifs σ') (fun σ' => (ev c elt σ').v) xs
def comp2L (c : Cfg) (own own2 : List Nat) (elt : E) (g g2 : G) (it2 : E) (σ : Env) (xs : List D) : Cm (List D) :=
  comp2M (fun d => g.bind d (σ.wipe own)) (fun σ' => do
      let zs ← (ev c it2 σ').w
      compM (fun d => g2.bind d (σ'.wipe own2)) (fun _ => pure true) (fun σ2 => (ev c elt σ2).v) zs) xs
def dcompL (c : Cfg) (own : List Nat) (k v : E) (g : G) (σ : Env) (xs : List D) : Cm (List D × List D) :=
  dcompM (fun d => g.bind d (σ.wipe own)) (fun σ' => (ev c k σ').v) (fun σ' => (ev c v σ').v) xs [] []
/-- how many a comprehension may have -/
def lim (xs : List D) (m : Cm D) : Cm D := if xs.length ≤ 1000000 then m else Cm.fail
@[simp] theorem lim_ok {xs : List D} {m : Cm D} (h : xs.length ≤ 1000000) : lim xs m = m := if_pos h
def liml {β : Type} (xs : List D) (m : Cm β) : Cm β := if xs.length ≤ 1000000 then m else Cm.fail
@[simp] theorem liml_ok {β : Type} {xs : List D} {m : Cm β} (h : xs.length ≤ 1000000) : liml xs m = m := if_pos h
section
variable {c : Cfg} {σ : Env} {i : Nat} {op op' : Operator} {cp cp' : CmpOp} {a b e k d t lo hi : E} {es ifs : List E} {own own2 : List Nat} {g g2 : G} {f : Str} {x : Str} {dd : D} {bi : BI} {ty : Ty}
@[simp] theorem ev_var : ev c (.var i) σ = Md.slot σ i := by rw [ev]
@[simp] theorem ev_glob : ev c (.glob x) σ = Md.of (Cm.lift (c.glob x)) := by rw [ev]
@[simp] theorem ev_con : ev c (.con dd) σ = Md.of (pure dd) := by rw [ev]
@[simp] theorem ev_bin : ev c (.bin op a b) σ = Md.of (do let x ← (ev c a σ).v; let y ← (ev c b σ).v; Cm.lift (binD op x y)) := by rw [ev]
@[simp] theorem ev_neg : ev c (.neg a) σ = Md.of (do let x ← (ev c a σ).v; Cm.lift ((int? x).map fun i => .int (-i))) := by rw [ev]
/-- not, of a truth -/
def notM (x : D) : Cm D := match x with | .bl b => pure (.bl (!b)) | _ => Cm.fail
@[simp] theorem notM_bl {b : Bool} : notM (.bl b) = pure (.bl (!b)) := id rfl
@[simp] theorem ev_not_v : (ev c (.not a) σ).v = (ev c a σ).v >>= notM := by rw [ev]; rfl
@[simp] theorem ev_not_b : (ev c (.not a) σ).b = (ev c a σ).v >>= notM := by rw [ev]; rfl
@[simp] theorem ev_not_s : (ev c (.not a) σ).s = (ev c a σ).v >>= fun x => notM x >>= fun y => pure [y] := by rw [ev]; show (((ev c a σ).v >>= notM) >>= _) = _; rw [bind_assoc]; rfl
@[simp] theorem ev_not_t : (ev c (.not a) σ).t = (ev c a σ).t >>= fun b => pure (!b) := by rw [ev]
def andM (x : D) (m : Cm D) : Cm D := match x with
      | .bl true => m
      | .bl false => pure (.bl false)
      | _ => Cm.fail
@[simp] theorem andM_bl {b : Bool} {m : Cm D} : andM (.bl b) m = if b = true then m else pure (.bl false) := by cases b <;> rfl
def orM (x : D) (m : Cm D) : Cm D := match x with
      | .bl true => pure (.bl true)
      | .bl false => m
      | _ => Cm.fail
@[simp] theorem orM_bl {b : Bool} {m : Cm D} : orM (.bl b) m = if b = true then pure (.bl true) else m := by cases b <;> rfl
@[simp] theorem ev_and_v : (ev c (.and a b) σ).v = (ev c a σ).v >>= fun x => andM x (ev c b σ).v := by rw [ev]; rfl
@[simp] theorem ev_and_b : (ev c (.and a b) σ).b = (ev c a σ).v >>= fun x => andM x (ev c b σ).v := by rw [ev]; rfl
@[simp] theorem ev_and_s : (ev c (.and a b) σ).s = (ev c (.and a b) σ).v >>= fun x => pure [x] := by rw [ev]; rfl
@[simp] theorem ev_and_t : (ev c (.and a b) σ).t = (ev c a σ).t >>= fun q => if q = true then (ev c b σ).t else pure false := by rw [ev]
@[simp] theorem ev_or_v : (ev c (.or a b) σ).v = (ev c a σ).v >>= fun x => orM x (ev c b σ).v := by rw [ev]; rfl
@[simp] theorem ev_or_b : (ev c (.or a b) σ).b = (ev c a σ).v >>= fun x => orM x (ev c b σ).v := by rw [ev]; rfl
@[simp] theorem ev_or_s : (ev c (.or a b) σ).s = (ev c (.or a b) σ).v >>= fun x => pure [x] := by rw [ev]; rfl
@[simp] theorem ev_or_t : (ev c (.or a b) σ).t = (ev c a σ).t >>= fun q => if q = true then pure true else (ev c b σ).t := by rw [ev]
@[simp] theorem ev_ite_v : (ev c (.ite t a b) σ).v = (ev c t σ).t >>= fun q => if q = true then (ev c a σ).v else (ev c b σ).v := by rw [ev]; rfl
@[simp] theorem ev_ite_b : (ev c (.ite t a b) σ).b = (ev c t σ).t >>= fun q => if q = true then (ev c a σ).v else (ev c b σ).v := by rw [ev]; rfl
@[simp] theorem ev_ite_s : (ev c (.ite t a b) σ).s = (ev c (.ite t a b) σ).v >>= fun x => pure [x] := by rw [ev]; rfl
@[simp] theorem ev_ite_i : (ev c (.ite t a b) σ).i = (ev c (.ite t a b) σ).v >>= fun x => Cm.lift (seq? x) := by rw [ev]; rfl
@[simp] theorem ev_ite_w : (ev c (.ite t a b) σ).w = (ev c (.ite t a b) σ).v >>= fun x => Cm.lift (seq? x) := by rw [ev]; rfl
@[simp] theorem ev_cmp : ev c (.cmp cp a b) σ = Md.of (do let x ← (ev c a σ).b; let y ← (ev c b σ).b; let x' ← deref x; let y' ← deref y; Cm.lift ((cmpD cp x' y').map .bl)) := by rw [ev]
@[simp] theorem ev_chn_v : (ev c (.chn cp cp' a b e) σ).v = (do
    let x ← (ev c a σ).v
    let y ← (ev c b σ).v
    let t ← Cm.lift (cmpD cp x y)
    if t = true then do let z ← (ev c e σ).v; Cm.lift ((cmpD cp' y z).map .bl) else pure (.bl false)) := by rw [ev]; rfl
@[simp] theorem ev_tup : ev c (.tup es) σ = Md.of (do let xs ← evs c es σ; pure (.tup xs)) := by rw [ev]
@[simp] theorem ev_lst : ev c (.lst es) σ = Md.of (do let xs ← evs c es σ; pure (.lst xs)) := by rw [ev]
@[simp] theorem ev_star_s : (ev c (.star a) σ).s = (do let x ← (ev c a σ).b; let xs ← Cm.lift (seq? x); liml xs (pure xs)) := by rw [ev]; rfl
@[simp] theorem ev_dct : ev c (.dct es) σ = Md.of (do
    let xs ← evs c es σ
    let ps ← Cm.lift (pairUp xs)
    let p ← Cm.lift (dputs ps [] [])
    pure (.dct p.1 p.2)) := by rw [ev]
@[simp] theorem ev_idx : ev c (.idx a k) σ = Md.of (do let x ← (ev c a σ).b; let y ← (ev c k σ).v; let x' ← deref x; Cm.lift (idxD x' y)) := by rw [ev]
@[simp] theorem ev_slc {lo hi : Option E} : ev c (.slc a lo hi) σ = Md.of (do
    let x ← (ev c a σ).b
    let l ← evO c lo σ
    let h ← evO c hi σ
    let x' ← deref x
    Cm.lift (slcD x' l h)) := by rw [ev]
def revM (x : D) : Cm D := match x with
    | .lst ds => pure (.lst ds.reverse)
    | .tup ds => pure (.tup ds.reverse)
    | _ => Cm.fail
@[simp] theorem revM_lst {ds : List D} : revM (.lst ds) = pure (.lst ds.reverse) := id rfl
@[simp] theorem revM_tup {ds : List D} : revM (.tup ds) = pure (.tup ds.reverse) := id rfl
@[simp] theorem ev_rev : ev c (.rev a) σ = Md.of (do let y ← (ev c a σ).b; let x ← deref y; revM x) := by rw [ev]; rfl
@[simp] theorem ev_call : ev c (.call f es) σ = Md.of (do let xs ← evs c es σ; c.call f xs) := by rw [ev]
@[simp] theorem ev_bi : ev c (.bi bi es) σ = Md.of (do let xs ← evBs c es σ; let xs' ← derefs xs; Cm.lift (biD bi xs')) := by rw [ev]
@[simp] theorem ev_isi : ev c (.isi a ty) σ = Md.of (do let x ← (ev c a σ).v; Cm.lift ((isTy ty x).map .bl)) := by rw [ev]
def getM (x kd dd : D) : Cm D := match x with
    | .dct ks vs => Cm.lift ((dfind kd ks vs).map fun o => o.getD dd)
    | _ => Cm.fail
@[simp] theorem getM_dct {ks vs : List D} {kd dd : D} : getM (.dct ks vs) kd dd = Cm.lift ((dfind kd ks vs).map fun o => o.getD dd) := id rfl
@[simp] theorem ev_get2 : ev c (.get2 a k d) σ = Md.of (do let x ← (ev c a σ).b; let kd ← (ev c k σ).v; let dd ← (ev c d σ).v; getM x kd dd) := by rw [ev]; rfl
@[simp] theorem ev_comp : ev c (.comp own e g a ifs) σ = Md.of (do let xs ← (ev c a σ).i; liml xs (compL c own e g ifs σ xs >>= fun ys => pure (.lst ys))) := by rw [ev]; rfl
@[simp] theorem ev_comp2 : ev c (.comp2 own own2 e g a g2 b) σ = Md.of (do let xs ← (ev c a σ).i; let ys ← comp2L c own own2 e g g2 b σ xs; liml ys (pure (.lst ys))) := by rw [ev]; rfl
@[simp] theorem ev_dcomp : ev c (.dcomp own k e g a) σ = Md.of (do let xs ← (ev c a σ).i; liml xs (dcompL c own k e g σ xs >>= fun p => pure (.dct p.1 p.2))) := by rw [ev]; rfl
@[simp] theorem ev_rng_i : (ev c (.rng es) σ).i = (do let xs ← evs c es σ; Cm.lift (rngD xs)) := by rw [ev]
@[simp] theorem ev_rng_w : (ev c (.rng es) σ).w = (do let xs ← evs c es σ; Cm.lift (rngD xs)) := by rw [ev]
/-- pairs, as tuples -/
def zipD (xs ys : List D) : List D := (xs.zip ys).map fun p => .tup [p.1, p.2]
@[simp] theorem ev_zip_i : (ev c (.zip a b) σ).i = (do
        let x ← (ev c a σ).b
        let y ← (ev c b σ).b
        let xs ← Cm.lift (seq? x)
        let ys ← Cm.lift (seq? y)
        pure (zipD xs ys)) := by rw [ev]; rfl
@[simp] theorem ev_zip_w : (ev c (.zip a b) σ).w = (do
        let x ← (ev c a σ).v
        let y ← (ev c b σ).v
        let xs ← Cm.lift (seq? x)
        let ys ← Cm.lift (seq? y)
        pure (zipD xs ys)) := by rw [ev]; rfl
@[simp] theorem ev_zip3_i : (ev c (.zip3 a b e) σ).i = (do
        let x ← (ev c a σ).b
        let y ← (ev c b σ).b
        let z ← (ev c e σ).b
        let xs ← Cm.lift (seq? x)
        let ys ← Cm.lift (seq? y)
        let zs ← Cm.lift (seq? z)
        pure (zip3D xs ys zs)) := by rw [ev]
@[simp] theorem ev_zip3_w : (ev c (.zip3 a b e) σ).w = (do
        let x ← (ev c a σ).v
        let y ← (ev c b σ).v
        let z ← (ev c e σ).v
        let xs ← Cm.lift (seq? x)
        let ys ← Cm.lift (seq? y)
        let zs ← Cm.lift (seq? z)
        pure (zip3D xs ys zs)) := by rw [ev]
@[simp] theorem ev_indexOf : ev c (.indexOf a e) σ = Md.of (do let x ← (ev c a σ).b; let y ← (ev c e σ).v; Cm.lift (indexD x y)) := by rw [ev]
def enumD (xs : List D) : List D := xs.zipIdx.map fun p => .tup [.int p.2, p.1]
@[simp] theorem ev_enum_i : (ev c (.enum a) σ).i = (do
        let x ← (ev c a σ).b
        let xs ← Cm.lift (seq? x)
        pure (enumD xs)) := by rw [ev]; rfl
@[simp] theorem ev_enum_w : (ev c (.enum a) σ).w = (do
        let x ← (ev c a σ).v
        let xs ← Cm.lift (seq? x)
        pure (enumD xs)) := by rw [ev]; rfl
@[simp] theorem ev_dzip : ev c (.dzip a b) σ = Md.of (do
    let x ← (ev c a σ).b
    let y ← (ev c b σ).b
    let xs ← Cm.lift (seq? x)
    let ys ← Cm.lift (seq? y)
    liml xs (do let p ← Cm.lift (dputs (xs.zip ys) [] []); pure (.dct p.1 p.2))) := by rw [ev]; rfl
def newM (x : D) : Cm D := match x with
    | .lst ds => fun S => some (.ok (.ref S.length) (S ++ [.lst ds]))
    | _ => Cm.fail
@[simp] theorem ev_new : ev c (.new a) σ = Md.of (do let x ← (ev c a σ).v; newM x) := by rw [ev]; rfl
@[simp] theorem evs_nil : evs c [] σ = pure [] := by rw [evs]
@[simp] theorem evs_cons : evs c (e :: es) σ = (do let x ← (ev c e σ).s; let xs ← evs c es σ; pure (x ++ xs)) := by rw [evs]
@[simp] theorem evBs_nil : evBs c [] σ = pure [] := by rw [evBs]
@[simp] theorem evBs_cons : evBs c (e :: es) σ = (do let x ← (ev c e σ).b; let xs ← evBs c es σ; pure (x :: xs)) := by rw [evBs]
@[simp] theorem evO_none : evO c none σ = pure none := by rw [evO]
@[simp] theorem evO_some : evO c (some e) σ = (do let x ← (ev c e σ).v; let i ← Cm.lift (int? x); pure (some i)) := by rw [evO]
@[simp] theorem evIfs_nil : evIfs c [] σ = pure true := by rw [evIfs]
@[simp] theorem evIfs_cons : evIfs c (e :: es) σ = (ev c e σ).t >>= fun q => if q = true then evIfs c es σ else pure false := by rw [evIfs]
end

/-! ### statements -/
/-- what follows a statement -/
noncomputable def seqK (c : Cfg) (ss : List Sm) : Fl → Cm Fl
  | .nx σ' => exs c ss σ'
  | .bk σ' => pure (.bk σ')
  | .ct σ' => pure (.ct σ')
  | .rt d => pure (.rt d)
noncomputable def forL (c : Cfg) (g : G) (b : List Sm) (xs : List D) (σ : Env) : Cm Fl := forM (fun d σ => g.bind d σ) (fun σ => exs c b σ) xs σ
noncomputable def whlL (c : Cfg) (t : E) (b : List Sm) (σ : Env) : Cm Fl := whlM (fun σ => (ev c t σ).t) (fun σ => exs c b σ) σ
def finM : Fl → Cm D
  | .nx _ => pure .non
  | .rt d => pure d
  | _ => Cm.fail
@[simp] theorem finM_nx {σ : Env} : finM (.nx σ) = pure .non := id rfl
@[simp] theorem finM_rt {d : D} : finM (.rt d) = pure d := id rfl
def appK (s : Option Sl) (σ : Env) (i : Nat) (x : D) : Cm Fl := match s with
    | some (.ol ds) => if ds.length < 1000000 then pure (.nx (σ.put i (some (.ol (ds ++ [x]))))) else Cm.fail
    | _ => Cm.fail
def extK (s : Option Sl) (σ : Env) (i : Nat) (x : D) : Cm Fl := match s, x with
    | some (.ol ds), .lst xs => if ds.length + xs.length ≤ 1000000 then pure (.nx (σ.put i (some (.ol (ds ++ xs))))) else Cm.fail
    | _, _ => Cm.fail
def frzK (s : Option Sl) (σ : Env) (i : Nat) : Cm Fl := match s with
    | some (.ol ds) => pure (.nx (σ.put i (some (.v (.lst ds)))))
    | some (.od ks vs) => pure (.nx (σ.put i (some (.v (.dct ks vs)))))
    | _ => Cm.fail
def storeK (s : Option Sl) (σ : Env) (k : Nat) (i x : D) : Cm Env := match s with
    | some (.v d) => do storeRef d i x; pure σ
    | some s => do let s' ← Cm.lift (storeSl s i x); pure (σ.put k (some s'))
    | none => Cm.fail
section
variable {σ : Env} {i : Nat} {x y d : D} {ds xs ks vs : List D}
@[simp] theorem appK_ol : appK (some (.ol ds)) σ i x = if ds.length < 1000000 then pure (.nx (σ.put i (some (.ol (ds ++ [x]))))) else Cm.fail := id rfl
@[simp] theorem extK_ol : extK (some (.ol ds)) σ i (.lst xs) = if ds.length + xs.length ≤ 1000000 then pure (.nx (σ.put i (some (.ol (ds ++ xs))))) else Cm.fail := id rfl
@[simp] theorem frzK_ol : frzK (some (.ol ds)) σ i = pure (.nx (σ.put i (some (.v (.lst ds))))) := id rfl
@[simp] theorem frzK_od : frzK (some (.od ks vs)) σ i = pure (.nx (σ.put i (some (.v (.dct ks vs))))) := id rfl
@[simp] theorem storeAt_var {ov : Cm D} : storeAt (.var i) σ ov y x = storeK (σ.at i) σ i y x := id rfl
@[simp] theorem storeK_v : storeK (some (.v d)) σ i y x = (do storeRef d y x; pure σ) := id rfl
@[simp] theorem storeK_od : storeK (some (.od ks vs)) σ i y x = (do let p ← Cm.lift (if ks.length ≤ 1000000 then dput y x ks vs else none); pure (σ.put i (some (.od p.1 p.2)))) := by
  show (Cm.lift (if ks.length ≤ 1000000 then (dput y x ks vs).map fun p => Sl.od p.1 p.2 else none) >>= fun s' => pure (σ.put i (some s'))) = _
  split
  · cases dput y x ks vs <;> rfl
  · rfl
@[simp] theorem storeK_ol {k : Int} : storeK (some (.ol ds)) σ i (.int k) x = (do let j ← Cm.lift (place? ds.length k); pure (σ.put i (some (.ol (ds.set j x))))) := by
  show (Cm.lift ((place? ds.length k).map fun j => Sl.ol (ds.set j x)) >>= fun s' => pure (σ.put i (some s'))) = _
  cases place? ds.length k <;> rfl
@[simp] theorem val_zero_od : val (some (.od ks vs) :: σ) 0 = none := id rfl
@[simp] theorem val_zero_ol : val (some (.ol ds) :: σ) 0 = none := id rfl
end
section
variable {c : Cfg} {σ : Env} {i j : Nat} {op : Operator} {a b e k o t it : E} {ss bs : List Sm} {g : G} {s : Sm} {oi oj : Bool} {is : List Nat}
@[simp] theorem seqK_nx : seqK c ss (.nx σ) = exs c ss σ := id rfl
@[simp] theorem seqK_bk : seqK c ss (.bk σ) = pure (.bk σ) := id rfl
@[simp] theorem seqK_ct : seqK c ss (.ct σ) = pure (.ct σ) := id rfl
@[simp] theorem seqK_rt {d : D} : seqK c ss (.rt d) = pure (.rt d) := id rfl
@[simp] theorem exs_nil : exs c [] σ = pure (.nx σ) := by rw [exs]
@[simp] theorem exs_cons : exs c (s :: ss) σ = ex c s σ >>= seqK c ss := by rw [exs]; rfl
@[simp] theorem ex_asg : ex c (.asg g e) σ = (do let x ← (ev c e σ).v; let σ' ← Cm.lift (g.bind x σ); pure (.nx σ')) := by rw [ex]
@[simp] theorem ex_own : ex c (.own i e) σ = (do let x ← (ev c e σ).v; let s ← Cm.lift (owned x); pure (.nx (σ.put i (some s)))) := by rw [ex]
@[simp] theorem ex_par : ex c (.par i oi a j oj b) σ = (do
    let x ← (ev c a σ).v
    let y ← (ev c b σ).v
    let s ← Cm.lift (slotOf oi x)
    let t ← Cm.lift (slotOf oj y)
    pure (.nx ((σ.put i (some s)).put j (some t)))) := by rw [ex]
@[simp] theorem ex_set : ex c (.set o k e) σ = (do
    let x ← (ev c e σ).v
    let k ← (ev c k σ).v
    let σ' ← storeAt o σ (ev c o σ).v k x
    pure (.nx σ')) := by rw [ex]
@[simp] theorem ex_aug : ex c (.aug i op e) σ = (do
    let x ← Cm.lift (val σ i)
    let y ← (ev c e σ).v
    let z ← Cm.lift (ipD op x y)
    pure (.nx (σ.put i (some (.v z))))) := by rw [ex]
@[simp] theorem ex_augS : ex c (.augS o k op e) σ = (do
    let a ← (ev c o σ).b
    let k ← (ev c k σ).v
    let a' ← deref a
    let x ← Cm.lift (idxD a' k)
    let y ← (ev c e σ).v
    let z ← Cm.lift (ipD op x y)
    let σ' ← storeAt o σ Cm.fail k z
    pure (.nx σ')) := by rw [ex]
@[simp] theorem ex_app : ex c (.app i e) σ = (do let x ← (ev c e σ).v; appK (σ.at i) σ i x) := by rw [ex]; rfl
@[simp] theorem ex_ext : ex c (.ext i e) σ = (do let x ← (ev c e σ).v; extK (σ.at i) σ i x) := by rw [ex]; rfl
@[simp] theorem ex_ite : ex c (.ite t ss bs) σ = (ev c t σ).t >>= fun q => if q = true then exs c ss σ else exs c bs σ := by rw [ex]
@[simp] theorem ex_whl : ex c (.whl t bs) σ = whlL c t bs σ := by rw [ex]; rfl
@[simp] theorem ex_for : ex c (.for_ g it bs) σ = (do let xs ← (ev c it σ).w; forL c g bs xs σ) := by rw [ex]; rfl
@[simp] theorem ex_ret : ex c (.ret e) σ = (do let x ← (ev c e σ).v; pure (.rt x)) := by rw [ex]
@[simp] theorem ex_retN : ex c .retN σ = pure (.rt .non) := by rw [ex]
@[simp] theorem ex_pass : ex c .pass σ = pure (.nx σ) := by rw [ex]
@[simp] theorem ex_brk : ex c .brk σ = pure (.bk σ) := by rw [ex]
@[simp] theorem ex_cnt : ex c .cnt σ = pure (.ct σ) := by rw [ex]
@[simp] theorem ex_exp : ex c (.exp e) σ = (do let _ ← (ev c e σ).v; pure (.nx σ)) := by rw [ex]
@[simp] theorem ex_rais : ex c .rais σ = Cm.fail := by rw [ex]
@[simp] theorem ex_frz : ex c (.frz i) σ = frzK (σ.at i) σ i := by rw [ex]; rfl
@[simp] theorem ex_kil : ex c (.kil is) σ = pure (.nx (σ.wipe is)) := by rw [ex]
@[simp] theorem slotOf_v {d : D} : slotOf false d = some (.v d) := id rfl
@[simp] theorem slotOf_o {d : D} : slotOf true d = owned d := id rfl
@[simp] theorem owned_lst {ds : List D} : owned (.lst ds) = some (.ol ds) := id rfl
@[simp] theorem owned_dct {ks vs : List D} : owned (.dct ks vs) = some (.od ks vs) := id rfl
end
theorem call_run {m : Mo} {f : Str} {fn : Fn} {k : Nat} {args : List D} (h : m.defs f = some fn) (hl : args.length = fn.params) :
    m.call (k + 1) f args = exs ⟨m.call k, m.glob⟩ fn.body (args.map (fun d => some (.v d)) ++ List.replicate (fn.names - fn.params) none) >>= finM := by
  show (match m.defs f with
    | none => Cm.fail
    | some fn => _) = _
  rw [h]
  exact (if_pos hl).trans rfl

/-! ### plain operations -/
section
variable {a b : Int} {ds es : List D} {d : D} {n : Nat}
@[simp] theorem add_int : binD .Add (.int a) (.int b) = some (.int (a + b)) := id rfl
@[simp] theorem sub_int : binD .Sub (.int a) (.int b) = some (.int (a - b)) := id rfl
@[simp] theorem mul_int : binD .Mult (.int a) (.int b) = if mulOk a b = true then some (.int (a * b)) else none := id rfl
@[simp] theorem fdiv_int : binD .FloorDiv (.int a) (.int b) = if divOk b = true then some (.int (a.fdiv b)) else none := id rfl
@[simp] theorem mod_int : binD .Mod (.int a) (.int b) = if b = 0 then none else some (.int (a.fmod b)) := id rfl
@[simp] theorem add_tup : binD .Add (.tup ds) (.tup es) = if ds.length + es.length ≤ 1000000 then some (.tup (ds ++ es)) else none := id rfl
@[simp] theorem add_lst : binD .Add (.lst ds) (.lst es) = if ds.length + es.length ≤ 1000000 then some (.lst (ds ++ es)) else none := id rfl
@[simp] theorem mul_lst : binD .Mult (.lst ds) (.int b) = if -1000000 ≤ b ∧ b ≤ 1000000 ∧ ds.length * b.toNat ≤ 1000000 then some (.lst (repL b ds)) else none := id rfl
@[simp] theorem mul_tup : binD .Mult (.tup ds) (.int b) = if -1000000 ≤ b ∧ b ≤ 1000 ∧ ds.length ≤ 1000 then some (.tup (repL b ds)) else none := id rfl
@[simp] theorem ip_add : ipD .Add (.int a) (.int b) = some (.int (a + b)) := id rfl
@[simp] theorem ip_sub : ipD .Sub (.int a) (.int b) = some (.int (a - b)) := id rfl
@[simp] theorem cmp_eq {x y : D} : cmpD .Eq x y = deq x y := id rfl
@[simp] theorem cmp_ne {x y : D} : cmpD .NotEq x y = (deq x y).map (!·) := id rfl
@[simp] theorem cmp_lt : cmpD .Lt (.int a) (.int b) = some (decide (a < b)) := id rfl
@[simp] theorem cmp_le : cmpD .LtE (.int a) (.int b) = some (decide (a ≤ b)) := id rfl
@[simp] theorem cmp_gt : cmpD .Gt (.int a) (.int b) = some (decide (b < a)) := id rfl
@[simp] theorem cmp_ge : cmpD .GtE (.int a) (.int b) = some (decide (b ≤ a)) := id rfl
@[simp] theorem cmp_is : cmpD .Is d .non = some (isNone d) := by cases d <;> rfl
@[simp] theorem cmp_isn : cmpD .IsNot d .non = some (!isNone d) := by cases d <;> rfl
@[simp] theorem truth_bl {b : Bool} : truth (.bl b) = some b := id rfl
@[simp] theorem truth_int : truth (.int a) = some (a != 0) := id rfl
@[simp] theorem truth_tup : truth (.tup ds) = some (!ds.isEmpty) := id rfl
@[simp] theorem truth_lst : truth (.lst ds) = some (!ds.isEmpty) := id rfl
@[simp] theorem seq_tup : seq? (.tup ds) = some ds := id rfl
@[simp] theorem seq_lst : seq? (.lst ds) = some ds := id rfl
@[simp] theorem int_int : int? (.int a) = some a := id rfl
@[simp] theorem deref_tup : deref (.tup ds) = pure (.tup ds) := id rfl
@[simp] theorem deref_lst : deref (.lst ds) = pure (.lst ds) := id rfl
@[simp] theorem deref_int : deref (.int a) = pure (.int a) := id rfl
@[simp] theorem deref_str {x : Str} : deref (.str x) = pure (.str x) := id rfl
@[simp] theorem deref_bl {b : Bool} : deref (.bl b) = pure (.bl b) := id rfl
@[simp] theorem deref_non : deref .non = pure .non := id rfl
@[simp] theorem deref_dct {ks vs : List D} : deref (.dct ks vs) = pure (.dct ks vs) := id rfl
@[simp] theorem deref_frl : deref (.frl ds) = pure (.frl ds) := id rfl
@[simp] theorem derefs_nil : derefs [] = pure [] := id rfl
@[simp] theorem derefs_cons : derefs (d :: ds) = (do let x ← deref d; let xs ← derefs ds; pure (x :: xs)) := id rfl
@[simp] theorem len_tup : biD .len [.tup ds] = some (.int ds.length) := id rfl
@[simp] theorem len_lst : biD .len [.lst ds] = some (.int ds.length) := id rfl
@[simp] theorem len_dct {ks vs : List D} : biD .len [.dct ks vs] = some (.int ks.length) := id rfl
@[simp] theorem bi_abs : biD .abs [.int a] = some (.int (if a < 0 then -a else a)) := id rfl
@[simp] theorem bi_tuple_l : biD .tuple [.lst ds] = some (.tup ds) := id rfl
@[simp] theorem bi_tuple_t : biD .tuple [.tup ds] = some (.tup ds) := id rfl
@[simp] theorem bi_list_l : biD .list [.lst ds] = some (.lst ds) := id rfl
@[simp] theorem bi_list_t : biD .list [.tup ds] = some (.lst ds) := id rfl
@[simp] theorem bi_sorted_l : biD .sorted [.lst ds] = (sortD ds).map .lst := id rfl
@[simp] theorem bi_sorted_t : biD .sorted [.tup ds] = (sortD ds).map .lst := id rfl
@[simp] theorem bi_sorted_d {ks vs : List D} : biD .sorted [.dct ks vs] = (sortD ks).map .lst := id rfl
@[simp] theorem bi_all : biD .all [.lst ds] = (bools? ds).map fun bs => .bl (bs.all id) := id rfl
@[simp] theorem bi_any : biD .any [.lst ds] = (bools? ds).map fun bs => .bl (bs.any id) := id rfl
@[simp] theorem bi_int_i : biD .int [.int a] = some (.int a) := id rfl
@[simp] theorem bi_int_b {b : Bool} : biD .int [.bl b] = some (.int (if b then 1 else 0)) := id rfl
@[simp] theorem bi_max : biD .max [.int a, .int b] = some (.int (if b > a then b else a)) := id rfl
@[simp] theorem bi_min : biD .min [.int a, .int b] = some (.int (if b < a then b else a)) := id rfl
@[simp] theorem bi_repr : biD .repr [d] = reprD d := id rfl
theorem bi_dict : biD .dict [.lst ds] = match pairs? ds with
    | some ps => if ds.length ≤ 1000000 then (dputs ps [] []).map fun p => .dct p.1 p.2 else none
    | none => none := id rfl
@[simp] theorem idx_tup : idxD (.tup ds) (.int a) = item? ds a := id rfl
@[simp] theorem idx_lst : idxD (.lst ds) (.int a) = item? ds a := id rfl
@[simp] theorem slc_tup {lo hi : Option Int} : slcD (.tup ds) lo hi = some (.tup (cut ds lo hi)) := id rfl
@[simp] theorem slc_lst {lo hi : Option Int} : slcD (.lst ds) lo hi = some (.lst (cut ds lo hi)) := id rfl
@[simp] theorem slc_frl {lo hi : Option Int} : slcD (.frl ds) lo hi = some (.lst (cut ds lo hi)) := id rfl
@[simp] theorem item_at {n : Nat} (h : n < ds.length) : item? ds (n : Int) = some ds[n] := by unfold item?; simp [h]
@[simp] theorem item_2 : item? ds 2 = ds[2]? := id rfl
@[simp] theorem item_3 : item? ds 3 = ds[3]? := id rfl
@[simp] theorem item_4 : item? ds 4 = ds[4]? := id rfl
@[simp] theorem item_0 : item? ds 0 = ds[0]? := id rfl
@[simp] theorem item_1 : item? ds 1 = ds[1]? := id rfl
@[simp] theorem item_m1 (h : 0 < ds.length) : item? ds (-1) = ds[ds.length - 1]? := by
  unfold item?
  rw [if_neg (by decide), if_pos (by omega)]
  congr 1
  omega
@[simp] theorem place_0 (h : 0 < n) : place? n 0 = some 0 := by unfold place?; simp [h]
@[simp] theorem isTy_int_i : isTy .int (.int a) = some true := id rfl
@[simp] theorem isTy_bool_i : isTy .bool (.int a) = some false := id rfl
@[simp] theorem isTy_tup_t : isTy .tuple (.tup ds) = some true := id rfl
@[simp] theorem isTy_tup_l : isTy .tuple (.lst ds) = some false := id rfl
@[simp] theorem isTy_str {x : Str} : isTy .str (.str x) = some true := id rfl
@[simp] theorem isTy_dict_d {ks vs : List D} : isTy .dict (.dct ks vs) = none := id rfl
@[simp] theorem bools_nil : bools? [] = some [] := id rfl
@[simp] theorem bools_cons {b : Bool} : bools? (.bl b :: ds) = (bools? ds).map (b :: ·) := id rfl
@[simp] theorem bools_map {α : Type} {f : α → Bool} : ∀ l : List α, bools? (l.map fun x => .bl (f x)) = some (l.map f)
  | [] => rfl
  | x :: l => by rw [List.map_cons, bools_cons, bools_map l]; rfl
end
@[simp] theorem rng1 {n : Nat} (h : n ≤ 1000000) : rngD [.int (n : Int)] = some ((List.range n).map fun i : Nat => .int (i : Int)) := by
  unfold rngD
  exact (if_pos ⟨by omega, by omega⟩).trans (by rw [Int.toNat_natCast])
end Cl.Pl

set_option Elab.async false
set_option linter.all false
/-! PlB: loops and comprehensions, by what a turn does. -/
namespace Cl.Pl
open PySem

@[simp] theorem ite_pure (p : Prop) [Decidable p] : (if p then pure true else pure false : Cm Bool) = pure (decide p) := by split <;> simp_all

/-! ### while -/
section
variable {test : Env → Cm Bool} {body : Env → Cm Fl} {σ σ' : Env} {S : CH} {r : R Fl} {n : Nat}
theorem whlN_succ : whlN test body (n + 1) σ = (test σ >>= fun q => if q = true then body σ >>= fun fl => (match fl with
      | .nx σ' => whlN test body n σ'
      | .ct σ' => whlN test body n σ'
      | .bk σ' => pure (.nx σ')
      | .rt d => pure (.rt d)) else pure (.nx σ)) := by
  rw [whlN]
  try rfl
theorem bind_at {α β : Type} {m : Cm α} {f : α → Cm β} {r : R β} (h : (m >>= f) S = some r) : (∃ a S', m S = some (.ok a S') ∧ f a S' = some r) ∨ (∃ x S', m S = some (.ex x S') ∧ r = .ex x S') := by
  have e : (m >>= f) S = (match m S with
    | some (.ok a S') => f a S'
    | some (.ex x S') => some (.ex x S')
    | none => none) := id rfl
  rw [e] at h
  split at h
  · exact .inl ⟨_, _, ‹_›, h⟩
  · cases h; exact .inr ⟨_, _, ‹_›, rfl⟩
  · cases h
theorem bind_of {α β : Type} {m : Cm α} {f : α → Cm β} {a : α} {S' : CH} (h : m S = some (.ok a S')) : (m >>= f) S = f a S' := by
  show (match m S with
    | some (.ok a S') => f a S'
    | some (.ex x S') => some (.ex x S')
    | none => none) = _
  rw [h]
theorem bind_ex {α β : Type} {m : Cm α} {f : α → Cm β} {x : D} {S' : CH} (h : m S = some (.ex x S')) : (m >>= f) S = some (.ex x S') := by
  show (match m S with
    | some (.ok a S') => f a S'
    | some (.ex x S') => some (.ex x S')
    | none => none) = _
  rw [h]
theorem whlN_mono : ∀ (n : Nat) {σ : Env} {S : CH} {r : R Fl}, whlN test body n σ S = some r → whlN test body (n + 1) σ S = some r
  | 0, σ, S, r, h => by rw [whlN] at h; cases h
  | n + 1, σ, S, r, h => by
    rw [whlN_succ] at h ⊢
    rcases bind_at h with ⟨q, S1, e1, h⟩ | ⟨x, S1, e1, rfl⟩
    · rw [bind_of e1]
      cases q with
      | false => exact h
      | true =>
        rw [if_pos rfl] at h ⊢
        rcases bind_at h with ⟨fl, S2, e2, h⟩ | ⟨x, S2, e2, rfl⟩
        · rw [bind_of e2]
          cases fl with
          | nx σ' => exact whlN_mono n h
          | ct σ' => exact whlN_mono n h
          | bk σ' => exact h
          | rt d => exact h
        · exact bind_ex e2
    · exact bind_ex e1
theorem whlN_le {m : Nat} (hm : n ≤ m) (h : whlN test body n σ S = some r) : whlN test body m σ S = some r := by
  induction hm with
  | refl => exact h
  | step _ ih => exact whlN_mono _ ih
theorem whlM_of (h : whlN test body n σ S = some r) : whlM test body σ S = some r := by
  have hx : ∃ n, (whlN test body n σ S).isSome := ⟨n, by rw [h]; rfl⟩
  unfold whlM
  rw [dif_pos hx]
  have h2 := Classical.choose_spec hx
  cases e : whlN test body (Classical.choose hx) σ S with
  | none => rw [e] at h2; cases h2
  | some r2 =>
    have a := whlN_le (Nat.le_max_left n (Classical.choose hx)) h
    have b := whlN_le (Nat.le_max_right n (Classical.choose hx)) e
    rw [a] at b
    exact b.symm
theorem whlM_none (h : ∀ n, whlN test body n σ S = none) : whlM test body σ S = none := by
  unfold whlM
  rw [dif_neg]
  rintro ⟨n, hn⟩
  rw [h n] at hn
  cases hn
theorem whlM_step (ht : test σ = pure true) (hb : body σ = pure (.nx σ')) : whlM test body σ = whlM test body σ' := by
  have st : ∀ n, whlN test body (n + 1) σ = whlN test body n σ' := fun n => by
    rw [whlN_succ, ht, hb]
    rfl
  funext S
  by_cases h : ∃ n r, whlN test body n σ' S = some r
  · obtain ⟨n, r, e⟩ := h
    rw [whlM_of e, whlM_of (n := n + 1) (by rw [st]; exact e)]
  · have h0 : ∀ n, whlN test body n σ' S = none := fun n => by
      cases e : whlN test body n σ' S with
      | none => rfl
      | some r => exact absurd ⟨n, r, e⟩ h
    rw [whlM_none h0]
    refine whlM_none fun n => ?_
    cases n with
    | zero => rw [whlN]; rfl
    | succ n => rw [st]; exact h0 n
theorem whlM_end (ht : test σ = pure false) : whlM test body σ = pure (.nx σ) := by
  funext S
  refine whlM_of (n := 1) ?_
  rw [whlN_succ, ht]
  rfl
end
section
variable {c : Cfg} {t : E} {b : List Sm} {σ σ' : Env}
theorem whl_step (ht : (ev c t σ).t = pure true) (hb : exs c b σ = pure (.nx σ')) : whlL c t b σ = whlL c t b σ' := whlM_step ht hb
theorem whl_end (ht : (ev c t σ).t = pure false) : whlL c t b σ = pure (.nx σ) := whlM_end ht
end

/-! ### for -/
section
variable {c : Cfg} {g : G} {b : List Sm} {σ σ' : Env} {x : D} {xs : List D} {d : D}
/-- a turn: the target bound, the body run -/
noncomputable def turnM (c : Cfg) (g : G) (b : List Sm) (x : D) (σ : Env) : Cm Fl := Cm.lift (g.bind x σ) >>= fun σ' => exs c b σ'
@[simp] theorem forL_nil : forL c g b [] σ = pure (.nx σ) := by unfold forL; rw [forM]
/-- how the walk goes on -/
noncomputable def forK (c : Cfg) (g : G) (b : List Sm) (xs : List D) : Fl → Cm Fl
  | .nx σ' => forL c g b xs σ'
  | .ct σ' => forL c g b xs σ'
  | .bk σ' => pure (.nx σ')
  | .rt d => pure (.rt d)
@[simp] theorem forK_nx : forK c g b xs (.nx σ) = forL c g b xs σ := id rfl
@[simp] theorem forK_ct : forK c g b xs (.ct σ) = forL c g b xs σ := id rfl
@[simp] theorem forK_bk : forK c g b xs (.bk σ) = pure (.nx σ) := id rfl
@[simp] theorem forK_rt : forK c g b xs (.rt d) = pure (.rt d) := id rfl
theorem forL_cons : forL c g b (x :: xs) σ = turnM c g b x σ >>= forK c g b xs := by
  unfold forL turnM
  rw [forM, bind_assoc]
  rfl
/-- a fold: the names before a turn are told by a state -/
theorem forL_fold {α β : Type} {enc : α → D} {τ : β → Env} {step : β → α → β} {P : β → Prop} : ∀ {l : List α} {s : β}, P s → (∀ s a, a ∈ l → P s → turnM c g b (enc a) (τ s) = pure (.nx (τ (step s a))) ∧ P (step s a)) →
    forL c g b (l.map enc) (τ s) = pure (.nx (τ (l.foldl step s)))
  | [], s, _, _ => by rw [List.map_nil, forL_nil]; rfl
  | a :: l, s, hp, h => by
    obtain ⟨h1, h2⟩ := h s a (List.mem_cons_self ..) hp
    rw [List.map_cons, forL_cons, h1, pure_bind, forK_nx, forL_fold h2 fun s a ha hp => h s a (List.mem_cons_of_mem _ ha) hp]
    rfl
theorem forL_fold0 {α β : Type} {enc : α → D} {τ : β → Env} {step : β → α → β} {l : List α} {s : β} (h : ∀ s a, a ∈ l → turnM c g b (enc a) (τ s) = pure (.nx (τ (step s a)))) :
    forL c g b (l.map enc) (τ s) = pure (.nx (τ (l.foldl step s))) := forL_fold (P := fun _ => True) trivial fun s a ha _ => ⟨h s a ha, trivial⟩
end

/-! ### comprehensions -/
section
variable {c : Cfg} {own own2 : List Nat} {elt : E} {g g2 : G} {ifs : List E} {σ : Env}
theorem compM_cons {bind : D → Option Env} {test : Env → Cm Bool} {e : Env → Cm D} {x : D} {xs : List D} : compM bind test e (x :: xs) = (Cm.lift (bind x) >>= fun σ => test σ >>= fun q => if q = true then e σ >>= fun y => compM bind test e xs >>= fun ys => pure (y :: ys) else compM bind test e xs) := by
  rw [compM]
theorem compM_nil {bind : D → Option Env} {test : Env → Cm Bool} {e : Env → Cm D} : compM bind test e [] = pure [] := by rw [compM]
@[simp] theorem compL_nil : compL c own elt g ifs σ [] = pure [] := by unfold compL; rw [compM]
@[simp] theorem compL_cons {x : D} {xs : List D} : compL c own elt g ifs σ (x :: xs) = (Cm.lift (g.bind x (σ.wipe own)) >>= fun σ' => evIfs c ifs σ' >>= fun q => if q = true then (ev c elt σ').v >>= fun y => compL c own elt g ifs σ xs >>= fun ys => pure (y :: ys) else compL c own elt g ifs σ xs) := by
  unfold compL; rw [compM_cons]
/-- a comprehension without tests -/
theorem compL_map {α : Type} {enc : α → D} {f : α → D} {l : List α} (h : ∀ a ∈ l, (Cm.lift (g.bind (enc a) (σ.wipe own)) >>= fun σ' => (ev c elt σ').v) = pure (f a)) : compL c own elt g [] σ (l.map enc) = pure (l.map f) := by
  unfold compL
  induction l with
  | nil => exact compM_nil
  | cons a l ih =>
    have h1 := h a (List.mem_cons_self ..)
    rw [List.map_cons, compM_cons, ih fun a ha => h a (List.mem_cons_of_mem _ ha)]
    simp only [evIfs_nil, pure_bind, if_true]
    cases e : g.bind (enc a) (σ.wipe own) with
    | none => rw [e] at h1; simp at h1; exact absurd (congrFun h1 []) (by simp [Cm.fail]; intro z; cases z)
    | some σ' =>
      rw [e] at h1
      simp only [lift_some, pure_bind] at h1
      simp [h1]
/-- with a test -/
theorem compL_filter {α : Type} {enc : α → D} {f : α → D} {p : α → Bool} {l : List α} (h : ∀ a ∈ l, ∃ σ', g.bind (enc a) (σ.wipe own) = some σ' ∧ evIfs c ifs σ' = pure (p a) ∧ (p a = true → (ev c elt σ').v = pure (f a))) : compL c own elt g ifs σ (l.map enc) = pure ((l.filter p).map f) := by
  unfold compL
  induction l with
  | nil => exact compM_nil
  | cons a l ih =>
    obtain ⟨σ', e1, e2, e3⟩ := h a (List.mem_cons_self ..)
    rw [List.map_cons, compM_cons, ih fun a ha => h a (List.mem_cons_of_mem _ ha), e1]
    simp only [lift_some, pure_bind, e2]
    by_cases hp : p a = true
    · simp [hp, e3 hp]
    · simp [hp]
theorem dcompM_cons {bind : D → Option Env} {k v : Env → Cm D} {x : D} {xs ks vs : List D} : dcompM bind k v (x :: xs) ks vs = (Cm.lift (bind x) >>= fun σ => k σ >>= fun kd => v σ >>= fun vd => Cm.lift (dput kd vd ks vs) >>= fun p => dcompM bind k v xs p.1 p.2) := by
  rw [dcompM]
end
end Cl.Pl

set_option Elab.async false
set_option linter.all false
/-! PlC: fractions. -/
namespace Cl.Pl
open PySem

/-- a fraction -/
def qD (q : Rat) : D := .tup [.int q.num, .int q.den]
@[simp] theorem qD_01 : D.tup [.int 0, .int 1] = qD 0 := rfl
@[simp] theorem qD_11 : D.tup [.int 1, .int 1] = qD 1 := rfl
@[simp] theorem deref_q {q : Rat} : deref (qD q) = pure (qD q) := rfl
@[simp] theorem idx_q0 {q : Rat} : idxD (qD q) (.int 0) = some (.int q.num) := rfl
@[simp] theorem idx_q1 {q : Rat} : idxD (qD q) (.int 1) = some (.int q.den) := rfl
@[simp] theorem isTy_tup_q {q : Rat} : isTy .tuple (qD q) = some true := rfl
@[simp] theorem len_q {q : Rat} : biD .len [qD q] = some (.int 2) := rfl
@[simp] theorem seq_q {q : Rat} : seq? (qD q) = some [.int q.num, .int q.den] := rfl
theorem qD_inj {p q : Rat} (h : qD p = qD q) : p = q := by
  unfold qD at h
  injection h with h
  injection h with h1 h2
  injection h2 with h2 _
  injection h1 with h1
  injection h2 with h2
  exact Rat.ext h1 (by exact_mod_cast h2)

/-! ### slim texts -/
/- is_number: thing -/
def f_is_number : Fn := ⟨1, 1, [.ret (.and (.isi (.var 0) .int) (.not (.isi (.var 0) .bool)))]⟩
/- common_divisor: one other -/
def f_common_divisor_b1 : List Sm := [.par 0 false (.var 1) 1 false (.bin .Mod (.var 0) (.var 1))]
def f_common_divisor : Fn := ⟨2, 2, [.par 0 false (.bi .abs [(.var 0)]) 1 false (.bi .abs [(.var 1)]),
    .whl (.cmp .NotEq (.var 1) (.con (.int 0))) f_common_divisor_b1,
    .ret (.var 0)]⟩
/- is_fraction: thing part -/
def f_is_fraction : Fn := ⟨1, 2, [.ite (.or (.not (.isi (.var 0) .tuple)) (.or (.cmp .NotEq (.bi .len [(.var 0)]) (.con (.int 2))) (.not (.bi .all [(.comp [1] (.call "is_number" [(.var 1)]) (.nm 1) (.var 0) [])])))) [.ret (.con (.bl false))] [],
    .ret (.and (.cmp .Gt (.idx (.var 0) (.con (.int 1))) (.con (.int 0))) (.cmp .Eq (.call "common_divisor" [(.idx (.var 0) (.con (.int 0))), (.idx (.var 0) (.con (.int 1)))]) (.con (.int 1))))]⟩
/- made: a b its -/
def f_made : Fn := ⟨2, 3, [.ite (.or (.not (.call "is_number" [(.var 0)])) (.or (.not (.call "is_number" [(.var 1)])) (.cmp .Eq (.var 1) (.con (.int 0))))) [.rais] [],
    .asg (.nm 2) (.ite (.cmp .Gt (.var 1) (.con (.int 0))) (.call "common_divisor" [(.var 0), (.var 1)]) (.neg (.call "common_divisor" [(.var 0), (.var 1)]))),
    .ret (.tup [(.bin .FloorDiv (.var 0) (.var 2)), (.bin .FloorDiv (.var 1) (.var 2))])]⟩
/- added: one other -/
def f_added : Fn := ⟨2, 2, [.ret (.call "made" [(.bin .Add (.bin .Mult (.idx (.var 0) (.con (.int 0))) (.idx (.var 1) (.con (.int 1)))) (.bin .Mult (.idx (.var 1) (.con (.int 0))) (.idx (.var 0) (.con (.int 1))))), (.bin .Mult (.idx (.var 0) (.con (.int 1))) (.idx (.var 1) (.con (.int 1))))])]⟩
/- times: one other -/
def f_times : Fn := ⟨2, 2, [.ret (.call "made" [(.bin .Mult (.idx (.var 0) (.con (.int 0))) (.idx (.var 1) (.con (.int 0)))), (.bin .Mult (.idx (.var 0) (.con (.int 1))) (.idx (.var 1) (.con (.int 1))))])]⟩
/- divided: one other -/
def f_divided : Fn := ⟨2, 2, [.ret (.call "made" [(.bin .Mult (.idx (.var 0) (.con (.int 0))) (.idx (.var 1) (.con (.int 1)))), (.bin .Mult (.idx (.var 0) (.con (.int 1))) (.idx (.var 1) (.con (.int 0))))])]⟩
/- power: one n found _time -/
def f_power_b1 : List Sm := [.asg (.nm 2) (.call "times" [(.var 2), (.var 0)]),
    .kil [3]]
def f_power : Fn := ⟨2, 4, [.asg (.nm 2) (.glob "ONE"),
    .for_ (.nm 3) (.rng [(.var 1)]) f_power_b1,
    .ret (.var 2)]⟩
/- _law_gcd: a b -/
def f__law_gcd_b1 : List Sm := [.par 0 false (.var 1) 1 false (.bin .Mod (.var 0) (.var 1))]
def f__law_gcd : Fn := ⟨2, 2, [.whl (.cmp .NotEq (.var 1) (.con (.int 0))) f__law_gcd_b1,
    .ret (.ite (.cmp .GtE (.var 0) (.con (.int 0))) (.var 0) (.bin .Sub (.con (.int 0)) (.var 0)))]⟩
/- _law_fr: a b part -/
def f__law_fr : Fn := ⟨2, 3, [.asg (.nm 2) (.call "_law_gcd" [(.var 0), (.var 1)]),
    .asg (.nm 2) (.ite (.cmp .Gt (.var 1) (.con (.int 0))) (.var 2) (.bin .Sub (.con (.int 0)) (.var 2))),
    .ret (.tup [(.bin .FloorDiv (.var 0) (.var 2)), (.bin .FloorDiv (.var 1) (.var 2))])]⟩
/- _law_add: one other -/
def f__law_add : Fn := ⟨2, 2, [.ret (.call "_law_fr" [(.bin .Add (.bin .Mult (.idx (.var 0) (.con (.int 0))) (.idx (.var 1) (.con (.int 1)))) (.bin .Mult (.idx (.var 1) (.con (.int 0))) (.idx (.var 0) (.con (.int 1))))), (.bin .Mult (.idx (.var 0) (.con (.int 1))) (.idx (.var 1) (.con (.int 1))))])]⟩
/- _law_mul: one other -/
def f__law_mul : Fn := ⟨2, 2, [.ret (.call "_law_fr" [(.bin .Mult (.idx (.var 0) (.con (.int 0))) (.idx (.var 1) (.con (.int 0)))), (.bin .Mult (.idx (.var 0) (.con (.int 1))) (.idx (.var 1) (.con (.int 1))))])]⟩
/- _law_div: one other -/
def f__law_div : Fn := ⟨2, 2, [.ret (.call "_law_fr" [(.bin .Mult (.idx (.var 0) (.con (.int 0))) (.idx (.var 1) (.con (.int 1)))), (.bin .Mult (.idx (.var 0) (.con (.int 1))) (.idx (.var 1) (.con (.int 0))))])]⟩
/- _law_pow: one n found k -/
def f__law_pow_b1 : List Sm := [.asg (.nm 2) (.call "_law_mul" [(.var 2), (.var 0)]),
    .kil [3]]
def f__law_pow : Fn := ⟨2, 4, [.asg (.nm 2) (.tup [(.con (.int 1)), (.con (.int 1))]),
    .for_ (.nm 3) (.rng [(.var 1)]) f__law_pow_b1,
    .ret (.var 2)]⟩

/-! ### the greatest common divisor -/
theorem fmod_gcd (a b : Int) : Int.gcd b (a.fmod b) = Int.gcd a b := by
  have h : a.fmod b = a - b * a.fdiv b := by have := Int.fmod_add_mul_fdiv a b; omega
  rw [h]
  rw [Int.gcd_comm a b]
  have : a - b * a.fdiv b = a + b * (-(a.fdiv b)) := by rw [Int.mul_neg]; rfl
  rw [this, Int.gcd_add_mul_left_right]
theorem fmod_lt (a : Int) {b : Int} (h : b ≠ 0) : (a.fmod b).natAbs < b.natAbs := by
  rcases Int.lt_or_gt_of_ne h with h | h
  · have h1 := Int.fmod_add_mul_fdiv a b
    have h2 : a.fmod b = -((-a).fmod (-b)) := by rw [Int.neg_fmod_neg]; omega
    have h3 := Int.fmod_nonneg_of_pos (-a) (b := -b) (by omega)
    have h4 := Int.fmod_lt_of_pos (-a) (b := -b) (by omega)
    omega
  · have h3 := Int.fmod_nonneg_of_pos a h
    have h4 := Int.fmod_lt_of_pos a h
    omega
@[simp] theorem int_deq (a b : Int) : deq (.int a) (.int b) = some (decide (a = b)) := by
  unfold deq
  simp only [D.py]
  rw [if_pos (by constructor <;> rfl)]
  rfl

theorem str_deq {x y : Str} (hx : PyData.strOk x = true) (hy : PyData.strOk y = true) : deq (.str x) (.str y) = some (decide (x = y)) := by
  unfold deq
  simp only [D.py]
  rw [if_pos ⟨by simp [SeqAt.shaped, PyData.canLay0, PyData.depth, hx], by simp [SeqAt.shaped, PyData.canLay0, PyData.depth, hy]⟩]
  rfl

@[simp] theorem q_deq (p q : Rat) : deq (qD p) (qD q) = some (decide (p = q)) := by
  unfold deq qD
  simp only [D.py, D.pys, Option.map]
  rw [if_pos ⟨by rfl, by rfl⟩]
  simp only [PyData.eqv, PyData.eqvAll, Bool.and_true, Option.some.injEq]
  rw [Bool.eq_iff_iff]
  simp only [Bool.and_eq_true, beq_iff_eq, decide_eq_true_eq]
  constructor
  · rintro ⟨h1, h2⟩; exact Rat.ext h1 (by exact_mod_cast h2)
  · rintro rfl; exact ⟨rfl, rfl⟩

/-! ### sizes -/
theorem log2_mono {a b : Nat} (h : a ≤ b) : a.log2 ≤ b.log2 := by
  by_cases ha : a = 0
  · subst ha; simp
  · have hb : b ≠ 0 := by omega
    exact (Nat.le_log2 hb).mpr (Nat.le_trans (Nat.log2_self_le ha) h)
theorem log2_mul (a b : Nat) : (a * b).log2 ≤ a.log2 + b.log2 + 1 := by
  by_cases ha : a = 0
  · subst ha; simp
  by_cases hb : b = 0
  · subst hb; simp
  have h1 := Nat.lt_log2_self (n := a)
  have h2 := Nat.lt_log2_self (n := b)
  have h3 : a * b < 2 ^ (a.log2 + b.log2 + 2) := by
    rw [show a.log2 + b.log2 + 2 = (a.log2 + 1) + (b.log2 + 1) by omega, Nat.pow_add]
    exact Nat.mul_lt_mul'' h1 h2
  have := (Nat.log2_lt (Nat.mul_ne_zero ha hb)).mpr h3
  omega
theorem log2_add (a b : Nat) : (a + b).log2 ≤ max a.log2 b.log2 + 1 := by
  by_cases h0 : a + b = 0
  · rw [h0]; simp
  have h1 := Nat.lt_log2_self (n := a)
  have h2 := Nat.lt_log2_self (n := b)
  have p1 : 2 ^ (a.log2 + 1) ≤ 2 ^ (max a.log2 b.log2 + 1) := Nat.pow_le_pow_right (by decide) (by omega)
  have p2 : 2 ^ (b.log2 + 1) ≤ 2 ^ (max a.log2 b.log2 + 1) := Nat.pow_le_pow_right (by decide) (by omega)
  have h3 : a + b < 2 ^ (max a.log2 b.log2 + 2) := by
    rw [show max a.log2 b.log2 + 2 = (max a.log2 b.log2 + 1) + 1 by omega, Nat.pow_succ]
    omega
  have := (Nat.log2_lt h0).mpr h3
  omega
/-- what a number's size must be for the model's // and repr -/
def Fit (q : Rat) : Prop := q.num.natAbs.log2 < 1900 ∧ q.den.log2 < 1900
theorem Fit.mul_nn {p q : Rat} (hp : Fit p) (hq : Fit q) : mulOk p.num q.num = true := by
  unfold mulOk; have := hp.1; have := hq.1; simp only [decide_eq_true_eq]; omega
theorem Fit.mul_nd {p q : Rat} (hp : Fit p) (hq : Fit q) : mulOk p.num q.den = true := by
  unfold mulOk; have := hp.1; have := hq.2; simp only [decide_eq_true_eq, Int.natAbs_natCast]; omega
theorem Fit.mul_dn {p q : Rat} (hp : Fit p) (hq : Fit q) : mulOk p.den q.num = true := by
  unfold mulOk; have := hp.2; have := hq.1; simp only [decide_eq_true_eq, Int.natAbs_natCast]; omega
theorem Fit.mul_dd {p q : Rat} (hp : Fit p) (hq : Fit q) : mulOk p.den q.den = true := by
  unfold mulOk; have := hp.2; have := hq.2; simp only [decide_eq_true_eq, Int.natAbs_natCast]; omega
theorem div_gcd {a b : Int} (h0 : b ≠ 0) (hb : b.natAbs.log2 < 9000) {g : Int} (hg : g.natAbs = Int.gcd a b) : divOk g = true := by
  have h1 : Int.gcd a b ≤ b.natAbs := Nat.le_of_dvd (by omega) (Int.gcd_dvd_natAbs_right a b)
  have h2 : Int.gcd a b ≠ 0 := by rw [Ne, Int.gcd_eq_zero_iff]; exact fun z => h0 z.2
  have := log2_mono h1
  unfold divOk
  rw [hg]
  simp only [Bool.and_eq_true, decide_eq_true_eq]
  exact ⟨by omega, by omega⟩
/-- // by the divisor -/
theorem made_val {a b g : Int} (h0 : b ≠ 0) (hg : g = if 0 < b then (Int.gcd a b : Int) else -(Int.gcd a b : Int)) : D.tup [.int (a.fdiv g), .int (b.fdiv g)] = qD (Rat.divInt a b) := by
  have hgp : Int.gcd a b ≠ 0 := by rw [Ne, Int.gcd_eq_zero_iff]; exact fun z => h0 z.2
  have da : (Int.gcd a b : Int) ∣ a := Int.gcd_dvd_left ..
  have db : (Int.gcd a b : Int) ∣ b := Int.gcd_dvd_right ..
  unfold qD
  rw [Rat.num_divInt, Rat.den_divInt, if_neg h0, Int.gcd_comm b a]
  obtain ⟨x, hx⟩ := da
  obtain ⟨y, hy⟩ := db
  generalize hG : Int.gcd a b = G at *
  have hG0 : (G : Int) ≠ 0 := by omega
  by_cases hb : 0 < b
  · rw [if_pos hb] at hg
    subst hg
    have e1 : a.fdiv G = x := by rw [hx, Int.mul_fdiv_cancel_left _ hG0]
    have e2 : b.fdiv G = y := by rw [hy, Int.mul_fdiv_cancel_left _ hG0]
    have e3 : b.sign * a / (G : Int) = x := by rw [Int.sign_eq_one_of_pos hb, Int.one_mul, hx, Int.mul_ediv_cancel_left _ hG0]
    have e4 : ((b.natAbs / G : Nat) : Int) = y := by
      rw [Int.natCast_ediv, Int.natAbs_of_nonneg (by omega)]
      conv => lhs; rw [hy]
      exact Int.mul_ediv_cancel_left _ hG0
    rw [e1, e2, e3, e4]
  · rw [if_neg hb] at hg
    subst hg
    have hb' : b < 0 := by omega
    have hN0 : (-(G : Int)) ≠ 0 := by omega
    have e1 : a.fdiv (-(G : Int)) = -x := by rw [hx, show (G : Int) * x = -(G : Int) * -x by rw [Int.neg_mul_neg], Int.mul_fdiv_cancel_left _ hN0]
    have e2 : b.fdiv (-(G : Int)) = -y := by rw [hy, show (G : Int) * y = -(G : Int) * -y by rw [Int.neg_mul_neg], Int.mul_fdiv_cancel_left _ hN0]
    have e3 : b.sign * a / (G : Int) = -x := by rw [Int.sign_eq_neg_one_of_neg hb', hx, show -1 * ((G : Int) * x) = (G : Int) * -x by rw [Int.mul_neg]; omega, Int.mul_ediv_cancel_left _ hG0]
    have e4 : ((b.natAbs / G : Nat) : Int) = -y := by
      rw [Int.natCast_ediv, Int.ofNat_natAbs_of_nonpos (by omega)]
      conv => lhs; rw [hy]
      rw [show -((G : Int) * y) = (G : Int) * -y by rw [Int.mul_neg], Int.mul_ediv_cancel_left _ hG0]
    rw [e1, e2, e3, e4]
/-! ### bounds: a common denominator, a bound -/
def Bd (D N : Nat) (q : Rat) : Prop := 0 < D ∧ ∃ z : Int, q = Rat.divInt z D ∧ z.natAbs ≤ N * D
theorem Bd.add {D N N' : Nat} {p q : Rat} (hp : Bd D N p) (hq : Bd D N' q) : Bd D (N + N') (p + q) := by
  obtain ⟨hD, z, rfl, hz⟩ := hp
  obtain ⟨_, z', rfl, hz'⟩ := hq
  refine ⟨hD, z + z', ?_, ?_⟩
  · rw [Rat.divInt_add_divInt _ _ (by omega) (by omega), ← Int.add_mul, Rat.divInt_mul_right (by omega)]
  · rw [Nat.add_mul]; omega
theorem Bd.mul {D D' N N' : Nat} {p q : Rat} (hp : Bd D N p) (hq : Bd D' N' q) : Bd (D * D') (N * N') (p * q) := by
  obtain ⟨hD, z, rfl, hz⟩ := hp
  obtain ⟨hD', z', rfl, hz'⟩ := hq
  refine ⟨Nat.mul_pos hD hD', z * z', ?_, ?_⟩
  · rw [Rat.divInt_mul_divInt, Int.natCast_mul]
  · rw [Int.natAbs_mul]
    calc z.natAbs * z'.natAbs ≤ (N * D) * (N' * D') := Nat.mul_le_mul hz hz'
      _ = N * N' * (D * D') := by ac_rfl
theorem Bd.up {D D' N N' : Nat} {q : Rat} (h : Bd D N q) (hd : D ∣ D') (hp : 0 < D') (hn : N ≤ N') : Bd D' N' q := by
  obtain ⟨hD, z, rfl, hz⟩ := h
  obtain ⟨c, rfl⟩ := hd
  have hc : 0 < c := Nat.pos_of_mul_pos_left hp
  refine ⟨hp, z * c, ?_, ?_⟩
  · rw [Int.natCast_mul, Rat.divInt_mul_right (by omega)]
  · rw [Int.natAbs_mul, Int.natAbs_natCast, ← Nat.mul_assoc]
    exact Nat.mul_le_mul_right _ (Nat.le_trans hz (Nat.mul_le_mul_right _ hn))
theorem Bd.neg {D N : Nat} {q : Rat} (h : Bd D N q) : Bd D N (-q) := by
  obtain ⟨hD, z, rfl, hz⟩ := h
  exact ⟨hD, -z, by rw [Rat.neg_divInt], by omega⟩
theorem Bd.fit {D N : Nat} {q : Rat} (h : Bd D N q) (h1 : D.log2 < 1900) (h2 : (N * D).log2 < 1900) : Fit q := by
  obtain ⟨hD, z, rfl, hz⟩ := h
  constructor
  · rw [Rat.num_divInt, Int.sign_eq_one_of_pos (by omega), Int.one_mul]
    have : (z / ((D : Int).gcd z : Int)).natAbs ≤ z.natAbs := Int.natAbs_ediv_le_natAbs ..
    have := log2_mono (Nat.le_trans this hz)
    omega
  · rw [Rat.den_divInt, if_neg (by omega)]
    have : (D : Int).natAbs / (D : Int).gcd z ≤ D := by simpa using Nat.div_le_self ..
    have := log2_mono this
    omega
theorem Bd.one {D N : Nat} (h : 0 < D) (hn : 1 ≤ N) : Bd D N 1 := Bd.up (show Bd 1 1 1 from ⟨by decide, 1, rfl, by decide⟩) (Nat.one_dvd _) h hn
theorem Bd.zero {D N : Nat} (h : 0 < D) : Bd D N 0 := ⟨h, 0, (Rat.zero_divInt _).symm, by simp⟩
theorem Bd.pow {D N : Nat} {q : Rat} (h : Bd D N q) : ∀ n : Nat, Bd (D ^ n) (N ^ n) (q ^ n)
  | 0 => by rw [Rat.pow_zero]; exact Bd.one (by simp) (by simp)
  | n + 1 => by rw [Rat.pow_succ, Nat.pow_succ, Nat.pow_succ]; exact (Bd.pow h n).mul h
/-- up to a power -/
theorem Bd.powLe {D N n k : Nat} {q : Rat} (h : Bd D N q) (hn : n ≤ k) (hN : 1 ≤ N) : Bd (D ^ k) (N ^ k) (q ^ n) :=
  (h.pow n).up (Nat.pow_dvd_pow D hn) (Nat.pow_pos h.1) (Nat.pow_le_pow_right hN hn)
end Cl.Pl

set_option Elab.async false
set_option linter.all false
/-! PlD: the defs of fractions. -/
namespace Cl.Pl
open PySem

structure HasFr (m : Mo) : Prop where
  is_number : m.defs "is_number" = some f_is_number
  common_divisor : m.defs "common_divisor" = some f_common_divisor
  made : m.defs "made" = some f_made
  added : m.defs "added" = some f_added
  times : m.defs "times" = some f_times
  divided : m.defs "divided" = some f_divided
  power : m.defs "power" = some f_power
  ZERO : m.glob "ZERO" = some (qD 0)
  ONE : m.glob "ONE" = some (qD 1)
structure HasFrI (m : Mo) : Prop extends HasFr m where
  is_fraction : m.defs "is_fraction" = some f_is_fraction
structure HasLFr (m : Mo) : Prop where
  gcd : m.defs "_law_gcd" = some f__law_gcd
  fr : m.defs "_law_fr" = some f__law_fr
  add : m.defs "_law_add" = some f__law_add
  mul : m.defs "_law_mul" = some f__law_mul
  pow : m.defs "_law_pow" = some f__law_pow
structure HasLFrD (m : Mo) : Prop extends HasLFr m where
  div : m.defs "_law_div" = some f__law_div

section
variable {m : Mo} {k : Nat} {a b : Int} {p q : Rat}
theorem is_number_ok (h : HasFr m) : m.call (k + 1) "is_number" [.int a] = pure (.bl true) := by
  rw [call_run h.is_number rfl]; simp [f_is_number]
theorem gcd_loop {c : Cfg} : ∀ (n : Nat) (a b : Int), b.natAbs ≤ n → 0 ≤ a → 0 ≤ b → whlL c (.cmp .NotEq (.var 1) (.con (.int 0))) f_common_divisor_b1 [some (.v (.int a)), some (.v (.int b))] = pure (.nx [some (.v (.int (Int.gcd a b))), some (.v (.int 0))]) := by
  intro n
  induction n with
  | zero =>
    intro a b hb ha _
    have : b = 0 := by omega
    subst this
    rw [whl_end (by simp)]
    rw [Int.gcd_zero_right, Int.natAbs_of_nonneg ha]
  | succ n ih =>
    intro a b hb ha hb0
    by_cases h0 : b = 0
    · subst h0
      rw [whl_end (by simp)]
      rw [Int.gcd_zero_right, Int.natAbs_of_nonneg ha]
    · rw [whl_step (σ' := [some (.v (.int b)), some (.v (.int (a.fmod b)))]) (by simp [h0]) (by simp [f_common_divisor_b1, h0])]
      have := fmod_lt a h0
      rw [ih b (a.fmod b) (by omega) hb0 (Int.fmod_nonneg_of_pos a (by omega)), fmod_gcd]
theorem common_divisor_ok (h : HasFr m) : m.call (k + 1) "common_divisor" [.int a, .int b] = pure (.int (Int.gcd a b)) := by
  rw [call_run h.common_divisor rfl]
  simp [f_common_divisor]
  rw [gcd_loop _ _ _ (Nat.le_refl _) (by split <;> omega) (by split <;> omega)]
  have e : ∀ x : Int, (if x < 0 then -x else x) = (x.natAbs : Int) := fun x => by split <;> omega
  simp [e, Int.gcd]
theorem lgcd_loop {c : Cfg} : ∀ (n : Nat) (a b : Int), b.natAbs ≤ n → ∃ g : Int, g.natAbs = Int.gcd a b ∧ whlL c (.cmp .NotEq (.var 1) (.con (.int 0))) f__law_gcd_b1 [some (.v (.int a)), some (.v (.int b))] = pure (.nx [some (.v (.int g)), some (.v (.int 0))]) := by
  intro n
  induction n with
  | zero =>
    intro a b hb
    have : b = 0 := by omega
    subst this
    exact ⟨a, by simp, whl_end (by simp)⟩
  | succ n ih =>
    intro a b hb
    by_cases h0 : b = 0
    · subst h0
      exact ⟨a, by simp, whl_end (by simp)⟩
    · rw [whl_step (σ' := [some (.v (.int b)), some (.v (.int (a.fmod b)))]) (by simp [h0]) (by simp [f__law_gcd_b1, h0])]
      have := fmod_lt a h0
      obtain ⟨g, h1, h2⟩ := ih b (a.fmod b) (by omega)
      exact ⟨g, by rw [h1, fmod_gcd], h2⟩
theorem lgcd_ok (h : HasLFr m) : m.call (k + 1) "_law_gcd" [.int a, .int b] = pure (.int (Int.gcd a b)) := by
  rw [call_run h.gcd rfl]
  obtain ⟨g, h1, h2⟩ := lgcd_loop (c := ⟨m.call k, m.glob⟩) _ a b (Nat.le_refl _)
  simp [f__law_gcd]
  rw [h2]
  simp only [pure_bind, seqK_nx, exs_cons]
  simp
  rw [← h1]
  split
  · congr; omega
  · congr; omega
theorem is_fraction_ok (h : HasFrI m) : m.call (k + 2) "is_fraction" [qD q] = pure (.bl true) := by
  have h1 : (q.num.gcd (q.den : Int)) = 1 := q.reduced
  have h2 := q.den_pos
  rw [call_run h.is_fraction rfl]
  simp [f_is_fraction, is_number_ok h.toHasFr, common_divisor_ok h.toHasFr, h1, h2]
theorem made_ok (h : HasFr m) (h0 : b ≠ 0) (hb : b.natAbs.log2 < 9000) : m.call (k + 2) "made" [.int a, .int b] = pure (qD (Rat.divInt a b)) := by
  rw [call_run h.made rfl]
  have d1 := div_gcd h0 hb (a := a) (g := Int.gcd a b) (by simp)
  have d2 := div_gcd h0 hb (a := a) (g := -(Int.gcd a b : Int)) (by simp)
  have mv := made_val (a := a) h0 rfl
  simp [f_made, is_number_ok h, common_divisor_ok h, h0]
  split at mv <;> rename_i hp <;> simp [hp, d1, d2, mv]
theorem fr_ok (h : HasLFr m) (h0 : b ≠ 0) (hb : b.natAbs.log2 < 9000) : m.call (k + 2) "_law_fr" [.int a, .int b] = pure (qD (Rat.divInt a b)) := by
  rw [call_run h.fr rfl]
  have d1 := div_gcd h0 hb (a := a) (g := Int.gcd a b) (by simp)
  have d2 := div_gcd h0 hb (a := a) (g := -(Int.gcd a b : Int)) (by simp)
  have mv := made_val (a := a) h0 rfl
  simp [f__law_fr, lgcd_ok h]
  split at mv <;> rename_i hp <;> simp [hp, d1, d2, mv]
theorem dd_ne (p q : Rat) : (p.den : Int) * q.den ≠ 0 := Int.mul_ne_zero (by exact_mod_cast p.den_nz) (by exact_mod_cast q.den_nz)
theorem dd_log (hp : Fit p) (hq : Fit q) : ((p.den : Int) * q.den).natAbs.log2 < 9000 := by
  rw [Int.natAbs_mul]; have := log2_mul (p.den : Int).natAbs (q.den : Int).natAbs; have := hp.2; have := hq.2; simp only [Int.natAbs_natCast] at *; omega
theorem add_div (p q : Rat) : Rat.divInt (p.num * q.den + q.num * p.den) (p.den * q.den) = p + q := by
  rw [Rat.add_def', ← Rat.divInt_ofNat]; simp
theorem mul_div (p q : Rat) : Rat.divInt (p.num * q.num) (p.den * q.den) = p * q := by
  rw [Rat.mul_def', ← Rat.divInt_ofNat]; simp
theorem div_div (p q : Rat) : Rat.divInt (p.num * q.den) (p.den * q.num) = p / q := by
  rw [Rat.div_def, Rat.inv_def, ← Rat.divInt_mul_divInt, Rat.num_divInt_den]
theorem dn_ne (hq : q ≠ 0) (p : Rat) : (p.den : Int) * q.num ≠ 0 := Int.mul_ne_zero (by exact_mod_cast p.den_nz) (fun z => hq (Rat.num_eq_zero.mp z))
theorem dn_log (hp : Fit p) (hq : Fit q) : ((p.den : Int) * q.num).natAbs.log2 < 9000 := by
  rw [Int.natAbs_mul]; have := log2_mul (p.den : Int).natAbs q.num.natAbs; have := hp.2; have := hq.1; simp only [Int.natAbs_natCast] at *; omega
theorem added_ok (h : HasFr m) (hp : Fit p) (hq : Fit q) : m.call (k + 3) "added" [qD p, qD q] = pure (qD (p + q)) := by
  rw [call_run h.added rfl]
  simp [f_added, hp.mul_nd hq, hq.mul_nd hp, hp.mul_dd hq, made_ok h (dd_ne p q) (dd_log hp hq), add_div]
theorem times_ok (h : HasFr m) (hp : Fit p) (hq : Fit q) : m.call (k + 3) "times" [qD p, qD q] = pure (qD (p * q)) := by
  rw [call_run h.times rfl]
  simp [f_times, hp.mul_nn hq, hp.mul_dd hq, made_ok h (dd_ne p q) (dd_log hp hq), mul_div]
theorem divided_ok (h : HasFr m) (hp : Fit p) (hq : Fit q) (h0 : q ≠ 0) : m.call (k + 3) "divided" [qD p, qD q] = pure (qD (p / q)) := by
  rw [call_run h.divided rfl]
  simp [f_divided, hp.mul_nd hq, hp.mul_dn hq, made_ok h (dn_ne h0 p) (dn_log hp hq), div_div]
theorem ladd_ok (h : HasLFr m) (hp : Fit p) (hq : Fit q) : m.call (k + 3) "_law_add" [qD p, qD q] = pure (qD (p + q)) := by
  rw [call_run h.add rfl]
  simp [f__law_add, hp.mul_nd hq, hq.mul_nd hp, hp.mul_dd hq, fr_ok h (dd_ne p q) (dd_log hp hq), add_div]
theorem lmul_ok (h : HasLFr m) (hp : Fit p) (hq : Fit q) : m.call (k + 3) "_law_mul" [qD p, qD q] = pure (qD (p * q)) := by
  rw [call_run h.mul rfl]
  simp [f__law_mul, hp.mul_nn hq, hp.mul_dd hq, fr_ok h (dd_ne p q) (dd_log hp hq), mul_div]
theorem ldiv_ok (h : HasLFrD m) (hp : Fit p) (hq : Fit q) (h0 : q ≠ 0) : m.call (k + 3) "_law_div" [qD p, qD q] = pure (qD (p / q)) := by
  rw [call_run h.div rfl]
  simp [f__law_div, hp.mul_nd hq, hp.mul_dn hq, fr_ok h.toHasLFr (dn_ne h0 p) (dn_log hp hq), div_div]
theorem foldl_pow (q : Rat) : ∀ (n : Nat) (s : Rat), (List.range n).foldl (fun s _ => s * q) s = s * q ^ n
  | 0, s => by simp
  | n + 1, s => by rw [List.range_succ, List.foldl_append, foldl_pow q n s, Rat.pow_succ, ← Rat.mul_assoc]; rfl
theorem range_foldl {β : Type} (f : β → β) (s : β) (n : Nat) : (List.range (n + 1)).foldl (fun s _ => f s) s = f ((List.range n).foldl (fun s _ => f s) s) := by rw [List.range_succ, List.foldl_append]; rfl
/-- a loop that does the same each turn, told by how often -/
theorem forL_range {c : Cfg} {g : G} {b : List Sm} {τ : Nat → Env} : ∀ {n : Nat}, (∀ i, i < n → turnM c g b (.int i) (τ i) = pure (.nx (τ (i + 1)))) →
    forL c g b ((List.range n).map fun i : Nat => D.int (i : Int)) (τ 0) = pure (.nx (τ n)) := by
  have key : ∀ (n j : Nat), (∀ i, j ≤ i → i < j + n → turnM c g b (.int i) (τ i) = pure (.nx (τ (i + 1)))) → forL c g b ((List.range' j n).map fun i : Nat => D.int (i : Int)) (τ j) = pure (.nx (τ (j + n))) := by
    intro n
    induction n with
    | zero => intro j _; simp
    | succ n ih =>
      intro j h
      rw [List.range'_succ, List.map_cons, forL_cons, h j (Nat.le_refl _) (by omega), pure_bind, forK_nx, ih (j + 1) fun i h1 h2 => h i (by omega) (by omega), Nat.add_right_comm, Nat.add_assoc]
  intro n h
  have := key n 0 fun i _ h2 => h i (by omega)
  rw [List.range_eq_range']
  simpa using this
theorem power_ok (h : HasFr m) {n : Nat} (hn : n ≤ 1000000) (hf : ∀ i, i ≤ n → Fit (q ^ i)) : m.call (k + 4) "power" [qD q, .int n] = pure (qD (q ^ n)) := by
  rw [call_run h.power rfl]
  simp only [f_power]
  simp [h.ONE, rng1 hn]
  have := forL_range (c := ⟨m.call (k + 3), m.glob⟩) (g := .nm 3) (b := f_power_b1) (n := n) (τ := fun i => [some (.v (qD q)), some (.v (.int n)), some (.v (qD (q ^ i))), none]) fun i hi => by
    have h1 := hf i (by omega)
    have h2 := hf 1 (by omega)
    rw [Rat.pow_one] at h2
    simp [turnM, f_power_b1, times_ok h h1 h2, Rat.pow_succ]
  simp only [Rat.pow_zero] at this
  simp [this]
theorem lpow_ok (h : HasLFr m) {n : Nat} (hn : n ≤ 1000000) (hf : ∀ i, i ≤ n → Fit (q ^ i)) : m.call (k + 4) "_law_pow" [qD q, .int n] = pure (qD (q ^ n)) := by
  rw [call_run h.pow rfl]
  simp only [f__law_pow]
  simp [rng1 hn]
  have := forL_range (c := ⟨m.call (k + 3), m.glob⟩) (g := .nm 3) (b := f__law_pow_b1) (n := n) (τ := fun i => [some (.v (qD q)), some (.v (.int n)), some (.v (qD (q ^ i))), none]) fun i hi => by
    have h1 := hf i (by omega)
    have h2 := hf 1 (by omega)
    rw [Rat.pow_one] at h2
    simp [turnM, f__law_pow_b1, lmul_ok h h1 h2, Rat.pow_succ]
  simp only [Rat.pow_zero] at this
  simp [this]
end
end Cl.Pl

set_option Elab.async false
set_option linter.all false
/-! PlE: draws. -/
namespace Cl.Pl
open PySem

/-- a run ends well -/
def Wp {α : Type} (m : Cm α) (Q : α → CH → Prop) (S : CH) : Prop := ∃ a S', m S = some (.ok a S') ∧ Q a S'
section
variable {α β : Type} {m : Cm α} {f : α → Cm β} {Q P : α → CH → Prop} {R : β → CH → Prop} {S : CH} {a : α} {ds : List D} {d x y z e : D}
@[simp] theorem wp_pure : Wp (pure a) Q S ↔ Q a S := ⟨fun ⟨_, _, e, q⟩ => by cases e; exact q, fun q => ⟨a, S, rfl, q⟩⟩
theorem Wp.seq (h : Wp m P S) (h2 : ∀ a S', P a S' → Wp (f a) R S') : Wp (m >>= f) R S := by
  obtain ⟨a, S1, e, p⟩ := h
  obtain ⟨b, S2, e2, r⟩ := h2 a S1 p
  exact ⟨b, S2, (bind_of e).trans e2, r⟩
theorem Wp.mono (h : Wp m P S) (h2 : ∀ a S', P a S' → Q a S') : Wp m Q S := let ⟨a, S', e, p⟩ := h; ⟨a, S', e, h2 a S' p⟩
theorem Wp.bnd : Wp (m >>= f) R S ↔ Wp m (fun a S' => Wp (f a) R S') S := by
  constructor
  · rintro ⟨b, S2, e, r⟩
    rcases bind_at e with ⟨a, S1, e1, e2⟩ | ⟨x, S1, e1, e2⟩
    · exact ⟨a, S1, e1, b, S2, e2, r⟩
    · cases e2
  · exact fun h => h.seq fun _ _ z => z
@[simp] theorem wp_deref {f : D → Cm β} : Wp (deref (.ref 0) >>= f) R (.lst ds :: S) ↔ Wp (f (.lst ds)) R (.lst ds :: S) := .rfl
@[simp] theorem wp_deref' {Q : D → CH → Prop} : Wp (deref (.ref 0)) Q (.lst ds :: S) ↔ Q (.lst ds) (.lst ds :: S) := ⟨fun ⟨_, _, e, q⟩ => by cases e; exact q, fun q => ⟨_, _, rfl, q⟩⟩
@[simp] theorem wp_store0 {f : Unit → Cm β} : Wp (storeRef (.ref 0) (.int 0) d >>= f) R (.lst [x, y, z, e] :: S) ↔ Wp (f ()) R (.lst [d, y, z, e] :: S) := .rfl
@[simp] theorem wp_store1 {f : Unit → Cm β} : Wp (storeRef (.ref 0) (.int 1) d >>= f) R (.lst [x, y, z, e] :: S) ↔ Wp (f ()) R (.lst [x, d, z, e] :: S) := .rfl
@[simp] theorem wp_store2 {f : Unit → Cm β} : Wp (storeRef (.ref 0) (.int 2) d >>= f) R (.lst [x, y, z, e] :: S) ↔ Wp (f ()) R (.lst [x, y, d, e] :: S) := .rfl
end
/- _law_bag: script cell -/
def f__law_bag : Fn := ⟨1, 2, [.ret (.new (.lst [(.con (.int 0)), (.con (.int 1234567891)), (.con (.int 0)), (.comp [1] (.bi .abs [(.var 1)]) (.nm 1) (.slc (.var 0) none (some (.con (.int 63)))) [])]))]⟩
/- _law_take: bag many cell stirred value begin second -/
def f__law_take : Fn := ⟨2, 7, [.ite (.cmp .Eq (.idx (.var 0) (.con (.int 0))) (.con (.int 0))) [.asg (.nm 2) (.idx (.bin .Add (.slc (.idx (.var 0) (.con (.int 3))) (some (.idx (.var 0) (.con (.int 2)))) none) (.lst [(.con (.int 0))])) (.con (.int 0))),
    .augS (.var 0) (.con (.int 2)) .Add (.con (.int 1)),
    .ite (.cmp .GtE (.var 2) (.bin .Pow (.con (.int 10)) (.con (.int 18)))) [.set (.var 0) (.con (.int 0)) (.var 2)] [],
    .asg (.nm 3) (.bin .Add (.bin .Add (.bin .Mult (.idx (.var 0) (.con (.int 1))) (.con (.int 48271))) (.bin .Mod (.bi .int [(.var 2)]) (.con (.int 2147483647)))) (.bin .Mult (.con (.int 7919)) (.idx (.var 0) (.con (.int 2))))),
    .set (.var 0) (.con (.int 1)) (.bin .Mod (.bi .int [(.var 3)]) (.con (.int 2147483647)))] [],
    .ite (.cmp .Gt (.idx (.var 0) (.con (.int 0))) (.con (.int 0))) [.asg (.nm 4) (.bin .Mod (.bi .int [(.idx (.var 0) (.con (.int 0)))]) (.var 1)),
    .set (.var 0) (.con (.int 0)) (.bin .FloorDiv (.bi .int [(.idx (.var 0) (.con (.int 0)))]) (.var 1)),
    .ret (.var 4)] [],
    .asg (.nm 5) (.bin .Mod (.bi .int [(.bin .Mult (.bin .Add (.idx (.var 0) (.con (.int 1))) (.con (.int 1))) (.con (.int 39373)))]) (.con (.int 1000000007))),
    .asg (.nm 6) (.bin .Mod (.bi .int [(.bin .Mult (.bin .Mod (.bi .int [(.bin .Mult (.var 5) (.var 5))]) (.con (.int 998244353))) (.con (.int 30011)))]) (.con (.int 998244353))),
    .ret (.bin .Mod (.bi .int [(.bin .FloorDiv (.var 6) (.con (.int 7)))]) (.var 1))]⟩
/- _law_some: bag things -/
def f__law_some : Fn := ⟨2, 2, [.ret (.idx (.var 1) (.call "_law_take" [(.var 0), (.bi .len [(.var 1)])]))]⟩
/- _law_alike: found due -/
def f__law_alike : Fn := ⟨2, 2, [.ret (.and (.cmp .Eq (.bi .repr [(.var 0)]) (.bi .repr [(.var 1)])) (.cmp .Eq (.var 0) (.var 1)))]⟩
/- _law_small: bag -/
def f__law_small : Fn := ⟨1, 1, [.ret (.call "_law_fr" [(.bin .Sub (.call "_law_take" [(.var 0), (.con (.int 7))]) (.con (.int 3))), (.call "_law_some" [(.var 0), (.lst [(.con (.int 1)), (.con (.int 1)), (.con (.int 1)), (.con (.int 2)), (.con (.int 3))])])])]⟩
/- _law_not_nought: bag -/
def f__law_not_nought : Fn := ⟨1, 1, [.ret (.call "_law_some" [(.var 0), (.lst [(.tup [(.con (.int 1)), (.con (.int 1))]), (.tup [(.neg (.con (.int 1))), (.con (.int 1))]), (.tup [(.con (.int 2)), (.con (.int 1))]), (.tup [(.con (.int 1)), (.con (.int 2))]), (.tup [(.neg (.con (.int 3))), (.con (.int 2))])])])]⟩
structure HasDr (m : Mo) : Prop where
  bag : m.defs "_law_bag" = some f__law_bag
  take : m.defs "_law_take" = some f__law_take
  some_ : m.defs "_law_some" = some f__law_some
  small : m.defs "_law_small" = some f__law_small
  nn : m.defs "_law_not_nought" = some f__law_not_nought
/-- the bag, drawn from at most n times -/
def Good (n : Nat) (S : CH) : Prop := ∃ (b0 b1 b2 : Int) (cells : List Int), S = [.lst [.int b0, .int b1, .int b2, .lst (cells.map .int)]] ∧ 0 ≤ b0 ∧ 0 ≤ b1 ∧ b1 < 2147483647 ∧ 0 ≤ b2 ∧ b2 ≤ n ∧ cells.length ≤ 63 ∧ ∀ c ∈ cells, 0 ≤ c
theorem Good.up {n n' : Nat} {S : CH} (h : Good n S) (hn : n ≤ n') : Good n' S := by
  obtain ⟨b0, b1, b2, cells, h1, h2, h3, h4, h5, h6, h7, h8⟩ := h
  exact ⟨b0, b1, b2, cells, h1, h2, h3, h4, h5, by omega, h7, h8⟩
theorem bag_cell {cells : List Int} {b2 : Int} (h : ∀ c ∈ cells, 0 ≤ c) : ∃ c : Int, (cut (cells.map D.int) (some b2) none ++ [D.int 0])[0]? = some (.int c) ∧ 0 ≤ c := by
  unfold cut
  simp only [List.length_map]
  rw [← List.map_drop, ← List.map_take]
  cases e : List.take (cells.length - clip cells.length b2) (List.drop (clip cells.length b2) cells) with
  | nil => exact ⟨0, rfl, by decide⟩
  | cons c r =>
    refine ⟨c, rfl, h c ?_⟩
    have : c ∈ List.take (cells.length - clip cells.length b2) (List.drop (clip cells.length b2) cells) := by rw [e]; exact List.mem_cons_self ..
    exact List.mem_of_mem_drop (List.mem_of_mem_take this)
section
variable {m : Mo} {k n many : Nat} {S : CH}
theorem log2_lt64 {n : Nat} (h : n < 18446744073709551616) : n.log2 < 64 := by
  by_cases h0 : n = 0
  · subst h0; decide
  · exact (Nat.log2_lt h0).mpr (by exact h)
theorem mul64 {i j : Int} (hi : i.natAbs < 18446744073709551616) (hj : j.natAbs < 18446744073709551616) : mulOk i j = true := by
  have := log2_lt64 hi; have := log2_lt64 hj
  unfold mulOk; simp only [decide_eq_true_eq]; omega
theorem div64 {j : Int} (h0 : j ≠ 0) (hj : j.natAbs < 18446744073709551616) : divOk j = true := by
  have := log2_lt64 hj
  unfold divOk; simp only [Bool.and_eq_true, decide_eq_true_eq]; omega
theorem fmod_nat (x : Int) (h0 : 0 < many) : ∃ v : Nat, x.fmod (many : Int) = (v : Int) ∧ v < many := by
  have h1 := Int.fmod_nonneg_of_pos x (b := (many : Int)) (by omega)
  have h2 := Int.fmod_lt_of_pos x (b := (many : Int)) (by omega)
  exact ⟨(x.fmod many).toNat, by omega, by omega⟩
theorem fmod_rng (x : Int) {b : Int} (h : 0 < b) : 0 ≤ x.fmod b ∧ x.fmod b < b := ⟨Int.fmod_nonneg_of_pos x h, Int.fmod_lt_of_pos x h⟩
theorem fdiv_pos {x b : Int} (hx : 0 ≤ x) (h : 0 < b) : 0 ≤ x.fdiv b := by rw [Int.fdiv_eq_ediv_of_nonneg _ (by omega)]; exact Int.ediv_nonneg hx (by omega)
def TakeP (n many : Nat) (cells : List Int) (fl : Fl) (S' : CH) : Prop := ∃ (v2 v3 : Option Sl) (b0 b1 b2 : Int), fl = .nx [some (.v (.ref 0)), some (.v (.int many)), v2, v3, none, none, none] ∧ S' = [.lst [.int b0, .int b1, .int b2, .lst (cells.map .int)]] ∧ 0 ≤ b0 ∧ 0 ≤ b1 ∧ b1 < 2147483647 ∧ 0 ≤ b2 ∧ b2 ≤ (n + 1 : Nat)
def TakeQ (n many : Nat) (d : D) (S' : CH) : Prop := ∃ v : Nat, d = .int v ∧ v < many ∧ Good (n + 1) S'
theorem take_ok (h : HasDr m) (G : Good n S) (hn : n ≤ 1000000) (h0 : 0 < many) (h1 : many ≤ 1000000) : Wp (m.call (k + 1) "_law_take" [.ref 0, .int many]) (TakeQ n many) S := by
  obtain ⟨b0, b1, b2, cells, rfl, g0, g1, g2, g3, g4, g5, g6⟩ := G
  obtain ⟨c, hc, hc0⟩ := bag_cell (b2 := b2) g6
  have hc' := hc
  simp at hc'
  have hcl : (cut (cells.map D.int) (some b2) none).length ≤ 999999 := by
    unfold cut; simp only [List.length_take, List.length_drop, List.length_map]; omega
  have hm0 : (many : Int) ≠ 0 := by omega
  have hmN : many ≠ 0 := by omega
  have hdm := div64 (j := (many : Int)) hm0 (by omega)
  -- the first part leaves a bag like this
  rw [call_run h.take rfl]
  simp only [f__law_take, List.map_cons, List.map_nil, List.cons_append, List.nil_append, exs_cons, bind_assoc, seqK_nx]
  refine Wp.seq (P := TakeP n many cells) ?_ ?_
  · simp
    by_cases hb : b0 = 0
    · subst hb
      have e18 : binD .Pow (.int 10) (.int 18) = some (.int 1000000000000000000) := rfl
      have f1 := fmod_rng c (b := 2147483647) (by decide)
      have f2 := fmod_rng (b1 * 48271 + c.fmod 2147483647 + 7919 * (b2 + 1)) (b := 2147483647) (by decide)
      have m1 : mulOk b1 48271 = true := mul64 (by omega) (by omega)
      have m2 : mulOk 7919 (b2 + 1) = true := mul64 (by omega) (by omega)
      by_cases hbig : 1000000000000000000 ≤ c
      · simp [hcl, hc, hc', e18, hbig, m1, m2, hc0, f1, f2]
        exact ⟨_, _, _, _, _, rfl, rfl, by omega, f2.1, f2.2, by omega, by omega⟩
      · simp [hcl, hc, hc', e18, hbig, m1, m2, hc0, f1, f2]
        exact ⟨_, _, _, _, _, rfl, rfl, by omega, f2.1, f2.2, by omega, by omega⟩
    · simp [hb]
      exact ⟨_, _, _, _, _, rfl, rfl, g0, g1, g2, g3, by omega⟩
  · rintro _ _ ⟨v2, v3, b0, b1, b2, rfl, rfl, g0, g1, g2, g3, g4⟩
    simp
    by_cases hb : 0 < b0
    · obtain ⟨v, hv, hvl⟩ := fmod_nat b0 h0
      simp [hb, hm0, hmN, hdm, hv]
      exact ⟨v, rfl, hvl, _, _, _, _, rfl, fdiv_pos g0 (by omega), g1, g2, g3, g4, g5, g6⟩
    · have f1 := fmod_rng ((b1 + 1) * 39373) (b := 1000000007) (by decide)
      generalize hx : ((b1 + 1) * 39373).fmod 1000000007 = x at f1
      have f2 := fmod_rng (x * x) (b := 998244353) (by decide)
      generalize hy : (x * x).fmod 998244353 = y at f2
      have f3 := fmod_rng (y * 30011) (b := 998244353) (by decide)
      generalize hz : (y * 30011).fmod 998244353 = z at f3
      obtain ⟨v, hv, hvl⟩ := fmod_nat (z.fdiv 7) h0
      have m1 : mulOk (b1 + 1) 39373 = true := mul64 (by omega) (by omega)
      have m2 : mulOk x x = true := mul64 (by omega) (by omega)
      have m3 : mulOk y 30011 = true := mul64 (by omega) (by omega)
      have d7 : divOk 7 = true := by decide
      simp [hb, hm0, hmN, m1, m2, m3, hx, hy, hz, d7, hv]
      exact ⟨v, rfl, hvl, _, _, _, _, rfl, g0, g1, g2, g3, g4, g5, g6⟩
/-- one of some things -/
theorem some_ok (h : HasDr m) (G : Good n S) (hn : n ≤ 1000000) {ds : List D} (h0 : 0 < ds.length) (h1 : ds.length ≤ 1000000) : Wp (m.call (k + 2) "_law_some" [.ref 0, .lst ds]) (fun d S' => d ∈ ds ∧ Good (n + 1) S') S := by
  rw [call_run h.some_ rfl]
  simp [f__law_some]
  refine Wp.seq (take_ok h G hn h0 h1) ?_
  rintro _ S' ⟨v, rfl, hv, G'⟩
  simp [hv, G']
theorem small_ok (h : HasDr m) (hf : HasLFr m) (G : Good n S) (hn : n + 2 ≤ 1000000) : Wp (m.call (k + 3) "_law_small" [.ref 0]) (fun d S' => ∃ q, d = qD q ∧ Bd 6 3 q ∧ Good (n + 2) S') S := by
  rw [call_run h.small rfl]
  simp [f__law_small]
  refine Wp.seq (take_ok h (many := 7) G (by omega) (by decide) (by decide)) ?_
  rintro _ S1 ⟨v, rfl, hv, G1⟩
  simp
  refine Wp.seq (some_ok h G1 (by omega) (by simp) (by simp)) ?_
  rintro d S2 ⟨hd, G2⟩
  have : ∃ w : Nat, d = .int w ∧ (w = 1 ∨ w = 2 ∨ w = 3) := by
    simp at hd
    rcases hd with rfl | rfl | rfl
    · exact ⟨1, rfl, .inl rfl⟩
    · exact ⟨2, rfl, .inr (.inl rfl)⟩
    · exact ⟨3, rfl, .inr (.inr rfl)⟩
  obtain ⟨w, rfl, hw⟩ := this
  have hw0 : (w : Int) ≠ 0 := by omega
  have hl : (w : Int).natAbs.log2 < 9000 := by rcases hw with rfl | rfl | rfl <;> decide
  simp [fr_ok hf hw0 hl]
  refine ⟨_, rfl, ?_, G2⟩
  rw [← Rat.divInt_ofNat]
  refine Bd.up (D := w) (N := 3) ⟨by omega, _, rfl, ?_⟩ (by rcases hw with rfl | rfl | rfl <;> decide) (by decide) (by decide)
  rcases hw with rfl | rfl | rfl <;> omega
end
end Cl.Pl

set_option Elab.async false
set_option linter.all false
/-! PlF: dicts by typed keys, sorting, loops over draws. -/
namespace Cl.Pl
open PySem

/-! ### typed dicts -/
structure KeyEnc (κ : Type) where
  f : κ → D
  c : Bool
  ok : ∀ a, kk (f a) = some c
  inj : ∀ a b, keyOf (f a) = keyOf (f b) → a = b
def aput {κ β : Type} [DecidableEq κ] (a : κ) (v : β) : List (κ × β) → List (κ × β)
  | [] => [(a, v)]
  | (b, w) :: l => if b = a then (b, v) :: l else (b, w) :: aput a v l
def alook {κ β : Type} [DecidableEq κ] (a : κ) : List (κ × β) → Option β
  | [] => none
  | (b, w) :: l => if b = a then some w else alook a l
section
variable {κ β : Type} [DecidableEq κ] {K : KeyEnc κ} {a : κ}
theorem alook_cons {b : κ} {w : β} {l : List (κ × β)} : alook a ((b, w) :: l) = if b = a then some w else alook a l := rfl
theorem aput_cons {b : κ} {v w : β} {l : List (κ × β)} : aput a v ((b, w) :: l) = if b = a then (b, v) :: l else (b, w) :: aput a v l := rfl
theorem key_iff (K : KeyEnc κ) (a b : κ) : keyOf (K.f b) = keyOf (K.f a) ↔ b = a := ⟨K.inj b a, fun h => by rw [h]⟩
theorem dfind_typed (K : KeyEnc κ) (g : β → D) (a : κ) : ∀ l : List (κ × β), dfind (K.f a) (l.map fun p => K.f p.1) (l.map fun p => g p.2) = some ((alook a l).map g)
  | [] => by show (if (kk (K.f a)).isSome then some none else none) = _; rw [K.ok]; rfl
  | (b, w) :: l => by
    show (if (kk (K.f a)).isSome ∧ kk (K.f b) = kk (K.f a) then (if keyOf (K.f b) = keyOf (K.f a) then some (some (g w)) else dfind (K.f a) (l.map fun p => K.f p.1) (l.map fun p => g p.2)) else none) = _
    rw [K.ok, K.ok, if_pos ⟨rfl, rfl⟩, dfind_typed K g a l]
    rw [alook_cons]
    by_cases h : b = a
    · rw [if_pos ((key_iff K a b).mpr h), if_pos h]; rfl
    · rw [if_neg (fun z => h ((key_iff K a b).mp z)), if_neg h]
theorem dput_typed (K : KeyEnc κ) (g : β → D) (a : κ) (v : β) : ∀ l : List (κ × β), dput (K.f a) (g v) (l.map fun p => K.f p.1) (l.map fun p => g p.2) = some ((aput a v l).map (fun p => K.f p.1), (aput a v l).map fun p => g p.2)
  | [] => by show (if (kk (K.f a)).isSome then some ([K.f a], [g v]) else none) = _; rw [K.ok]; rfl
  | (b, w) :: l => by
    show (if (kk (K.f a)).isSome ∧ kk (K.f b) = kk (K.f a) then (if keyOf (K.f b) = keyOf (K.f a) then some (K.f b :: l.map (fun p => K.f p.1), g v :: l.map fun p => g p.2) else (dput (K.f a) (g v) (l.map fun p => K.f p.1) (l.map fun p => g p.2)).map fun p => (K.f b :: p.1, g w :: p.2)) else none) = _
    rw [K.ok, K.ok, if_pos ⟨rfl, rfl⟩, dput_typed K g a v l]
    rw [aput_cons]
    by_cases h : b = a
    · rw [if_pos ((key_iff K a b).mpr h), if_pos h]; rfl
    · rw [if_neg (fun z => h ((key_iff K a b).mp z)), if_neg h]; rfl
theorem aput_mem {v : β} : ∀ {l : List (κ × β)} {p : κ × β}, p ∈ aput a v l → p = (a, v) ∨ p ∈ l
  | [], p, h => .inl (by simpa [aput] using h)
  | (b, w) :: l, p, h => by
    unfold aput at h
    split at h
    · rename_i e
      rcases List.mem_cons.mp h with h | h
      · left; rw [h, e]
      · exact .inr (List.mem_cons_of_mem _ h)
    · rcases List.mem_cons.mp h with h | h
      · exact .inr (by rw [h]; exact List.mem_cons_self ..)
      · rcases aput_mem h with h | h
        · exact .inl h
        · exact .inr (List.mem_cons_of_mem _ h)
theorem aput_len (a : κ) (v : β) : ∀ l : List (κ × β), (aput a v l).length ≤ l.length + 1
  | [] => by simp [aput]
  | (b, w) :: l => by
    unfold aput
    split
    · simp
    · have := aput_len a v l; simp; omega
theorem aput_keys {v : β} : ∀ l : List (κ × β), (l.map (·.1)).Nodup → ((aput a v l).map (·.1)).Nodup
  | [], _ => by simp [aput]
  | (b, w) :: l, h => by
    rw [List.map_cons, List.nodup_cons] at h
    unfold aput
    split
    · rw [List.map_cons, List.nodup_cons]; exact h
    · rename_i hb
      rw [List.map_cons, List.nodup_cons]
      refine ⟨fun z => ?_, aput_keys l h.2⟩
      obtain ⟨p, hp, e⟩ := List.mem_map.mp z
      rcases aput_mem hp with rfl | hp
      · exact hb e.symm
      · exact h.1 (List.mem_map.mpr ⟨p, hp, e⟩)
theorem alook_of {l : List (κ × β)} (h : (l.map (·.1)).Nodup) {p : κ × β} (hp : p ∈ l) : alook p.1 l = some p.2 := by
  induction l with
  | nil => cases hp
  | cons q l ih =>
    obtain ⟨b, w⟩ := q
    rw [List.map_cons, List.nodup_cons] at h
    unfold alook
    rcases List.mem_cons.mp hp with rfl | hp
    · rw [if_pos rfl]
    · rw [if_neg (fun e => h.1 (List.mem_map.mpr ⟨p, hp, e.symm⟩)), ih h.2 hp]
end
def strKey : KeyEnc Str where
  f := .str
  c := false
  ok _ := rfl
  inj a b h := by
    have : (some (NestedKey.text a)) = some (.text b) := h
    cases this; rfl
theorem keys_ints : ∀ l : List Nat, keysOf (l.map fun k : Nat => D.int (k : Int)) = some (l.map fun k : Nat => NestedKey.num (k : Int))
  | [] => rfl
  | a :: l => by rw [List.map_cons, keysOf, keys_ints l]; rfl
theorem depth_ints : ∀ l : List Nat, NestedKey.depthAll (l.map fun k : Nat => NestedKey.num (k : Int)) = 0
  | [] => rfl
  | a :: l => by rw [List.map_cons, NestedKey.depthAll, depth_ints l]; rfl
/-- powers -/
def pwD (l : List Nat) : D := .tup (l.map fun k : Nat => D.int (k : Int))
def pwKey : KeyEnc (List Nat) where
  f := pwD
  c := true
  ok l := by
    unfold kk pwD
    rw [keyOf, keys_ints]
    show (if NestedKey.depthAll (l.map fun k : Nat => NestedKey.num (k : Int)) ≤ 7 then some true else none) = _
    rw [depth_ints]
    rfl
  inj a b h := by
    unfold pwD at h
    rw [keyOf, keyOf, keys_ints, keys_ints] at h
    have h : some (NestedKey.tup (a.map fun k : Nat => NestedKey.num (k : Int))) = some (.tup (b.map fun k : Nat => NestedKey.num (k : Int))) := h
    injection h with h
    injection h with h
    have inj : ∀ x y : Nat, (NestedKey.num x) = .num y → x = y := fun x y e => by injection e with e; exact_mod_cast e
    exact (List.map_inj_right inj).mp h
/-- a term's number and powers -/
def tkD (p : Str × List Nat) : D := .tup [.str p.1, pwD p.2]
def tkKey : KeyEnc (Str × List Nat) where
  f := tkD
  c := true
  ok p := by
    unfold kk tkD pwD
    simp only [keyOf, keysOf, keys_ints, Option.map_some, Option.bind_some, kindN, NestedKey.depthAll, NestedKey.depth, depth_ints]
    rfl
  inj a b h := by
    unfold tkD pwD at h
    simp only [keyOf, keysOf, keys_ints, Option.map_some, Option.some.injEq, NestedKey.tup.injEq, List.cons.injEq, NestedKey.text.injEq, and_true] at h
    have inj : ∀ x y : Nat, (NestedKey.num x) = .num y → x = y := fun x y e => by injection e with e; exact_mod_cast e
    exact Prod.ext h.1 ((List.map_inj_right inj).mp h.2)
@[simp] theorem deref_tk {p : Str × List Nat} : deref (tkD p) = pure (tkD p) := rfl
@[simp] theorem deref_pw {p : List Nat} : deref (pwD p) = pure (pwD p) := rfl

/-! ### loops over draws -/
section
variable {c : Cfg} {g : G} {b : List Sm} {σ : Env} {S : CH} {own : List Nat} {elt : E} {ifs : List E}
theorem wp_forL {I : Nat → Env → CH → Prop} : ∀ {l : List D} {i : Nat} {σ : Env} {S : CH}, I i σ S → (∀ j (hj : j < l.length) σ S, I (i + j) σ S → Wp (turnM c g b l[j] σ) (fun fl S' => ∃ σ', fl = .nx σ' ∧ I (i + j + 1) σ' S') S) →
    Wp (forL c g b l σ) (fun fl S' => ∃ σ', fl = .nx σ' ∧ I (i + l.length) σ' S') S
  | [], i, σ, S, h0, _ => by rw [forL_nil, wp_pure]; exact ⟨σ, rfl, h0⟩
  | x :: l, i, σ, S, h0, h => by
    rw [forL_cons]
    refine Wp.seq (h 0 (Nat.zero_lt_succ _) σ S h0) ?_
    rintro _ S' ⟨σ', rfl, h1⟩
    rw [forK_nx, List.length_cons, show i + (l.length + 1) = (i + 1) + l.length by omega]
    exact wp_forL h1 fun j hj σ S hI => by
      have := h (j + 1) (Nat.succ_lt_succ hj) σ S (by rw [show i + (j + 1) = i + 1 + j by omega]; exact hI)
      rw [show i + 1 + j + 1 = i + (j + 1) + 1 by omega]
      exact this
theorem wp_compL {I : Nat → List D → CH → Prop} : ∀ {l : List D} {i : Nat} {ys : List D} {S : CH}, I i ys S → (∀ j (hj : j < l.length) ys S, I (i + j) ys S → Wp (Cm.lift (g.bind l[j] (σ.wipe own)) >>= fun σ' => (ev c elt σ').v) (fun y S' => I (i + j + 1) (ys ++ [y]) S') S) →
    Wp (compL c own elt g [] σ l) (fun zs S' => I (i + l.length) (ys ++ zs) S') S
  | [], i, ys, S, h0, _ => by rw [compL_nil, wp_pure]; simpa using h0
  | x :: l, i, ys, S, h0, h => by
    rw [compL_cons]
    have h1 := h 0 (Nat.zero_lt_succ _) ys S h0
    simp only [evIfs_nil, pure_bind, if_true]
    rw [← bind_assoc]
    refine Wp.seq h1 fun y S' hy => ?_
    have := wp_compL (l := l) hy fun j hj ys S hI => by
      have := h (j + 1) (Nat.succ_lt_succ hj) ys S (by rw [show i + (j + 1) = i + 1 + j by omega]; exact hI)
      rw [show i + 0 + 1 + j + 1 = i + (j + 1) + 1 by omega]
      exact this
    refine Wp.seq this fun zs S2 hz => ?_
    rw [wp_pure, List.length_cons, show i + (l.length + 1) = (i + 0 + 1) + l.length by omega, List.append_cons]
    exact hz
end
end Cl.Pl

set_option Elab.async false
set_option linter.all false
/-! PlG: sums, drawn. -/
namespace Cl.Pl
open PySem

structure Tm where
  n : Str
  pw : List Nat
  q : Rat
  deriving DecidableEq
def tmD (t : Tm) : D := .tup [.str t.n, pwD t.pw, qD t.q]
def sumD (ts : List Tm) : D := .tup (ts.map tmD)
def Tm.key (t : Tm) : Str × List Nat := (t.n, t.pw)
def tmOf (p : (Str × List Nat) × Rat) : Tm := ⟨p.1.1, p.1.2, p.2⟩
/-- names, as a list -/
def namesL (l : List Str) : D := .lst (l.map .str)
@[simp] theorem deref_namesL {l : List Str} : deref (namesL l) = pure (namesL l) := rfl
/-- the model's order of keys -/
def tkLe (a b : Str × List Nat) : Bool := PySem.W.dataLe false enc (tkD a) (tkD b)
theorem hasPy_ints : ∀ l : List Nat, ∃ ps, D.pys (l.map fun k : Nat => D.int (k : Int)) = some ps ∧ PyData.depthAll ps = 0 ∧ ps = l.map fun k : Nat => PyData.int (k : Int)
  | [] => ⟨[], rfl, rfl, rfl⟩
  | a :: l => by
    obtain ⟨ps, h1, h2, h3⟩ := hasPy_ints l
    refine ⟨.int a :: ps, ?_, ?_, ?_⟩
    · rw [List.map_cons, D.pys, h1]; rfl
    · rw [PyData.depthAll, h2]; rfl
    · rw [List.map_cons, h3]
theorem alike_ints : ∀ xs ys : List Nat, PySem.W.alikeAll (xs.map fun k : Nat => PyData.int (k : Int)) (ys.map fun k : Nat => PyData.int (k : Int)) = true
  | [], _ => by simp [PySem.W.alikeAll]
  | _ :: _, [] => by simp [PySem.W.alikeAll]
  | x :: xs, y :: ys => by rw [List.map_cons, List.map_cons, PySem.W.alikeAll, alike_ints xs ys]; simp [PySem.W.alike]
theorem enc_tk (a : Str × List Nat) : (tkD a).py = some (.tuple [.str a.1, .tuple (a.2.map fun k : Nat => PyData.int (k : Int))]) := by
  obtain ⟨ps, h1, h2, h3⟩ := hasPy_ints a.2
  unfold tkD pwD
  simp only [D.py, D.pys, h1, Option.map_some, h3]
theorem sort_tk {l : List (Str × List Nat)} (hl : l.length ≤ 1000000) : sortD (l.map tkD) = some ((l.mergeSort tkLe).map tkD) := by
  unfold sortD
  rw [if_pos]
  · rw [List.map_mergeSort]; exact fun _ _ _ _ => rfl
  · simp only [Bool.and_eq_true, decide_eq_true_eq, List.length_map, List.all_eq_true, List.mem_map, Bool.or_eq_true, forall_exists_index, and_imp, forall_apply_eq_imp_iff₂]
    refine ⟨⟨⟨⟨fun a _ => ?_, ?_⟩, .inl (.inl fun a _ => rfl)⟩, fun a _ => ?_⟩, hl⟩
    · unfold hasPy; rw [enc_tk]; rfl
    · unfold alikeL
      simp only [List.all_eq_true, List.mem_map, forall_exists_index, and_imp, forall_apply_eq_imp_iff₂]
      intro a _ b _
      unfold enc
      rw [enc_tk, enc_tk]
      simp [PySem.W.alike, PySem.W.alikeAll, alike_ints]
    · unfold enc
      rw [enc_tk]
      obtain ⟨ps, h1, h2, h3⟩ := hasPy_ints a.2
      simp [PyData.depth, PyData.depthAll, ← h3, h2]
theorem tkLe_total : PySem.W.TotalLe tkLe where
  total a b := (PySem.W.sortLe_total (PyProof.Rows.listOrd PyProof.Rows.itemOrd) false fun d => PySem.W.keyToks (enc d)).total (tkD a) (tkD b)
  trans a b c := (PySem.W.sortLe_total (PyProof.Rows.listOrd PyProof.Rows.itemOrd) false fun d => PySem.W.keyToks (enc d)).trans (tkD a) (tkD b) (tkD c)
theorem tk_sorted (l : List (Str × List Nat)) : (l.mergeSort tkLe).Pairwise fun a b => tkLe a b = true :=
  List.pairwise_mergeSort (fun a b c => tkLe_total.trans a b c) (fun a b => by have := tkLe_total.total a b; simpa using this) l
@[simp] theorem add_tk {p : Str × List Nat} {x : D} : binD .Add (tkD p) (.tup [x]) = some (.tup [.str p.1, pwD p.2, x]) := rfl

/-! ### numbers that are not 0 -/
def q12 : Rat := ⟨1, 2, by decide, by decide⟩
def qm32 : Rat := ⟨-3, 2, by decide, by decide⟩
def NN (q : Rat) : Prop := q = 1 ∨ q = -1 ∨ q = 2 ∨ q = q12 ∨ q = qm32
theorem NN.bd {q : Rat} (h : NN q) : Bd 2 2 q := by
  rcases h with rfl | rfl | rfl | rfl | rfl
  · exact Bd.one (by decide) (by decide)
  · exact Bd.neg (Bd.one (by decide) (by decide))
  · exact ⟨by decide, 4, by rfl, by decide⟩
  · exact ⟨by decide, 1, by rfl, by decide⟩
  · exact ⟨by decide, -3, by rfl, by decide⟩
theorem NN.ne {q : Rat} (h : NN q) : q ≠ 0 := by
  rcases h with rfl | rfl | rfl | rfl | rfl <;> decide
/- _law_turn: bag names fields most found k key field -/
def f__law_turn_b1 : List Sm := [.asg (.nm 6) (.tup [(.call "_law_some" [(.var 0), (.bin .Add (.var 1) (.lst [(.con (.str "")), (.con (.str ""))]))]), (.bi .tuple [(.comp [7] (.call "_law_some" [(.var 0), (.lst [(.con (.int 0)), (.con (.int 0)), (.con (.int 1)), (.con (.int 1)), (.con (.int 2))])]) (.nm 7) (.rng [(.var 2)]) [])])]),
    .set (.var 4) (.var 6) (.call "_law_not_nought" [(.var 0)]),
    .kil [5, 6]]
def f__law_turn : Fn := ⟨4, 8, [.own 4 (.dct []),
    .for_ (.nm 5) (.rng [(.call "_law_take" [(.var 0), (.bin .Add (.var 3) (.con (.int 1)))])]) f__law_turn_b1,
    .ret (.bi .tuple [(.comp [6] (.bin .Add (.var 6) (.tup [(.idx (.var 4) (.var 6))])) (.nm 6) (.bi .sorted [(.var 4)]) [])])]⟩
structure OkSum (names : List Str) (nf most : Nat) (ts : List Tm) : Prop where
  len : ts.length ≤ most
  n : ∀ t ∈ ts, t.n = "" ∨ t.n ∈ names
  pl : ∀ t ∈ ts, t.pw.length = nf
  pw : ∀ t ∈ ts, ∀ p ∈ t.pw, p ≤ 2
  nn : ∀ t ∈ ts, NN t.q
  nd : (ts.map Tm.key).Nodup
  asc : (ts.map Tm.key).Pairwise fun a b => tkLe a b = true
structure HasTurn (m : Mo) : Prop extends HasDr m, HasLFr m where
  turn : m.defs "_law_turn" = some f__law_turn
section
variable {m : Mo} {k n many : Nat} {S : CH}
theorem nn_ok (h : HasDr m) (G : Good n S) (hn : n ≤ 1000000) : Wp (m.call (k + 3) "_law_not_nought" [.ref 0]) (fun d S' => (∃ q, d = qD q ∧ NN q) ∧ Good (n + 1) S') S := by
  rw [call_run h.nn rfl]
  simp [f__law_not_nought]
  refine (some_ok h G hn (by simp) (by simp)).mono ?_
  rintro d S' ⟨hd, G'⟩
  refine ⟨?_, G'⟩
  simp at hd
  rcases hd with rfl | rfl | rfl | rfl | rfl
  · exact ⟨1, rfl, .inl rfl⟩
  · exact ⟨-1, rfl, .inr (.inl rfl)⟩
  · exact ⟨2, rfl, .inr (.inr (.inl rfl))⟩
  · exact ⟨q12, rfl, .inr (.inr (.inr (.inl rfl)))⟩
  · exact ⟨qm32, rfl, .inr (.inr (.inr (.inr rfl)))⟩
def pwsI (n : Nat) (i : Nat) (ys : List D) (S : CH) : Prop := ∃ ps : List Nat, ys = ps.map (fun k : Nat => D.int (k : Int)) ∧ ps.length = i ∧ (∀ p ∈ ps, p ≤ 2) ∧ Good (n + i) S
def turnSt (names : List Str) (nf most : Nat) (l : List ((Str × List Nat) × Rat)) : Env :=
  [some (.v (.ref 0)), some (.v (namesL names)), some (.v (.int nf)), some (.v (.int most)), some (.od (l.map fun p => tkD p.1) (l.map fun p => qD p.2)), none, none, none]
def turnI (n : Nat) (names : List Str) (nf most : Nat) (i : Nat) (σ : Env) (S : CH) : Prop := ∃ l : List ((Str × List Nat) × Rat), σ = turnSt names nf most l ∧ l.length ≤ i ∧
  (∀ p ∈ l, (p.1.1 = "" ∨ p.1.1 ∈ names) ∧ p.1.2.length = nf ∧ (∀ x ∈ p.1.2, x ≤ 2) ∧ NN p.2) ∧ (l.map (·.1)).Nodup ∧ Good (n + i * (nf + 2)) S
theorem turn_turn (h : HasTurn m) {names : List Str} {nf most n i : Nat} {d : D} {σ : Env} {S : CH} (hI : turnI n names nf most i σ S) (hn : n + i * (nf + 2) + nf + 2 ≤ 1000000) (hi : i ≤ 1000) (hnames : names.length ≤ 1000) :
    Wp (turnM ⟨m.call (k + 4), m.glob⟩ (.nm 5) f__law_turn_b1 d σ) (fun fl S' => ∃ σ', fl = .nx σ' ∧ turnI n names nf most (i + 1) σ' S') S := by
  obtain ⟨l, rfl, hl, hp, hnd, G⟩ := hI
  simp [turnM, f__law_turn_b1, turnSt, namesL]
  rw [if_pos (by omega)]
  simp
  refine Wp.seq (some_ok h.toHasDr G (by omega) (by simp) (by simp; omega)) ?_
  rintro x S1 ⟨hx, G1⟩
  obtain ⟨nm, rfl, hnm⟩ : ∃ nm : Str, x = .str nm ∧ (nm = "" ∨ nm ∈ names) := by
    simp at hx
    rcases hx with ⟨a, ha, rfl⟩ | rfl
    · exact ⟨a, rfl, .inr ha⟩
    · exact ⟨"", rfl, .inl rfl⟩
  rw [rng1 (by omega)]
  simp
  rw [liml_ok (by simp; omega)]
  simp
  refine Wp.seq (wp_compL (I := pwsI (n + i * (nf + 2) + 1)) (i := 0) (ys := []) ⟨[], rfl, rfl, by simp, G1⟩ ?_) ?_
  · rintro j hj ys S ⟨ps, rfl, hl, h2, G⟩
    simp at hj
    simp
    refine (some_ok h.toHasDr G (by omega) (by simp) (by simp)).mono ?_
    rintro d S' ⟨hd, G'⟩
    have : ∃ p : Nat, d = .int p ∧ p ≤ 2 := by
      simp at hd
      rcases hd with rfl | rfl | rfl
      · exact ⟨0, rfl, by decide⟩
      · exact ⟨1, rfl, by decide⟩
      · exact ⟨2, rfl, by decide⟩
    obtain ⟨p, rfl, hp⟩ := this
    refine ⟨ps ++ [p], by simp, by simp [hl], ?_, G'.up (by omega)⟩
    intro q hq
    rcases List.mem_append.mp hq with hq | hq
    · exact h2 q hq
    · rw [List.mem_singleton.mp hq]; exact hp
  · rintro zs S2 ⟨ps, hz, hlp, h2, G2⟩
    simp only [List.length_map, List.length_range, Nat.zero_add] at G2
    simp at hz hlp
    subst hz
    refine Wp.seq (nn_ok h.toHasDr G2 (by omega)) ?_
    rintro _ S3 ⟨⟨q, rfl, hq⟩, G3⟩
    have e : dput (.tup [.str nm, .tup (ps.map fun k : Nat => D.int (k : Int))]) (qD q) _ _ = _ := dput_typed tkKey qD (nm, ps) q l
    simp only [tkKey] at e
    have hl6 : l.length ≤ 1000000 := by omega
    simp [hl6, e]
    refine ⟨aput (nm, ps) q l, rfl, ?_, ?_, aput_keys l hnd, G3.up ?_⟩
    · have := aput_len (nm, ps) q l; omega
    · intro p hpm
      rcases aput_mem hpm with rfl | hpm
      · exact ⟨hnm, hlp, h2, hq⟩
      · exact hp p hpm
    · rw [Nat.add_mul]; omega
theorem lookD_typed {κ : Type} [DecidableEq κ] (K : KeyEnc κ) {β : Type} (g : β → D) {l : List (κ × β)} (h : (l.map (·.1)).Nodup) {p : κ × β} (hp : p ∈ l) : idxD (.dct (l.map fun p => K.f p.1) (l.map fun p => g p.2)) (K.f p.1) = some (g p.2) := by
  show (match dfind (K.f p.1) (l.map fun p => K.f p.1) (l.map fun p => g p.2) with
    | some (some v) => some v
    | _ => none) = _
  rw [dfind_typed, alook_of h hp]
  rfl
theorem law_turn_ok (h : HasTurn m) {names : List Str} {nf most n : Nat} {S : CH} (G : Good n S) (hn : n + 1 + most * (nf + 2) + nf + 2 ≤ 1000000) (hm : most ≤ 1000) (hnf : nf ≤ 1000) (hnames : names.length ≤ 1000) :
    Wp (m.call (k + 5) "_law_turn" [.ref 0, namesL names, .int nf, .int most]) (fun d S' => ∃ ts, d = sumD ts ∧ OkSum names nf most ts ∧ Good (n + 1 + most * (nf + 2)) S') S := by
  rw [call_run h.turn rfl]
  simp [f__law_turn, dputs, pairUp]
  have hm1 : ((most : Int) + 1) = ((most + 1 : Nat) : Int) := by omega
  rw [hm1]
  refine Wp.seq (take_ok h.toHasDr (many := most + 1) G (by omega) (by omega) (by omega)) ?_
  rintro _ S1 ⟨v, rfl, hv, G1⟩
  rw [rng1 (by omega)]
  simp
  refine Wp.seq (wp_forL (I := turnI (n + 1) names nf most) (i := 0) ⟨[], rfl, by simp, by simp, by simp, by simpa using G1⟩ ?_) ?_
  · intro j hj σ S hI
    simp at hj
    have hb : (0 + j) * (nf + 2) ≤ most * (nf + 2) := Nat.mul_le_mul_right _ (by omega)
    exact turn_turn h hI (by omega) (by omega) hnames
  · rintro _ S2 ⟨_, rfl, l, rfl, hl, hp, hnd, G2⟩
    simp only [List.length_map, List.length_range, Nat.zero_add] at hl G2
    have hb : v * (nf + 2) ≤ most * (nf + 2) := Nat.mul_le_mul_right _ (by omega)
    have es : sortD (l.map fun p => tkD p.1) = some (((l.map (·.1)).mergeSort tkLe).map tkD) := by
      rw [← sort_tk (by simp; omega), List.map_map]; rfl
    simp [turnSt, es]
    rw [liml_ok (by simp; omega)]
    have perm := List.mergeSort_perm (l.map (·.1)) tkLe
    generalize hks : (l.map (·.1)).mergeSort tkLe = ks at perm
    have mem : ∀ a ∈ ks, ∃ q, (a, q) ∈ l := fun a ha => by
      have := perm.mem_iff.mp ha
      obtain ⟨p, hp, rfl⟩ := List.mem_map.mp this
      exact ⟨p.2, hp⟩
    have tm : ∀ t ∈ ks.map (fun a : Str × List Nat => (⟨a.1, a.2, (alook a l).getD 0⟩ : Tm)), (t.key, t.q) ∈ l := fun t ht => by
      obtain ⟨a, ha, rfl⟩ := List.mem_map.mp ht
      obtain ⟨q, hq⟩ := mem a ha
      have e2 := alook_of hnd hq
      simp only at e2
      simp only [e2, Tm.key]
      exact hq
    rw [compL_map (f := fun a => tmD ⟨a.1, a.2, (alook a l).getD 0⟩) ?_]
    · simp
      refine ⟨ks.map fun a => ⟨a.1, a.2, (alook a l).getD 0⟩, by simp [sumD], ⟨?_, ?_, ?_, ?_, ?_, ?_, ?_⟩, G2.up (by omega)⟩
      · rw [List.length_map, perm.length_eq, List.length_map]; omega
      · exact fun t ht => (hp _ (tm t ht)).1
      · exact fun t ht => (hp _ (tm t ht)).2.1
      · exact fun t ht => (hp _ (tm t ht)).2.2.1
      · exact fun t ht => (hp _ (tm t ht)).2.2.2
      · rw [List.map_map, show (Tm.key ∘ fun a : Str × List Nat => (⟨a.1, a.2, (alook a l).getD 0⟩ : Tm)) = id from rfl, List.map_id]
        exact perm.nodup_iff.mpr hnd
      · rw [List.map_map, show (Tm.key ∘ fun a : Str × List Nat => (⟨a.1, a.2, (alook a l).getD 0⟩ : Tm)) = id from rfl, List.map_id, ← hks]
        exact tk_sorted _
    · intro a ha
      obtain ⟨q, hq⟩ := mem a ha
      have e := lookD_typed tkKey qD hnd hq
      have e2 := alook_of hnd hq
      simp only at e2
      simp only [tkKey] at e
      simp [e, e2, tmD]
end
end Cl.Pl

set_option Elab.async false
set_option linter.all false
/-! PlH: programs, rows, stretches, drawn. -/
namespace Cl.Pl
open PySem

structure Kd where
  name : Str
  fields : List Str
  turns : List (List Tm)
structure Pg where
  nums : List (Str × Rat)
  kinds : List Kd
def strsD (l : List Str) : D := .tup (l.map .str)
def kdD (k : Kd) : D := .tup [.str k.name, strsD k.fields, .tup (k.turns.map sumD)]
def numD (x : Str × Rat) : D := .tup [.str x.1, qD x.2]
def pgD (P : Pg) : D := .tup [.tup (P.nums.map numD), .tup (P.kinds.map kdD)]
def stD (l : List Rat) : D := .tup (l.map qD)
abbrev Rw := Str × List Rat
def rwD (r : Rw) : D := .tup [.str r.1, stD r.2]
def srD (l : List Rw) : D := .tup (l.map rwD)
section
variable {P : Pg} {K : Kd} {t : Tm} {ts : List Tm} {l : List Rat} {r : Rw} {sr : List Rw} {x : Str × Rat} {ss : List Str}
@[simp] theorem deref_tm : deref (tmD t) = pure (tmD t) := rfl
@[simp] theorem deref_sum : deref (sumD ts) = pure (sumD ts) := rfl
@[simp] theorem deref_kd : deref (kdD K) = pure (kdD K) := rfl
@[simp] theorem deref_pg : deref (pgD P) = pure (pgD P) := rfl
@[simp] theorem deref_st : deref (stD l) = pure (stD l) := rfl
@[simp] theorem deref_rw : deref (rwD r) = pure (rwD r) := rfl
@[simp] theorem deref_sr : deref (srD sr) = pure (srD sr) := rfl
@[simp] theorem deref_num : deref (numD x) = pure (numD x) := rfl
@[simp] theorem deref_strs : deref (strsD ss) = pure (strsD ss) := rfl
@[simp] theorem seq_pw {p : List Nat} : seq? (pwD p) = some (p.map fun k : Nat => D.int (k : Int)) := rfl
@[simp] theorem seq_sum : seq? (sumD ts) = some (ts.map tmD) := rfl
@[simp] theorem seq_st : seq? (stD l) = some (l.map qD) := rfl
@[simp] theorem seq_sr : seq? (srD sr) = some (sr.map rwD) := rfl
@[simp] theorem seq_strs : seq? (strsD ss) = some (ss.map .str) := rfl
@[simp] theorem seq_namesL : seq? (namesL ss) = some (ss.map .str) := rfl
@[simp] theorem idx_pg0 : idxD (pgD P) (.int 0) = some (.tup (P.nums.map numD)) := rfl
@[simp] theorem idx_pg1 : idxD (pgD P) (.int 1) = some (.tup (P.kinds.map kdD)) := rfl
@[simp] theorem idx_kd0 : idxD (kdD K) (.int 0) = some (.str K.name) := rfl
@[simp] theorem idx_kd1 : idxD (kdD K) (.int 1) = some (strsD K.fields) := rfl
@[simp] theorem idx_kd2 : idxD (kdD K) (.int 2) = some (.tup (K.turns.map sumD)) := rfl
@[simp] theorem idx_rw0 : idxD (rwD r) (.int 0) = some (.str r.1) := rfl
@[simp] theorem idx_rw1 : idxD (rwD r) (.int 1) = some (stD r.2) := rfl
@[simp] theorem idx_tm0 : idxD (tmD t) (.int 0) = some (.str t.n) := rfl
@[simp] theorem idx_tm1 : idxD (tmD t) (.int 1) = some (pwD t.pw) := rfl
@[simp] theorem idx_tm2 : idxD (tmD t) (.int 2) = some (qD t.q) := rfl
@[simp] theorem slc_tm : slcD (tmD t) none (some 2) = some (tkD t.key) := rfl
@[simp] theorem len_strs : biD .len [strsD ss] = some (.int ss.length) := by show some (D.int _) = _; rw [List.length_map]
@[simp] theorem len_st : biD .len [stD l] = some (.int l.length) := by show some (D.int _) = _; rw [List.length_map]
@[simp] theorem len_sr : biD .len [srD sr] = some (.int sr.length) := by show some (D.int _) = _; rw [List.length_map]
@[simp] theorem isTy_tup_st : isTy .tuple (stD l) = some true := rfl
@[simp] theorem g_tm {a b c : G} {σ : Env} : G.bind (.tup [a, b, c]) (tmD t) σ = G.binds [a, b, c] [.str t.n, pwD t.pw, qD t.q] σ := by rw [tmD, G.bind]
@[simp] theorem g_num {a b : G} {σ : Env} : G.bind (.tup [a, b]) (numD x) σ = G.binds [a, b] [.str x.1, qD x.2] σ := by rw [numD, G.bind]
@[simp] theorem g_rw {a b : G} {σ : Env} : G.bind (.tup [a, b]) (rwD r) σ = G.binds [a, b] [.str r.1, stD r.2] σ := by rw [rwD, G.bind]
@[simp] theorem g_kd {a b c : G} {σ : Env} : G.bind (.tup [a, b, c]) (kdD K) σ = G.binds [a, b, c] [.str K.name, strsD K.fields, .tup (K.turns.map sumD)] σ := by rw [kdD, G.bind]
end
@[simp] theorem cut_take {α : Type} {l : List α} {n : Nat} : cut l none (some (n : Int)) = l.take n := by
  unfold cut clip
  simp only [List.drop_zero, Nat.sub_zero]
  rw [if_neg (by omega), Int.toNat_natCast]
  rcases Nat.le_total n l.length with h | h
  · rw [Nat.min_eq_left h]
  · rw [Nat.min_eq_right h, List.take_of_length_le (Nat.le_refl _), List.take_of_length_le h]
@[simp] theorem cut_drop {α : Type} {l : List α} {n : Nat} : cut l (some (n : Int)) none = l.drop n := by
  unfold cut clip
  simp only []
  rw [if_neg (by omega), Int.toNat_natCast]
  rcases Nat.le_total n l.length with h | h
  · rw [Nat.min_eq_left h, List.take_of_length_le (by simp)]
  · rw [Nat.min_eq_right h]; simp [List.drop_eq_nil_of_le h]
@[simp] theorem cut_drop1 {α : Type} {l : List α} : cut l (some 1) none = l.drop 1 := cut_drop (n := 1)
theorem repL_one (n : Nat) (x : D) : repL (n : Int) [x] = List.replicate n x := by
  unfold repL
  rw [Int.toNat_natCast]
  induction n with
  | zero => rfl
  | succ n ih => rw [List.replicate_succ, List.flatten_cons, ih, List.replicate_succ]; rfl
theorem zeros_pw (n : Nat) : D.tup (List.replicate n (.int 0)) = pwD (List.replicate n 0) := by unfold pwD; rw [List.map_replicate]; rfl

/-! ### dict([..]) -/
theorem dputs_typed {κ β : Type} [DecidableEq κ] (K : KeyEnc κ) (g : β → D) : ∀ (l acc : List (κ × β)), dputs (l.map fun p => (K.f p.1, g p.2)) (acc.map fun p => K.f p.1) (acc.map fun p => g p.2) =
    some ((l.foldl (fun a p => aput p.1 p.2 a) acc).map (fun p => K.f p.1), (l.foldl (fun a p => aput p.1 p.2 a) acc).map fun p => g p.2)
  | [], acc => rfl
  | p :: l, acc => by
    rw [List.map_cons, dputs, dput_typed K g p.1 p.2 acc]
    exact dputs_typed K g l _
theorem aput_new {κ β : Type} [DecidableEq κ] {a : κ} {v : β} : ∀ {l : List (κ × β)}, a ∉ l.map (·.1) → aput a v l = l ++ [(a, v)]
  | [], _ => rfl
  | (b, w) :: l, h => by
    rw [List.map_cons, List.mem_cons, not_or] at h
    rw [aput_cons, if_neg (fun e => h.1 e.symm), aput_new h.2]; rfl
theorem puts_nodup {κ β : Type} [DecidableEq κ] : ∀ (l acc : List (κ × β)), ((acc ++ l).map (·.1)).Nodup → l.foldl (fun a p => aput p.1 p.2 a) acc = acc ++ l
  | [], acc, _ => by simp
  | p :: l, acc, h => by
    have hp : p.1 ∉ acc.map (·.1) := by
      rw [List.map_append, List.nodup_append] at h
      exact fun z => h.2.2 _ z _ (List.mem_map.mpr ⟨p, List.mem_cons_self .., rfl⟩) rfl
    rw [List.foldl_cons, aput_new hp, puts_nodup l _ (by rw [List.append_assoc]; exact h), List.append_assoc]; rfl
theorem pairs_typed {α : Type} (f g : α → D) : ∀ l : List α, pairs? (l.map fun a => .tup [f a, g a]) = some (l.map fun a => (f a, g a))
  | [] => rfl
  | a :: l => by rw [List.map_cons, pairs?, pairs_typed f g l]; rfl
/-- dict of a list of pairs with unlike keys -/
theorem dict_typed {κ β : Type} [DecidableEq κ] (K : KeyEnc κ) (g : β → D) {l : List (κ × β)} (h : (l.map (·.1)).Nodup) (hl : l.length ≤ 1000000) : biD .dict [.lst (l.map fun p => .tup [K.f p.1, g p.2])] = some (.dct (l.map fun p => K.f p.1) (l.map fun p => g p.2)) := by
  rw [bi_dict, pairs_typed (fun p : κ × β => K.f p.1) (fun p => g p.2) l]
  have e := dputs_typed K g l []
  rw [puts_nodup l [] h] at e
  simp only [List.length_map, if_pos hl]
  rw [show dputs (l.map fun a => (K.f a.1, g a.2)) [] [] = _ from e]
  rfl

/-! ### a sum by sorted keys -/
def sortSum (l : List ((Str × List Nat) × Rat)) : List Tm := ((l.map (·.1)).mergeSort tkLe).map fun a => ⟨a.1, a.2, (alook a l).getD 0⟩
theorem sortSum_mem {l : List ((Str × List Nat) × Rat)} (h : (l.map (·.1)).Nodup) {t : Tm} (ht : t ∈ sortSum l) : (t.key, t.q) ∈ l := by
  obtain ⟨a, ha, rfl⟩ := List.mem_map.mp ht
  have := (List.mergeSort_perm (l.map (·.1)) tkLe).mem_iff.mp ha
  obtain ⟨p, hp, rfl⟩ := List.mem_map.mp this
  have e2 := alook_of h hp
  simp only [e2, Tm.key]
  exact hp
theorem sortSum_ok {l : List ((Str × List Nat) × Rat)} (h : (l.map (·.1)).Nodup) {names : List Str} {nf most : Nat} (hl : l.length ≤ most)
    (hp : ∀ p ∈ l, (p.1.1 = "" ∨ p.1.1 ∈ names) ∧ p.1.2.length = nf ∧ (∀ x ∈ p.1.2, x ≤ 2) ∧ NN p.2) : OkSum names nf most (sortSum l) where
  len := by unfold sortSum; rw [List.length_map, List.length_mergeSort, List.length_map]; exact hl
  n t ht := (hp _ (sortSum_mem h ht)).1
  pl t ht := (hp _ (sortSum_mem h ht)).2.1
  pw t ht := (hp _ (sortSum_mem h ht)).2.2.1
  nn t ht := (hp _ (sortSum_mem h ht)).2.2.2
  nd := by
    unfold sortSum
    rw [List.map_map, show (Tm.key ∘ fun a : Str × List Nat => (⟨a.1, a.2, (alook a l).getD 0⟩ : Tm)) = id from rfl, List.map_id]
    exact (List.mergeSort_perm (l.map (·.1)) tkLe).nodup_iff.mpr h
  asc := by
    unfold sortSum
    rw [List.map_map, show (Tm.key ∘ fun a : Str × List Nat => (⟨a.1, a.2, (alook a l).getD 0⟩ : Tm)) = id from rfl, List.map_id]
    exact tk_sorted _
theorem OkSum.up {names names' : List Str} {nf most most' : Nat} {ts : List Tm} (h : OkSum names nf most ts) (hn : ∀ x ∈ names, x = "" ∨ x ∈ names') (hm : most ≤ most') : OkSum names' nf most' ts :=
  { h with len := Nat.le_trans h.len hm, n := fun t ht => (h.n t ht).elim .inl fun z => hn _ z }

/- _law_program: bag names adds kinds kind fields turns name plain one key -/
def f__law_program_b1 : List Sm := [.ite (.cmp .Eq (.var 2) (.con (.int 1))) [.own 8 (.bi .dict [(.comp [9] (.tup [(.slc (.var 9) none (some (.con (.int 2)))), (.idx (.var 9) (.con (.int 2)))]) (.nm 9) (.call "_law_turn" [(.var 0), (.lst [(.con (.str ""))]), (.bi .len [(.var 5)]), (.con (.int 2))]) [])]),
    .set (.var 8) (.tup [(.var 7), (.bin .Mult (.tup [(.con (.int 0))]) (.bi .len [(.var 5)]))]) (.tup [(.con (.int 1)), (.con (.int 1))]),
    .app 6 (.bi .tuple [(.comp [10] (.bin .Add (.var 10) (.tup [(.idx (.var 8) (.var 10))])) (.nm 10) (.bi .sorted [(.var 8)]) [])])] [.app 6 (.call "_law_turn" [(.var 0), (.var 1), (.bi .len [(.var 5)]), (.con (.int 3))])],
    .kil [7, 8]]
def f__law_program_b2 : List Sm := [.asg (.nm 5) (.slc (.tup [(.con (.str "x")), (.con (.str "y"))]) none (some (.call "_law_take" [(.var 0), (.con (.int 3))]))),
    .own 6 (.lst []),
    .kil [7, 8],
    .for_ (.nm 7) (.var 1) f__law_program_b1,
    .app 3 (.tup [(.var 4), (.var 5), (.bi .tuple [(.var 6)])]),
    .kil [4, 5, 6, 7, 8]]
def f__law_program : Fn := ⟨1, 11, [.asg (.nm 1) (.slc (.lst [(.con (.str "a")), (.con (.str "b")), (.con (.str "c"))]) none (some (.bin .Add (.con (.int 1)) (.call "_law_take" [(.var 0), (.con (.int 3))])))),
    .par 2 false (.call "_law_take" [(.var 0), (.con (.int 2))]) 3 true (.lst []),
    .for_ (.nm 4) (.slc (.lst [(.con (.str "k")), (.con (.str "m"))]) none (some (.bin .Add (.con (.int 1)) (.call "_law_take" [(.var 0), (.con (.int 2))])))) f__law_program_b2,
    .ret (.tup [(.tup [(.bi .tuple [(.comp [7] (.tup [(.var 7), (.ite (.cmp .Eq (.call "_law_take" [(.var 0), (.con (.int 3))]) (.con (.int 0))) (.call "_law_small" [(.var 0)]) (.tup [(.con (.int 0)), (.con (.int 1))]))]) (.nm 7) (.var 1) [])]), (.bi .tuple [(.var 3)])]), (.var 2)])]⟩
/- _law_kind: program name kind -/
def f__law_kind : Fn := ⟨2, 3, [.ret (.idx (.comp [2] (.var 2) (.nm 2) (.idx (.var 0) (.con (.int 1))) [(.cmp .Eq (.idx (.var 2) (.con (.int 0))) (.var 1))]) (.con (.int 0)))]⟩
/- _law_row: bag program kind field -/
def f__law_row : Fn := ⟨2, 4, [.asg (.nm 2) (.call "_law_some" [(.var 0), (.bi .list [(.idx (.var 1) (.con (.int 1)))])]),
    .ret (.tup [(.idx (.var 2) (.con (.int 0))), (.bi .tuple [(.comp [3] (.call "_law_small" [(.var 0)]) (.nm 3) (.idx (.var 2) (.con (.int 1))) [])])])]⟩
/- _law_stretch: bag program most k -/
def f__law_stretch : Fn := ⟨3, 4, [.ret (.bi .tuple [(.comp [3] (.call "_law_row" [(.var 0), (.var 1)]) (.nm 3) (.rng [(.call "_law_take" [(.var 0), (.bin .Add (.var 2) (.con (.int 1)))])]) [])])]⟩
structure HasPg (m : Mo) : Prop extends HasTurn m where
  program : m.defs "_law_program" = some f__law_program
  row : m.defs "_law_row" = some f__law_row
  stretch : m.defs "_law_stretch" = some f__law_stretch
structure OkKd (names : List Str) (K : Kd) : Prop where
  fields : ∃ n, n ≤ 2 ∧ K.fields = (["x", "y"] : List Str).take n
  turns : K.turns.length = names.length
  sums : ∀ ts ∈ K.turns, OkSum names K.fields.length 3 ts
structure OkPg (P : Pg) : Prop where
  names : ∃ n, 1 ≤ n ∧ n ≤ 3 ∧ P.nums.map (·.1) = (["a", "b", "c"] : List Str).take n
  begins : ∀ x ∈ P.nums, Bd 6 3 x.2
  kinds : ∃ n, 1 ≤ n ∧ n ≤ 2 ∧ P.kinds.map Kd.name = (["k", "m"] : List Str).take n
  kd : ∀ K ∈ P.kinds, OkKd (P.nums.map (·.1)) K
structure OkRw (P : Pg) (r : Rw) : Prop where
  ex : ∃ K ∈ P.kinds, r.1 = K.name ∧ r.2.length = K.fields.length
  bd : ∀ v ∈ r.2, Bd 6 3 v
section
variable {m : Mo} {k n many : Nat} {S : CH}
def pg1St (names : List Str) (adds : Nat) (kinds : List D) (kind : Str) (fields : List Str) (turns : List (List Tm)) : Env :=
  [some (.v (.ref 0)), some (.v (namesL names)), some (.v (.int adds)), some (.ol kinds), some (.v (.str kind)), some (.v (strsD fields)), some (.ol (turns.map sumD)), none, none, none, none]
def pg1I (n : Nat) (names : List Str) (adds : Nat) (kinds : List D) (kind : Str) (fields : List Str) (i : Nat) (σ : Env) (S : CH) : Prop := ∃ turns, σ = pg1St names adds kinds kind fields turns ∧ turns.length = i ∧ (∀ ts ∈ turns, OkSum names fields.length 3 ts) ∧ Good (n + i * 13) S
theorem pg1_turn (h : HasPg m) {names : List Str} {adds n i : Nat} {kinds : List D} {kind : Str} {fields : List Str} {nm : Str} {σ : Env} {S : CH} (hI : pg1I n names adds kinds kind fields i σ S) (hnm : nm ∈ names) (hn : n + i * 13 + 30 ≤ 1000000) (hnl : names.length ≤ 3) (hf : fields.length ≤ 2) :
    Wp (turnM ⟨m.call (k + 5), m.glob⟩ (.nm 7) f__law_program_b1 (.str nm) σ) (fun fl S' => ∃ σ', fl = .nx σ' ∧ pg1I n names adds kinds kind fields (i + 1) σ' S') S := by
  obtain ⟨turns, rfl, hl, ht, G⟩ := hI
  have hb2 : 2 * (fields.length + 2) ≤ 2 * 4 := Nat.mul_le_mul_left _ (by omega)
  have hb3 : 3 * (fields.length + 2) ≤ 3 * 4 := Nat.mul_le_mul_left _ (by omega)
  simp [turnM, f__law_program_b1, pg1St]
  by_cases ha : adds = 1
  · subst ha
    simp
    have e1 : (D.lst [D.str (Str.ofString "")]) = namesL [""] := rfl
    rw [e1]
    refine Wp.seq (law_turn_ok h.toHasTurn (names := [""]) (nf := fields.length) (most := 2) G (by omega) (by omega) (by omega) (by simp)) ?_
    rintro _ S1 ⟨ts, rfl, ok, G1⟩
    have hts := ok.len
    simp
    rw [liml_ok (by simp; omega), compL_map (f := fun t => .tup [tkD t.key, qD t.q]) (by intro t _; simp)]
    simp
    have e2 : (ts.map fun t => D.tup [tkD t.key, qD t.q]) = (ts.map fun t => (t.key, t.q)).map fun p => D.tup [tkKey.f p.1, qD p.2] := by rw [List.map_map]; rfl
    have nd : ((ts.map fun t => (t.key, t.q)).map (·.1)).Nodup := by rw [List.map_map]; exact ok.nd
    rw [e2, dict_typed tkKey qD nd (by simp; omega)]
    have hf1 : (fields.length : Int) ≤ 1000 := by omega
    simp [hf1, repL_one]
    have e3 := dput_typed tkKey qD (nm, List.replicate fields.length 0) 1 (ts.map fun t => (t.key, t.q))
    have e4 : tkKey.f (nm, List.replicate fields.length 0) = D.tup [.str nm, .tup (List.replicate fields.length (.int 0))] := by show tkD _ = _; rw [zeros_pw]; rfl
    rw [e4] at e3
    simp only [List.map_map, Function.comp_def] at e3
    have hts6 : ts.length ≤ 1000000 := by omega
    simp [hts6, Function.comp_def, e3]
    generalize hL : aput (nm, List.replicate fields.length 0) 1 (ts.map fun t => (t.key, t.q)) = L
    have ndL : (L.map (·.1)).Nodup := by rw [← hL]; exact aput_keys _ nd
    have lenL : L.length ≤ 3 := by rw [← hL]; have := aput_len (nm, List.replicate fields.length 0) (1 : Rat) (ts.map fun t => (t.key, t.q)); simp at this; omega
    have memL : ∀ p ∈ L, (p.1.1 = "" ∨ p.1.1 ∈ names) ∧ p.1.2.length = fields.length ∧ (∀ x ∈ p.1.2, x ≤ 2) ∧ NN p.2 := by
      intro p hp
      rw [← hL] at hp
      rcases aput_mem hp with rfl | hp
      · exact ⟨.inr hnm, by simp, fun x hx => by rw [(List.mem_replicate.mp hx).2]; decide, .inl rfl⟩
      · obtain ⟨t, ht', rfl⟩ := List.mem_map.mp hp
        refine ⟨?_, ok.pl t ht', ok.pw t ht', ok.nn t ht'⟩
        rcases ok.n t ht' with z | z
        · exact .inl z
        · exact .inl (List.mem_singleton.mp z)
    have es : sortD (L.map fun p => tkKey.f p.1) = some (((L.map (·.1)).mergeSort tkLe).map tkD) := by
      rw [← sort_tk (by simp; omega), List.map_map]; rfl
    simp [es]
    rw [liml_ok (by simp; omega)]
    rw [compL_map (f := fun a => tmD ⟨a.1, a.2, (alook a L).getD 0⟩) ?_]
    · have htl : turns.length < 1000000 := by omega
      simp [htl]
      refine ⟨turns ++ [sortSum L], by simp [pg1St, sumD, sortSum, Function.comp_def], by simp [hl], ?_, G1.up (by omega)⟩
      intro ts' hts'
      rcases List.mem_append.mp hts' with z | z
      · exact ht _ z
      · rw [List.mem_singleton.mp z]; exact sortSum_ok ndL lenL memL
    · intro a ha
      have := (List.mergeSort_perm (L.map (·.1)) tkLe).mem_iff.mp ha
      obtain ⟨p, hp, rfl⟩ := List.mem_map.mp this
      have e := lookD_typed tkKey qD ndL hp
      have e2 := alook_of ndL hp
      rw [show tkKey.f p.1 = tkD p.1 from rfl] at e
      simp [e, e2, tmD]
  · have ha' : ¬ ((adds : Int) = 1) := by omega
    simp [ha, ha']
    refine Wp.seq (law_turn_ok h.toHasTurn (nf := fields.length) (most := 3) G (by omega) (by omega) (by omega) (by omega)) ?_
    rintro _ S1 ⟨ts, rfl, ok, G1⟩
    have htl : turns.length < 1000000 := by omega
    simp [htl]
    refine ⟨turns ++ [ts], by simp [pg1St], by simp [hl], ?_, G1.up (by omega)⟩
    intro ts' hts'
    rcases List.mem_append.mp hts' with z | z
    · exact ht _ z
    · rw [List.mem_singleton.mp z]; exact ok
def pg2St (names : List Str) (adds : Nat) (kinds : List Kd) : Env :=
  [some (.v (.ref 0)), some (.v (namesL names)), some (.v (.int adds)), some (.ol (kinds.map kdD)), none, none, none, none, none, none, none]
def pg2I (n : Nat) (names : List Str) (adds : Nat) (kn : List Str) (i : Nat) (σ : Env) (S : CH) : Prop := ∃ kinds : List Kd, σ = pg2St names adds kinds ∧ kinds.map Kd.name = kn.take i ∧ (∀ K ∈ kinds, OkKd names K) ∧ Good (n + i * 40) S
theorem pg2_turn (h : HasPg m) {names : List Str} {adds n i : Nat} {kn : List Str} {σ : Env} {S : CH} (hI : pg2I n names adds kn i σ S) (hi : i < kn.length) (hn : n + i * 40 + 80 ≤ 1000000) (hnl : names.length ≤ 3) :
    Wp (turnM ⟨m.call (k + 5), m.glob⟩ (.nm 4) f__law_program_b2 (.str kn[i]) σ) (fun fl S' => ∃ σ', fl = .nx σ' ∧ pg2I n names adds kn (i + 1) σ' S') S := by
  obtain ⟨kinds, rfl, hkn, hk, G⟩ := hI
  have hkl : kinds.length = i := by have := congrArg List.length hkn; simp at this; omega
  simp [turnM, f__law_program_b2, pg2St]
  refine Wp.seq (take_ok h.toHasDr (many := 3) G (by omega) (by decide) (by decide)) ?_
  rintro _ S1 ⟨v, rfl, hv, G1⟩
  simp
  have e1 : D.tup (List.take v [D.str (Str.ofString "x"), D.str (Str.ofString "y")]) = strsD ((["x", "y"] : List Str).take v) := by unfold strsD; rw [List.map_take]; rfl
  rw [e1]
  generalize hfs : (["x", "y"] : List Str).take v = fields
  have hf : fields.length ≤ 2 := by rw [← hfs]; simp; omega
  refine Wp.seq (wp_forL (I := pg1I (n + i * 40 + 1) names adds (kinds.map kdD) kn[i] fields) (i := 0) ⟨[], rfl, rfl, by simp, by simpa using G1⟩ ?_) ?_
  · intro j hj σ S hI
    simp at hj
    simp only [List.getElem_map]
    have := pg1_turn (k := k) h hI (nm := names[j]) (List.getElem_mem _) (by omega) hnl hf
    simpa using this
  · rintro _ S2 ⟨_, rfl, turns, rfl, hl, ht, G2⟩
    simp only [List.length_map, Nat.zero_add] at hl G2
    have hkl2 : kinds.length < 1000000 := by omega
    simp [pg1St, hkl2]
    refine ⟨kinds ++ [⟨kn[i], fields, turns⟩], by simp [pg2St, kdD], ?_, ?_, G2.up (by omega)⟩
    · rw [List.map_append, hkn, List.take_succ_eq_append_getElem hi]; rfl
    · intro K hK
      rcases List.mem_append.mp hK with z | z
      · exact hk _ z
      · rw [List.mem_singleton.mp z]
        exact ⟨⟨v, by omega, hfs.symm⟩, hl, ht⟩
def pg3I (n : Nat) (names : List Str) (i : Nat) (ys : List D) (S : CH) : Prop := ∃ l : List (Str × Rat), ys = l.map numD ∧ l.map (·.1) = names.take i ∧ (∀ x ∈ l, Bd 6 3 x.2) ∧ Good (n + i * 3) S
def PgQ (n : Nat) (d : D) (S : CH) : Prop := ∃ (P : Pg) (adds : Nat), d = .tup [pgD P, .int adds] ∧ OkPg P ∧ Good (n + 100) S
theorem law_program_ok (h : HasPg m) (G : Good n S) (hn : n ≤ 900000) : Wp (m.call (k + 6) "_law_program" [.ref 0]) (PgQ n) S := by
  rw [call_run h.program rfl]
  simp [f__law_program]
  refine Wp.seq (take_ok h.toHasDr (many := 3) G (by omega) (by decide) (by decide)) ?_
  rintro _ S1 ⟨v, rfl, hv, G1⟩
  simp
  have hv1 : (1 : Int) + v = ((1 + v : Nat) : Int) := by omega
  have e1 : D.lst (cut [D.str (Str.ofString "a"), D.str (Str.ofString "b"), D.str (Str.ofString "c")] none (some (1 + (v : Int)))) = namesL ((["a", "b", "c"] : List Str).take (1 + v)) := by rw [hv1, cut_take]; unfold namesL; rw [List.map_take]; rfl
  rw [e1]
  generalize hnm : (["a", "b", "c"] : List Str).take (1 + v) = names
  have hnl : names.length = 1 + v := by rw [← hnm]; simp; omega
  refine Wp.seq (take_ok h.toHasDr (many := 2) G1 (by omega) (by decide) (by decide)) ?_
  rintro _ S2 ⟨adds, rfl, hadds, G2⟩
  refine Wp.seq (take_ok h.toHasDr (many := 2) G2 (by omega) (by decide) (by decide)) ?_
  rintro _ S3 ⟨c, rfl, hc, G3⟩
  simp
  have hc1 : (1 : Int) + c = ((1 + c : Nat) : Int) := by omega
  have e2 : cut [D.str (Str.ofString "k"), D.str (Str.ofString "m")] none (some (1 + (c : Int))) = ((["k", "m"] : List Str).take (1 + c)).map D.str := by rw [hc1, cut_take, List.map_take]; rfl
  rw [e2]
  generalize hkn : (["k", "m"] : List Str).take (1 + c) = kn
  have hknl : kn.length = 1 + c := by rw [← hkn]; simp; omega
  refine Wp.seq (wp_forL (I := pg2I (n + 3) names adds kn) (i := 0) ⟨[], rfl, by simp, by simp, by simpa using G3⟩ ?_) ?_
  · intro j hj σ S hI
    simp at hj
    have := pg2_turn (k := k) h hI (by omega) (by omega) (by omega)
    simpa using this
  · rintro _ S4 ⟨_, rfl, kinds, rfl, hkd, hk, G4⟩
    simp only [List.length_map, Nat.zero_add] at hkd G4
    simp [pg2St]
    rw [liml_ok (by simp; omega)]
    simp
    refine Wp.seq (wp_compL (I := pg3I (n + 3 + 80) names) (i := 0) (ys := []) ⟨[], rfl, by simp, by simp, by refine G4.up ?_; omega⟩ ?_) ?_
    · rintro j hj ys S ⟨l, rfl, hl, hb, G⟩
      simp at hj
      simp
      have e3 : l.map (·.1) ++ [names[j]] = names.take (0 + j + 1) := by rw [hl, Nat.zero_add, List.take_succ_eq_append_getElem hj]
      refine Wp.seq (take_ok h.toHasDr (many := 3) G (by omega) (by decide) (by decide)) ?_
      rintro _ S1 ⟨w, rfl, hw, G1⟩
      simp
      by_cases hw0 : w = 0
      · subst hw0
        simp
        refine Wp.seq (small_ok h.toHasDr h.toHasLFr G1 (by omega)) ?_
        rintro _ S5 ⟨q, rfl, hq, G5⟩
        simp
        refine ⟨l ++ [(names[j], q)], by simp [numD], by simpa using e3, ?_, G5.up (by omega)⟩
        intro x hx
        rcases List.mem_append.mp hx with z | z
        · exact hb _ z
        · rw [List.mem_singleton.mp z]; exact hq
      · simp [hw0]
        refine ⟨l ++ [(names[j], 0)], by simp [numD], by simpa using e3, ?_, G1.up (by omega)⟩
        intro x hx
        rcases List.mem_append.mp hx with z | z
        · exact hb _ z
        · rw [List.mem_singleton.mp z]; exact Bd.zero (by decide)
    · rintro zs S5 ⟨l, hz, hl, hb, G5⟩
      simp only [List.length_map, Nat.zero_add, List.nil_append, List.take_length] at hz hl G5
      subst hz
      simp
      refine ⟨⟨l, kinds⟩, adds, rfl, ⟨⟨1 + v, by omega, by omega, by rw [hl, hnm]⟩, hb, ⟨1 + c, by omega, by omega, by rw [hkd, hkn, List.take_length]⟩, ?_⟩, G5.up (by omega)⟩
      intro K hK
      show OkKd (l.map (·.1)) K
      rw [hl]; exact hk K hK
def RowQ (P : Pg) (n : Nat) (d : D) (S : CH) : Prop := ∃ r, d = rwD r ∧ OkRw P r ∧ Good n S
def valsI (n : Nat) (i : Nat) (ys : List D) (S : CH) : Prop := ∃ l : List Rat, ys = l.map qD ∧ l.length = i ∧ (∀ x ∈ l, Bd 6 3 x) ∧ Good (n + i * 2) S
theorem OkPg.kdl {P : Pg} (ok : OkPg P) : P.kinds.length = 1 ∨ P.kinds.length = 2 := by
  obtain ⟨c, h1, h2, h3⟩ := ok.kinds
  have := congrArg List.length h3
  simp at this
  omega
theorem OkPg.nml {P : Pg} (ok : OkPg P) : 1 ≤ P.nums.length ∧ P.nums.length ≤ 3 := by
  obtain ⟨c, h1, h2, h3⟩ := ok.names
  have := congrArg List.length h3
  simp at this
  omega
theorem OkKd.fl {names : List Str} {K : Kd} (ok : OkKd names K) : K.fields.length ≤ 2 := by
  obtain ⟨n, h1, h2⟩ := ok.fields
  rw [h2]; simp; omega
theorem law_row_ok (h : HasPg m) {P : Pg} (ok : OkPg P) (G : Good n S) (hn : n + 5 ≤ 1000000) : Wp (m.call (k + 4) "_law_row" [.ref 0, pgD P]) (RowQ P (n + 5)) S := by
  rw [call_run h.row rfl]
  simp [f__law_row]
  refine Wp.seq (some_ok h.toHasDr G (by omega) (by have := ok.kdl; simp; omega) (by have := ok.kdl; simp; omega)) ?_
  rintro d S1 ⟨hd, G1⟩
  obtain ⟨K, hK, rfl⟩ := List.mem_map.mp hd
  have hfl := (ok.kd K hK).fl
  simp
  rw [liml_ok (by simp; omega)]
  simp
  refine Wp.seq (wp_compL (I := valsI (n + 1)) (i := 0) (ys := []) ⟨[], rfl, rfl, by simp, by simpa using G1⟩ ?_) ?_
  · rintro j hj ys S ⟨l, rfl, hl, hb, G⟩
    simp at hj
    simp
    refine (small_ok h.toHasDr h.toHasLFr G (by omega)).mono ?_
    rintro _ S5 ⟨q, rfl, hq, G5⟩
    refine ⟨l ++ [q], by simp, by simp [hl], ?_, G5.up (by omega)⟩
    intro x hx
    rcases List.mem_append.mp hx with z | z
    · exact hb _ z
    · rw [List.mem_singleton.mp z]; exact hq
  · rintro zs S5 ⟨l, hz, hl, hb, G5⟩
    simp only [List.length_map, Nat.zero_add, List.nil_append] at hz hl G5
    subst hz
    simp
    exact ⟨(K.name, l), rfl, ⟨⟨K, hK, rfl, hl⟩, hb⟩, G5.up (by omega)⟩
def SrQ (P : Pg) (most n : Nat) (d : D) (S : CH) : Prop := ∃ sr : List Rw, d = srD sr ∧ sr.length ≤ most ∧ (∀ r ∈ sr, OkRw P r) ∧ Good n S
def rowsI (P : Pg) (n : Nat) (i : Nat) (ys : List D) (S : CH) : Prop := ∃ l : List Rw, ys = l.map rwD ∧ l.length = i ∧ (∀ x ∈ l, OkRw P x) ∧ Good (n + i * 5) S
theorem law_stretch_ok (h : HasPg m) {P : Pg} (ok : OkPg P) (G : Good n S) {most : Nat} (hm : most ≤ 1000) (hn : n + 1 + most * 5 ≤ 1000000) : Wp (m.call (k + 5) "_law_stretch" [.ref 0, pgD P, .int most]) (SrQ P most (n + 1 + most * 5)) S := by
  rw [call_run h.stretch rfl]
  simp [f__law_stretch]
  have hm1 : ((most : Int) + 1) = ((most + 1 : Nat) : Int) := by omega
  rw [hm1]
  refine Wp.seq (take_ok h.toHasDr (many := most + 1) G (by omega) (by omega) (by omega)) ?_
  rintro _ S1 ⟨v, rfl, hv, G1⟩
  rw [rng1 (by omega)]
  simp
  rw [liml_ok (by simp; omega)]
  simp
  refine Wp.seq (wp_compL (I := rowsI P (n + 1)) (i := 0) (ys := []) ⟨[], rfl, rfl, by simp, by simpa using G1⟩ ?_) ?_
  · rintro j hj ys S ⟨l, rfl, hl, hb, G⟩
    simp at hj
    simp
    refine (law_row_ok h ok G (by omega)).mono ?_
    rintro _ S5 ⟨r, rfl, hr, G5⟩
    refine ⟨l ++ [r], by simp, by simp [hl], ?_, G5.up (by omega)⟩
    intro x hx
    rcases List.mem_append.mp hx with z | z
    · exact hb _ z
    · rw [List.mem_singleton.mp z]; exact hr
  · rintro zs S5 ⟨l, hz, hl, hb, G5⟩
    simp only [List.length_map, List.length_range, Nat.zero_add, List.nil_append] at hz hl G5
    subst hz
    simp
    exact ⟨l, rfl, by omega, hb, G5.up (by omega)⟩
end
end Cl.Pl

set_option Elab.async false
set_option linter.all false
/-! PlI: what sums tell; states. -/
namespace Cl.Pl
open PySem

/-! ### more on loops -/
section
variable {c : Cfg} {g : G} {b : List Sm}
/-- a fold, what holds told by how many turns are done -/
theorem forL_foldI {α β : Type} {enc : α → D} {τ : β → Env} {step : β → α → β} {P : Nat → β → Prop} : ∀ {l : List α} {i : Nat} {s : β}, P i s → (∀ j (hj : j < l.length) s, P (i + j) s → turnM c g b (enc l[j]) (τ s) = pure (.nx (τ (step s l[j]))) ∧ P (i + j + 1) (step s l[j])) →
    forL c g b (l.map enc) (τ s) = pure (.nx (τ (l.foldl step s))) ∧ P (i + l.length) (l.foldl step s)
  | [], i, s, hp, _ => ⟨by rw [List.map_nil, forL_nil]; rfl, hp⟩
  | a :: l, i, s, hp, h => by
    obtain ⟨h1, h2⟩ := h 0 (Nat.zero_lt_succ _) s hp
    rw [List.map_cons, forL_cons, show enc a = enc ((a :: l)[0]) from rfl, h1, pure_bind, forK_nx]
    have := forL_foldI (l := l) (i := i + 1) h2 fun j hj s hs => by
      have := h (j + 1) (Nat.succ_lt_succ hj) s (by rw [show i + (j + 1) = i + 1 + j by omega]; exact hs)
      rw [show i + 1 + j + 1 = i + (j + 1) + 1 by omega]
      exact this
    rw [List.length_cons, show i + (l.length + 1) = i + 1 + l.length by omega]
    exact this
/-- what the names are, told by how many turns are done -/
theorem forL_idx {α : Type} {enc : α → D} {τ : Nat → Env} {l : List α} (h : ∀ j (hj : j < l.length), turnM c g b (enc l[j]) (τ j) = pure (.nx (τ (j + 1)))) : forL c g b (l.map enc) (τ 0) = pure (.nx (τ l.length)) := by
  have key : ∀ (l : List α) (i : Nat), (∀ j (hj : j < l.length), turnM c g b (enc l[j]) (τ (i + j)) = pure (.nx (τ (i + j + 1)))) → forL c g b (l.map enc) (τ i) = pure (.nx (τ (i + l.length))) := by
    intro l
    induction l with
    | nil => intro i _; simp
    | cons a l ih =>
      intro i h
      rw [List.map_cons, forL_cons, show enc a = enc ((a :: l)[0]) from rfl, show turnM c g b (enc (a :: l)[0]) (τ i) = _ from h 0 (Nat.zero_lt_succ _), pure_bind, forK_nx, List.length_cons, show i + (l.length + 1) = i + 1 + l.length by omega]
      exact ih (i + 1) fun j hj => by
        have := h (j + 1) (Nat.succ_lt_succ hj)
        rw [show i + 1 + j = i + (j + 1) by omega]
        exact this
  have := key l 0 fun j hj => by rw [Nat.zero_add]; exact h j hj
  rwa [Nat.zero_add] at this
end
/-- a dict comprehension, typed -/
theorem dcompL_typed {c : Cfg} {own : List Nat} {k v : E} {g : G} {σ : Env} {κ β α : Type} [DecidableEq κ] (K : KeyEnc κ) (gv : β → D) {enc : α → D} {kf : α → κ} {vf : α → β} {l : List α}
    (h : ∀ a ∈ l, ∃ σ', g.bind (enc a) (σ.wipe own) = some σ' ∧ (ev c k σ').v = pure (K.f (kf a)) ∧ (ev c v σ').v = pure (gv (vf a))) (nd : (l.map kf).Nodup) :
    dcompL c own k v g σ (l.map enc) = pure (l.map (fun a => K.f (kf a)), l.map fun a => gv (vf a)) := by
  unfold dcompL
  have key : ∀ (l : List α) (acc : List (κ × β)), (∀ a ∈ l, ∃ σ', g.bind (enc a) (σ.wipe own) = some σ' ∧ (ev c k σ').v = pure (K.f (kf a)) ∧ (ev c v σ').v = pure (gv (vf a))) → (acc.map (·.1) ++ l.map kf).Nodup →
      dcompM (fun d => g.bind d (σ.wipe own)) (fun σ' => (ev c k σ').v) (fun σ' => (ev c v σ').v) (l.map enc) (acc.map fun p => K.f p.1) (acc.map fun p => gv p.2) = pure ((acc.map fun p => K.f p.1) ++ l.map (fun a => K.f (kf a)), (acc.map fun p => gv p.2) ++ l.map fun a => gv (vf a)) := by
    intro l
    induction l with
    | nil => intro acc _ _; rw [List.map_nil, dcompM]; simp
    | cons a l ih =>
      intro acc h nd
      obtain ⟨σ', e1, e2, e3⟩ := h a (List.mem_cons_self ..)
      rw [List.map_cons, dcompM_cons, e1]
      simp only [lift_some, pure_bind, e2, e3, dput_typed K gv]
      have hn : kf a ∉ acc.map (·.1) := fun z => by
        rw [List.nodup_append] at nd
        exact nd.2.2 _ z (kf a) (List.mem_map.mpr ⟨a, List.mem_cons_self .., rfl⟩) rfl
      rw [aput_new hn, ih _ (fun a ha => h a (List.mem_cons_of_mem _ ha)) (by simpa using nd)]
      simp
  simpa using key l [] h (by simpa using nd)
theorem zipD_map {α β : Type} (f : α → D) (g : β → D) (l : List α) (l' : List β) : zipD (l.map f) (l'.map g) = (l.zip l').map fun p => .tup [f p.1, g p.2] := by
  unfold zipD
  rw [List.zip_map, List.map_map]
  rfl

/-! ### what sums tell -/
def worth (names : List Str) (st : List Rat) (x : Str) : Rat := (alook x (names.zip st)).getD 0
def termV (names : List Str) (st vals : List Rat) (t : Tm) : Rat := (vals.zip t.pw).foldl (fun p (vn : Rat × Nat) => p * vn.1 ^ vn.2) (if t.n = "" then t.q else t.q * worth names st t.n)
def valueAt (names : List Str) (st vals : List Rat) (told : List Tm) : Rat := told.foldl (fun f t => f + termV names st vals t) 0
theorem worth_of {names : List Str} {st : List Rat} (nd : names.Nodup) (hl : st.length = names.length) {x : Str} (hx : x ∈ names) : alook x (names.zip st) = some (worth names st x) ∧ worth names st x ∈ st := by
  obtain ⟨i, hi, rfl⟩ := List.getElem_of_mem hx
  have hm : (names[i], st[i]'(by omega)) ∈ names.zip st := by
    rw [List.mem_iff_getElem]
    exact ⟨i, by simp; omega, by simp⟩
  have nz : ((names.zip st).map (·.1)).Nodup := by rw [List.map_fst_zip (by omega)]; exact nd
  have := alook_of nz hm
  unfold worth
  rw [this]
  exact ⟨rfl, List.getElem_mem _⟩
/-- the bounds under which a sum is told -/
structure TmOk (names : List Str) (nf Dc Nc : Nat) (t : Tm) : Prop where
  n : t.n = "" ∨ t.n ∈ names
  pl : t.pw.length = nf
  pw : ∀ p ∈ t.pw, p ≤ 2
  bd : Bd Dc Nc t.q
def okNames (l : List Str) : Prop := l.Nodup ∧ (∀ x ∈ l, PyData.strOk x = true) ∧ ("" : Str) ∉ l
structure Sized (Dc Nc Ds Ns Dv Nv nf L : Nat) : Prop where
  c : 0 < Dc ∧ 1 ≤ Nc
  s : 0 < Ds ∧ 1 ≤ Ns
  v : 0 < Dv ∧ 1 ≤ Nv
  ld : (Dc * Ds * (Dv ^ 2) ^ nf).log2 < 1900
  ln : (L * (Nc * Ns * (Nv ^ 2) ^ nf) * (Dc * Ds * (Dv ^ 2) ^ nf)).log2 < 1900
section
variable {names : List Str} {st vals : List Rat} {Dc Nc Ds Ns Dv Nv nf L : Nat} {t : Tm}
theorem term_start (z : Sized Dc Nc Ds Ns Dv Nv nf L) (nd : names.Nodup) (hl : st.length = names.length) (ht : TmOk names nf Dc Nc t) (hs : ∀ x ∈ st, Bd Ds Ns x) : Bd (Dc * Ds) (Nc * Ns) (if t.n = "" then t.q else t.q * worth names st t.n) := by
  by_cases h : t.n = ""
  · rw [if_pos h]; exact ht.bd.up (Nat.dvd_mul_right ..) (Nat.mul_pos z.c.1 z.s.1) (Nat.le_mul_of_pos_right _ z.s.2)
  · rw [if_neg h]
    exact ht.bd.mul (hs _ (worth_of nd hl (ht.n.resolve_left h)).2)
theorem fold_bd : ∀ (l : List (Rat × Nat)) (p : Rat) (D N j : Nat), (∀ x ∈ l, Bd Dv Nv x.1 ∧ x.2 ≤ 2) → 1 ≤ Nv → Bd (D * (Dv ^ 2) ^ j) (N * (Nv ^ 2) ^ j) p → Bd (D * (Dv ^ 2) ^ (j + l.length)) (N * (Nv ^ 2) ^ (j + l.length)) (l.foldl (fun p (vn : Rat × Nat) => p * vn.1 ^ vn.2) p)
  | [], p, D, N, j, _, _, hp => hp
  | x :: l, p, D, N, j, h, hN, hp => by
    have hx := h x (List.mem_cons_self ..)
    have := fold_bd l (p * x.1 ^ x.2) D N (j + 1) (fun y hy => h y (List.mem_cons_of_mem _ hy)) hN (by
      have := hp.mul (hx.1.powLe hx.2 hN)
      rwa [Nat.mul_assoc, Nat.mul_assoc, ← Nat.pow_succ, ← Nat.pow_succ] at this)
    rw [List.foldl_cons, List.length_cons, show j + (l.length + 1) = j + 1 + l.length by omega]
    exact this
theorem term_bd (z : Sized Dc Nc Ds Ns Dv Nv nf L) (nd : names.Nodup) (hl : st.length = names.length) (hvl : vals.length = nf) (ht : TmOk names nf Dc Nc t) (hs : ∀ x ∈ st, Bd Ds Ns x) (hv : ∀ x ∈ vals, Bd Dv Nv x) : Bd (Dc * Ds * (Dv ^ 2) ^ nf) (Nc * Ns * (Nv ^ 2) ^ nf) (termV names st vals t) := by
  have := fold_bd (vals.zip t.pw) _ (Dc * Ds) (Nc * Ns) 0 (fun x hx => ⟨hv _ (List.of_mem_zip hx).1, ht.pw _ (List.of_mem_zip hx).2⟩) z.v.2 (by simpa using term_start z nd hl ht hs)
  have e : (vals.zip t.pw).length = nf := by rw [List.length_zip, hvl, ht.pl, Nat.min_self]
  rw [e, Nat.zero_add] at this
  exact this
end
/- value_at: program told state values numbers found number powers fraction product value one name begin -/
def f_value_at_b1 : List Sm := [.asg (.nm 9) (.call "times" [(.var 9), (.call "power" [(.var 10), (.var 11)])]),
    .kil [10, 11]]
def f_value_at_b2 : List Sm := [.asg (.nm 9) (.ite (.cmp .Eq (.var 6) (.con (.str ""))) (.var 8) (.call "times" [(.var 8), (.idx (.var 4) (.var 6))])),
    .kil [0, 2, 6, 8, 10, 11],
    .for_ (.tup [(.nm 10), (.nm 11)]) (.zip (.var 3) (.var 7)) f_value_at_b1,
    .asg (.nm 5) (.call "added" [(.var 5), (.var 9)]),
    .kil [6, 7, 8, 9, 10, 11]]
def f_value_at : Fn := ⟨4, 14, [.asg (.nm 4) (.dcomp [12, 13, 10] (.var 12) (.var 10) (.tup [(.tup [(.nm 12), (.nm 13)]), (.nm 10)]) (.zip (.idx (.var 0) (.con (.int 0))) (.var 2))),
    .asg (.nm 5) (.glob "ZERO"),
    .kil [0, 2],
    .for_ (.tup [(.nm 6), (.nm 7), (.nm 8)]) (.var 1) f_value_at_b2,
    .ret (.var 5)]⟩
/- begin_state: program name begin -/
def f_begin_state : Fn := ⟨1, 3, [.ret (.bi .tuple [(.comp [1, 2] (.var 2) (.tup [(.nm 1), (.nm 2)]) (.idx (.var 0) (.con (.int 0))) [])])]⟩
/- kind_named: program name kind -/
def f_kind_named_b1 : List Sm := [.ite (.cmp .Eq (.idx (.var 2) (.con (.int 0))) (.var 1)) [.ret (.var 2)] [],
    .kil [2]]
def f_kind_named : Fn := ⟨2, 3, [.for_ (.nm 2) (.idx (.var 0) (.con (.int 1))) f_kind_named_b1,
    .rais]⟩
/- turns_of: program kind -/
def f_turns_of : Fn := ⟨2, 2, [.ret (.idx (.call "kind_named" [(.var 0), (.var 1)]) (.con (.int 2)))]⟩
/- is_state: program thing one -/
def f_is_state : Fn := ⟨2, 3, [.ite (.or (.not (.isi (.var 1) .tuple)) (.cmp .NotEq (.bi .len [(.var 1)]) (.bi .len [(.idx (.var 0) (.con (.int 0)))]))) [.ret (.con (.bl false))] [],
    .ret (.bi .all [(.comp [2] (.call "is_fraction" [(.var 2)]) (.nm 2) (.var 1) [])])]⟩
/- led: program state row kind values turn -/
def f_led : Fn := ⟨3, 6, [.ite (.not (.call "is_state" [(.var 0), (.var 1)])) [.rais] [],
    .asg (.tup [(.nm 3), (.nm 4)]) (.var 2),
    .ret (.bi .tuple [(.comp [5] (.call "value_at" [(.var 0), (.var 5), (.var 1), (.var 4)]) (.nm 5) (.call "turns_of" [(.var 0), (.var 3)]) [])])]⟩
/- led_by: program state stretch row -/
def f_led_by_b1 : List Sm := [.asg (.nm 1) (.call "led" [(.var 0), (.var 1), (.var 3)]),
    .kil [3]]
def f_led_by : Fn := ⟨3, 4, [.ite (.not (.call "is_state" [(.var 0), (.var 1)])) [.rais] [],
    .for_ (.nm 3) (.var 2) f_led_by_b1,
    .ret (.var 1)]⟩
/- state_of: program stretch -/
def f_state_of : Fn := ⟨2, 2, [.ret (.call "led_by" [(.var 0), (.call "begin_state" [(.var 0)]), (.var 1)])]⟩
/- states_along: program stretch found row -/
def f_states_along_b1 : List Sm := [.app 2 (.call "led" [(.var 0), (.idx (.var 2) (.neg (.con (.int 1)))), (.var 3)]),
    .kil [3]]
def f_states_along : Fn := ⟨2, 4, [.own 2 (.lst [(.call "begin_state" [(.var 0)])]),
    .for_ (.nm 3) (.var 1) f_states_along_b1,
    .ret (.bi .tuple [(.var 2)])]⟩
structure HasSt0 (m : Mo) : Prop extends HasFr m where
  begin_state : m.defs "begin_state" = some f_begin_state
  kind_named : m.defs "kind_named" = some f_kind_named
  turns_of : m.defs "turns_of" = some f_turns_of
structure HasSt (m : Mo) : Prop extends HasSt0 m, HasFrI m where
  value_at : m.defs "value_at" = some f_value_at
  is_state : m.defs "is_state" = some f_is_state
  led : m.defs "led" = some f_led
  led_by : m.defs "led_by" = some f_led_by
  state_of : m.defs "state_of" = some f_state_of
  states_along : m.defs "states_along" = some f_states_along
section
variable {m : Mo} {k : Nat} {P : Pg} {st vals : List Rat} {Dc Nc Ds Ns Dv Nv nf L : Nat} {ts : List Tm}
def numsD (names : List Str) (st : List Rat) : D := .dct ((names.zip st).map fun p => .str p.1) ((names.zip st).map fun p => qD p.2)
@[simp] theorem deref_nums {names : List Str} {st : List Rat} : deref (numsD names st) = pure (numsD names st) := rfl
theorem idx_nums {names : List Str} (nd : names.Nodup) (hl : st.length = names.length) {x : Str} (hx : x ∈ names) : idxD (numsD names st) (.str x) = some (qD (worth names st x)) := by
  have nz : ((names.zip st).map (·.1)).Nodup := by rw [List.map_fst_zip (by omega)]; exact nd
  have e := (worth_of nd hl hx).1
  show (match dfind (strKey.f x) ((names.zip st).map fun p => strKey.f p.1) ((names.zip st).map fun p => qD p.2) with
    | some (some v) => some v
    | _ => none) = _
  rw [dfind_typed, e]
  rfl
/-- the product of a term, in a turn -/
theorem value_b1 (h : HasSt m) {c : Cfg} (hc : c = ⟨m.call (k + 4), m.glob⟩) {told numbers found : D} {pw : List Nat} {p : Rat} {E N : Nat} (hD : 0 < E ∧ 1 ≤ N) (h1 : (E * (Dv ^ 2) ^ vals.length).log2 < 1900) (h2 : (N * (Nv ^ 2) ^ vals.length * (E * (Dv ^ 2) ^ vals.length)).log2 < 1900)
    (hb : Bd E N p) (hv : ∀ x ∈ vals, Bd Dv Nv x) (hDv : 0 < Dv ∧ 1 ≤ Nv) (hpl : pw.length = vals.length) (hpw : ∀ x ∈ pw, x ≤ 2) :
    forL c (.tup [.nm 10, .nm 11]) f_value_at_b1 ((vals.zip pw).map fun x => .tup [qD x.1, .int x.2])
      [none, some (.v told), none, some (.v (stD vals)), some (.v numbers), some (.v found), none, some (.v (pwD pw)), none, some (.v (qD p)), none, none, none, none] =
      pure (.nx [none, some (.v told), none, some (.v (stD vals)), some (.v numbers), some (.v found), none, some (.v (pwD pw)), none, some (.v (qD ((vals.zip pw).foldl (fun p (vn : Rat × Nat) => p * vn.1 ^ vn.2) p))), none, none, none, none]) := by
  have len : (vals.zip pw).length = vals.length := by rw [List.length_zip, hpl, Nat.min_self]
  have up : ∀ j, j ≤ vals.length → ∀ q, Bd (E * (Dv ^ 2) ^ j) (N * (Nv ^ 2) ^ j) q → Fit q := fun j hj q hq => by
    refine (hq.up (D' := E * (Dv ^ 2) ^ vals.length) (N' := N * (Nv ^ 2) ^ vals.length) ?_ ?_ ?_).fit h1 h2
    · exact Nat.mul_dvd_mul_left _ (Nat.pow_dvd_pow _ hj)
    · exact Nat.mul_pos hD.1 (Nat.pow_pos (Nat.pow_pos hDv.1))
    · exact Nat.mul_le_mul_left _ (Nat.pow_le_pow_right (Nat.pow_pos hDv.2) hj)
  have := forL_foldI (c := c) (g := .tup [.nm 10, .nm 11]) (b := f_value_at_b1) (enc := fun x : Rat × Nat => D.tup [qD x.1, .int x.2]) (l := vals.zip pw) (i := 0) (s := p)
    (τ := fun p => [none, some (.v told), none, some (.v (stD vals)), some (.v numbers), some (.v found), none, some (.v (pwD pw)), none, some (.v (qD p)), none, none, none, none]) (step := fun p (vn : Rat × Nat) => p * vn.1 ^ vn.2)
    (P := fun j p => Bd (E * (Dv ^ 2) ^ j) (N * (Nv ^ 2) ^ j) p) (by simpa using hb) fun j hj s hs => by
    have hx : (vals.zip pw)[j].1 ∈ vals ∧ (vals.zip pw)[j].2 ∈ pw := List.of_mem_zip (List.getElem_mem hj)
    have hp := hpw _ hx.2
    have hvb := hv _ hx.1
    rw [len] at hj
    have fs := up (0 + j) (by omega) s hs
    have pb : ∀ i, i ≤ 2 → Bd (Dv ^ 2) (Nv ^ 2) ((vals.zip pw)[j].1 ^ i) := fun i hi => hvb.powLe hi hDv.2
    have fp : ∀ i, i ≤ (vals.zip pw)[j].2 → Fit ((vals.zip pw)[j].1 ^ i) := fun i hi => up 1 (by omega) _ ((pb i (by omega)).up (by rw [Nat.pow_one]; exact Nat.dvd_mul_left ..) (Nat.mul_pos hD.1 (by rw [Nat.pow_one]; exact Nat.pow_pos hDv.1)) (by rw [Nat.pow_one]; exact Nat.le_mul_of_pos_left _ (by omega)))
    constructor
    · subst hc
      simp only [turnM, f_value_at_b1]
      have e1 := power_ok (k := k) h.toHasFr (q := (vals.zip pw)[j].1) (n := (vals.zip pw)[j].2) (by omega) fp
      have e2 := times_ok (k := k + 1) h.toHasFr fs (fp _ (Nat.le_refl _))
      generalize (vals.zip pw)[j] = vn at *
      simp [e1, e2]
    · have := hs.mul (pb _ hp)
      rwa [Nat.mul_assoc, Nat.mul_assoc, ← Nat.pow_succ, ← Nat.pow_succ] at this
  exact this.1
theorem value_at_ok (h : HasSt m) (z : Sized Dc Nc Ds Ns Dv Nv nf L) (hn : okNames (P.nums.map (·.1))) (hl : st.length = P.nums.length) (hl6 : st.length ≤ 1000000) (hvl : vals.length = nf) (ht : ∀ t ∈ ts, TmOk (P.nums.map (·.1)) nf Dc Nc t) (hL : ts.length ≤ L)
    (hs : ∀ x ∈ st, Bd Ds Ns x) (hv : ∀ x ∈ vals, Bd Dv Nv x) : m.call (k + 5) "value_at" [pgD P, sumD ts, stD st, stD vals] = pure (qD (valueAt (P.nums.map (·.1)) st vals ts)) ∧ Bd (Dc * Ds * (Dv ^ 2) ^ nf) (L * (Nc * Ns * (Nv ^ 2) ^ nf)) (valueAt (P.nums.map (·.1)) st vals ts) := by
  have hl' : st.length = (P.nums.map (·.1)).length := by rw [List.length_map]; exact hl
  rw [call_run h.value_at rfl]
  simp [f_value_at, h.ZERO]
  rw [zipD_map, liml_ok (by simp; omega), dcompL_typed strKey qD (kf := fun p : (Str × Rat) × Rat => p.1.1) (vf := fun p => p.2)]
  · have e0 : D.dct ((P.nums.zip st).map fun a => strKey.f a.1.1) ((P.nums.zip st).map fun a => qD a.2) = numsD (P.nums.map (·.1)) st := by
      unfold numsD
      rw [List.zip_map_left, List.map_map, List.map_map]
      rfl
    simp [e0]
    have DN := Nat.mul_pos (Nat.mul_pos z.c.1 z.s.1) (Nat.pow_pos (n := nf) (Nat.pow_pos (n := 2) z.v.1))
    have := forL_foldI (c := ⟨m.call (k + 4), m.glob⟩) (g := .tup [.nm 6, .nm 7, .nm 8]) (b := f_value_at_b2) (enc := tmD) (l := ts) (i := 0) (s := (0 : Rat))
      (τ := fun f => [none, some (.v (sumD ts)), none, some (.v (stD vals)), some (.v (numsD (P.nums.map (·.1)) st)), some (.v (qD f)), none, none, none, none, none, none, none, none]) (step := fun f t => f + termV (P.nums.map (·.1)) st vals t)
      (P := fun j f => Bd (Dc * Ds * (Dv ^ 2) ^ nf) (j * (Nc * Ns * (Nv ^ 2) ^ nf)) f) (Bd.zero DN) fun j hj s hs' => by
      have htj := ht _ (List.getElem_mem hj)
      have tb := term_bd z hn.1 hl' hvl htj hs hv
      have nb := hs'.add tb
      rw [← Nat.succ_mul] at nb
      have ts0 := term_start z hn.1 hl' htj hs
      have LN : (j + 1) * (Nc * Ns * (Nv ^ 2) ^ nf) * (Dc * Ds * (Dv ^ 2) ^ nf) ≤ L * (Nc * Ns * (Nv ^ 2) ^ nf) * (Dc * Ds * (Dv ^ 2) ^ nf) := Nat.mul_le_mul_right _ (Nat.mul_le_mul_right _ (by omega))
      have L1 : (Nc * Ns * (Nv ^ 2) ^ nf) * (Dc * Ds * (Dv ^ 2) ^ nf) ≤ (j + 1) * (Nc * Ns * (Nv ^ 2) ^ nf) * (Dc * Ds * (Dv ^ 2) ^ nf) := Nat.mul_le_mul_right _ (Nat.le_mul_of_pos_left _ (by omega))
      have L0 : (0 + j) * (Nc * Ns * (Nv ^ 2) ^ nf) * (Dc * Ds * (Dv ^ 2) ^ nf) ≤ L * (Nc * Ns * (Nv ^ 2) ^ nf) * (Dc * Ds * (Dv ^ 2) ^ nf) := Nat.mul_le_mul_right _ (Nat.mul_le_mul_right _ (by omega))
      have lN : ((Nc * Ns * (Nv ^ 2) ^ nf) * (Dc * Ds * (Dv ^ 2) ^ nf)).log2 < 1900 := Nat.lt_of_le_of_lt (log2_mono (Nat.le_trans L1 LN)) z.ln
      have fs := hs'.fit z.ld (Nat.lt_of_le_of_lt (log2_mono L0) z.ln)
      have ft := tb.fit z.ld lN
      have big : ∀ q, Bd (Dc * Ds) (Nc * Ns) q → Fit q := fun q hq => (hq.up (Nat.dvd_mul_right ..) DN (Nat.le_mul_of_pos_right _ (Nat.pow_pos (Nat.pow_pos z.v.2)))).fit z.ld lN
      refine ⟨?_, nb⟩
      have b1 := value_b1 (k := k) h rfl (told := sumD ts) (numbers := numsD (P.nums.map (·.1)) st) (found := qD s) (pw := ts[j].pw) (vals := vals) ⟨Nat.mul_pos z.c.1 z.s.1, Nat.mul_le_mul z.c.2 z.s.2⟩ (by rw [hvl]; exact z.ld) (by rw [hvl]; exact lN) ts0 hv z.v (by rw [htj.pl, hvl]) htj.pw
      have ea := added_ok (k := k + 1) h.toHasFr fs ft
      have so : PyData.strOk ts[j].n = true := by
        rcases htj.n with z | z
        · rw [z]; decide +kernel
        · exact hn.2.1 _ z
      simp only [termV] at ea ft ⊢
      generalize ts[j] = t at *
      simp [turnM, f_value_at_b2]
      rw [zipD_map, str_deq so (by decide +kernel)]
      by_cases he : t.n = ""
      · simp only [he, if_true] at b1 ea ⊢
        simp [b1, ea]
      · have e1 := times_ok (k := k + 1) h.toHasFr (big _ (htj.bd.up (Nat.dvd_mul_right ..) (Nat.mul_pos z.c.1 z.s.1) (Nat.le_mul_of_pos_right _ z.s.2))) (big _ ((hs _ (worth_of hn.1 hl' (htj.n.resolve_left he)).2).up (Nat.dvd_mul_left ..) (Nat.mul_pos z.c.1 z.s.1) (Nat.le_mul_of_pos_left _ z.c.2)))
        simp only [he, if_false] at b1 ea ⊢
        simp [idx_nums hn.1 hl' (htj.n.resolve_left he), e1, b1, ea]
    obtain ⟨e1, e2⟩ := this
    rw [Nat.zero_add] at e2
    refine ⟨?_, e2.up (Nat.dvd_refl _) DN (Nat.mul_le_mul_right _ hL)⟩
    rw [e1]
    simp [valueAt]
  · rintro ⟨⟨x, b⟩, q⟩ _
    exact ⟨_, rfl, by simp [strKey], by simp⟩
  · have : (P.nums.zip st).map (fun p => p.1.1) = P.nums.map (·.1) := by
      rw [show (fun p : (Str × Rat) × Rat => p.1.1) = (·.1) ∘ (·.1) from rfl, ← List.map_map, List.map_fst_zip (by omega)]
    rw [this]; exact hn.1
end
end Cl.Pl

set_option Elab.async false
set_option linter.all false
/-! PlJ: states, by the program. -/
namespace Cl.Pl
open PySem

def kindOf (P : Pg) (x : Str) : Kd := (P.kinds.find? fun K => K.name = x).getD ⟨"", [], []⟩
def ledV (P : Pg) (st : List Rat) (r : Rw) : List Rat := (kindOf P r.1).turns.map fun ts => valueAt (P.nums.map (·.1)) st r.2 ts
def beginV (P : Pg) : List Rat := P.nums.map (·.2)
def stateV (P : Pg) (sr : List Rw) : List Rat := sr.foldl (ledV P) (beginV P)
/-- the bounds of a state behind j rows -/
def BdS (j : Nat) (q : Rat) : Prop := Bd (6 * 2592 ^ j) (3 * 486 ^ j) q
structure StOk (P : Pg) (j : Nat) (st : List Rat) : Prop where
  len : st.length = P.nums.length
  bd : ∀ x ∈ st, BdS j x
theorem strOk_abc : ∀ x ∈ (["a", "b", "c"] : List Str), PyData.strOk x = true ∧ x ≠ "" := by decide +kernel
theorem strOk_km : ∀ x ∈ (["k", "m"] : List Str), PyData.strOk x = true ∧ x ≠ "" := by decide +kernel
theorem nodup_abc : (["a", "b", "c"] : List Str).Nodup := by decide +kernel
section
variable {P : Pg}
theorem OkPg.okn (ok : OkPg P) : okNames (P.nums.map (·.1)) := by
  obtain ⟨n, h1, h2, h3⟩ := ok.names
  rw [h3]
  refine ⟨nodup_abc.sublist (List.take_sublist ..), fun x hx => (strOk_abc x (List.mem_of_mem_take hx)).1, fun z => (strOk_abc _ (List.mem_of_mem_take z)).2 rfl⟩
theorem OkPg.kn (ok : OkPg P) {K : Kd} (hK : K ∈ P.kinds) : PyData.strOk K.name = true := by
  obtain ⟨n, h1, h2, h3⟩ := ok.kinds
  have : K.name ∈ P.kinds.map Kd.name := List.mem_map.mpr ⟨K, hK, rfl⟩
  rw [h3] at this
  exact (strOk_km _ (List.mem_of_mem_take this)).1
theorem kindOf_mem {x : Str} (h : ∃ K ∈ P.kinds, x = K.name) : kindOf P x ∈ P.kinds ∧ (kindOf P x).name = x ∧ P.kinds.find? (fun K => K.name = x) = some (kindOf P x) := by
  obtain ⟨K, hK, rfl⟩ := h
  unfold kindOf
  cases e : P.kinds.find? fun K' => K'.name = K.name with
  | none =>
    rw [List.find?_eq_none] at e
    exact absurd (e K hK) (by simp)
  | some K' =>
    have h1 := List.mem_of_find?_eq_some e
    have h2 := List.find?_some e
    exact ⟨h1, by simpa using h2, rfl⟩
theorem two_kinds (ok : OkPg P) : ∀ K ∈ P.kinds, ∀ K' ∈ P.kinds, K.name = K'.name → K = K' := by
  obtain ⟨n, h1, h2, h3⟩ := ok.kinds
  have nd : (P.kinds.map Kd.name).Nodup := by
    rw [h3]
    exact (show (["k", "m"] : List Str).Nodup by decide +kernel).sublist (List.take_sublist ..)
  intro K hK K' hK' e
  obtain ⟨i, hi, rfl⟩ := List.getElem_of_mem hK
  obtain ⟨j, hj, rfl⟩ := List.getElem_of_mem hK'
  have : i = j := by
    have e2 : (P.kinds.map Kd.name)[i]'(by simpa using hi) = (P.kinds.map Kd.name)[j]'(by simpa using hj) := by simpa using e
    have nd' := List.pairwise_iff_getElem.mp nd
    rcases Nat.lt_trichotomy i j with z | z | z
    · exact absurd e2 (nd' i j _ _ z)
    · exact z
    · exact absurd e2.symm (nd' j i _ _ z)
  subst this; rfl
theorem OkRw.kind (ok : OkPg P) {r : Rw} (h : OkRw P r) : kindOf P r.1 ∈ P.kinds ∧ (kindOf P r.1).name = r.1 ∧ P.kinds.find? (fun K => K.name = r.1) = some (kindOf P r.1) ∧ r.2.length = (kindOf P r.1).fields.length := by
  obtain ⟨K, hK, e, hl⟩ := h.ex
  obtain ⟨h1, h2, h3⟩ := kindOf_mem (P := P) ⟨K, hK, e⟩
  have : kindOf P r.1 = K := two_kinds ok _ h1 _ hK (by rw [h2, e])
  exact ⟨h1, h2, h3, by rw [this]; exact hl⟩
theorem begin_ok (ok : OkPg P) : StOk P 0 (beginV P) := ⟨by simp [beginV], fun x hx => by
  obtain ⟨y, hy, rfl⟩ := List.mem_map.mp hx
  exact ok.begins y hy⟩
theorem sized {j nf : Nat} (hj : j ≤ 8) (hf : nf ≤ 2) : Sized 2 2 (6 * 2592 ^ j) (3 * 486 ^ j) 6 3 nf 3 := by
  have : nf = 0 ∨ nf = 1 ∨ nf = 2 := by omega
  have h2 : j = 0 ∨ j = 1 ∨ j = 2 ∨ j = 3 ∨ j = 4 ∨ j = 5 ∨ j = 6 ∨ j = 7 ∨ j = 8 := by omega
  rcases this with rfl | rfl | rfl <;> rcases h2 with rfl | rfl | rfl | rfl | rfl | rfl | rfl | rfl | rfl <;> exact ⟨by decide, by decide, by decide, by decide +kernel, by decide +kernel⟩
theorem OkSum.tm {names : List Str} {nf most : Nat} {ts : List Tm} (h : OkSum names nf most ts) : ∀ t ∈ ts, TmOk names nf 2 2 t := fun t ht => ⟨h.n t ht, h.pl t ht, h.pw t ht, (h.nn t ht).bd⟩
theorem bdS_next {j nf : Nat} (hf : nf ≤ 2) {q : Rat} (h : Bd (2 * (6 * 2592 ^ j) * (6 ^ 2) ^ nf) (3 * (2 * (3 * 486 ^ j) * (3 ^ 2) ^ nf)) q) : BdS (j + 1) q := by
  refine h.up ?_ (Nat.mul_pos (by decide) (Nat.pow_pos (by decide))) ?_
  · have : nf = 0 ∨ nf = 1 ∨ nf = 2 := by omega
    rw [Nat.pow_succ]
    rcases this with rfl | rfl | rfl
    · exact ⟨1296, by simp; omega⟩
    · exact ⟨36, by simp; omega⟩
    · exact ⟨1, by simp; omega⟩
  · have : nf = 0 ∨ nf = 1 ∨ nf = 2 := by omega
    rw [Nat.pow_succ]
    rcases this with rfl | rfl | rfl <;> simp <;> omega
theorem BdS.fit {j : Nat} (hj : j ≤ 5) {q : Rat} (h : BdS j q) : Fit q := by
  have h2 : j = 0 ∨ j = 1 ∨ j = 2 ∨ j = 3 ∨ j = 4 ∨ j = 5 := by omega
  rcases h2 with rfl | rfl | rfl | rfl | rfl | rfl <;> exact Bd.fit h (by decide +kernel) (by decide +kernel)
end
section
variable {m : Mo} {k : Nat} {P : Pg} {st vals : List Rat}
theorem begin_state_ok (h : HasSt0 m) (ok : OkPg P) : m.call (k + 1) "begin_state" [pgD P] = pure (stD (beginV P)) := by
  rw [call_run h.begin_state rfl]
  have := ok.nml
  simp [f_begin_state]
  rw [liml_ok (by simp; omega), compL_map (f := fun x => qD x.2) (by intro x _; simp)]
  simp [stD, beginV, Function.comp_def]
theorem kind_loop {c : Cfg} {x : Str} (hx : PyData.strOk x = true) {pd : D} : ∀ {l : List Kd}, (∀ K ∈ l, PyData.strOk K.name = true) → forL c (.nm 2) f_kind_named_b1 (l.map kdD) [some (.v pd), some (.v (.str x)), none] = (match l.find? fun K => K.name = x with
    | some K => pure (.rt (kdD K))
    | none => pure (.nx [some (.v pd), some (.v (.str x)), none])) := by
  intro l
  induction l with
  | nil => intro _; simp
  | cons K l ih =>
    intro h
    have hK := h K (List.mem_cons_self ..)
    rw [List.map_cons, forL_cons, List.find?_cons]
    have sd := str_deq hK hx
    by_cases e : K.name = x
    · have t : turnM c (.nm 2) f_kind_named_b1 (kdD K) [some (.v pd), some (.v (.str x)), none] = pure (.rt (kdD K)) := by
        simp [turnM, f_kind_named_b1, sd]
        simp [e]
      rw [t]; simp [e]
    · have t : turnM c (.nm 2) f_kind_named_b1 (kdD K) [some (.v pd), some (.v (.str x)), none] = pure (.nx [some (.v pd), some (.v (.str x)), none]) := by
        simp [turnM, f_kind_named_b1, sd, e]
      rw [t]; simp [e, ih fun K hK => h K (List.mem_cons_of_mem _ hK)]
theorem kind_named_ok (h : HasSt0 m) (ok : OkPg P) {r : Rw} (hr : OkRw P r) : m.call (k + 1) "kind_named" [pgD P, .str r.1] = pure (kdD (kindOf P r.1)) := by
  obtain ⟨h1, h2, h3, h4⟩ := hr.kind ok
  rw [call_run h.kind_named rfl]
  have so : PyData.strOk r.1 = true := by rw [← h2]; exact ok.kn h1
  simp [f_kind_named, kind_loop so fun K hK => ok.kn hK, h3]
theorem turns_of_ok (h : HasSt0 m) (ok : OkPg P) {r : Rw} (hr : OkRw P r) : m.call (k + 2) "turns_of" [pgD P, .str r.1] = pure (.tup ((kindOf P r.1).turns.map sumD)) := by
  rw [call_run h.turns_of rfl]
  simp [f_turns_of, kind_named_ok h ok hr]
theorem is_state_ok (h : HasSt m) (hl : st.length = P.nums.length) (hl6 : st.length ≤ 1000000) : m.call (k + 3) "is_state" [pgD P, stD st] = pure (.bl true) := by
  rw [call_run h.is_state rfl]
  simp [f_is_state, hl]
  rw [liml_ok (by simp; omega), compL_map (f := fun _ => .bl true) (by intro x _; simp [is_fraction_ok h.toHasFrI])]
  simp [bools_map (f := fun _ : Rat => true)]
  rw [show st.all (fun _ => true) = true by simp]
theorem led_ok (h : HasSt m) (ok : OkPg P) {j : Nat} (hj : j ≤ 8) (hs : StOk P j st) {r : Rw} (hr : OkRw P r) : m.call (k + 6) "led" [pgD P, stD st, rwD r] = pure (stD (ledV P st r)) ∧ StOk P (j + 1) (ledV P st r) := by
  obtain ⟨h1, h2, h3, h4⟩ := hr.kind ok
  have kd := ok.kd _ h1
  have nl := ok.nml
  have sl := hs.len
  have hv : ∀ ts ∈ (kindOf P r.1).turns, _ := fun ts hts => value_at_ok (k := k) h (sized hj kd.fl) ok.okn hs.len (by omega) h4 (kd.sums ts hts).tm (kd.sums ts hts).len hs.bd hr.bd
  constructor
  · rw [call_run h.led rfl]
    have tl := kd.turns
    rw [List.length_map] at tl
    simp [f_led, is_state_ok (k := k + 2) h hs.len (by omega), turns_of_ok (k := k + 3) h.toHasSt0 ok hr]
    rw [liml_ok (by simp; omega), compL_map (f := fun ts => qD (valueAt (P.nums.map (·.1)) st r.2 ts)) (by intro ts hts; simp [(hv ts hts).1])]
    simp [stD, ledV, Function.comp_def]
  · refine ⟨by rw [ledV, List.length_map, kd.turns, List.length_map], fun x hx => ?_⟩
    obtain ⟨ts, hts, rfl⟩ := List.mem_map.mp hx
    exact bdS_next kd.fl (hv ts hts).2
/-- a model of the states, for the bounds alone -/
def fm0 : List (Str × Fn) := [("is_number", f_is_number), ("common_divisor", f_common_divisor), ("is_fraction", f_is_fraction), ("made", f_made), ("added", f_added), ("times", f_times), ("divided", f_divided), ("power", f_power),
  ("begin_state", f_begin_state), ("kind_named", f_kind_named), ("turns_of", f_turns_of), ("value_at", f_value_at), ("is_state", f_is_state), ("led", f_led), ("led_by", f_led_by), ("state_of", f_state_of), ("states_along", f_states_along)]
def m0 : Mo := ⟨fun x => (fm0.find? fun p => p.1 = x).map (·.2), fun x => if x = "ZERO" then some (qD 0) else some (qD 1)⟩
theorem m0_st : HasSt m0 := { is_number := rfl, common_divisor := rfl, is_fraction := rfl, made := rfl, added := rfl, times := rfl, divided := rfl, power := rfl, ZERO := rfl, ONE := rfl, begin_state := rfl, kind_named := rfl, turns_of := rfl, value_at := rfl, is_state := rfl, led := rfl, led_by := rfl, state_of := rfl, states_along := rfl }
theorem led_bd (ok : OkPg P) {j : Nat} (hj : j ≤ 8) (hs : StOk P j st) {r : Rw} (hr : OkRw P r) : StOk P (j + 1) (ledV P st r) := (led_ok (k := 0) m0_st ok hj hs hr).2
theorem state_bd (ok : OkPg P) {sr : List Rw} (hl : sr.length ≤ 8) (hr : ∀ r ∈ sr, OkRw P r) : StOk P sr.length (stateV P sr) := by
  have key : ∀ (l : List Rw) (st : List Rat) (j : Nat), j + l.length ≤ 8 → (∀ r ∈ l, OkRw P r) → StOk P j st → StOk P (j + l.length) (l.foldl (ledV P) st) := by
    intro l
    induction l with
    | nil => intro st j _ _ h; exact h
    | cons r l ih =>
      intro st j hj hr h
      rw [List.length_cons] at hj ⊢
      have := ih (ledV P st r) (j + 1) (by omega) (fun r h => hr r (List.mem_cons_of_mem _ h)) (led_bd ok (by omega) h (hr r (List.mem_cons_self ..)))
      rwa [show j + 1 + l.length = j + (l.length + 1) by omega] at this
  have := key sr (beginV P) 0 (by omega) hr (begin_ok ok)
  rwa [Nat.zero_add] at this
theorem led_by_ok (h : HasSt m) (ok : OkPg P) {sr : List Rw} (hl : sr.length ≤ 4) (hr : ∀ r ∈ sr, OkRw P r) (hs : StOk P 0 st) : m.call (k + 7) "led_by" [pgD P, stD st, srD sr] = pure (stD (sr.foldl (ledV P) st)) ∧ StOk P sr.length (sr.foldl (ledV P) st) := by
  have nl := ok.nml
  have sl := hs.len
  have := forL_foldI (c := ⟨m.call (k + 6), m.glob⟩) (g := .nm 3) (b := f_led_by_b1) (enc := rwD) (l := sr) (i := 0) (s := st)
    (τ := fun st => [some (.v (pgD P)), some (.v (stD st)), some (.v (srD sr)), none]) (step := ledV P) (P := fun j st => StOk P j st) hs fun j hj s hs => by
    rw [Nat.zero_add] at hs ⊢
    obtain ⟨e1, e2⟩ := led_ok (k := k) h ok (by omega) hs (hr _ (List.getElem_mem hj))
    refine ⟨?_, e2⟩
    simp [turnM, f_led_by_b1, e1]
  obtain ⟨e1, e2⟩ := this
  rw [Nat.zero_add] at e2
  refine ⟨?_, e2⟩
  rw [call_run h.led_by rfl]
  simp [f_led_by, is_state_ok (k := k + 3) h hs.len (by omega), e1]
theorem stateV_ok (h : HasSt m) (ok : OkPg P) {sr : List Rw} (hl : sr.length ≤ 4) (hr : ∀ r ∈ sr, OkRw P r) : m.call (k + 8) "state_of" [pgD P, srD sr] = pure (stD (stateV P sr)) ∧ StOk P sr.length (stateV P sr) := by
  obtain ⟨e1, e2⟩ := led_by_ok (k := k) h ok hl hr (begin_ok ok)
  refine ⟨?_, e2⟩
  rw [call_run h.state_of rfl]
  simp [f_state_of, begin_state_ok (k := k + 6) h.toHasSt0 ok, e1, stateV]
/-- the states along -/
def alongV (P : Pg) (sr : List Rw) : List (List Rat) := (List.range (sr.length + 1)).map fun i => stateV P (sr.take i)
theorem alongV_take (sr : List Rw) (j : Nat) (hj : j < sr.length) : alongV P (sr.take (j + 1)) = alongV P (sr.take j) ++ [ledV P (stateV P (sr.take j)) sr[j]] := by
  unfold alongV
  rw [List.length_take, List.length_take, Nat.min_eq_left (by omega), Nat.min_eq_left (by omega), List.range_succ, List.map_append]
  congr 1
  · apply List.map_congr_left
    intro i hi
    rw [List.mem_range] at hi
    rw [List.take_take, List.take_take, Nat.min_eq_left (by omega), Nat.min_eq_left (by omega)]
  · simp only [List.map_cons, List.map_nil, List.take_take, Nat.min_self]
    rw [List.take_succ_eq_append_getElem hj, stateV, List.foldl_append]
    rfl
theorem states_along_ok (h : HasSt m) (ok : OkPg P) {sr : List Rw} (hl : sr.length ≤ 4) (hr : ∀ r ∈ sr, OkRw P r) : m.call (k + 7) "states_along" [pgD P, srD sr] = pure (.tup ((alongV P sr).map stD)) := by
  have key : ∀ j, j ≤ sr.length → StOk P j (stateV P (sr.take j)) := fun j hj => by
    have := (stateV_ok (k := k) h ok (sr := sr.take j) (by simp; omega) fun r h => hr r (List.mem_of_mem_take h)).2
    rwa [List.length_take, Nat.min_eq_left hj] at this
  have := forL_idx (c := ⟨m.call (k + 6), m.glob⟩) (g := .nm 3) (b := f_states_along_b1) (enc := rwD) (l := sr) (τ := fun j => [some (.v (pgD P)), some (.v (srD sr)), some (.ol ((alongV P (sr.take j)).map stD)), none]) fun j hj => by
    obtain ⟨e1, e2⟩ := led_ok (k := k) h ok (by omega) (key j (by omega)) (hr _ (List.getElem_mem hj))
    have ll : (alongV P (sr.take j)).length = j + 1 := by unfold alongV; simp; omega
    have e0 : item? ((alongV P (sr.take j)).map stD) (-1) = some (stD (stateV P (sr.take j))) := by
      rw [item_m1 (by simp; omega), List.length_map, ll, List.getElem?_map, Nat.add_sub_cancel]
      unfold alongV
      rw [List.getElem?_map, List.length_take, Nat.min_eq_left (by omega), List.getElem?_range (by omega)]
      simp [List.take_take]
    simp [turnM, f_states_along_b1, e0, e1, ll]
    rw [if_pos (by omega), alongV_take sr j hj]
    simp
  rw [call_run h.states_along rfl]
  have e0 : alongV P (sr.take 0) = [beginV P] := by simp [alongV, stateV, List.range_succ]
  simp only [e0, List.take_length] at this
  simp [f_states_along, begin_state_ok (k := k + 5) h.toHasSt0 ok]
  simp at this
  simp [this]
end
end Cl.Pl

set_option Elab.async false
set_option linter.all false
/-! PlK: states, by the law; results. -/
namespace Cl.Pl
open PySem

/- _law_led: program state row names worths found turn told number powers fraction one value n name begin -/
def f__law_led_b1 : List Sm := [.asg (.nm 11) (.call "_law_mul" [(.var 11), (.call "_law_pow" [(.var 12), (.var 13)])]),
    .kil [12, 13]]
def f__law_led_b2 : List Sm := [.asg (.nm 11) (.ite (.cmp .Eq (.var 8) (.con (.str ""))) (.var 10) (.call "_law_mul" [(.var 10), (.idx (.var 4) (.var 8))])),
    .kil [1, 3, 8, 10, 12, 13],
    .for_ (.tup [(.nm 12), (.nm 13)]) (.zip (.idx (.var 2) (.con (.int 1))) (.var 9)) f__law_led_b1,
    .asg (.nm 7) (.call "_law_add" [(.var 7), (.var 11)]),
    .kil [8, 9, 10, 11, 12, 13]]
def f__law_led_b3 : List Sm := [.asg (.nm 7) (.tup [(.con (.int 0)), (.con (.int 1))]),
    .kil [1, 3, 8, 9, 10, 11, 12, 13],
    .for_ (.tup [(.nm 8), (.nm 9), (.nm 10)]) (.var 6) f__law_led_b2,
    .app 5 (.var 7),
    .kil [6, 7, 8, 9, 10, 11, 12, 13]]
def f__law_led : Fn := ⟨3, 16, [.asg (.nm 3) (.comp [14, 15] (.var 14) (.tup [(.nm 14), (.nm 15)]) (.idx (.var 0) (.con (.int 0))) []),
    .par 4 false (.dzip (.var 3) (.var 1)) 5 true (.lst []),
    .kil [1, 3],
    .for_ (.nm 6) (.idx (.call "_law_kind" [(.var 0), (.idx (.var 2) (.con (.int 0)))]) (.con (.int 2))) f__law_led_b3,
    .ret (.bi .tuple [(.var 5)])]⟩
/- _law_state: program stretch state row name begin -/
def f__law_state_b1 : List Sm := [.asg (.nm 2) (.call "_law_led" [(.var 0), (.var 2), (.var 3)]),
    .kil [3]]
def f__law_state : Fn := ⟨2, 6, [.asg (.nm 2) (.bi .tuple [(.comp [4, 5] (.var 5) (.tup [(.nm 4), (.nm 5)]) (.idx (.var 0) (.con (.int 0))) [])]),
    .for_ (.nm 3) (.var 1) f__law_state_b1,
    .ret (.var 2)]⟩
structure HasLSt (m : Mo) : Prop extends HasLFr m where
  kind : m.defs "_law_kind" = some f__law_kind
  l_led : m.defs "_law_led" = some f__law_led
  state : m.defs "_law_state" = some f__law_state
theorem dzip_nums {names : List Str} {st : List Rat} (nd : names.Nodup) (hl : st.length = names.length) : dputs ((names.map D.str).zip (st.map qD)) [] [] = some ((names.zip st).map (fun p => .str p.1), (names.zip st).map fun p => qD p.2) := by
  have nz : ((names.zip st).map (·.1)).Nodup := by rw [List.map_fst_zip (by omega)]; exact nd
  have e := dputs_typed strKey qD (names.zip st) []
  rw [puts_nodup _ [] (by simpa using nz)] at e
  rw [List.zip_map]
  exact e
section
variable {m : Mo} {k : Nat} {P : Pg} {st vals : List Rat} {Dc Nc Ds Ns Dv Nv nf L : Nat} {ts : List Tm}
theorem law_kind_ok (h : HasLSt m) (ok : OkPg P) {r : Rw} (hr : OkRw P r) : m.call (k + 1) "_law_kind" [pgD P, .str r.1] = pure (kdD (kindOf P r.1)) := by
  obtain ⟨h1, h2, h3, h4⟩ := hr.kind ok
  have so : PyData.strOk r.1 = true := by rw [← h2]; exact ok.kn h1
  have kl := ok.kdl
  rw [call_run h.kind rfl]
  simp [f__law_kind]
  rw [liml_ok (by simp; omega), compL_filter (f := kdD) (p := fun K : Kd => K.name = r.1) (fun K hK => ⟨_, rfl, by simp [str_deq (ok.kn hK) so], fun _ => by simp⟩)]
  have e : (P.kinds.filter fun K => K.name = r.1)[0]? = some (kindOf P r.1) := by
    rw [← List.head?_eq_getElem?, List.head?_filter, h3]
  simp [e]
theorem law_b1 (h : HasLSt m) {c : Cfg} (hc : c = ⟨m.call (k + 4), m.glob⟩) {rd numbers x0 x4 x5 x6 : Option Sl} {pw : List Nat} {p : Rat} {E N : Nat} {r : Rw} (hD : 0 < E ∧ 1 ≤ N) (h1 : (E * (Dv ^ 2) ^ r.2.length).log2 < 1900) (h2 : (N * (Nv ^ 2) ^ r.2.length * (E * (Dv ^ 2) ^ r.2.length)).log2 < 1900)
    (hb : Bd E N p) (hv : ∀ x ∈ r.2, Bd Dv Nv x) (hDv : 0 < Dv ∧ 1 ≤ Nv) (hpl : pw.length = r.2.length) (hpw : ∀ x ∈ pw, x ≤ 2) (found : D) :
    forL c (.tup [.nm 12, .nm 13]) f__law_led_b1 ((r.2.zip pw).map fun x => .tup [qD x.1, .int x.2])
      [x0, none, some (.v (rwD r)), none, x4, x5, x6, some (.v found), none, some (.v (pwD pw)), none, some (.v (qD p)), none, none, none, none] =
      pure (.nx [x0, none, some (.v (rwD r)), none, x4, x5, x6, some (.v found), none, some (.v (pwD pw)), none, some (.v (qD ((r.2.zip pw).foldl (fun p (vn : Rat × Nat) => p * vn.1 ^ vn.2) p))), none, none, none, none]) := by
  have len : (r.2.zip pw).length = r.2.length := by rw [List.length_zip, hpl, Nat.min_self]
  have up : ∀ j, j ≤ r.2.length → ∀ q, Bd (E * (Dv ^ 2) ^ j) (N * (Nv ^ 2) ^ j) q → Fit q := fun j hj q hq => by
    refine (hq.up (D' := E * (Dv ^ 2) ^ r.2.length) (N' := N * (Nv ^ 2) ^ r.2.length) ?_ ?_ ?_).fit h1 h2
    · exact Nat.mul_dvd_mul_left _ (Nat.pow_dvd_pow _ hj)
    · exact Nat.mul_pos hD.1 (Nat.pow_pos (Nat.pow_pos hDv.1))
    · exact Nat.mul_le_mul_left _ (Nat.pow_le_pow_right (Nat.pow_pos hDv.2) hj)
  have := forL_foldI (c := c) (g := .tup [.nm 12, .nm 13]) (b := f__law_led_b1) (enc := fun x : Rat × Nat => D.tup [qD x.1, .int x.2]) (l := r.2.zip pw) (i := 0) (s := p)
    (τ := fun p => [x0, none, some (.v (rwD r)), none, x4, x5, x6, some (.v found), none, some (.v (pwD pw)), none, some (.v (qD p)), none, none, none, none]) (step := fun p (vn : Rat × Nat) => p * vn.1 ^ vn.2)
    (P := fun j p => Bd (E * (Dv ^ 2) ^ j) (N * (Nv ^ 2) ^ j) p) (by simpa using hb) fun j hj s hs => by
    have hx : (r.2.zip pw)[j].1 ∈ r.2 ∧ (r.2.zip pw)[j].2 ∈ pw := List.of_mem_zip (List.getElem_mem hj)
    have hp := hpw _ hx.2
    have hvb := hv _ hx.1
    rw [len] at hj
    have fs := up (0 + j) (by omega) s hs
    have pb : ∀ i, i ≤ 2 → Bd (Dv ^ 2) (Nv ^ 2) ((r.2.zip pw)[j].1 ^ i) := fun i hi => hvb.powLe hi hDv.2
    have fp : ∀ i, i ≤ (r.2.zip pw)[j].2 → Fit ((r.2.zip pw)[j].1 ^ i) := fun i hi => up 1 (by omega) _ ((pb i (by omega)).up (by rw [Nat.pow_one]; exact Nat.dvd_mul_left ..) (Nat.mul_pos hD.1 (by rw [Nat.pow_one]; exact Nat.pow_pos hDv.1)) (by rw [Nat.pow_one]; exact Nat.le_mul_of_pos_left _ (by omega)))
    constructor
    · subst hc
      simp only [turnM, f__law_led_b1]
      have e1 := lpow_ok (k := k) h.toHasLFr (q := (r.2.zip pw)[j].1) (n := (r.2.zip pw)[j].2) (by omega) fp
      have e2 := lmul_ok (k := k + 1) h.toHasLFr fs (fp _ (Nat.le_refl _))
      generalize (r.2.zip pw)[j] = vn at *
      simp [e1, e2]
    · have := hs.mul (pb _ hp)
      rwa [Nat.mul_assoc, Nat.mul_assoc, ← Nat.pow_succ, ← Nat.pow_succ] at this
  exact this.1
theorem law_b2 (h : HasLSt m) {c : Cfg} (hc : c = ⟨m.call (k + 4), m.glob⟩) (z : Sized Dc Nc Ds Ns Dv Nv nf L) {names : List Str} (hn : okNames names) (hl' : st.length = names.length) {r : Rw} (hvl : r.2.length = nf) (ht : ∀ t ∈ ts, TmOk names nf Dc Nc t) (hL : ts.length ≤ L)
    (hs : ∀ x ∈ st, Bd Ds Ns x) (hv : ∀ x ∈ r.2, Bd Dv Nv x) {x0 x5 : Option Sl} :
    forL c (.tup [.nm 8, .nm 9, .nm 10]) f__law_led_b2 (ts.map tmD) [x0, none, some (.v (rwD r)), none, some (.v (numsD names st)), x5, some (.v (sumD ts)), some (.v (qD 0)), none, none, none, none, none, none, none, none] =
      pure (.nx [x0, none, some (.v (rwD r)), none, some (.v (numsD names st)), x5, some (.v (sumD ts)), some (.v (qD (valueAt names st r.2 ts))), none, none, none, none, none, none, none, none]) := by
    have DN := Nat.mul_pos (Nat.mul_pos z.c.1 z.s.1) (Nat.pow_pos (n := nf) (Nat.pow_pos (n := 2) z.v.1))
    have := forL_foldI (c := c) (g := .tup [.nm 8, .nm 9, .nm 10]) (b := f__law_led_b2) (enc := tmD) (l := ts) (i := 0) (s := (0 : Rat))
      (τ := fun f => [x0, none, some (.v (rwD r)), none, some (.v (numsD names st)), x5, some (.v (sumD ts)), some (.v (qD f)), none, none, none, none, none, none, none, none]) (step := fun f t => f + termV names st r.2 t)
      (P := fun j f => Bd (Dc * Ds * (Dv ^ 2) ^ nf) (j * (Nc * Ns * (Nv ^ 2) ^ nf)) f) (Bd.zero DN) fun j hj s hs' => by
      have htj := ht _ (List.getElem_mem hj)
      have tb := term_bd z hn.1 hl' hvl htj hs hv
      have nb := hs'.add tb
      rw [← Nat.succ_mul] at nb
      have ts0 := term_start z hn.1 hl' htj hs
      have LN : (j + 1) * (Nc * Ns * (Nv ^ 2) ^ nf) * (Dc * Ds * (Dv ^ 2) ^ nf) ≤ L * (Nc * Ns * (Nv ^ 2) ^ nf) * (Dc * Ds * (Dv ^ 2) ^ nf) := Nat.mul_le_mul_right _ (Nat.mul_le_mul_right _ (by omega))
      have L1 : (Nc * Ns * (Nv ^ 2) ^ nf) * (Dc * Ds * (Dv ^ 2) ^ nf) ≤ (j + 1) * (Nc * Ns * (Nv ^ 2) ^ nf) * (Dc * Ds * (Dv ^ 2) ^ nf) := Nat.mul_le_mul_right _ (Nat.le_mul_of_pos_left _ (by omega))
      have L0 : (0 + j) * (Nc * Ns * (Nv ^ 2) ^ nf) * (Dc * Ds * (Dv ^ 2) ^ nf) ≤ L * (Nc * Ns * (Nv ^ 2) ^ nf) * (Dc * Ds * (Dv ^ 2) ^ nf) := Nat.mul_le_mul_right _ (Nat.mul_le_mul_right _ (by omega))
      have lN : ((Nc * Ns * (Nv ^ 2) ^ nf) * (Dc * Ds * (Dv ^ 2) ^ nf)).log2 < 1900 := Nat.lt_of_le_of_lt (log2_mono (Nat.le_trans L1 LN)) z.ln
      have fs := hs'.fit z.ld (Nat.lt_of_le_of_lt (log2_mono L0) z.ln)
      have ft := tb.fit z.ld lN
      have big : ∀ q, Bd (Dc * Ds) (Nc * Ns) q → Fit q := fun q hq => (hq.up (Nat.dvd_mul_right ..) DN (Nat.le_mul_of_pos_right _ (Nat.pow_pos (Nat.pow_pos z.v.2)))).fit z.ld lN
      refine ⟨?_, nb⟩
      have b1 := law_b1 (k := k) h rfl (x0 := x0) (x4 := some (.v (numsD names st))) (x5 := x5) (x6 := some (.v (sumD ts))) (rd := none) (numbers := none) (pw := ts[j].pw) (r := r) ⟨Nat.mul_pos z.c.1 z.s.1, Nat.mul_le_mul z.c.2 z.s.2⟩ (by rw [hvl]; exact z.ld) (by rw [hvl]; exact lN) ts0 hv z.v (by rw [htj.pl, hvl]) htj.pw (qD s)
      have ea := ladd_ok (k := k + 1) h.toHasLFr fs ft
      have so : PyData.strOk ts[j].n = true := by
        rcases htj.n with z | z
        · rw [z]; decide +kernel
        · exact hn.2.1 _ z
      simp only [termV] at ea ft ⊢
      generalize ts[j] = t at *
      subst hc
      simp [turnM, f__law_led_b2]
      rw [zipD_map, str_deq so (by decide +kernel)]
      by_cases he : t.n = ""
      · simp only [he, if_true] at b1 ea ⊢
        simp [b1, ea]
      · have e1 := lmul_ok (k := k + 1) h.toHasLFr (big _ (htj.bd.up (Nat.dvd_mul_right ..) (Nat.mul_pos z.c.1 z.s.1) (Nat.le_mul_of_pos_right _ z.s.2))) (big _ ((hs _ (worth_of hn.1 hl' (htj.n.resolve_left he)).2).up (Nat.dvd_mul_left ..) (Nat.mul_pos z.c.1 z.s.1) (Nat.le_mul_of_pos_left _ z.c.2)))
        simp only [he, if_false] at b1 ea ⊢
        simp [idx_nums hn.1 hl' (htj.n.resolve_left he), e1, b1, ea]
    exact this.1
theorem law_led_ok (h : HasLSt m) (ok : OkPg P) {j : Nat} (hj : j ≤ 8) (hs : StOk P j st) {r : Rw} (hr : OkRw P r) : m.call (k + 5) "_law_led" [pgD P, stD st, rwD r] = pure (stD (ledV P st r)) := by
  obtain ⟨h1, h2, h3, h4⟩ := hr.kind ok
  have kd := ok.kd _ h1
  have nl := ok.nml
  have sl := hs.len
  have sl' : st.length = (P.nums.map (·.1)).length := by rw [List.length_map]; exact sl
  have tl := kd.turns
  rw [List.length_map] at tl
  rw [call_run h.l_led rfl]
  simp [f__law_led]
  rw [liml_ok (by simp; omega), compL_map (f := fun x => .str x.1) (by intro x _; simp)]
  obtain ⟨names, hnm⟩ : ∃ names, names = P.nums.map (·.1) := ⟨_, rfl⟩
  have e0 : P.nums.map (fun x => D.str x.1) = names.map D.str := by rw [hnm, List.map_map]; rfl
  have okn := ok.okn
  have kdS := kd.sums
  rw [← hnm] at okn sl' kdS
  simp [e0, law_kind_ok (k := k + 3) h ok hr]
  rw [liml_ok (by simp; omega), dzip_nums okn.1 sl']
  simp
  have e1 : D.dct ((names.zip st).map fun p => D.str p.1) ((names.zip st).map fun p => qD p.2) = numsD names st := rfl
  rw [e1]
  have := forL_idx (c := ⟨m.call (k + 4), m.glob⟩) (g := .nm 6) (b := f__law_led_b3) (enc := sumD) (l := (kindOf P r.1).turns)
    (τ := fun j => [some (.v (pgD P)), none, some (.v (rwD r)), none, some (.v (numsD names st)), some (.ol (((kindOf P r.1).turns.map fun ts => qD (valueAt names st r.2 ts)).take j)), none, none, none, none, none, none, none, none, none, none]) fun i hi => by
    have hts := kdS _ (List.getElem_mem hi)
    have e2 := law_b2 (k := k) h rfl (sized hj kd.fl) okn sl' h4 hts.tm hts.len hs.bd hr.bd (x0 := some (.v (pgD P))) (x5 := some (.ol (((kindOf P r.1).turns.map fun ts => qD (valueAt names st r.2 ts)).take i)))
    have il : i < 1000000 := by omega
    rw [List.take_succ_eq_append_getElem (by simpa using hi), List.getElem_map]
    have hlen : ((((kindOf P r.1).turns.map fun ts => qD (valueAt names st r.2 ts)).take i)).length < 1000000 := by simp; omega
    generalize (((kindOf P r.1).turns.map fun ts => qD (valueAt names st r.2 ts)).take i) = acc at *
    generalize (kindOf P r.1).turns[i] = ts at *
    simp [turnM, f__law_led_b3, e2, hlen]
  rw [List.take_zero, ← List.length_map (as := (kindOf P r.1).turns) (f := fun ts => qD (valueAt names st r.2 ts)), List.take_length] at this
  rw [this]
  simp [stD, ledV, Function.comp_def, hnm]
theorem law_state_ok (h : HasLSt m) (ok : OkPg P) {sr : List Rw} (hl : sr.length ≤ 8) (hr : ∀ r ∈ sr, OkRw P r) : m.call (k + 6) "_law_state" [pgD P, srD sr] = pure (stD (stateV P sr)) := by
  have nl := ok.nml
  rw [call_run h.state rfl]
  simp [f__law_state]
  rw [liml_ok (by simp; omega), compL_map (f := fun x => qD x.2) (by intro x _; simp)]
  have := forL_foldI (c := ⟨m.call (k + 5), m.glob⟩) (g := .nm 3) (b := f__law_state_b1) (enc := rwD) (l := sr) (i := 0) (s := beginV P)
    (τ := fun st => [some (.v (pgD P)), some (.v (srD sr)), some (.v (stD st)), none, none, none]) (step := ledV P) (P := fun j st => StOk P j st) (begin_ok ok) fun j hj s hs => by
    rw [Nat.zero_add] at hs ⊢
    have e1 := law_led_ok (k := k) h ok (by omega) hs (hr _ (List.getElem_mem hj))
    refine ⟨?_, led_bd ok (by omega) hs (hr _ (List.getElem_mem hj))⟩
    simp [turnM, f__law_state_b1, e1]
  have e0 : D.tup (P.nums.map fun x => qD x.2) = stD (beginV P) := by simp [stD, beginV, Function.comp_def]
  simp [e0, this.1, stateV]
end
end Cl.Pl

set_option Elab.async false
set_option linter.all false
/-! PlL: results. -/
namespace Cl.Pl
open PySem

/- sums_at: program state result one -/
def f_sums_at : Fn := ⟨3, 4, [.ret (.bi .tuple [(.comp [3] (.call "value_at" [(.var 0), (.var 3), (.var 1), (.tup [])]) (.nm 3) (.slc (.var 2) (some (.con (.int 1))) none) [])])]⟩
/- value_of: program state result told -/
def f_value_of : Fn := ⟨3, 4, [.asg (.nm 3) (.call "sums_at" [(.var 0), (.var 1), (.var 2)]),
    .ite (.cmp .Eq (.idx (.var 2) (.con (.int 0))) (.con (.str "plain"))) [.ret (.idx (.var 3) (.con (.int 0)))] [],
    .ret (.ite (.cmp .Eq (.idx (.var 3) (.con (.int 1))) (.glob "ZERO")) (.con .non) (.call "divided" [(.idx (.var 3) (.con (.int 0))), (.idx (.var 3) (.con (.int 1)))]))]⟩
/- result_of: program stretch result -/
def f_result_of : Fn := ⟨3, 3, [.ret (.call "value_of" [(.var 0), (.call "state_of" [(.var 0), (.var 1)]), (.var 2)])]⟩
/- results_along: program stretch result state -/
def f_results_along : Fn := ⟨3, 4, [.ret (.bi .tuple [(.comp [3] (.call "value_of" [(.var 0), (.var 3), (.var 2)]) (.nm 3) (.call "states_along" [(.var 0), (.var 1)]) [])])]⟩
/- are_same: program result one other mine its -/
def f_are_same : Fn := ⟨4, 6, [.par 4 false (.call "sums_at" [(.var 0), (.var 2), (.var 1)]) 5 false (.call "sums_at" [(.var 0), (.var 3), (.var 1)]),
    .ite (.cmp .Eq (.idx (.var 1) (.con (.int 0))) (.con (.str "plain"))) [.ret (.cmp .Eq (.var 4) (.var 5))] [],
    .ret (.cmp .Eq (.call "times" [(.idx (.var 4) (.con (.int 0))), (.idx (.var 5) (.con (.int 1)))]) (.call "times" [(.idx (.var 5) (.con (.int 0))), (.idx (.var 4) (.con (.int 1)))]))]⟩
/- _law_told: program state turn worths found number powers fraction name begin one -/
def f__law_told_b1 : List Sm := [.asg (.nm 4) (.call "_law_add" [(.var 4), (.ite (.cmp .Eq (.var 5) (.con (.str ""))) (.var 7) (.call "_law_mul" [(.var 7), (.idx (.var 3) (.var 5))]))]),
    .kil [5, 6, 7]]
def f__law_told : Fn := ⟨3, 11, [.par 3 false (.bi .dict [(.comp [8, 9, 10] (.tup [(.var 8), (.var 10)]) (.tup [(.tup [(.nm 8), (.nm 9)]), (.nm 10)]) (.zip (.idx (.var 0) (.con (.int 0))) (.var 1)) [])]) 4 false (.tup [(.con (.int 0)), (.con (.int 1))]),
    .kil [0, 1],
    .for_ (.tup [(.nm 5), (.nm 6), (.nm 7)]) (.var 2) f__law_told_b1,
    .ret (.var 4)]⟩
/- _law_value: program state result told turn -/
def f__law_value : Fn := ⟨3, 5, [.asg (.nm 3) (.comp [4] (.call "_law_told" [(.var 0), (.var 1), (.var 4)]) (.nm 4) (.slc (.var 2) (some (.con (.int 1))) none) []),
    .ite (.cmp .Eq (.idx (.var 2) (.con (.int 0))) (.con (.str "plain"))) [.ret (.idx (.var 3) (.con (.int 0)))] [],
    .ret (.ite (.cmp .Eq (.idx (.var 3) (.con (.int 1))) (.tup [(.con (.int 0)), (.con (.int 1))])) (.con .non) (.call "_law_div" [(.idx (.var 3) (.con (.int 0))), (.idx (.var 3) (.con (.int 1)))]))]⟩
inductive Rs where
  | plain (s : List Tm)
  | quot (a b : List Tm)
def Rs.sums : Rs → List (List Tm)
  | .plain s => [s]
  | .quot a b => [a, b]
def Rs.isP : Rs → Bool
  | .plain _ => true
  | .quot _ _ => false
def rsD : Rs → D
  | .plain s => .tup [.str "plain", sumD s]
  | .quot a b => .tup [.str "quotient", sumD a, sumD b]
@[simp] theorem deref_rs {r : Rs} : deref (rsD r) = pure (rsD r) := by cases r <;> rfl
@[simp] theorem slc_rs {r : Rs} : slcD (rsD r) (some 1) none = some (.tup (r.sums.map sumD)) := by cases r <;> rfl
theorem idx_rs {r : Rs} : idxD (rsD r) (.int 0) = some (.str (if r.isP then "plain" else "quotient")) := by cases r <;> rfl
theorem plain_eq {r : Rs} : deq (.str (if r.isP then "plain" else "quotient")) (.str "plain") = some r.isP := by
  cases r with
  | plain => show deq (.str "plain") (.str "plain") = some true; rw [str_deq (by decide +kernel) (by decide +kernel)]; simp
  | quot => show deq (.str "quotient") (.str "plain") = some false; rw [str_deq (by decide +kernel) (by decide +kernel)]; exact congrArg some (by decide +kernel)
/-- a rational or None -/
def oD : Option Rat → D
  | none => .non
  | some q => qD q
def toldV (P : Pg) (st : List Rat) (r : Rs) : List Rat := r.sums.map fun ts => valueAt (P.nums.map (·.1)) st [] ts
def valueV (P : Pg) (st : List Rat) (r : Rs) : Option Rat := match toldV P st r with
  | [a, b] => if b = 0 then none else some (a / b)
  | a :: _ => some a
  | [] => none
structure OkRs (P : Pg) (r : Rs) : Prop where
  sums : ∀ ts ∈ r.sums, OkSum (P.nums.map (·.1)) 0 3 ts
structure HasRs (m : Mo) : Prop extends HasSt m where
  sums_at : m.defs "sums_at" = some f_sums_at
  value_of : m.defs "value_of" = some f_value_of
  result_of : m.defs "result_of" = some f_result_of
  results_along : m.defs "results_along" = some f_results_along
  are_same : m.defs "are_same" = some f_are_same
structure HasLRs (m : Mo) : Prop extends HasLSt m, HasLFrD m where
  told : m.defs "_law_told" = some f__law_told
  value : m.defs "_law_value" = some f__law_value
/-- what a result tells is small -/
def BdR (q : Rat) : Prop := Bd (2 * (6 * 2592 ^ 4)) (3 * (2 * (3 * 486 ^ 4))) q
theorem BdR.fit {q : Rat} (h : BdR q) : Fit q := Bd.fit h (by decide +kernel) (by decide +kernel)
section
variable {m : Mo} {k : Nat} {P : Pg} {st st' vals : List Rat} {r : Rs} {j : Nat}
theorem told_v (h : HasSt m) (ok : OkPg P) (hr : OkRs P r) (hj : j ≤ 4) (hs : StOk P j st) : ∀ ts ∈ r.sums, m.call (k + 5) "value_at" [pgD P, sumD ts, stD st, .tup []] = pure (qD (valueAt (P.nums.map (·.1)) st [] ts)) ∧ BdR (valueAt (P.nums.map (·.1)) st [] ts) := fun ts hts => by
  have hts := hr.sums ts hts
  have nl := ok.nml
  obtain ⟨e1, e2⟩ := value_at_ok (k := k) h (sized (nf := 0) (by omega) (by decide)) ok.okn hs.len (by have := hs.len; omega) (vals := []) rfl hts.tm hts.len hs.bd (fun x hx => by cases hx)
  refine ⟨e1, e2.up ?_ (by decide +kernel) ?_⟩
  · rw [Nat.pow_zero, Nat.mul_one]
    exact Nat.mul_dvd_mul_left _ (Nat.mul_dvd_mul_left _ (Nat.pow_dvd_pow _ hj))
  · rw [Nat.pow_zero, Nat.mul_one]
    exact Nat.mul_le_mul_left _ (Nat.mul_le_mul_left _ (Nat.mul_le_mul_left _ (Nat.pow_le_pow_right (by decide) hj)))
theorem toldV_bd (h : HasSt m) (ok : OkPg P) (hr : OkRs P r) (hj : j ≤ 4) (hs : StOk P j st) : ∀ q ∈ toldV P st r, BdR q := fun q hq => by
  obtain ⟨ts, hts, rfl⟩ := List.mem_map.mp hq
  exact (told_v (k := 0) h ok hr hj hs ts hts).2
theorem sums_le : r.sums.length ≤ 2 := by cases r <;> simp [Rs.sums]
theorem sums_at_ok (h : HasRs m) (ok : OkPg P) (hr : OkRs P r) (hj : j ≤ 4) (hs : StOk P j st) : m.call (k + 6) "sums_at" [pgD P, stD st, rsD r] = pure (stD (toldV P st r)) := by
  have sl := sums_le (r := r)
  rw [call_run h.sums_at rfl]
  simp [f_sums_at]
  rw [liml_ok (by simp; omega), compL_map (f := fun ts => qD (valueAt (P.nums.map (·.1)) st [] ts)) (by intro ts hts; simp [(told_v (k := k) h.toHasSt ok hr hj hs ts hts).1])]
  simp [stD, toldV, Function.comp_def]
@[simp] theorem idx_st0 {a : Rat} {l : List Rat} : idxD (stD (a :: l)) (.int 0) = some (qD a) := rfl
@[simp] theorem idx_st1 {a b : Rat} {l : List Rat} : idxD (stD (a :: b :: l)) (.int 1) = some (qD b) := rfl
theorem value_of_ok (h : HasRs m) (ok : OkPg P) (hr : OkRs P r) (hj : j ≤ 4) (hs : StOk P j st) : m.call (k + 7) "value_of" [pgD P, stD st, rsD r] = pure (oD (valueV P st r)) := by
  have bd := toldV_bd h.toHasSt ok hr hj hs
  rw [call_run h.value_of rfl]
  simp [f_value_of, sums_at_ok (k := k) h ok hr hj hs, idx_rs, plain_eq]
  cases r with
  | plain s => simp [Rs.isP, toldV, Rs.sums, valueV, oD]
  | quot a b =>
    simp only [toldV, Rs.sums, List.map_cons, List.map_nil] at bd ⊢
    have fa := (bd _ (List.mem_cons_self ..)).fit
    have fb := (bd _ (List.mem_cons_of_mem _ (List.mem_cons_self ..))).fit
    simp [Rs.isP, h.ZERO, valueV, toldV, Rs.sums]
    by_cases e : valueAt (P.nums.map (·.1)) st [] b = 0
    · simp [e, oD]
    · simp [e, oD, divided_ok (k := k + 3) h.toHasFr fa fb e]
theorem result_of_ok (h : HasRs m) (ok : OkPg P) (hr : OkRs P r) {sr : List Rw} (hl : sr.length ≤ 4) (hsr : ∀ r ∈ sr, OkRw P r) : m.call (k + 9) "result_of" [pgD P, srD sr, rsD r] = pure (oD (valueV P (stateV P sr) r)) := by
  obtain ⟨e1, e2⟩ := stateV_ok (k := k) h.toHasSt ok hl hsr
  rw [call_run h.result_of rfl]
  simp [f_result_of, e1, value_of_ok (k := k + 1) h ok hr (by omega) e2]
theorem results_along_ok (h : HasRs m) (ok : OkPg P) (hr : OkRs P r) {sr : List Rw} (hl : sr.length ≤ 4) (hsr : ∀ r ∈ sr, OkRw P r) : m.call (k + 8) "results_along" [pgD P, srD sr, rsD r] = pure (.tup ((alongV P sr).map fun st => oD (valueV P st r))) := by
  rw [call_run h.results_along rfl]
  have ll : (alongV P sr).length = sr.length + 1 := by unfold alongV; simp
  simp [f_results_along, states_along_ok (k := k) h.toHasSt ok hl hsr]
  rw [liml_ok (by simp; omega), compL_map (f := fun st => oD (valueV P st r))]
  · simp
  · intro st hst
    unfold alongV at hst
    obtain ⟨i, hi, rfl⟩ := List.mem_map.mp hst
    have hl' : (sr.take i).length ≤ 4 := by simp; omega
    obtain ⟨_, e2⟩ := stateV_ok (k := k) h.toHasSt ok (sr := sr.take i) hl' fun r h => hsr r (List.mem_of_mem_take h)
    simp [value_of_ok (k := k) h ok hr hl' e2]
theorem qs_py : ∀ l : List Rat, D.pys (l.map qD) = some (l.map fun q => PyData.tuple [.int q.num, .int q.den])
  | [] => rfl
  | q :: l => by rw [List.map_cons, D.pys, qs_py l]; rfl
theorem qs_lay : ∀ l : List Rat, PyData.canLayAll0 (l.map fun q => PyData.tuple [.int q.num, .int q.den]) = true ∧ PyData.depthAll (l.map fun q => PyData.tuple [.int q.num, .int q.den]) ≤ 1
  | [] => ⟨rfl, Nat.zero_le _⟩
  | q :: l => by
    obtain ⟨h1, h2⟩ := qs_lay l
    rw [List.map_cons]
    refine ⟨by simp [PyData.canLayAll0, PyData.canLay0, h1], ?_⟩
    rw [PyData.depthAll]
    simp only [PyData.depth, PyData.depthAll]
    omega
theorem qs_eqv : ∀ l l' : List Rat, PyData.eqvAll (l.map fun q => PyData.tuple [.int q.num, .int q.den]) (l'.map fun q => PyData.tuple [.int q.num, .int q.den]) = decide (l = l')
  | [], [] => rfl
  | [], _ :: _ => by simp [PyData.eqvAll]
  | _ :: _, [] => by simp [PyData.eqvAll]
  | p :: l, q :: l' => by
    rw [List.map_cons, List.map_cons, PyData.eqvAll, qs_eqv l l']
    simp only [PyData.eqv, PyData.eqvAll, Bool.and_true]
    rw [Bool.eq_iff_iff]
    simp only [Bool.and_eq_true, beq_iff_eq, decide_eq_true_eq, List.cons.injEq]
    constructor
    · rintro ⟨⟨h1, h2⟩, h3⟩; exact ⟨Rat.ext h1 (by exact_mod_cast h2), h3⟩
    · rintro ⟨rfl, rfl⟩; exact ⟨⟨rfl, rfl⟩, rfl⟩
@[simp] theorem st_deq (l l' : List Rat) : deq (stD l) (stD l') = some (decide (l = l')) := by
  unfold deq stD
  simp only [D.py, qs_py, Option.map]
  have h1 := (qs_lay l).2
  have h2 := (qs_lay l').2
  rw [if_pos ⟨by unfold SeqAt.shaped; simp [PyData.canLay0, PyData.depth, (qs_lay l).1]; omega, by unfold SeqAt.shaped; simp [PyData.canLay0, PyData.depth, (qs_lay l').1]; omega⟩]
  simp only [PyData.eqv, qs_eqv]
theorem lst_deq (l l' : List Rat) : deq (.lst (l.map qD)) (.lst (l'.map qD)) = some (decide (l = l')) := by
  unfold deq
  simp only [D.py, qs_py, Option.map]
  have h1 := (qs_lay l).2
  have h2 := (qs_lay l').2
  rw [if_pos ⟨by unfold SeqAt.shaped; simp [PyData.canLay0, PyData.depth, (qs_lay l).1]; omega, by unfold SeqAt.shaped; simp [PyData.canLay0, PyData.depth, (qs_lay l').1]; omega⟩]
  simp only [PyData.eqv, qs_eqv]
/-- whether a result is the same of two states -/
def sameV (P : Pg) (r : Rs) (st st' : List Rat) : Bool := match toldV P st r, toldV P st' r with
  | [a, b], [a', b'] => decide (a * b' = a' * b)
  | l, l' => decide (l = l')
theorem are_same_ok (h : HasRs m) (ok : OkPg P) (hr : OkRs P r) {j' : Nat} (hj : j ≤ 4) (hs : StOk P j st) (hj' : j' ≤ 4) (hs' : StOk P j' st') : m.call (k + 7) "are_same" [pgD P, rsD r, stD st, stD st'] = pure (.bl (sameV P r st st')) := by
  have bd := toldV_bd h.toHasSt ok hr hj hs
  have bd' := toldV_bd h.toHasSt ok hr hj' hs'
  rw [call_run h.are_same rfl]
  simp [f_are_same, sums_at_ok (k := k) h ok hr hj hs, sums_at_ok (k := k) h ok hr hj' hs', idx_rs, plain_eq]
  cases r with
  | plain s => simp [Rs.isP, sameV, toldV, Rs.sums]
  | quot a b =>
    simp only [toldV, Rs.sums, List.map_cons, List.map_nil] at bd bd' ⊢
    have fa := (bd _ (List.mem_cons_self ..)).fit
    have fb := (bd _ (List.mem_cons_of_mem _ (List.mem_cons_self ..))).fit
    have fa' := (bd' _ (List.mem_cons_self ..)).fit
    have fb' := (bd' _ (List.mem_cons_of_mem _ (List.mem_cons_self ..))).fit
    simp [Rs.isP, sameV, toldV, Rs.sums, times_ok (k := k + 3) h.toHasFr fa fb', times_ok (k := k + 3) h.toHasFr fa' fb]
end
end Cl.Pl

set_option Elab.async false
set_option linter.all false
/-! PlM: what can be shown and compared. -/
namespace Cl.Pl
open PySem

/-- a datum of depth at most k whose text has at most n signs -/
def Shw (k n : Nat) (d : D) : Prop := ∃ p, d.py = some p ∧ p.showable = true ∧ p.canLay0 = true ∧ p.depth ≤ k ∧ p.shown.length ≤ n ∧ PyData.strOk p.shown = true
theorem ok_of (s : String) : PyData.strOk (Str.ofString s) = true := by
  unfold PyData.strOk Str.ofString
  rw [cpsOfBytes_string]
  simp only [List.all_toArray', List.all_eq_true, List.mem_map, forall_exists_index, and_imp, forall_apply_eq_imp_iff₂, decide_eq_true_eq]
  intro c _
  have h := c.valid
  simp only [UInt32.isValidChar, Nat.isValidChar] at h
  have ht : c.toNat = c.val.toNat := rfl
  omega
theorem ok_app {a b : Str} (ha : PyData.strOk a = true) (hb : PyData.strOk b = true) : PyData.strOk (a ++ b) = true := by
  show ((a.cps ++ b.cps).all fun c => decide (c < 0x110000)) = true
  rw [Array.all_append]
  exact Bool.and_eq_true_iff.mpr ⟨ha, hb⟩
theorem ok_from : ∀ (ts : List Str) (k : Nat) (acc : Str), PyData.strOk acc = true → (∀ t ∈ ts, PyData.strOk t = true) → PyData.strOk (textFrom k acc ts) = true
  | [], k, acc, h, _ => h
  | t :: r, k, acc, h, ht => by
    show PyData.strOk (textFrom (k + 1) (acc ++ (if k > 0 then ", " else "" : String) ++ t) r) = true
    exact ok_from r (k + 1) _ (ok_app (ok_app h (ok_of _)) (ht t (List.mem_cons_self ..))) fun t h => ht t (List.mem_cons_of_mem _ h)
theorem ok_join : ∀ (ts : List Str), (∀ t ∈ ts, PyData.strOk t = true) → PyData.strOk (Str.join ", " ts) = true
  | [], _ => ok_of ""
  | [x], h => h x (List.mem_cons_self ..)
  | x :: y :: r, h => by
    show PyData.strOk (x ++ ", " ++ Str.join ", " (y :: r)) = true
    exact ok_app (ok_app (h x (List.mem_cons_self ..)) (ok_of _)) (ok_join (y :: r) fun t ht => h t (List.mem_cons_of_mem _ ht))
theorem Shw.up {k n k' n' : Nat} {d : D} (h : Shw k n d) (hk : k ≤ k') (hn : n ≤ n') : Shw k' n' d := by
  obtain ⟨p, h1, h2, h3, h4, h5, h6⟩ := h
  exact ⟨p, h1, h2, h3, by omega, by omega, h6⟩
theorem shw_int {i : Int} (h : i.natAbs.log2 < 1900) : Shw 0 1901 (.int i) := by
  refine ⟨.int i, rfl, by simp [PyData.showable]; omega, rfl, by simp [PyData.depth], ?_, ok_of _⟩
  show (Str.ofString (toString i)).length ≤ _
  rw [ofString_length]
  exact int_text_length_le (by decide) h
theorem shw_bl (b : Bool) : Shw 0 5 (.bl b) := ⟨.bool b, rfl, rfl, rfl, by simp [PyData.depth], by cases b <;> decide +kernel, by cases b <;> decide +kernel⟩
theorem shw_non : Shw 0 4 .non := ⟨.none, rfl, rfl, rfl, by simp [PyData.depth], by decide +kernel, by decide +kernel⟩
theorem shw_str {x : Str} {n : Nat} (h : PyData.strOk x = true) (hn : (reprText x).length ≤ n) (ho : PyData.strOk (reprText x) = true) : Shw 0 n (.str x) := ⟨.str x, rfl, rfl, h, by simp [PyData.depth], hn, ho⟩
theorem shws {k n : Nat} : ∀ {ds : List D}, (∀ d ∈ ds, Shw k n d) → ∃ ps, D.pys ds = some ps ∧ PyData.showableAll ps = true ∧ PyData.canLayAll0 ps = true ∧ PyData.depthAll ps ≤ k ∧ ps.length = ds.length ∧ piled (PyData.shownAll ps) ≤ ds.length * (n + 2) ∧ (PyData.shownAll ps).length = ds.length ∧ ∀ t ∈ PyData.shownAll ps, PyData.strOk t = true
  | [], _ => ⟨[], rfl, rfl, rfl, Nat.zero_le _, rfl, Nat.zero_le _, rfl, fun t h => by cases h⟩
  | d :: ds, h => by
    obtain ⟨p, a1, a2, a3, a4, a5, a6⟩ := h d (List.mem_cons_self ..)
    obtain ⟨ps, h1, h2, h3, h4, h5, h6, h7, h8⟩ := shws fun d hd => h d (List.mem_cons_of_mem _ hd)
    refine ⟨p :: ps, by rw [D.pys, a1, h1], by simp [PyData.showableAll, a2, h2], by simp [PyData.canLayAll0, a3, h3], by rw [PyData.depthAll]; omega, by simp [h5], ?_, by simp [PyData.shownAll, h7], ?_⟩
    · rw [PyData.shownAll, piled_cons, List.length_cons, Nat.add_mul]
      omega
    · intro t ht
      rw [PyData.shownAll] at ht
      rcases List.mem_cons.mp ht with rfl | ht
      · exact a6
      · exact h8 t ht
theorem textFrom_le : ∀ (ts : List Str) (k : Nat) (acc : Str), (textFrom k acc ts).length ≤ acc.length + piled ts
  | [], k, acc => Nat.le_add_right _ _
  | t :: r, k, acc => by
    show (textFrom (k + 1) (acc ++ (if k > 0 then ", " else "" : String) ++ t) r).length ≤ _
    have := textFrom_le r (k + 1) (acc ++ (if k > 0 then ", " else "" : String) ++ t)
    have e : (acc ++ (if k > 0 then ", " else "" : String) ++ t).length = acc.length + (if k > 0 then 2 else 0) + t.length := by
      rw [strLen_append, strLen_append]
      split <;> rfl
    rw [piled_cons]
    have : (if k > 0 then 2 else 0) ≤ 2 := by split <;> omega
    omega
theorem tupleText_le (ts : List Str) : (tupleText ts).length ≤ piled ts + 3 := by
  unfold tupleText
  rw [strLen_append, strLen_append]
  have e1 : ((("(" : String) : Str)).length = 1 := rfl
  have e3 : (((if ts.length == 1 then ",)" else ")" : String) : Str)).length ≤ 2 := by split <;> decide +kernel
  rw [e1]
  by_cases h : ts = []
  · subst h
    have : (Str.join ", " []).length = 0 := rfl
    omega
  · have := join_length_add ts h
    omega
theorem shw_tup {k n : Nat} {ds : List D} (h : ∀ d ∈ ds, Shw k n d) : Shw (k + 1) (ds.length * (n + 2) + 3) (.tup ds) := by
  obtain ⟨ps, h1, h2, h3, h4, h5, h6, h7, h8⟩ := shws h
  refine ⟨.tuple ps, by rw [D.py, h1]; rfl, by simpa [PyData.showable] using h2, by simpa [PyData.canLay0] using h3, by rw [PyData.depth]; omega, ?_, by rw [PyData.shown]; exact ok_app (ok_app (ok_of _) (ok_join _ h8)) (ok_of _)⟩
  rw [PyData.shown]
  have := tupleText_le (PyData.shownAll ps)
  omega
theorem shw_lst {k n : Nat} {ds : List D} (h : ∀ d ∈ ds, Shw k n d) : Shw (k + 1) (ds.length * (n + 2) + 3) (.lst ds) := by
  obtain ⟨ps, h1, h2, h3, h4, h5, h6, h7, h8⟩ := shws h
  refine ⟨.list ps, by rw [D.py, h1]; rfl, by simpa [PyData.showable] using h2, by simpa [PyData.canLay0] using h3, by rw [PyData.depth]; omega, ?_, by rw [PyData.shown]; exact ok_app (ok_from _ _ _ (ok_of _) h8) (ok_of _)⟩
  rw [PyData.shown]
  unfold listText
  rw [strLen_append]
  have := textFrom_le (PyData.shownAll ps) 0 "["
  have e1 : ((("[" : String) : Str)).length = 1 := rfl
  have e2 : ((("]" : String) : Str)).length = 1 := rfl
  omega
theorem shw_q {q : Rat} (h : Fit q) : Shw 1 3809 (qD q) := by
  refine (shw_tup (n := 1901) (k := 0) (ds := [.int q.num, .int q.den]) fun d hd => ?_).up (by decide) (by simp)
  simp at hd
  rcases hd with rfl | rfl
  · exact shw_int h.1
  · exact shw_int (by simpa using h.2)
structure HasAl (m : Mo) : Prop where
  alike : m.defs "_law_alike" = some f__law_alike
theorem alike_ok {m : Mo} (h : HasAl m) {k n : Nat} {d : D} (hd : Shw 60 n d) (hn : n ≤ 16777216) (h1 : deref d = pure d) : m.call (k + 1) "_law_alike" [d, d] = pure (.bl true) := by
  obtain ⟨p, p1, p2, p3, p4, p5, p6⟩ := hd
  have sh : SeqAt.shaped p = true := by unfold SeqAt.shaped; simp [p3]; omega
  have hr : reprD d = some (.str p.shown) := by
    unfold reprD
    rw [p1]
    exact if_pos ⟨p2, sh, by show _ ≤ 2 ^ 24; omega⟩
  have he : deq d d = some true := by
    unfold deq
    rw [p1]
    simp only [sh, and_self, if_true, SeqAt.eqv_refl p p3]
  have hs : deq (.str p.shown) (.str p.shown) = some true := by rw [str_deq p6 p6]; simp
  rw [call_run h.alike rfl]
  simp [f__law_alike, h1, hr, he, hs]
end Cl.Pl

set_option Elab.async false
set_option linter.all false
/-! PlN: matrices of fractions, by the program. -/
namespace Cl.Pl
open PySem

/- whole: n -/
def f_whole : Fn := ⟨1, 1, [.ret (.tup [(.var 0), (.con (.int 1))])]⟩
/- negative: one -/
def f_negative : Fn := ⟨1, 1, [.ret (.tup [(.neg (.idx (.var 0) (.con (.int 0)))), (.idx (.var 0) (.con (.int 1)))])]⟩
/- less: one other -/
def f_less : Fn := ⟨2, 2, [.ret (.call "added" [(.var 0), (.call "negative" [(.var 1)])])]⟩
/- identity: n one other -/
def f_identity : Fn := ⟨1, 3, [.ret (.bi .tuple [(.comp [1] (.bi .tuple [(.comp [2] (.ite (.cmp .Eq (.var 1) (.var 2)) (.glob "ONE") (.glob "ZERO")) (.nm 2) (.rng [(.var 0)]) [])]) (.nm 1) (.rng [(.var 0)]) [])])]⟩
/- product_of: row column found one other -/
def f_product_of_b1 : List Sm := [.ite (.and (.cmp .NotEq (.var 3) (.glob "ZERO")) (.cmp .NotEq (.var 4) (.glob "ZERO"))) [.asg (.nm 2) (.call "added" [(.var 2), (.call "times" [(.var 3), (.var 4)])])] [],
    .kil [3, 4]]
def f_product_of : Fn := ⟨2, 5, [.asg (.nm 2) (.glob "ZERO"),
    .for_ (.tup [(.nm 3), (.nm 4)]) (.zip (.var 0) (.var 1)) f_product_of_b1,
    .ret (.var 2)]⟩
/- transposed: matrix at row -/
def f_transposed : Fn := ⟨1, 3, [.ret (.bi .tuple [(.comp [1] (.bi .tuple [(.comp [2] (.idx (.var 2) (.var 1)) (.nm 2) (.var 0) [])]) (.nm 1) (.rng [(.bi .len [(.idx (.var 0) (.con (.int 0)))])]) [])])]⟩
/- matrix_times: one other columns row column -/
def f_matrix_times : Fn := ⟨2, 5, [.asg (.nm 2) (.ite (.cmp .Gt (.bi .len [(.var 1)]) (.con (.int 0))) (.call "transposed" [(.var 1)]) (.tup [])),
    .ret (.bi .tuple [(.comp [3] (.bi .tuple [(.comp [4] (.call "product_of" [(.var 3), (.var 4)]) (.nm 4) (.var 2) [])]) (.nm 3) (.var 0) [])])]⟩
/- gathered_poly: terms found powers fraction -/
def f_gathered_poly_b1 : List Sm := [.set (.var 1) (.var 2) (.call "added" [(.get2 (.var 1) (.var 2) (.glob "ZERO")), (.var 3)]),
    .kil [2, 3]]
def f_gathered_poly : Fn := ⟨1, 4, [.own 1 (.dct []),
    .for_ (.tup [(.nm 2), (.nm 3)]) (.var 0) f_gathered_poly_b1,
    .ret (.bi .tuple [(.comp [2] (.tup [(.var 2), (.idx (.var 1) (.var 2))]) (.nm 2) (.bi .sorted [(.var 1)]) [(.cmp .NotEq (.idx (.var 1) (.var 2)) (.glob "ZERO"))])])]⟩
/- single: fraction many -/
def f_single : Fn := ⟨2, 2, [.ret (.call "gathered_poly" [(.lst [(.tup [(.bin .Mult (.tup [(.con (.int 0))]) (.var 1)), (.var 0)])])])]⟩
/- poly_at: poly values found powers fraction one value -/
def f_poly_at_b1 : List Sm := [.asg (.nm 4) (.call "times" [(.var 4), (.call "power" [(.var 6), (.var 5)])]),
    .kil [5, 6]]
def f_poly_at_b2 : List Sm := [.kil [5, 6],
    .for_ (.tup [(.nm 5), (.nm 6)]) (.zip (.var 3) (.var 1)) f_poly_at_b1,
    .asg (.nm 2) (.call "added" [(.var 2), (.var 4)]),
    .kil [3, 4, 5, 6]]
def f_poly_at : Fn := ⟨2, 7, [.asg (.nm 2) (.glob "ZERO"),
    .for_ (.tup [(.nm 3), (.nm 4)]) (.var 0) f_poly_at_b2,
    .ret (.var 2)]⟩
/- terms_of: told number its powers fraction -/
def f_terms_of : Fn := ⟨2, 5, [.ret (.bi .tuple [(.comp [2, 3, 4] (.tup [(.var 3), (.var 4)]) (.tup [(.nm 2), (.nm 3), (.nm 4)]) (.var 0) [(.cmp .Eq (.var 2) (.var 1))])])]⟩
/- number_names: program name begin -/
def f_number_names : Fn := ⟨1, 3, [.ret (.bi .tuple [(.comp [1, 2] (.var 1) (.tup [(.nm 1), (.nm 2)]) (.idx (.var 0) (.con (.int 0))) [])])]⟩
/- fields_of: program kind -/
def f_fields_of : Fn := ⟨2, 2, [.ret (.idx (.call "kind_named" [(.var 0), (.var 1)]) (.con (.int 1)))]⟩
/- column_of: state -/
def f_column_of : Fn := ⟨1, 1, [.ret (.tup [(.glob "ONE"), (.star (.var 0))])]⟩
/- begin_column: program -/
def f_begin_column : Fn := ⟨1, 1, [.ret (.call "column_of" [(.call "begin_state" [(.var 0)])])]⟩
/- kind_matrix: program kind names fields found turn name -/
def f_kind_matrix_b1 : List Sm := [.app 4 (.bi .tuple [(.comp [6] (.call "terms_of" [(.var 5), (.var 6)]) (.nm 6) (.var 2) [])]),
    .kil [5]]
def f_kind_matrix : Fn := ⟨2, 7, [.par 2 false (.tup [(.con (.str "")), (.star (.call "number_names" [(.var 0)]))]) 3 false (.bi .len [(.call "fields_of" [(.var 0), (.var 1)])]),
    .own 4 (.lst [(.bi .tuple [(.bin .Add (.lst [(.call "single" [(.glob "ONE"), (.var 3)])]) (.bin .Mult (.lst [(.tup [])]) (.bin .Sub (.bi .len [(.var 2)]) (.con (.int 1)))))])]),
    .kil [3],
    .for_ (.nm 5) (.call "turns_of" [(.var 0), (.var 1)]) f_kind_matrix_b1,
    .ret (.bi .tuple [(.var 4)])]⟩
/- row_matrix: program row kind values its poly -/
def f_row_matrix : Fn := ⟨2, 6, [.asg (.tup [(.nm 2), (.nm 3)]) (.var 1),
    .ret (.bi .tuple [(.comp [4] (.bi .tuple [(.comp [5] (.call "poly_at" [(.var 5), (.var 3)]) (.nm 5) (.var 4) [])]) (.nm 4) (.call "kind_matrix" [(.var 0), (.var 2)]) [])])]⟩
/- stretch_matrix: program stretch found row -/
def f_stretch_matrix_b1 : List Sm := [.asg (.nm 2) (.call "matrix_times" [(.call "row_matrix" [(.var 0), (.var 3)]), (.var 2)]),
    .kil [3]]
def f_stretch_matrix : Fn := ⟨2, 4, [.asg (.nm 2) (.call "identity" [(.bin .Add (.bi .len [(.idx (.var 0) (.con (.int 0)))]) (.con (.int 1)))]),
    .for_ (.nm 3) (.var 1) f_stretch_matrix_b1,
    .ret (.var 2)]⟩
structure HasMx (m : Mo) : Prop extends HasFr m where
  whole : m.defs "whole" = some f_whole
  negative : m.defs "negative" = some f_negative
  less : m.defs "less" = some f_less
  identity : m.defs "identity" = some f_identity
  product_of : m.defs "product_of" = some f_product_of
  transposed : m.defs "transposed" = some f_transposed
  matrix_times : m.defs "matrix_times" = some f_matrix_times
abbrev Mx := List (List Rat)
def mxD (A : Mx) : D := .tup (A.map stD)
@[simp] theorem deref_mx {A : Mx} : deref (mxD A) = pure (mxD A) := id rfl
@[simp] theorem seq_mx {A : Mx} : seq? (mxD A) = some (A.map stD) := id rfl
@[simp] theorem len_mx {A : Mx} : biD .len [mxD A] = some (.int A.length) := by show some (D.int _) = _; rw [List.length_map]
def Sq (n : Nat) (A : Mx) : Prop := A.length = n ∧ ∀ r ∈ A, r.length = n
def MB (E N : Nat) (A : Mx) : Prop := ∀ r ∈ A, ∀ q ∈ r, Bd E N q
def dotV (a b : List Rat) : Rat := (a.zip b).foldl (fun s p => s + p.1 * p.2) 0
def gq (l : List Rat) (i : Nat) : Rat := l.getD i 0
def gr (B : Mx) (i : Nat) : List Rat := B.getD i []
theorem gq_eq {l : List Rat} {i : Nat} (h : i < l.length) : gq l i = l[i] := by unfold gq; rw [List.getD_eq_getElem?_getD, List.getElem?_eq_getElem h]; rfl
theorem gr_eq {B : Mx} {i : Nat} (h : i < B.length) : gr B i = B[i] := by unfold gr; rw [List.getD_eq_getElem?_getD, List.getElem?_eq_getElem h]; rfl
def colsV (n : Nat) (B : Mx) : Mx := (List.range n).map fun j => B.map fun r => gq r j
def mulV (n : Nat) (A B : Mx) : Mx := A.map fun r => (colsV n B).map fun c => dotV r c
def idV (n : Nat) : Mx := (List.range n).map fun i => (List.range n).map fun j => if i = j then 1 else 0
/-- when sums of products are small enough -/
structure DB (E N E' N' n : Nat) : Prop where
  e : 0 < E ∧ 1 ≤ N
  e' : 0 < E' ∧ 1 ≤ N'
  le : (E * E').log2 < 1900
  ln : (n * (N * N') * (E * E')).log2 < 1900
theorem qD_whole (n : Int) : D.tup [.int n, .int 1] = qD (n : Rat) := rfl
theorem qD_neg (q : Rat) : D.tup [.int (-q.num), .int q.den] = qD (-q) := rfl
section
variable {m : Mo} {k : Nat} {p q : Rat} {A B : Mx} {n : Nat}
theorem whole_ok (h : HasMx m) {i : Int} : m.call (k + 1) "whole" [.int i] = pure (qD (i : Rat)) := by
  rw [call_run h.whole rfl]; simp [f_whole, qD_whole]
theorem negative_ok (h : HasMx m) : m.call (k + 1) "negative" [qD q] = pure (qD (-q)) := by
  rw [call_run h.negative rfl]; simp [f_negative, qD_neg]
theorem fit_neg (h : Fit q) : Fit (-q) := by
  unfold Fit at *; rw [Rat.neg_num, Rat.neg_den, Int.natAbs_neg]; exact h
theorem less_ok (h : HasMx m) (hp : Fit p) (hq : Fit q) : m.call (k + 4) "less" [qD p, qD q] = pure (qD (p - q)) := by
  rw [call_run h.less rfl]; simp [f_less, negative_ok (k := k + 2) h, added_ok (k := k) h.toHasFr hp (fit_neg hq), Rat.sub_eq_add_neg]
theorem identity_ok (h : HasMx m) (hn : n ≤ 1000) : m.call (k + 1) "identity" [.int n] = pure (mxD (idV n)) := by
  rw [call_run h.identity rfl]
  simp [f_identity]
  rw [rng1 (by omega)]
  simp only [lift_some, pure_bind]
  rw [liml_ok (by simp; omega), compL_map (f := fun i : Nat => stD ((List.range n).map fun j => if i = j then (1 : Rat) else 0))]
  · simp [mxD, idV, Function.comp_def]
  · intro i hi
    simp
    rw [rng1 (by omega)]
    simp only [lift_some, pure_bind]
    rw [liml_ok (by simp; omega), compL_map (f := fun j : Nat => qD (if i = j then (1 : Rat) else 0))]
    · simp [stD, Function.comp_def]
    · intro j hj
      have e2 : ((i : Int) = j) ↔ (i = j) := by omega
      by_cases e : i = j
      · simp [h.ONE, h.ZERO, e]
      · have e3 : ¬ ((i : Int) = j) := by omega
        simp [h.ONE, h.ZERO, e, e3]
theorem dot_bd {E N E' N' : Nat} (hE : 0 < E) (hE' : 0 < E') : ∀ (l : List (Rat × Rat)) (s : Rat) (j : Nat), (∀ x ∈ l, Bd E N x.1 ∧ Bd E' N' x.2) → Bd (E * E') (j * (N * N')) s → Bd (E * E') ((j + l.length) * (N * N')) (l.foldl (fun s p => s + p.1 * p.2) s)
  | [], s, j, _, hs => hs
  | x :: l, s, j, h, hs => by
    have hx := h x (List.mem_cons_self ..)
    have h1 := hs.add (hx.1.mul hx.2)
    rw [← Nat.succ_mul] at h1
    have := dot_bd hE hE' l (s + x.1 * x.2) (j + 1) (fun y hy => h y (List.mem_cons_of_mem _ hy)) h1
    rw [List.foldl_cons, List.length_cons, show j + (l.length + 1) = j + 1 + l.length by omega]
    exact this
theorem product_of_ok (h : HasMx m) {a b : List Rat} {E N E' N' : Nat} (z : DB E N E' N' n) (ha : ∀ x ∈ a, Bd E N x) (hb : ∀ x ∈ b, Bd E' N' x) (hl : (a.zip b).length ≤ n) : m.call (k + 4) "product_of" [stD a, stD b] = pure (qD (dotV a b)) ∧ Bd (E * E') (n * (N * N')) (dotV a b) := by
  have hz : ∀ x ∈ a.zip b, Bd E N x.1 ∧ Bd E' N' x.2 := fun x hx => ⟨ha _ (List.of_mem_zip hx).1, hb _ (List.of_mem_zip hx).2⟩
  have EE := Nat.mul_pos z.e.1 z.e'.1
  have := forL_foldI (c := ⟨m.call (k + 3), m.glob⟩) (g := .tup [.nm 3, .nm 4]) (b := f_product_of_b1) (enc := fun p : Rat × Rat => D.tup [qD p.1, qD p.2]) (l := a.zip b) (i := 0) (s := (0 : Rat))
    (τ := fun s => [some (.v (stD a)), some (.v (stD b)), some (.v (qD s)), none, none]) (step := fun s p => s + p.1 * p.2) (P := fun j s => Bd (E * E') (j * (N * N')) s) (Bd.zero EE) fun j hj s hs => by
    have hx := hz _ (List.getElem_mem hj)
    have nb := hs.add (hx.1.mul hx.2)
    rw [← Nat.succ_mul] at nb
    refine ⟨?_, nb⟩
    have L0 : (0 + j) * (N * N') * (E * E') ≤ n * (N * N') * (E * E') := Nat.mul_le_mul_right _ (Nat.mul_le_mul_right _ (by omega))
    have L1 : (N * N') * (E * E') ≤ n * (N * N') * (E * E') := Nat.mul_le_mul_right _ (Nat.le_mul_of_pos_left _ (by omega))
    have lN := Nat.lt_of_le_of_lt (log2_mono L1) z.ln
    have fs := hs.fit z.le (Nat.lt_of_le_of_lt (log2_mono L0) z.ln)
    have fx := (hx.1.up (D' := E * E') (N' := N * N') (Nat.dvd_mul_right ..) EE (Nat.le_mul_of_pos_right _ z.e'.2)).fit z.le lN
    have fy := (hx.2.up (D' := E * E') (N' := N * N') (Nat.dvd_mul_left ..) EE (Nat.le_mul_of_pos_left _ z.e.2)).fit z.le lN
    have fxy := (hx.1.mul hx.2).fit z.le lN
    generalize (a.zip b)[j] = x at *
    have e1 := times_ok (k := k) h.toHasFr fx fy
    have e2 := added_ok (k := k) h.toHasFr fs fxy
    simp [turnM, f_product_of_b1, h.ZERO]
    by_cases h1 : x.1 = 0
    · simp [h1, Rat.zero_mul, Rat.add_zero]
    · by_cases h2 : x.2 = 0
      · simp [h1, h2, Rat.mul_zero, Rat.add_zero]
      · simp [h1, h2, e1, e2]
  obtain ⟨e1, e2⟩ := this
  rw [Nat.zero_add] at e2
  refine ⟨?_, e2.up (Nat.dvd_refl _) EE (Nat.mul_le_mul_right _ hl)⟩
  rw [call_run h.product_of rfl]
  simp [f_product_of, h.ZERO]
  rw [show zipD (List.map qD a) (List.map qD b) = _ from zipD_map qD qD a b, e1]
  simp [dotV]
theorem transposed_ok (h : HasMx m) (hB : Sq n B) (h0 : 0 < n) (hn : n ≤ 1000) : m.call (k + 1) "transposed" [mxD B] = pure (mxD (colsV n B)) := by
  obtain ⟨h1, h2⟩ := hB
  have e0 : idxD (mxD B) (.int 0) = some (stD (B[0]'(by omega))) := by
    unfold mxD
    rw [idx_tup, item_0, List.getElem?_map, List.getElem?_eq_getElem (by omega)]; rfl
  have e1 : (B[0]'(by omega)).length = n := h2 _ (List.getElem_mem _)
  rw [call_run h.transposed rfl]
  simp [f_transposed, e0, e1]
  rw [rng1 (by omega)]
  simp only [lift_some, pure_bind]
  rw [liml_ok (by simp; omega), compL_map (f := fun j : Nat => stD (B.map fun r => gq r j))]
  · simp [mxD, colsV, Function.comp_def]
  · intro j hj
    have hj := List.mem_range.mp hj
    simp
    rw [liml_ok (by simp; omega), compL_map (f := fun r : List Rat => qD (gq r j))]
    · simp [stD, Function.comp_def]
    · intro r hr
      have hl := h2 r hr
      have e2 : idxD (stD r) (.int (j : Int)) = some (qD (gq r j)) := by
        unfold stD
        rw [idx_tup, item_at (by simp; omega), List.getElem_map, gq_eq (by omega)]
      simp [e2]
theorem cols_mem {E N : Nat} (hB : Sq n B) (hb : MB E N B) : ∀ c ∈ colsV n B, c.length = n ∧ ∀ q ∈ c, Bd E N q := by
  intro c hc
  obtain ⟨j, hj, rfl⟩ := List.mem_map.mp hc
  have hj := List.mem_range.mp hj
  refine ⟨by rw [List.length_map]; exact hB.1, fun q hq => ?_⟩
  obtain ⟨r, hr, rfl⟩ := List.mem_map.mp hq
  have hl := hB.2 r hr
  rw [gq_eq (by omega)]
  exact hb r hr _ (List.getElem_mem _)
theorem mul_sq (hA : Sq n A) : Sq n (mulV n A B) := ⟨by rw [mulV, List.length_map]; exact hA.1, fun r hr => by
  obtain ⟨r', _, rfl⟩ := List.mem_map.mp hr
  rw [List.length_map, colsV, List.length_map, List.length_range]⟩
theorem matrix_times_ok (h : HasMx m) {E N E' N' : Nat} (z : DB E N E' N' n) (hA : Sq n A) (hB : Sq n B) (h0 : 0 < n) (hn : n ≤ 1000) (ha : MB E N A) (hb : MB E' N' B) : m.call (k + 5) "matrix_times" [mxD A, mxD B] = pure (mxD (mulV n A B)) ∧ MB (E * E') (n * (N * N')) (mulV n A B) := by
  have cm := cols_mem hB hb
  have key : ∀ r ∈ A, ∀ c ∈ colsV n B, _ := fun r hr c hc => product_of_ok (k := k) h z (a := r) (b := c) (ha r hr) (cm c hc).2 (by rw [List.length_zip, hA.2 r hr]; omega)
  have hB0 : 0 < B.length := by rw [hB.1]; exact h0
  constructor
  · rw [call_run h.matrix_times rfl]
    simp [f_matrix_times, hB0, transposed_ok (k := k + 3) h hB h0 hn]
    rw [liml_ok (by simp; rw [hA.1]; omega), compL_map (f := fun r : List Rat => stD ((colsV n B).map fun c => dotV r c))]
    · simp [mxD, mulV, Function.comp_def]
    · intro r hr
      simp
      rw [liml_ok (by simp [colsV]; omega), compL_map (f := fun c : List Rat => qD (dotV r c))]
      · simp [stD, Function.comp_def]
      · intro c hc
        simp [(key r hr c hc).1]
  · intro r hr q hq
    obtain ⟨r', hr', rfl⟩ := List.mem_map.mp hr
    obtain ⟨c, hc, rfl⟩ := List.mem_map.mp hq
    exact (key r' hr' c hc).2
end

/-! ### polynomials, as terms tell them -/
abbrev Poly := List (List Nat × Rat)
def ptD (t : List Nat × Rat) : D := .tup [pwD t.1, qD t.2]
def poD (p : Poly) : D := .tup (p.map ptD)
def pvV (vals : List Rat) (t : List Nat × Rat) : Rat := (vals.zip t.1).foldl (fun x (vn : Rat × Nat) => x * vn.1 ^ vn.2) t.2
def polyAt (vals : List Rat) (p : Poly) : Rat := p.foldl (fun f t => f + pvV vals t) 0
def termsOf (ts : List Tm) (x : Str) : Poly := (ts.filter fun t => t.n = x).map fun t => (t.pw, t.q)
@[simp] theorem deref_pt {t : List Nat × Rat} : deref (ptD t) = pure (ptD t) := id rfl
@[simp] theorem deref_po {p : Poly} : deref (poD p) = pure (poD p) := id rfl
@[simp] theorem seq_po {p : Poly} : seq? (poD p) = some (p.map ptD) := id rfl
@[simp] theorem g_pt {a b : G} {t : List Nat × Rat} {σ : Env} : G.bind (.tup [a, b]) (ptD t) σ = G.binds [a, b] [pwD t.1, qD t.2] σ := by rw [ptD, G.bind]
structure PtOk (nf E N : Nat) (t : List Nat × Rat) : Prop where
  pl : t.1.length = nf
  pw : ∀ p ∈ t.1, p ≤ 2
  bd : Bd E N t.2
/-- when values of polynomials are small enough -/
structure PB (E N Dv Nv nf L : Nat) : Prop where
  e : 0 < E ∧ 1 ≤ N
  v : 0 < Dv ∧ 1 ≤ Nv
  ld : (E * (Dv ^ 2) ^ nf).log2 < 1900
  ln : (L * (N * (Nv ^ 2) ^ nf) * (E * (Dv ^ 2) ^ nf)).log2 < 1900
structure HasPo (m : Mo) : Prop extends HasMx m where
  gathered_poly : m.defs "gathered_poly" = some f_gathered_poly
  single : m.defs "single" = some f_single
  poly_at : m.defs "poly_at" = some f_poly_at
section
variable {m : Mo} {k : Nat} {p q : Rat} {n : Nat} {vals : List Rat} {E N Dv Nv nf L : Nat}
theorem pv_bd (z : PB E N Dv Nv nf L) (hvl : vals.length = nf) {t : List Nat × Rat} (ht : PtOk nf E N t) (hv : ∀ x ∈ vals, Bd Dv Nv x) : Bd (E * (Dv ^ 2) ^ nf) (N * (Nv ^ 2) ^ nf) (pvV vals t) := by
  have := fold_bd (vals.zip t.1) t.2 E N 0 (fun x hx => ⟨hv _ (List.of_mem_zip hx).1, ht.pw _ (List.of_mem_zip hx).2⟩) z.v.2 (by simpa using ht.bd)
  have e : (vals.zip t.1).length = nf := by rw [List.length_zip, hvl, ht.pl, Nat.min_self]
  rw [e, Nat.zero_add] at this
  exact this
theorem poly_b1 (h : HasPo m) {c : Cfg} (hc : c = ⟨m.call (k + 4), m.glob⟩) (z : PB E N Dv Nv nf L) (hL : 1 ≤ L) (hvl : vals.length = nf) {t : List Nat × Rat} (ht : PtOk nf E N t) (hv : ∀ x ∈ vals, Bd Dv Nv x) {x0 : Option Sl} {found : D} :
    forL c (.tup [.nm 5, .nm 6]) f_poly_at_b1 ((t.1.zip vals).map fun x => .tup [.int x.1, qD x.2]) [x0, some (.v (stD vals)), some (.v found), some (.v (pwD t.1)), some (.v (qD t.2)), none, none] =
      pure (.nx [x0, some (.v (stD vals)), some (.v found), some (.v (pwD t.1)), some (.v (qD (pvV vals t))), none, none]) := by
  have len : (t.1.zip vals).length = nf := by rw [List.length_zip, hvl, ht.pl, Nat.min_self]
  have lN := Nat.lt_of_le_of_lt (log2_mono (show (N * (Nv ^ 2) ^ nf) * (E * (Dv ^ 2) ^ nf) ≤ L * (N * (Nv ^ 2) ^ nf) * (E * (Dv ^ 2) ^ nf) from Nat.mul_le_mul_right _ (Nat.le_mul_of_pos_left _ (by omega)))) z.ln
  have up : ∀ j, j ≤ nf → ∀ q, Bd (E * (Dv ^ 2) ^ j) (N * (Nv ^ 2) ^ j) q → Fit q := fun j hj q hq => by
    refine (hq.up (D' := E * (Dv ^ 2) ^ nf) (N' := N * (Nv ^ 2) ^ nf) ?_ ?_ ?_).fit z.ld lN
    · exact Nat.mul_dvd_mul_left _ (Nat.pow_dvd_pow _ hj)
    · exact Nat.mul_pos z.e.1 (Nat.pow_pos (Nat.pow_pos z.v.1))
    · exact Nat.mul_le_mul_left _ (Nat.pow_le_pow_right (Nat.pow_pos z.v.2) hj)
  have := forL_foldI (c := c) (g := .tup [.nm 5, .nm 6]) (b := f_poly_at_b1) (enc := fun x : Nat × Rat => D.tup [.int x.1, qD x.2]) (l := t.1.zip vals) (i := 0) (s := t.2)
    (τ := fun s => [x0, some (.v (stD vals)), some (.v found), some (.v (pwD t.1)), some (.v (qD s)), none, none]) (step := fun x (vn : Nat × Rat) => x * vn.2 ^ vn.1)
    (P := fun j s => Bd (E * (Dv ^ 2) ^ j) (N * (Nv ^ 2) ^ j) s) (by simpa using ht.bd) fun j hj s hs => by
    have hx : (t.1.zip vals)[j].1 ∈ t.1 ∧ (t.1.zip vals)[j].2 ∈ vals := List.of_mem_zip (List.getElem_mem hj)
    have hp := ht.pw _ hx.1
    have hvb := hv _ hx.2
    rw [len] at hj
    have fs := up (0 + j) (by omega) s hs
    have pb : ∀ i, i ≤ 2 → Bd (Dv ^ 2) (Nv ^ 2) ((t.1.zip vals)[j].2 ^ i) := fun i hi => hvb.powLe hi z.v.2
    have fp : ∀ i, i ≤ (t.1.zip vals)[j].1 → Fit ((t.1.zip vals)[j].2 ^ i) := fun i hi => up 1 (by omega) _ ((pb i (by omega)).up (by rw [Nat.pow_one]; exact Nat.dvd_mul_left ..) (Nat.mul_pos z.e.1 (by rw [Nat.pow_one]; exact Nat.pow_pos z.v.1)) (by rw [Nat.pow_one]; exact Nat.le_mul_of_pos_left _ z.e.2))
    constructor
    · subst hc
      simp only [turnM, f_poly_at_b1]
      have e1 := power_ok (k := k) h.toHasFr (q := (t.1.zip vals)[j].2) (n := (t.1.zip vals)[j].1) (by omega) fp
      have e2 := times_ok (k := k + 1) h.toHasFr fs (fp _ (Nat.le_refl _))
      generalize (t.1.zip vals)[j] = vn at *
      simp [e1, e2]
    · have := hs.mul (pb _ hp)
      rwa [Nat.mul_assoc, Nat.mul_assoc, ← Nat.pow_succ, ← Nat.pow_succ] at this
  have e : ∀ (a : List Nat) (b : List Rat) (s : Rat), (a.zip b).foldl (fun x (vn : Nat × Rat) => x * vn.2 ^ vn.1) s = (b.zip a).foldl (fun x (vn : Rat × Nat) => x * vn.1 ^ vn.2) s := by
    intro a
    induction a with
    | nil => intro b s; simp
    | cons x a ih => intro b s; cases b with
      | nil => simp
      | cons y b => simp only [List.zip_cons_cons, List.foldl_cons]; exact ih b _
  rw [this.1]
  simp only [pvV, e]
theorem poly_at_ok (h : HasPo m) (z : PB E N Dv Nv nf L) (hvl : vals.length = nf) {po : Poly} (ht : ∀ t ∈ po, PtOk nf E N t) (hL : po.length ≤ L) (hv : ∀ x ∈ vals, Bd Dv Nv x) :
    m.call (k + 5) "poly_at" [poD po, stD vals] = pure (qD (polyAt vals po)) ∧ Bd (E * (Dv ^ 2) ^ nf) (L * (N * (Nv ^ 2) ^ nf)) (polyAt vals po) := by
  have DN := Nat.mul_pos z.e.1 (Nat.pow_pos (n := nf) (Nat.pow_pos (n := 2) z.v.1))
  have := forL_foldI (c := ⟨m.call (k + 4), m.glob⟩) (g := .tup [.nm 3, .nm 4]) (b := f_poly_at_b2) (enc := ptD) (l := po) (i := 0) (s := (0 : Rat))
    (τ := fun f => [some (.v (poD po)), some (.v (stD vals)), some (.v (qD f)), none, none, none, none]) (step := fun f t => f + pvV vals t)
    (P := fun j f => Bd (E * (Dv ^ 2) ^ nf) (j * (N * (Nv ^ 2) ^ nf)) f) (Bd.zero DN) fun j hj s hs => by
    have htj := ht _ (List.getElem_mem hj)
    have tb := pv_bd z hvl htj hv
    have nb := hs.add tb
    rw [← Nat.succ_mul] at nb
    refine ⟨?_, nb⟩
    have L0 : (0 + j) * (N * (Nv ^ 2) ^ nf) * (E * (Dv ^ 2) ^ nf) ≤ L * (N * (Nv ^ 2) ^ nf) * (E * (Dv ^ 2) ^ nf) := Nat.mul_le_mul_right _ (Nat.mul_le_mul_right _ (by omega))
    have L1 : (N * (Nv ^ 2) ^ nf) * (E * (Dv ^ 2) ^ nf) ≤ L * (N * (Nv ^ 2) ^ nf) * (E * (Dv ^ 2) ^ nf) := Nat.mul_le_mul_right _ (Nat.le_mul_of_pos_left _ (by omega))
    have fs := hs.fit z.ld (Nat.lt_of_le_of_lt (log2_mono L0) z.ln)
    have ft := tb.fit z.ld (Nat.lt_of_le_of_lt (log2_mono L1) z.ln)
    have b1 := poly_b1 (k := k) h rfl z (by omega) hvl htj hv (x0 := some (.v (poD po))) (found := qD s)
    have ea := added_ok (k := k + 1) h.toHasFr fs ft
    generalize po[j] = t at *
    simp [turnM, f_poly_at_b2]
    rw [zipD_map, b1]
    simp [ea]
  obtain ⟨e1, e2⟩ := this
  rw [Nat.zero_add] at e2
  refine ⟨?_, e2.up (Nat.dvd_refl _) DN (Nat.mul_le_mul_right _ hL)⟩
  rw [call_run h.poly_at rfl]
  simp [f_poly_at, h.ZERO, e1, polyAt]
end
end Cl.Pl

set_option Elab.async false
set_option linter.all false
/-! PlO: matrices of rows, by the program. -/
namespace Cl.Pl
open PySem

def pwLe (a b : List Nat) : Bool := PySem.W.dataLe false enc (pwD a) (pwD b)
theorem enc_pw (a : List Nat) : (pwD a).py = some (.tuple (a.map fun k : Nat => PyData.int (k : Int))) := by
  obtain ⟨ps, h1, h2, h3⟩ := hasPy_ints a
  unfold pwD
  simp only [D.py, h1, Option.map_some, h3]
theorem sort_pw {l : List (List Nat)} (hl : l.length ≤ 1000000) (h : (∀ a ∈ l, a ≠ []) ∨ l.length ≤ 1) : sortD (l.map pwD) = some ((l.mergeSort pwLe).map pwD) := by
  unfold sortD
  rw [if_pos]
  · rw [List.map_mergeSort]; exact fun _ _ _ _ => rfl
  · simp only [Bool.and_eq_true, decide_eq_true_eq, List.length_map, List.all_eq_true, List.mem_map, Bool.or_eq_true, forall_exists_index, and_imp, forall_apply_eq_imp_iff₂]
    refine ⟨⟨⟨⟨fun a _ => ?_, ?_⟩, ?_⟩, fun a _ => ?_⟩, hl⟩
    · unfold hasPy; rw [enc_pw]; rfl
    · unfold alikeL
      simp only [List.all_eq_true, List.mem_map, forall_exists_index, and_imp, forall_apply_eq_imp_iff₂]
      intro a _ b _
      unfold enc
      rw [enc_pw, enc_pw]
      simp [PySem.W.alike, alike_ints]
    · rcases h with h | h
      · refine .inl (.inl fun a ha => ?_)
        have := h a ha
        cases a with
        | nil => exact absurd rfl this
        | cons x a => rfl
      · exact .inr ⟨h, fun a _ => rfl⟩
    · unfold enc
      rw [enc_pw]
      obtain ⟨ps, h1, h2, h3⟩ := hasPy_ints a
      simp [PyData.depth, ← h3, h2]
structure HasRm (m : Mo) : Prop extends HasPo m, HasSt0 m where
  terms_of : m.defs "terms_of" = some f_terms_of
  number_names : m.defs "number_names" = some f_number_names
  fields_of : m.defs "fields_of" = some f_fields_of
  column_of : m.defs "column_of" = some f_column_of
  begin_column : m.defs "begin_column" = some f_begin_column
  kind_matrix : m.defs "kind_matrix" = some f_kind_matrix
  row_matrix : m.defs "row_matrix" = some f_row_matrix
  stretch_matrix : m.defs "stretch_matrix" = some f_stretch_matrix
def oneP (nf : Nat) : Poly := [(List.replicate nf 0, 1)]
/-- a kind's matrix of polynomials -/
def kmV (names : List Str) (K : Kd) : List (List Poly) := ((oneP K.fields.length :: List.replicate names.length []) :: K.turns.map fun ts => (("" : Str) :: names).map fun x => termsOf ts x)
def rmV (names : List Str) (K : Kd) (vals : List Rat) : Mx := (kmV names K).map fun ps => ps.map fun p => polyAt vals p
def rowM (P : Pg) (r : Rw) : Mx := rmV (P.nums.map (·.1)) (kindOf P r.1) r.2
def strM (P : Pg) (sr : List Rw) : Mx := sr.foldl (fun A r => mulV (P.nums.length + 1) (rowM P r) A) (idV (P.nums.length + 1))
def gmD (G : List (List Poly)) : D := .tup (G.map fun ps => .tup (ps.map poD))
@[simp] theorem deref_gm {G : List (List Poly)} : deref (gmD G) = pure (gmD G) := id rfl
@[simp] theorem seq_gm {G : List (List Poly)} : seq? (gmD G) = some (G.map fun ps => .tup (ps.map poD)) := id rfl
section
variable {m : Mo} {k : Nat} {P : Pg} {nf : Nat}
theorem fit_one : Fit 1 := by constructor <;> decide
theorem fit_zero : Fit 0 := by constructor <;> decide
theorem single_ok (h : HasRm m) (hn : nf ≤ 1000) : m.call (k + 5) "single" [qD 1, .int nf] = pure (poD (oneP nf)) := by
  have hn1 : (nf : Int) ≤ 1000 := by omega
  have e0 : m.call (k + 4) "gathered_poly" [.lst [.tup [pwD (List.replicate nf 0), qD 1]]] = pure (poD (oneP nf)) := by
    rw [call_run h.gathered_poly rfl]
    have ed := dput_typed pwKey qD (List.replicate nf 0) (0 + 1 : Rat) []
    simp only [pwKey, List.map_nil, aput, List.map_cons] at ed
    have ef := dfind_typed pwKey qD (List.replicate nf 0) []
    simp only [pwKey, List.map_nil, alook, Option.map_none] at ef
    have el := lookD_typed pwKey qD (l := [(List.replicate nf 0, (0 + 1 : Rat))]) (by simp) (List.mem_singleton.mpr rfl)
    simp only [pwKey, List.map_nil, List.map_cons] at el
    have t : turnM ⟨m.call (k + 3), m.glob⟩ (.tup [.nm 2, .nm 3]) f_gathered_poly_b1 (.tup [pwD (List.replicate nf 0), qD 1]) [some (.v (.lst [.tup [pwD (List.replicate nf 0), qD 1]])), some (.od [] []), none, none] =
        pure (.nx [some (.v (.lst [.tup [pwD (List.replicate nf 0), qD 1]])), some (.od [pwD (List.replicate nf 0)] [qD (0 + 1)]), none, none]) := by
      simp [turnM, f_gathered_poly_b1, h.ZERO, ef, added_ok (k := k) h.toHasFr fit_zero fit_one, ed]
    have es := sort_pw (l := [List.replicate nf 0]) (by simp) (.inr (by simp))
    simp only [List.map_cons, List.map_nil, List.mergeSort_singleton] at es
    simp [f_gathered_poly, dputs, pairUp, forL_cons, t, es]
    simp only [Rat.zero_add] at el ⊢
    simp [el, h.ZERO, poD, oneP, ptD]
  rw [call_run h.single rfl]
  simp [f_single, hn1, repL_one, zeros_pw, e0]
theorem terms_of_ok (h : HasRm m) {ts : List Tm} {x : Str} (hl : ts.length ≤ 1000000) (hx : PyData.strOk x = true) (ht : ∀ t ∈ ts, PyData.strOk t.n = true) : m.call (k + 1) "terms_of" [sumD ts, .str x] = pure (poD (termsOf ts x)) := by
  rw [call_run h.terms_of rfl]
  simp [f_terms_of]
  rw [liml_ok (by simpa using hl), compL_filter (f := fun t => ptD (t.pw, t.q)) (p := fun t => t.n = x) (fun t h => ⟨_, rfl, by simp [str_deq (ht t h) hx], fun _ => by simp [ptD]⟩)]
  simp [poD, termsOf, Function.comp_def]
theorem number_names_ok (h : HasRm m) (ok : OkPg P) : m.call (k + 1) "number_names" [pgD P] = pure (strsD (P.nums.map (·.1))) := by
  have nl := ok.nml
  rw [call_run h.number_names rfl]
  simp [f_number_names]
  rw [liml_ok (by simp; omega), compL_map (f := fun x => .str x.1) (by intro x _; simp)]
  simp [strsD, Function.comp_def]
theorem fields_of_ok (h : HasRm m) (ok : OkPg P) {r : Rw} (hr : OkRw P r) : m.call (k + 2) "fields_of" [pgD P, .str r.1] = pure (strsD (kindOf P r.1).fields) := by
  rw [call_run h.fields_of rfl]
  simp [f_fields_of, kind_named_ok h.toHasSt0 ok hr]
theorem column_of_ok (h : HasRm m) {st : List Rat} (hl : st.length ≤ 1000000) : m.call (k + 1) "column_of" [stD st] = pure (stD (1 :: st)) := by
  rw [call_run h.column_of rfl]
  simp [f_column_of, h.ONE]
  rw [liml_ok (by simpa using hl)]
  simp [stD]
theorem begin_column_ok (h : HasRm m) (ok : OkPg P) : m.call (k + 2) "begin_column" [pgD P] = pure (stD (1 :: beginV P)) := by
  have nl := ok.nml
  rw [call_run h.begin_column rfl]
  simp [f_begin_column, begin_state_ok (k := k) h.toHasSt0 ok, column_of_ok (k := k) h (st := beginV P) (by simp [beginV]; omega)]
theorem OkSum.strOk {names : List Str} {nf most : Nat} {ts : List Tm} (h : OkSum names nf most ts) (hn : okNames names) : ∀ t ∈ ts, PyData.strOk t.n = true := fun t ht => by
  rcases h.n t ht with z | z
  · rw [z]; decide +kernel
  · exact hn.2.1 _ z
theorem kind_matrix_ok (h : HasRm m) (ok : OkPg P) {r : Rw} (hr : OkRw P r) : m.call (k + 6) "kind_matrix" [pgD P, .str r.1] = pure (gmD (kmV (P.nums.map (·.1)) (kindOf P r.1))) := by
  obtain ⟨h1, h2, h3, h4⟩ := hr.kind ok
  have kd := ok.kd _ h1
  have nl := ok.nml
  have fl := kd.fl
  have tl := kd.turns
  obtain ⟨names, hnm⟩ : ∃ names, names = P.nums.map (·.1) := ⟨_, rfl⟩
  have okn := ok.okn
  have kdS := kd.sums
  rw [← hnm] at okn kdS tl
  have nml : names.length = P.nums.length := by rw [hnm, List.length_map]
  rw [call_run h.kind_matrix rfl]
  have en := number_names_ok (k := k + 4) h ok
  rw [← hnm] at en ⊢
  simp [f_kind_matrix, en, fields_of_ok (k := k + 3) h ok hr]
  rw [liml_ok (by simp; omega)]
  have n6 : (names.length : Int) ≤ 1000000 := by omega
  simp [h.ONE, single_ok (k := k) h (nf := (kindOf P r.1).fields.length) (by omega), turns_of_ok (k := k + 3) h.toHasSt0 ok hr, n6]
  have rep : repL (names.length : Int) [D.tup []] = List.replicate names.length (poD []) := repL_one _ _
  rw [rep]
  have n6N : names.length ≤ 1000000 := by omega
  have n6M : names.length ≤ 999999 := by omega
  have := forL_idx (c := ⟨m.call (k + 5), m.glob⟩) (g := .nm 5) (b := f_kind_matrix_b1) (enc := sumD) (l := (kindOf P r.1).turns)
    (τ := fun j => [some (.v (pgD P)), some (.v (.str r.1)), some (.v (.tup (.str "" :: names.map .str))), none, some (.ol (.tup (poD (oneP (kindOf P r.1).fields.length) :: List.replicate names.length (poD [])) :: (((kindOf P r.1).turns.map fun ts => D.tup ((("" : Str) :: names).map fun x => poD (termsOf ts x))).take j))), none, none]) fun i hi => by
    have hts := kdS _ (List.getElem_mem hi)
    have so := hts.strOk okn
    have e1 : ∀ x ∈ (("" : Str) :: names), m.call (k + 5) "terms_of" [sumD (kindOf P r.1).turns[i], .str x] = pure (poD (termsOf (kindOf P r.1).turns[i] x)) := fun x hx => terms_of_ok (k := k + 4) h (by have := hts.len; omega) (by
      rcases List.mem_cons.mp hx with rfl | hx
      · decide +kernel
      · exact okn.2.1 _ hx) so
    rw [List.take_succ_eq_append_getElem (by simpa using hi), List.getElem_map]
    have hlen : ((((kindOf P r.1).turns.map fun ts => D.tup ((("" : Str) :: names).map fun x => poD (termsOf ts x))).take i)).length < 999999 := by simp; omega
    generalize (((kindOf P r.1).turns.map fun ts => D.tup ((("" : Str) :: names).map fun x => poD (termsOf ts x))).take i) = acc at *
    generalize (kindOf P r.1).turns[i] = ts at *
    have ec := compL_map (c := ⟨m.call (k + 5), m.glob⟩) (own := [6]) (elt := .call "terms_of" [.var 5, .var 6]) (g := .nm 6) (σ := [some (.v (pgD P)), some (.v (.str r.1)), some (.v (.tup (.str "" :: names.map .str))), none, some (.ol (.tup (poD (oneP (kindOf P r.1).fields.length) :: List.replicate names.length (poD [])) :: acc)), some (.v (sumD ts)), none]) (enc := D.str) (f := fun x => poD (termsOf ts x)) (l := names) (by
      intro x hx
      simp [e1 x (List.mem_cons_of_mem _ hx)])
    have e0 := e1 "" (List.mem_cons_self ..)
    simp [turnM, f_kind_matrix_b1]
    rw [liml_ok (by simp; omega), ec]
    have hlen2 : acc.length + 1 < 1000000 := by omega
    simp [hlen2, e0]
  rw [List.take_zero, ← List.length_map (as := (kindOf P r.1).turns) (f := fun ts => D.tup ((("" : Str) :: names).map fun x => poD (termsOf ts x))), List.take_length] at this
  simp only [n6N, if_true, pure_bind, add_lst, List.length_cons, List.length_nil, List.length_replicate]
  rw [if_pos (by omega)]
  simp only [lift_some, pure_bind, deref_lst, bi_tuple_l, List.cons_append, List.nil_append, this]
  simp [gmD, kmV, Function.comp_def]
theorem row_pb {nf : Nat} (hf : nf ≤ 2) : PB 2 2 6 3 nf 3 := by
  have : nf = 0 ∨ nf = 1 ∨ nf = 2 := by omega
  rcases this with rfl | rfl | rfl <;> exact ⟨by decide, by decide, by decide +kernel, by decide +kernel⟩
theorem OkSum.pt {names : List Str} {nf most : Nat} {ts : List Tm} (h : OkSum names nf most ts) (x : Str) : ∀ t ∈ termsOf ts x, PtOk nf 2 2 t := fun t ht => by
  obtain ⟨t', ht', rfl⟩ := List.mem_map.mp ht
  have ht' := (List.mem_filter.mp ht').1
  exact ⟨h.pl t' ht', h.pw t' ht', (h.nn t' ht').bd⟩
theorem terms_len (ts : List Tm) (x : Str) : (termsOf ts x).length ≤ ts.length := by
  unfold termsOf; rw [List.length_map]; exact List.length_filter_le ..
theorem kmV_ok {names : List Str} {K : Kd} (kd : OkKd names K) : ∀ ps ∈ kmV names K, ps.length = names.length + 1 ∧ ∀ p ∈ ps, p.length ≤ 3 ∧ ∀ t ∈ p, PtOk K.fields.length 2 2 t := by
  intro ps hps
  rcases List.mem_cons.mp hps with rfl | hps
  · refine ⟨by simp, fun p hp => ?_⟩
    rcases List.mem_cons.mp hp with rfl | hp
    · refine ⟨by simp [oneP], fun t ht => ?_⟩
      rw [List.mem_singleton.mp ht]
      exact ⟨by simp, fun p hp => by rw [(List.mem_replicate.mp hp).2]; decide, Bd.one (by decide) (by decide)⟩
    · rw [(List.mem_replicate.mp hp).2]
      exact ⟨by simp, fun t ht => by cases ht⟩
  · obtain ⟨ts, hts, rfl⟩ := List.mem_map.mp hps
    refine ⟨by simp, fun p hp => ?_⟩
    obtain ⟨x, _, rfl⟩ := List.mem_map.mp hp
    have ok := kd.sums ts hts
    exact ⟨Nat.le_trans (terms_len ts x) ok.len, ok.pt x⟩
theorem up_row {nf : Nat} (hf : nf ≤ 2) {q : Rat} (h : Bd (2 * (6 ^ 2) ^ nf) (3 * (2 * (3 ^ 2) ^ nf)) q) : Bd 2592 486 q := by
  have : nf = 0 ∨ nf = 1 ∨ nf = 2 := by omega
  rcases this with rfl | rfl | rfl <;> exact h.up (by decide) (by decide) (by decide)
theorem km_len {names : List Str} {K : Kd} (kd : OkKd names K) : (kmV names K).length = names.length + 1 := by simp [kmV, kd.turns]
theorem rowM_ok (h : HasRm m) (ok : OkPg P) {r : Rw} (hr : OkRw P r) : Sq (P.nums.length + 1) (rowM P r) ∧ MB 2592 486 (rowM P r) ∧ ∀ ps ∈ kmV (P.nums.map (·.1)) (kindOf P r.1), ∀ p ∈ ps, m.call (k + 5) "poly_at" [poD p, stD r.2] = pure (qD (polyAt r.2 p)) := by
  obtain ⟨h1, h2, h3, h4⟩ := hr.kind ok
  have kd := ok.kd _ h1
  have km := kmV_ok kd
  have key : ∀ ps ∈ kmV (P.nums.map (·.1)) (kindOf P r.1), ∀ p ∈ ps, _ := fun ps hps p hp => poly_at_ok (k := k) h.toHasPo (row_pb kd.fl) h4 ((km ps hps).2 p hp).2 ((km ps hps).2 p hp).1 hr.bd
  have nml : (P.nums.map (·.1)).length = P.nums.length := by simp
  refine ⟨⟨?_, fun row hrow => ?_⟩, fun row hrow q hq => ?_, fun ps hps p hp => (key ps hps p hp).1⟩
  · rw [rowM, rmV, List.length_map, km_len kd, nml]
  · obtain ⟨ps, hps, rfl⟩ := List.mem_map.mp hrow
    rw [List.length_map, (km ps hps).1, nml]
  · obtain ⟨ps, hps, rfl⟩ := List.mem_map.mp hrow
    obtain ⟨p, hp, rfl⟩ := List.mem_map.mp hq
    exact up_row kd.fl (key ps hps p hp).2
theorem row_matrix_ok (h : HasRm m) (ok : OkPg P) {r : Rw} (hr : OkRw P r) : m.call (k + 7) "row_matrix" [pgD P, rwD r] = pure (mxD (rowM P r)) := by
  obtain ⟨h1, h2, h3, h4⟩ := hr.kind ok
  have kd := ok.kd _ h1
  have km := kmV_ok kd
  have nl := ok.nml
  have nml : (P.nums.map (·.1)).length = P.nums.length := by simp
  obtain ⟨s1, s2, s3⟩ := rowM_ok (k := k + 1) h ok hr
  rw [call_run h.row_matrix rfl]
  simp [f_row_matrix, kind_matrix_ok (k := k) h ok hr]
  rw [liml_ok (by rw [List.length_map, km_len kd, nml]; omega), compL_map (f := fun ps : List Poly => stD (ps.map fun p => polyAt r.2 p))]
  · simp [mxD, rowM, rmV, Function.comp_def]
  · intro ps hps
    simp
    rw [liml_ok (by rw [List.length_map, (km ps hps).1, nml]; omega), compL_map (f := fun p : Poly => qD (polyAt r.2 p))]
    · simp [stD, Function.comp_def]
    · intro p hp
      simp [s3 ps hps p hp]
theorem db_row {j n : Nat} (hj : j ≤ 8) (hn : n ≤ 4) : DB 2592 486 (2592 ^ j) (1944 ^ j) n := by
  have h2 : j = 0 ∨ j = 1 ∨ j = 2 ∨ j = 3 ∨ j = 4 ∨ j = 5 ∨ j = 6 ∨ j = 7 ∨ j = 8 := by omega
  refine ⟨by decide, ⟨Nat.pow_pos (by decide), Nat.pow_pos (by decide)⟩, ?_, ?_⟩
  · rcases h2 with rfl | rfl | rfl | rfl | rfl | rfl | rfl | rfl | rfl <;> decide +kernel
  · refine Nat.lt_of_le_of_lt (log2_mono (Nat.mul_le_mul_right _ (Nat.mul_le_mul_right _ hn))) ?_
    rcases h2 with rfl | rfl | rfl | rfl | rfl | rfl | rfl | rfl | rfl <;> decide +kernel
/-- a matrix of j rows -/
structure MOk (P : Pg) (j : Nat) (A : Mx) : Prop where
  sq : Sq (P.nums.length + 1) A
  bd : MB (2592 ^ j) (1944 ^ j) A
theorem id_sq (n : Nat) : Sq n (idV n) := ⟨by simp [idV], fun r hr => by obtain ⟨i, _, rfl⟩ := List.mem_map.mp hr; simp⟩
theorem id_ok (P : Pg) : MOk P 0 (idV (P.nums.length + 1)) := ⟨id_sq _, fun r hr q hq => by
  obtain ⟨i, _, rfl⟩ := List.mem_map.mp hr
  obtain ⟨j, _, rfl⟩ := List.mem_map.mp hq
  split
  · exact Bd.one (by decide) (by decide)
  · exact Bd.zero (by decide)⟩
theorem MB.up {E N E' N' : Nat} {A : Mx} (h : MB E N A) (he : E ∣ E') (hp : 0 < E') (hn : N ≤ N') : MB E' N' A := fun r hr q hq => (h r hr q hq).up he hp hn
theorem times_row (h : HasRm m) (ok : OkPg P) {r : Rw} (hr : OkRw P r) {j : Nat} (hj : j ≤ 8) {A : Mx} (hA : MOk P j A) : m.call (k + 5) "matrix_times" [mxD (rowM P r), mxD A] = pure (mxD (mulV (P.nums.length + 1) (rowM P r) A)) ∧ MOk P (j + 1) (mulV (P.nums.length + 1) (rowM P r) A) := by
  obtain ⟨s1, s2, _⟩ := rowM_ok (k := 0) h ok hr
  have nl := ok.nml
  obtain ⟨e1, e2⟩ := matrix_times_ok (k := k) h.toHasMx (db_row hj (show P.nums.length + 1 ≤ 4 by omega)) s1 hA.sq (by omega) (by omega) s2 hA.bd
  refine ⟨e1, mul_sq s1, e2.up ?_ (Nat.pow_pos (by decide)) ?_⟩
  · rw [Nat.pow_succ, Nat.mul_comm]; exact Nat.dvd_refl _
  · rw [Nat.pow_succ]
    have : (P.nums.length + 1) * (486 * 1944 ^ j) ≤ 4 * (486 * 1944 ^ j) := Nat.mul_le_mul_right _ (by omega)
    omega
theorem stretch_matrix_ok (h : HasRm m) (ok : OkPg P) {sr : List Rw} (hl : sr.length ≤ 8) (hr : ∀ r ∈ sr, OkRw P r) : m.call (k + 8) "stretch_matrix" [pgD P, srD sr] = pure (mxD (strM P sr)) ∧ MOk P sr.length (strM P sr) := by
  have nl := ok.nml
  have n1 : (P.nums.length : Int) + 1 = ((P.nums.length + 1 : Nat) : Int) := by omega
  have := forL_foldI (c := ⟨m.call (k + 7), m.glob⟩) (g := .nm 3) (b := f_stretch_matrix_b1) (enc := rwD) (l := sr) (i := 0) (s := idV (P.nums.length + 1))
    (τ := fun A => [some (.v (pgD P)), some (.v (srD sr)), some (.v (mxD A)), none]) (step := fun A r => mulV (P.nums.length + 1) (rowM P r) A) (P := fun j A => MOk P j A) (id_ok P) fun j hj A hA => by
    rw [Nat.zero_add] at hA ⊢
    obtain ⟨e1, e2⟩ := times_row (k := k + 2) h ok (hr _ (List.getElem_mem hj)) (by omega) hA
    refine ⟨?_, e2⟩
    simp [turnM, f_stretch_matrix_b1, row_matrix_ok (k := k) h ok (hr _ (List.getElem_mem hj)), e1]
  obtain ⟨e1, e2⟩ := this
  rw [Nat.zero_add] at e2
  refine ⟨?_, e2⟩
  rw [call_run h.stretch_matrix rfl]
  simp [f_stretch_matrix]
  rw [n1, identity_ok (k := k + 6) h.toHasMx (by omega)]
  simp [e1, strM]
end
end Cl.Pl

set_option Elab.async false
set_option linter.all false
/-! PlP: the grid, by the program. -/
namespace Cl.Pl
open PySem

theorem comp2M_cons {bind : D → Option Env} {inner : Env → Cm (List D)} {x : D} {xs : List D} : comp2M bind inner (x :: xs) = (Cm.lift (bind x) >>= fun σ => inner σ >>= fun ys => comp2M bind inner xs >>= fun zs => pure (ys ++ zs)) := by rw [comp2M]
theorem comp2L_map {c : Cfg} {own own2 : List Nat} {elt it2 : E} {g g2 : G} {σ : Env} {α β : Type} {enc : α → D} {enc2 : β → D} {l : List α} {l2 : α → List β} {f : α → β → D}
    (h : ∀ a ∈ l, ∃ σ', g.bind (enc a) (σ.wipe own) = some σ' ∧ (ev c it2 σ').w = pure ((l2 a).map enc2) ∧ ∀ b ∈ l2 a, (Cm.lift (g2.bind (enc2 b) (σ'.wipe own2)) >>= fun σ2 => (ev c elt σ2).v) = pure (f a b)) :
    comp2L c own own2 elt g g2 it2 σ (l.map enc) = pure (l.flatMap fun a => (l2 a).map (f a)) := by
  unfold comp2L
  induction l with
  | nil => rw [List.map_nil, comp2M]; rfl
  | cons a l ih =>
    obtain ⟨σ', e1, e2, e3⟩ := h a (List.mem_cons_self ..)
    rw [List.map_cons, comp2M_cons, ih fun a ha => h a (List.mem_cons_of_mem _ ha), e1]
    simp only [lift_some, pure_bind, e2]
    have := compL_map (c := c) (own := own2) (elt := elt) (g := g2) (σ := σ') (enc := enc2) (f := f a) (l := l2 a) e3
    unfold compL at this
    simp only [evIfs_nil] at this
    rw [this]
    simp
theorem zip3D_map {α β γ : Type} (f : α → D) (g : β → D) (h : γ → D) (l : List α) (l' : List β) (l'' : List γ) : zip3D (l.map f) (l'.map g) (l''.map h) = (l.zip (l'.zip l'')).map fun p => .tup [f p.1, g p.2.1, h p.2.2] := by
  unfold zip3D
  rw [List.zip_map, List.zip_map, List.map_map]
  rfl
/- greatest_powers: program kind found turn number powers fraction one other -/
def f_greatest_powers_b1 : List Sm := [.asg (.nm 2) (.comp [7, 8] (.bi .max [(.var 7), (.var 8)]) (.tup [(.nm 7), (.nm 8)]) (.zip (.var 2) (.var 5)) []),
    .kil [4, 5, 6]]
def f_greatest_powers_b2 : List Sm := [.kil [4, 5, 6],
    .for_ (.tup [(.nm 4), (.nm 5), (.nm 6)]) (.var 3) f_greatest_powers_b1,
    .kil [3, 4, 5, 6]]
def f_greatest_powers : Fn := ⟨2, 9, [.asg (.nm 2) (.bin .Mult (.lst [(.con (.int 0))]) (.bi .len [(.call "fields_of" [(.var 0), (.var 1)])])),
    .for_ (.nm 3) (.call "turns_of" [(.var 0), (.var 1)]) f_greatest_powers_b2,
    .ret (.var 2)]⟩
/- kind_grid: program kind values most one n -/
def f_kind_grid_b1 : List Sm := [.asg (.nm 2) (.comp2 [4, 5] [5] (.bin .Add (.var 4) (.tup [(.call "whole" [(.var 5)])])) (.nm 4) (.var 2) (.nm 5) (.rng [(.bin .Add (.var 3) (.con (.int 1)))])),
    .kil [3]]
def f_kind_grid : Fn := ⟨2, 6, [.asg (.nm 2) (.lst [(.tup [])]),
    .for_ (.nm 3) (.call "greatest_powers" [(.var 0), (.var 1)]) f_kind_grid_b1,
    .ret (.comp [4] (.tup [(.var 1), (.var 4)]) (.nm 4) (.var 2) [])]⟩
/- grid: program kind fields turns row -/
def f_grid : Fn := ⟨1, 5, [.ret (.bi .tuple [(.comp2 [1, 2, 3, 4] [4] (.var 4) (.tup [(.nm 1), (.nm 2), (.nm 3)]) (.idx (.var 0) (.con (.int 1))) (.nm 4) (.call "kind_grid" [(.var 0), (.var 1)]))])]⟩
/- share: value at most found n -/
def f_share_b1 : List Sm := [.ite (.cmp .NotEq (.var 4) (.var 1)) [.asg (.nm 3) (.call "times" [(.var 3), (.call "divided" [(.call "less" [(.var 0), (.call "whole" [(.var 4)])]), (.call "whole" [(.bin .Sub (.var 1) (.var 4))])])])] [],
    .kil [4]]
def f_share : Fn := ⟨3, 5, [.asg (.nm 3) (.glob "ONE"),
    .for_ (.nm 4) (.rng [(.bin .Add (.var 2) (.con (.int 1)))]) f_share_b1,
    .ret (.var 3)]⟩
/- grid_factors: program row kind values most found its places factor value place limit -/
def f_grid_factors_b1 : List Sm := [.asg (.nm 8) (.call "times" [(.var 8), (.call "share" [(.var 9), (.idx (.var 10) (.con (.int 0))), (.var 11)])]),
    .kil [9, 10, 11]]
def f_grid_factors_b2 : List Sm := [.asg (.nm 8) (.glob "ONE"),
    .kil [1, 6, 9, 10, 11],
    .for_ (.tup [(.nm 9), (.nm 10), (.nm 11)]) (.zip3 (.var 3) (.var 7) (.var 4)) f_grid_factors_b1,
    .app 5 (.var 8),
    .kil [6, 7, 8, 9, 10, 11]]
def f_grid_factors : Fn := ⟨2, 12, [.asg (.tup [(.nm 2), (.nm 3)]) (.var 1),
    .par 4 false (.call "greatest_powers" [(.var 0), (.var 2)]) 5 true (.lst []),
    .kil [1],
    .for_ (.tup [(.nm 6), (.nm 7)]) (.call "kind_grid" [(.var 0), (.var 2)]) f_grid_factors_b2,
    .ret (.bi .tuple [(.var 5)])]⟩
structure HasGr (m : Mo) : Prop extends HasRm m where
  greatest_powers : m.defs "greatest_powers" = some f_greatest_powers
  kind_grid : m.defs "kind_grid" = some f_kind_grid
  grid : m.defs "grid" = some f_grid
  share : m.defs "share" = some f_share
  grid_factors : m.defs "grid_factors" = some f_grid_factors
def natsD (l : List Nat) : D := .lst (l.map fun k : Nat => D.int (k : Int))
@[simp] theorem deref_nats {l : List Nat} : deref (natsD l) = pure (natsD l) := id rfl
@[simp] theorem seq_nats {l : List Nat} : seq? (natsD l) = some (l.map fun k : Nat => D.int (k : Int)) := id rfl
def maxV (a b : List Nat) : List Nat := (a.zip b).map fun p => max p.1 p.2
def gpV (K : Kd) : List Nat := K.turns.foldl (fun acc ts => ts.foldl (fun acc t => maxV acc t.pw) acc) (List.replicate K.fields.length 0)
def kgV (gp : List Nat) : List (List Rat) := gp.foldl (fun vs m => vs.flatMap fun v => (List.range (m + 1)).map fun n : Nat => v ++ [(n : Rat)]) [[]]
def grV (P : Pg) : List Rw := P.kinds.flatMap fun K => (kgV (gpV K)).map fun v => (K.name, v)
def shareV (v : Rat) (a : Nat) (most : Nat) : Rat := (List.range (most + 1)).foldl (fun f (n : Nat) => if n = a then f else f * ((v - (n : Rat)) / ((a : Rat) - (n : Rat)))) 1
def facV (vals places : List Rat) (most : List Nat) : Rat := (vals.zip (places.zip most)).foldl (fun f p => f * shareV p.1 p.2.1.num.toNat p.2.2) 1
def gfV (vals : List Rat) (gp : List Nat) : List Rat := (kgV gp).map fun places => facV vals places gp
structure GpOk (nf : Nat) (gp : List Nat) : Prop where
  len : gp.length = nf
  le : ∀ p ∈ gp, p ≤ 2
theorem maxV_ok {nf : Nat} {a b : List Nat} (ha : GpOk nf a) (hb : b.length = nf) (hl : ∀ p ∈ b, p ≤ 2) : GpOk nf (maxV a b) := ⟨by simp [maxV, ha.len, hb], fun p hp => by
  obtain ⟨x, hx, rfl⟩ := List.mem_map.mp hp
  have h1 := ha.le _ (List.of_mem_zip hx).1
  have h2 := hl _ (List.of_mem_zip hx).2
  omega⟩
theorem sum_const {α : Type} (l : List α) (c : Nat) : (l.map fun _ => c).sum = l.length * c := by induction l with | nil => simp | cons a l ih => simp [ih, Nat.add_mul]; omega
theorem kg_len (gp : List Nat) (h : ∀ p ∈ gp, p ≤ 2) : (kgV gp).length ≤ 3 ^ gp.length := by
  unfold kgV
  have key : ∀ (gp : List Nat) (vs : List (List Rat)), (∀ p ∈ gp, p ≤ 2) → (gp.foldl (fun vs m => vs.flatMap fun v => (List.range (m + 1)).map fun n : Nat => v ++ [(n : Rat)]) vs).length ≤ vs.length * 3 ^ gp.length := by
    intro gp
    induction gp with
    | nil => intro vs _; simp
    | cons m gp ih =>
      intro vs h
      rw [List.foldl_cons]
      have hm := h m (List.mem_cons_self ..)
      refine Nat.le_trans (ih _ fun p hp => h p (List.mem_cons_of_mem _ hp)) ?_
      have : (vs.flatMap fun v => (List.range (m + 1)).map fun n : Nat => v ++ [(n : Rat)]).length = vs.length * (m + 1) := by
        rw [List.length_flatMap]; simp [sum_const]
      rw [this, List.length_cons, Nat.pow_succ, Nat.mul_assoc, Nat.mul_comm (3 ^ gp.length) 3, ← Nat.mul_assoc, ← Nat.mul_assoc]
      exact Nat.mul_le_mul_right _ (Nat.mul_le_mul_left _ (by omega))
  have := key gp [[]] h
  simpa using this
/-- a place of the grid: whole numbers, as far as the powers go -/
theorem kg_mem (gp : List Nat) : ∀ v ∈ kgV gp, v.length = gp.length ∧ ∃ ns : List Nat, v = ns.map (fun n : Nat => (n : Rat)) ∧ ns.length = gp.length ∧ ∀ i (h : i < ns.length) (h' : i < gp.length), ns[i] ≤ gp[i] := by
  unfold kgV
  have key : ∀ (gp pre : List Nat) (vs : List (List Rat)), (∀ v ∈ vs, ∃ ns : List Nat, v = ns.map (fun n : Nat => (n : Rat)) ∧ ns.length = pre.length ∧ ∀ i (h : i < ns.length) (h' : i < pre.length), ns[i] ≤ pre[i]) →
      ∀ v ∈ gp.foldl (fun vs m => vs.flatMap fun v => (List.range (m + 1)).map fun n : Nat => v ++ [(n : Rat)]) vs, ∃ ns : List Nat, v = ns.map (fun n : Nat => (n : Rat)) ∧ ns.length = (pre ++ gp).length ∧ ∀ i (h : i < ns.length) (h' : i < (pre ++ gp).length), ns[i] ≤ (pre ++ gp)[i] := by
    intro gp
    induction gp with
    | nil => intro pre vs h v hv; simpa using h v hv
    | cons m gp ih =>
      intro pre vs h v hv
      rw [List.foldl_cons] at hv
      have := ih (pre ++ [m]) _ (fun v hv => by
        obtain ⟨w, hw, hv⟩ := List.mem_flatMap.mp hv
        obtain ⟨n, hn, rfl⟩ := List.mem_map.mp hv
        obtain ⟨ns, rfl, h1, h2⟩ := h w hw
        have hn := List.mem_range.mp hn
        refine ⟨ns ++ [n], by simp, by simp [h1], fun i hi hi' => ?_⟩
        simp at hi hi'
        rcases Nat.lt_or_ge i ns.length with z | z
        · rw [List.getElem_append_left z, List.getElem_append_left (by omega)]
          exact h2 i z (by omega)
        · have : i = ns.length := by omega
          subst this
          rw [List.getElem_append_right (Nat.le_refl _), List.getElem_append_right (by omega)]
          simp [h1]; omega) v hv
      simpa using this
  intro v hv
  obtain ⟨ns, rfl, h1, h2⟩ := key gp [] [[]] (fun v hv => ⟨[], by simpa using hv, rfl, fun i h => by cases h⟩) v hv
  rw [List.nil_append] at h1
  exact ⟨by rw [List.length_map, h1], ns, rfl, h1, fun i h h' => by have := h2 i h (by simpa using h'); simpa using this⟩
section
variable {m : Mo} {k : Nat} {P : Pg}
theorem kindOf_name (ok : OkPg P) {K : Kd} (hK : K ∈ P.kinds) : kindOf P K.name = K ∧ OkRw P (K.name, List.replicate K.fields.length 0) := by
  obtain ⟨h1, h2, h3⟩ := kindOf_mem (P := P) ⟨K, hK, rfl⟩
  refine ⟨two_kinds ok _ h1 _ hK h2, ⟨⟨K, hK, rfl, by simp⟩, fun v hv => ?_⟩⟩
  rw [(List.mem_replicate.mp hv).2]
  exact Bd.zero (by decide)
theorem gp_ok {names : List Str} {K : Kd} (kd : OkKd names K) : GpOk K.fields.length (gpV K) := by
  unfold gpV
  have inner : ∀ (ts : List Tm) (acc : List Nat), (∀ t ∈ ts, t.pw.length = K.fields.length ∧ ∀ p ∈ t.pw, p ≤ 2) → GpOk K.fields.length acc → GpOk K.fields.length (ts.foldl (fun acc t => maxV acc t.pw) acc) := by
    intro ts
    induction ts with
    | nil => intro acc _ h; exact h
    | cons t ts ih =>
      intro acc h ha
      have ht := h t (List.mem_cons_self ..)
      exact ih _ (fun t h' => h t (List.mem_cons_of_mem _ h')) (maxV_ok ha ht.1 ht.2)
  have outer : ∀ (l : List (List Tm)) (acc : List Nat), (∀ ts ∈ l, OkSum names K.fields.length 3 ts) → GpOk K.fields.length acc → GpOk K.fields.length (l.foldl (fun acc ts => ts.foldl (fun acc t => maxV acc t.pw) acc) acc) := by
    intro l
    induction l with
    | nil => intro acc _ h; exact h
    | cons ts l ih =>
      intro acc h ha
      have hts := h ts (List.mem_cons_self ..)
      exact ih _ (fun t h' => h t (List.mem_cons_of_mem _ h')) (inner ts acc (fun t ht => ⟨hts.pl t ht, hts.pw t ht⟩) ha)
  exact outer _ _ kd.sums ⟨by simp, fun p hp => by rw [(List.mem_replicate.mp hp).2]; decide⟩
theorem gp_inner {c : Cfg} {nf : Nat} {x0 x1 x3 : Option Sl} : ∀ {ts : List Tm} {acc : List Nat}, (∀ t ∈ ts, t.pw.length = nf ∧ ∀ p ∈ t.pw, p ≤ 2) → GpOk nf acc → nf ≤ 1000 →
    forL c (.tup [.nm 4, .nm 5, .nm 6]) f_greatest_powers_b1 (ts.map tmD) [x0, x1, some (.v (natsD acc)), x3, none, none, none, none, none] = pure (.nx [x0, x1, some (.v (natsD (ts.foldl (fun acc t => maxV acc t.pw) acc))), x3, none, none, none, none, none]) ∧ GpOk nf (ts.foldl (fun acc t => maxV acc t.pw) acc) := by
  intro ts
  induction ts with
  | nil => intro acc _ h _; exact ⟨by simp, h⟩
  | cons t ts ih =>
    intro acc h ha hn
    have ht := h t (List.mem_cons_self ..)
    have e1 : turnM c (.tup [.nm 4, .nm 5, .nm 6]) f_greatest_powers_b1 (tmD t) [x0, x1, some (.v (natsD acc)), x3, none, none, none, none, none] = pure (.nx [x0, x1, some (.v (natsD (maxV acc t.pw))), x3, none, none, none, none, none]) := by
      simp [turnM, f_greatest_powers_b1]
      rw [zipD_map, liml_ok (by simp [ha.len, ht.1]; omega), compL_map (f := fun p : Nat × Nat => D.int ((max p.1 p.2 : Nat) : Int))]
      · simp [natsD, maxV, Function.comp_def]
      · intro p hp
        have : (if p.1 < p.2 then (p.2 : Int) else p.1) = ((max p.1 p.2 : Nat) : Int) := by split <;> omega
        simp [this]
    rw [List.map_cons, forL_cons, e1]
    exact ih (fun t h' => h t (List.mem_cons_of_mem _ h')) (maxV_ok ha ht.1 ht.2) hn
theorem greatest_powers_ok (h : HasGr m) (ok : OkPg P) {K : Kd} (hK : K ∈ P.kinds) : m.call (k + 3) "greatest_powers" [pgD P, .str K.name] = pure (natsD (gpV K)) := by
  obtain ⟨e0, dr⟩ := kindOf_name ok hK
  have kd := ok.kd K hK
  have fl := kd.fl
  have ef := fields_of_ok (k := k) h.toHasRm ok dr
  have et := turns_of_ok (k := k) h.toHasSt0 ok dr
  simp only [e0] at ef et
  have hf6 : (K.fields.length : Int) ≤ 1000000 := by omega
  have hf7 : K.fields.length ≤ 1000000 := by omega
  have := forL_foldI (c := ⟨m.call (k + 2), m.glob⟩) (g := .nm 3) (b := f_greatest_powers_b2) (enc := sumD) (l := K.turns) (i := 0) (s := List.replicate K.fields.length 0)
    (τ := fun acc => [some (.v (pgD P)), some (.v (.str K.name)), some (.v (natsD acc)), none, none, none, none, none, none]) (step := fun acc ts => ts.foldl (fun acc t => maxV acc t.pw) acc) (P := fun _ acc => GpOk K.fields.length acc)
    ⟨by simp, fun p hp => by rw [(List.mem_replicate.mp hp).2]; decide⟩ fun j hj acc ha => by
    have hts := kd.sums _ (List.getElem_mem hj)
    generalize K.turns[j] = ts at *
    obtain ⟨i1, i2⟩ := gp_inner (c := ⟨m.call (k + 2), m.glob⟩) (nf := K.fields.length) (x0 := some (.v (pgD P))) (x1 := some (.v (.str K.name))) (x3 := some (.v (sumD ts))) (ts := ts) (acc := acc) (fun t ht => ⟨hts.pl t ht, hts.pw t ht⟩) ha (by omega)
    refine ⟨?_, i2⟩
    simp [turnM, f_greatest_powers_b2, i1]
  rw [call_run h.greatest_powers rfl]
  have rep : D.lst (repL (K.fields.length : Int) [D.int 0]) = natsD (List.replicate K.fields.length 0) := by rw [repL_one]; unfold natsD; rw [List.map_replicate]; rfl
  simp [f_greatest_powers, ef, et, hf6, hf7, rep, this.1, gpV]
theorem kind_grid_ok (h : HasGr m) (ok : OkPg P) {K : Kd} (hK : K ∈ P.kinds) : m.call (k + 4) "kind_grid" [pgD P, .str K.name] = pure (.lst ((kgV (gpV K)).map fun v => rwD (K.name, v))) := by
  have kd := ok.kd K hK
  have gpo := gp_ok kd
  have fl := kd.fl
  have eg := greatest_powers_ok (k := k) h ok hK
  have kl := kg_len (gpV K) gpo.le
  have k9 : (kgV (gpV K)).length ≤ 9 := Nat.le_trans kl (by rw [gpo.len]; exact Nat.pow_le_pow_right (by decide) fl)
  have := forL_foldI (c := ⟨m.call (k + 3), m.glob⟩) (g := .nm 3) (b := f_kind_grid_b1) (enc := fun k : Nat => D.int (k : Int)) (l := gpV K) (i := 0) (s := ([[]] : List (List Rat)))
    (τ := fun vs => [some (.v (pgD P)), some (.v (.str K.name)), some (.v (.lst (vs.map stD))), none, none, none]) (step := fun vs mm => vs.flatMap fun v => (List.range (mm + 1)).map fun n : Nat => v ++ [(n : Rat)])
    (P := fun j vs => vs.length ≤ 3 ^ j ∧ ∀ v ∈ vs, v.length ≤ j) ⟨by simp, by simp⟩ fun j hj vs ⟨hvs, hv10⟩ => by
    have hj2 : j < 2 := by rw [gpo.len] at hj; omega
    have hm := gpo.le _ (List.getElem_mem hj)
    generalize (gpV K)[j] = mm at *
    have hvs9 : vs.length ≤ 9 := Nat.le_trans hvs (Nat.pow_le_pow_right (n := 3) (by decide) (show 0 + j ≤ 2 by omega))
    have hm1 : (mm : Int) + 1 = ((mm + 1 : Nat) : Int) := by omega
    have c2 := comp2L_map (c := ⟨m.call (k + 3), m.glob⟩) (own := [4, 5]) (own2 := [5]) (elt := .bin .Add (.var 4) (.tup [.call "whole" [.var 5]])) (g := .nm 4) (g2 := .nm 5) (it2 := .rng [.bin .Add (.var 3) (.con (.int 1))])
      (σ := [some (.v (pgD P)), some (.v (.str K.name)), some (.v (.lst (vs.map stD))), some (.v (.int mm)), none, none]) (enc := stD) (enc2 := fun n : Nat => D.int (n : Int)) (l := vs) (l2 := fun _ => List.range (mm + 1)) (f := fun v n => stD (v ++ [(n : Rat)])) fun v hv => by
      have hv := hv10 v hv
      refine ⟨_, rfl, ?_, fun n hn => ?_⟩
      · simp
        rw [hm1, rng1 (by omega)]
        rfl
      · have hv6 : v.length ≤ 999999 := by omega
        have hv7 : v.length + 1 ≤ 1000000 := by omega
        simp [whole_ok (k := k + 2) h.toHasMx]
        simp [stD, hv6, hv7]
        rfl
    have fm : (vs.flatMap fun v => (List.range (mm + 1)).map fun n : Nat => stD (v ++ [(n : Rat)])) = (vs.flatMap fun v => (List.range (mm + 1)).map fun n : Nat => v ++ [(n : Rat)]).map stD := by
      rw [List.map_flatMap]; simp [Function.comp_def]
    have len : (vs.flatMap fun v => (List.range (mm + 1)).map fun n : Nat => v ++ [(n : Rat)]).length = vs.length * (mm + 1) := by rw [List.length_flatMap]; simp [sum_const]
    have lb : vs.length * (mm + 1) ≤ 3 ^ (0 + j) * 3 := Nat.mul_le_mul hvs (by omega)
    rw [fm] at c2
    have l30 : vs.length * (mm + 1) ≤ 9 * 3 := Nat.mul_le_mul hvs9 (by omega)
    refine ⟨?_, by rw [len, Nat.pow_succ]; exact lb, fun v hv => ?_⟩
    · simp [turnM, f_kind_grid_b1, c2]
      rw [liml_ok (by rw [List.length_map, len]; omega)]
      simp
    · obtain ⟨w, hw, hv⟩ := List.mem_flatMap.mp hv
      obtain ⟨n, hn, rfl⟩ := List.mem_map.mp hv
      have := hv10 w hw
      simp; omega
  rw [call_run h.kind_grid rfl]
  have e1 := this.1
  simp only [List.map_cons, List.map_nil] at e1
  have e0 : D.lst [D.tup []] = D.lst [stD []] := rfl
  simp [f_kind_grid, eg]
  rw [e0, show (gpV K).map (fun k : Nat => D.int (k : Int)) = (gpV K).map (fun k : Nat => D.int (k : Int)) from rfl, e1]
  simp
  rw [liml_ok (by rw [List.length_map]; have : (kgV (gpV K)).length ≤ 9 := k9; unfold kgV at this; omega), compL_map (f := fun v : List Rat => rwD (K.name, v)) (by intro v _; simp [rwD])]
  simp [kgV]
theorem grid_ok (h : HasGr m) (ok : OkPg P) : m.call (k + 5) "grid" [pgD P] = pure (.tup ((grV P).map rwD)) := by
  have c2 := comp2L_map (c := ⟨m.call (k + 4), m.glob⟩) (own := [1, 2, 3, 4]) (own2 := [4]) (elt := .var 4) (g := .tup [.nm 1, .nm 2, .nm 3]) (g2 := .nm 4) (it2 := .call "kind_grid" [.var 0, .var 1])
      (σ := [some (.v (pgD P)), none, none, none, none]) (enc := kdD) (enc2 := rwD) (l := P.kinds) (l2 := fun K => (kgV (gpV K)).map fun v => (K.name, v)) (f := fun _ r => rwD r) fun K hK => by
    refine ⟨_, rfl, ?_, fun r hr => by simp⟩
    have := kind_grid_ok (k := k) h ok hK
    simp [this, Function.comp_def]
  have e1 : (P.kinds.flatMap fun K => ((kgV (gpV K)).map fun v => (K.name, v)).map fun r => rwD r) = (grV P).map rwD := by unfold grV; rw [List.map_flatMap]
  have kl := ok.kdl
  have len : (grV P).length ≤ 18 := by
    unfold grV
    rw [List.length_flatMap]
    have : ∀ l : List Kd, (∀ K ∈ l, K ∈ P.kinds) → (l.map fun K => ((kgV (gpV K)).map fun v => (K.name, v)).length).sum ≤ l.length * 9 := by
      intro l
      induction l with
      | nil => intro _; simp
      | cons K l ih =>
        intro h
        have hK := ok.kd K (h K (List.mem_cons_self ..))
        have g := gp_ok hK
        have : (kgV (gpV K)).length ≤ 9 := Nat.le_trans (kg_len _ g.le) (by rw [g.len]; exact Nat.pow_le_pow_right (by decide) hK.fl)
        have := ih fun K hK => h K (List.mem_cons_of_mem _ hK)
        simp at this ⊢
        omega
    have := this P.kinds fun K hK => hK
    omega
  rw [call_run h.grid rfl]
  rw [e1] at c2
  simp [f_grid, c2]
  rw [liml_ok (by rw [List.length_map]; omega)]
  simp
/-- one factor of a share -/
theorem part_ok (h : HasGr m) {v : Rat} (hv : Bd 6 3 v) {a n : Nat} (ha : a ≤ 2) (hn : n ≤ 2) (hne : n ≠ a) :
    m.call (k + 4) "less" [qD v, qD (n : Rat)] = pure (qD (v - (n : Rat))) ∧ m.call (k + 4) "divided" [qD (v - (n : Rat)), qD ((a : Rat) - (n : Rat))] = pure (qD ((v - (n : Rat)) / ((a : Rat) - (n : Rat)))) ∧ Bd 12 5 ((v - (n : Rat)) / ((a : Rat) - (n : Rat))) := by
  have bn : Bd 6 2 (n : Rat) := (show Bd 1 2 (n : Rat) from ⟨by decide, (n : Int), by rw [Rat.divInt_ofNat]; exact (Rat.mkRat_self (n : Rat)).symm, by omega⟩).up (by decide) (by decide) (by decide)
  have bl : Bd 6 5 (v - (n : Rat)) := by rw [Rat.sub_eq_add_neg]; exact hv.add bn.neg
  have fl := bl.fit (by decide +kernel) (by decide +kernel)
  have cases : (a : Rat) - (n : Rat) = 1 ∨ (a : Rat) - (n : Rat) = -1 ∨ (a : Rat) - (n : Rat) = 2 ∨ (a : Rat) - (n : Rat) = -2 := by
    have a3 : a = 0 ∨ a = 1 ∨ a = 2 := by omega
    have n3 : n = 0 ∨ n = 1 ∨ n = 2 := by omega
    clear bn bl fl hv
    rcases a3 with rfl | rfl | rfl <;> rcases n3 with rfl | rfl | rfl <;> first | (exfalso; omega) | decide +kernel
  have b1 : ∀ c : Rat, (c = 1 ∨ c = -1 ∨ c = 2 ∨ c = -2) → Bd 12 5 ((v - (n : Rat)) / c) ∧ Fit c ∧ c ≠ 0 := by
    intro c hc
    rw [Rat.div_def]
    have : Bd 2 1 c⁻¹ := by
      rcases hc with rfl | rfl | rfl | rfl
      · exact ⟨by decide, 2, by decide +kernel, by decide⟩
      · exact ⟨by decide, -2, by decide +kernel, by decide⟩
      · exact ⟨by decide, 1, by decide +kernel, by decide⟩
      · exact ⟨by decide, -1, by decide +kernel, by decide⟩
    refine ⟨bl.mul this, ?_, ?_⟩
    · rcases hc with rfl | rfl | rfl | rfl <;> (constructor <;> decide +kernel)
    · rcases hc with rfl | rfl | rfl | rfl <;> decide
  obtain ⟨c1, c2, c3⟩ := b1 _ cases
  exact ⟨less_ok (k := k) h.toHasMx (hv.fit (by decide +kernel) (by decide +kernel)) (bn.fit (by decide +kernel) (by decide +kernel)), divided_ok (k := k + 1) h.toHasFr fl c2 c3, c1⟩
theorem share_ok (h : HasGr m) {v : Rat} (hv : Bd 6 3 v) {a most : Nat} (ha : a ≤ most) (hm : most ≤ 2) : m.call (k + 5) "share" [qD v, .int a, .int most] = pure (qD (shareV v a most)) ∧ Bd 1728 125 (shareV v a most) := by
  have := forL_foldI (c := ⟨m.call (k + 4), m.glob⟩) (g := .nm 4) (b := f_share_b1) (enc := fun n : Nat => D.int (n : Int)) (l := List.range (most + 1)) (i := 0) (s := (1 : Rat))
    (τ := fun f => [some (.v (qD v)), some (.v (.int a)), some (.v (.int most)), some (.v (qD f)), none]) (step := fun f (n : Nat) => if n = a then f else f * ((v - (n : Rat)) / ((a : Rat) - (n : Rat))))
    (P := fun j f => Bd (12 ^ j) (5 ^ j) f) (Bd.one (by decide) (by decide)) fun j hj f hf => by
    simp only [List.length_range] at hj
    rw [List.getElem_range]
    rw [Nat.zero_add] at hf
    have up1 : ∀ q, Bd (12 ^ j) (5 ^ j) q → Bd (12 ^ (j + 1)) (5 ^ (j + 1)) q := fun q hq => hq.up (Nat.pow_dvd_pow _ (by omega)) (Nat.pow_pos (by decide)) (Nat.pow_le_pow_right (by decide) (by omega))
    have j3 : j = 0 ∨ j = 1 ∨ j = 2 := by omega
    have ff : Fit f := by rcases j3 with rfl | rfl | rfl <;> exact hf.fit (by decide +kernel) (by decide +kernel)
    rw [Nat.zero_add]
    by_cases e : j = a
    · subst e
      rw [if_pos rfl]
      refine ⟨?_, up1 _ hf⟩
      simp [turnM, f_share_b1]
    · rw [if_neg e]
      obtain ⟨p1, p2, p3⟩ := part_ok (k := k) h hv (a := a) (n := j) (by omega) (by omega) e
      have pf := p3.fit (by decide +kernel) (by decide +kernel)
      have e2 := times_ok (k := k + 1) h.toHasFr ff pf
      have nb := hf.mul p3
      rw [← Nat.pow_succ, ← Nat.pow_succ] at nb
      refine ⟨?_, nb⟩
      have ei : ¬ ((j : Int) = a) := by omega
      have w1 := whole_ok (k := k + 3) h.toHasMx (i := (j : Int))
      have w2 := whole_ok (k := k + 3) h.toHasMx (i := (a : Int) - (j : Int))
      have c1 : (((j : Int) : Int) : Rat) = (j : Rat) := rfl
      have c2 : (((a : Int) - (j : Int) : Int) : Rat) = (a : Rat) - (j : Rat) := by rw [Rat.intCast_sub]; rfl
      rw [c1] at w1
      rw [c2] at w2
      simp [turnM, f_share_b1, e, ei, w1, w2, p1, p2, e2]
  obtain ⟨e1, e2⟩ := this
  refine ⟨?_, e2.up (D' := 1728) (N' := 125) ?_ (by decide) ?_⟩
  · rw [call_run h.share rfl]
    have hm1 : (most : Int) + 1 = ((most + 1 : Nat) : Int) := by omega
    simp [f_share, h.ONE]
    rw [hm1, rng1 (by omega)]
    simp [e1, shareV]
  · rw [List.length_range]
    exact Nat.pow_dvd_pow 12 (show 0 + (most + 1) ≤ 3 by omega)
  · rw [List.length_range]
    exact Nat.pow_le_pow_right (n := 5) (by decide) (show 0 + (most + 1) ≤ 3 by omega)
theorem fac_inner (h : HasGr m) {nf : Nat} (hf : nf ≤ 2) {vals places : List Rat} {gp : List Nat} (hv : vals.length = nf) (hvb : ∀ x ∈ vals, Bd 6 3 x) (hg : GpOk nf gp) (hp : places ∈ kgV gp) {x0 x2 x5 : Option Sl} :
    forL ⟨m.call (k + 5), m.glob⟩ (.tup [.nm 9, .nm 10, .nm 11]) f_grid_factors_b1 (zip3D (vals.map qD) (places.map qD) (gp.map fun k : Nat => D.int (k : Int))) [x0, none, x2, some (.v (stD vals)), some (.v (natsD gp)), x5, none, some (.v (stD places)), some (.v (qD 1)), none, none, none] =
      pure (.nx [x0, none, x2, some (.v (stD vals)), some (.v (natsD gp)), x5, none, some (.v (stD places)), some (.v (qD (facV vals places gp))), none, none, none]) ∧ Bd (1728 ^ 2) (125 ^ 2) (facV vals places gp) := by
  obtain ⟨pl, ns, hns, nl, nle⟩ := kg_mem gp places hp
  have len : (vals.zip (places.zip gp)).length = nf := by simp [hv, pl, hg.len]
  have nlf : ns.length = nf := by rw [nl, hg.len]
  have plf : places.length = nf := by rw [pl, hg.len]
  have := forL_foldI (c := ⟨m.call (k + 5), m.glob⟩) (g := .tup [.nm 9, .nm 10, .nm 11]) (b := f_grid_factors_b1) (enc := fun p : Rat × Rat × Nat => D.tup [qD p.1, qD p.2.1, .int p.2.2]) (l := vals.zip (places.zip gp)) (i := 0) (s := (1 : Rat))
    (τ := fun f => [x0, none, x2, some (.v (stD vals)), some (.v (natsD gp)), x5, none, some (.v (stD places)), some (.v (qD f)), none, none, none]) (step := fun f p => f * shareV p.1 p.2.1.num.toNat p.2.2)
    (P := fun j f => Bd (1728 ^ j) (125 ^ j) f) (Bd.one (by decide) (by decide)) fun j hj f hf' => by
    rw [Nat.zero_add] at hf' ⊢
    have hj' := hj
    rw [len] at hj
    have ej : (vals.zip (places.zip gp))[j] = (vals[j]'(by omega), places[j]'(by omega), gp[j]'(by rw [hg.len]; omega)) := by simp
    have pj : places[j]'(by omega) = ((ns[j]'(by omega) : Nat) : Rat) := by simp [hns]
    have hb := hvb _ (List.getElem_mem (show j < vals.length by omega))
    have hn := nle j (by omega) (by rw [hg.len]; omega)
    have hg2 := hg.le _ (List.getElem_mem (show j < gp.length by rw [hg.len]; omega))
    rw [ej, pj]
    generalize vals[j]'(by omega) = v at hb
    generalize ns[j]'(by omega) = a at hn
    generalize gp[j]'(by rw [hg.len]; omega) = most at hn hg2
    obtain ⟨e1, e2⟩ := share_ok (k := k) h hb hn hg2
    have j2 : j = 0 ∨ j = 1 := by omega
    have ff : Fit f := by rcases j2 with rfl | rfl <;> exact hf'.fit (by decide +kernel) (by decide +kernel)
    have fs := e2.fit (by decide +kernel) (by decide +kernel)
    have et := times_ok (k := k + 2) h.toHasFr ff fs
    have nb := hf'.mul e2
    rw [← Nat.pow_succ, ← Nat.pow_succ] at nb
    have tn : ((a : Rat)).num.toNat = a := by simp
    refine ⟨?_, by rw [tn]; exact nb⟩
    simp [turnM, f_grid_factors_b1, e1, et]
  obtain ⟨e1, e2⟩ := this
  rw [len, Nat.zero_add] at e2
  refine ⟨?_, e2.up (Nat.pow_dvd_pow _ hf) (by decide) (Nat.pow_le_pow_right (by decide) hf)⟩
  rw [zip3D_map]
  exact e1
theorem grid_factors_ok (h : HasGr m) (ok : OkPg P) {r : Rw} (hr : OkRw P r) : m.call (k + 6) "grid_factors" [pgD P, rwD r] = pure (stD (gfV r.2 (gpV (kindOf P r.1)))) ∧ ∀ q ∈ gfV r.2 (gpV (kindOf P r.1)), Bd (1728 ^ 2) (125 ^ 2) q := by
  obtain ⟨h1, h2, h3, h4⟩ := hr.kind ok
  have kd := ok.kd _ h1
  have gpo := gp_ok kd
  have fl := kd.fl
  have eg := greatest_powers_ok (k := k + 2) h ok h1
  have ek := kind_grid_ok (k := k + 1) h ok h1
  rw [h2] at eg ek
  have k9 : (kgV (gpV (kindOf P r.1))).length ≤ 9 := Nat.le_trans (kg_len _ gpo.le) (by rw [gpo.len]; exact Nat.pow_le_pow_right (by decide) fl)
  have fi := fun places (hp : places ∈ kgV (gpV (kindOf P r.1))) (x0 x2 x5 : Option Sl) => fac_inner (k := k) h fl h4 hr.bd gpo hp (x0 := x0) (x2 := x2) (x5 := x5)
  constructor
  · have := forL_idx (c := ⟨m.call (k + 5), m.glob⟩) (g := .tup [.nm 6, .nm 7]) (b := f_grid_factors_b2) (enc := fun v : List Rat => rwD (r.1, v)) (l := kgV (gpV (kindOf P r.1)))
      (τ := fun j => [some (.v (pgD P)), none, some (.v (.str r.1)), some (.v (stD r.2)), some (.v (natsD (gpV (kindOf P r.1)))), some (.ol (((kgV (gpV (kindOf P r.1))).map fun v => qD (facV r.2 v (gpV (kindOf P r.1)))).take j)), none, none, none, none, none, none]) fun j hj => by
      rw [List.take_succ_eq_append_getElem (by simpa using hj), List.getElem_map]
      have hp := List.getElem_mem hj
      have hlen : (((kgV (gpV (kindOf P r.1))).map fun v => qD (facV r.2 v (gpV (kindOf P r.1)))).take j).length < 1000000 := by simp; omega
      generalize (((kgV (gpV (kindOf P r.1))).map fun v => qD (facV r.2 v (gpV (kindOf P r.1)))).take j) = acc at *
      have e1 := (fi _ hp (some (.v (pgD P))) (some (.v (.str r.1))) (some (.ol acc))).1
      generalize (kgV (gpV (kindOf P r.1)))[j] = places at *
      simp [turnM, f_grid_factors_b2, h.ONE, e1, hlen]
    rw [List.take_zero, ← List.length_map (as := kgV (gpV (kindOf P r.1))) (f := fun v => qD (facV r.2 v (gpV (kindOf P r.1)))), List.take_length] at this
    rw [call_run h.grid_factors rfl]
    simp [f_grid_factors, eg, ek, this]
    simp [stD, gfV, Function.comp_def]
  · intro q hq
    obtain ⟨places, hp, rfl⟩ := List.mem_map.mp hq
    exact (fi places hp none none none).2
end
end Cl.Pl

set_option Elab.async false
set_option linter.all false
/-! PlQ: matrices, by the law. -/
namespace Cl.Pl
open PySem

/- _law_sum: some found one -/
def f__law_sum_b1 : List Sm := [.asg (.nm 1) (.call "_law_add" [(.var 1), (.var 2)]),
    .kil [2]]
def f__law_sum : Fn := ⟨1, 3, [.asg (.nm 1) (.tup [(.con (.int 0)), (.con (.int 1))]),
    .for_ (.nm 2) (.var 0) f__law_sum_b1,
    .ret (.var 1)]⟩
/- _law_poly_at: poly values found powers one value n -/
def f__law_poly_at_b1 : List Sm := [.asg (.nm 4) (.call "_law_mul" [(.var 4), (.call "_law_pow" [(.var 5), (.var 6)])]),
    .kil [5, 6]]
def f__law_poly_at_b2 : List Sm := [.kil [5, 6],
    .for_ (.tup [(.nm 5), (.nm 6)]) (.zip (.var 1) (.var 3)) f__law_poly_at_b1,
    .asg (.nm 2) (.call "_law_add" [(.var 2), (.var 4)]),
    .kil [3, 4, 5, 6]]
def f__law_poly_at : Fn := ⟨2, 7, [.asg (.nm 2) (.tup [(.con (.int 0)), (.con (.int 1))]),
    .for_ (.tup [(.nm 3), (.nm 4)]) (.var 0) f__law_poly_at_b2,
    .ret (.var 2)]⟩
/- _law_matrix: program row names found turn cells number powers fraction one value n k name begin -/
def f__law_matrix_b1 : List Sm := [.asg (.nm 9) (.call "_law_mul" [(.var 9), (.call "_law_pow" [(.var 10), (.var 11)])]),
    .kil [10, 11]]
def f__law_matrix_b2 : List Sm := [.asg (.nm 9) (.var 8),
    .kil [8, 10, 11, 12],
    .for_ (.tup [(.nm 10), (.nm 11)]) (.zip (.idx (.var 1) (.con (.int 1))) (.var 7)) f__law_matrix_b1,
    .asg (.nm 12) (.indexOf (.var 2) (.var 6)),
    .set (.var 5) (.var 12) (.call "_law_add" [(.idx (.var 5) (.var 12)), (.var 9)]),
    .kil [6, 7, 8, 9, 10, 11, 12]]
def f__law_matrix_b3 : List Sm := [.own 5 (.bin .Mult (.lst [(.tup [(.con (.int 0)), (.con (.int 1))])]) (.bi .len [(.var 2)])),
    .kil [6, 7, 8, 9, 10, 11, 12],
    .for_ (.tup [(.nm 6), (.nm 7), (.nm 8)]) (.var 4) f__law_matrix_b2,
    .app 3 (.bi .tuple [(.var 5)]),
    .kil [4, 5, 6, 7, 8, 9, 10, 11, 12]]
def f__law_matrix : Fn := ⟨2, 15, [.asg (.nm 2) (.bin .Add (.lst [(.con (.str ""))]) (.comp [13, 14] (.var 13) (.tup [(.nm 13), (.nm 14)]) (.idx (.var 0) (.con (.int 0))) [])),
    .own 3 (.lst [(.bi .tuple [(.bin .Add (.lst [(.tup [(.con (.int 1)), (.con (.int 1))])]) (.bin .Mult (.lst [(.tup [(.con (.int 0)), (.con (.int 1))])]) (.bin .Sub (.bi .len [(.var 2)]) (.con (.int 1)))))])]),
    .for_ (.nm 4) (.idx (.call "_law_kind" [(.var 0), (.idx (.var 1) (.con (.int 0)))]) (.con (.int 2))) f__law_matrix_b3,
    .ret (.bi .tuple [(.var 3)])]⟩
/- _law_times: one other many row j k -/
def f__law_times : Fn := ⟨2, 6, [.asg (.nm 2) (.ite (.cmp .NotEq (.var 1) (.tup [])) (.bi .len [(.idx (.var 1) (.con (.int 0)))]) (.con (.int 0))),
    .ret (.bi .tuple [(.comp [3] (.bi .tuple [(.comp [4] (.call "_law_sum" [(.comp [5] (.call "_law_mul" [(.idx (.var 3) (.var 5)), (.idx (.idx (.var 1) (.var 5)) (.var 4))]) (.nm 5) (.rng [(.bi .len [(.var 1)])]) [])]) (.nm 4) (.rng [(.var 2)]) [])]) (.nm 3) (.var 0) [])])]⟩
/- _law_identity: n i j -/
def f__law_identity : Fn := ⟨1, 3, [.ret (.bi .tuple [(.comp [1] (.bi .tuple [(.comp [2] (.tup [(.bi .int [(.cmp .Eq (.var 1) (.var 2))]), (.con (.int 1))]) (.nm 2) (.rng [(.var 0)]) [])]) (.nm 1) (.rng [(.var 0)]) [])])]⟩
/- _law_stretch_matrix: program stretch found row -/
def f__law_stretch_matrix_b1 : List Sm := [.asg (.nm 2) (.call "_law_times" [(.call "_law_matrix" [(.var 0), (.var 3)]), (.var 2)]),
    .kil [3]]
def f__law_stretch_matrix : Fn := ⟨2, 4, [.asg (.nm 2) (.call "_law_identity" [(.bin .Add (.bi .len [(.idx (.var 0) (.con (.int 0)))]) (.con (.int 1)))]),
    .for_ (.nm 3) (.var 1) f__law_stretch_matrix_b1,
    .ret (.var 2)]⟩
/- _law_flat: matrix found row -/
def f__law_flat_b1 : List Sm := [.asg (.nm 1) (.bin .Add (.var 1) (.var 2)),
    .kil [2]]
def f__law_flat : Fn := ⟨1, 3, [.asg (.nm 1) (.tup []),
    .for_ (.nm 2) (.var 0) f__law_flat_b1,
    .ret (.var 1)]⟩
structure HasLMx (m : Mo) : Prop extends HasLSt m where
  sum : m.defs "_law_sum" = some f__law_sum
  l_poly_at : m.defs "_law_poly_at" = some f__law_poly_at
  matrix : m.defs "_law_matrix" = some f__law_matrix
  l_times : m.defs "_law_times" = some f__law_times
  l_identity : m.defs "_law_identity" = some f__law_identity
  l_stretch_matrix : m.defs "_law_stretch_matrix" = some f__law_stretch_matrix
  flat : m.defs "_law_flat" = some f__law_flat
@[simp] theorem place_nat {n i : Nat} (h : i < n) : place? n (i : Int) = some i := by unfold place?; simp [h]
/-! ### comparing matrices -/
def rowP (r : List Rat) : PyData := .tuple (r.map fun q => PyData.tuple [.int q.num, .int q.den])
theorem mx_py : ∀ A : Mx, D.pys (A.map stD) = some (A.map rowP)
  | [] => rfl
  | r :: A => by rw [List.map_cons, D.pys, mx_py A]; unfold stD; rw [D.py, qs_py]; rfl
theorem mx_lay : ∀ A : Mx, PyData.canLayAll0 (A.map rowP) = true ∧ PyData.depthAll (A.map rowP) ≤ 2
  | [] => ⟨rfl, Nat.zero_le _⟩
  | r :: A => by
    obtain ⟨h1, h2⟩ := mx_lay A
    obtain ⟨h3, h4⟩ := qs_lay r
    rw [List.map_cons]
    refine ⟨by simp [PyData.canLayAll0, PyData.canLay0, rowP, h1, h3], ?_⟩
    rw [PyData.depthAll, rowP, PyData.depth]
    omega
theorem mx_eqv : ∀ A B : Mx, PyData.eqvAll (A.map rowP) (B.map rowP) = decide (A = B)
  | [], [] => rfl
  | [], _ :: _ => by simp [PyData.eqvAll]
  | _ :: _, [] => by simp [PyData.eqvAll]
  | r :: A, s :: B => by
    rw [List.map_cons, List.map_cons, PyData.eqvAll, mx_eqv A B]
    simp only [rowP, PyData.eqv, qs_eqv]
    rw [Bool.eq_iff_iff]
    simp
@[simp] theorem mx_deq (A B : Mx) : deq (mxD A) (mxD B) = some (decide (A = B)) := by
  unfold deq mxD
  simp only [D.py, mx_py, Option.map]
  have h1 := (mx_lay A).2
  have h2 := (mx_lay B).2
  rw [if_pos ⟨by unfold SeqAt.shaped; simp [PyData.canLay0, PyData.depth, (mx_lay A).1]; omega, by unfold SeqAt.shaped; simp [PyData.canLay0, PyData.depth, (mx_lay B).1]; omega⟩]
  simp only [PyData.eqv, mx_eqv]
/-! ### a list's index -/
theorem strs_py : ∀ l : List Str, D.pys (l.map D.str) = some (l.map PyData.str)
  | [] => rfl
  | x :: l => by rw [List.map_cons, D.pys, strs_py l]; rfl
theorem strs_lay : ∀ l : List Str, (∀ x ∈ l, PyData.strOk x = true) → PyData.canLayAll0 (l.map PyData.str) = true ∧ PyData.depthAll (l.map PyData.str) = 0
  | [], _ => ⟨rfl, rfl⟩
  | x :: l, h => by
    obtain ⟨h1, h2⟩ := strs_lay l fun x hx => h x (List.mem_cons_of_mem _ hx)
    rw [List.map_cons]
    exact ⟨by simp [PyData.canLayAll0, PyData.canLay0, h1, h x (List.mem_cons_self ..)], by rw [PyData.depthAll, h2]; rfl⟩
theorem index_names {l : List Str} {x : Str} (hx : x ∈ l) (h : ∀ x ∈ l, PyData.strOk x = true) : indexD (.lst (l.map D.str)) (.str x) = some (.int (l.idxOf x : Nat)) := by
  unfold indexD
  obtain ⟨h1, h2⟩ := strs_lay l h
  simp only [D.py, strs_py, Option.map_some]
  rw [if_pos ⟨by unfold SeqAt.shaped; simp [PyData.canLay0, PyData.depth, h1, h2], by unfold SeqAt.shaped; simp [PyData.canLay0, PyData.depth, h x hx]⟩]
  have : (l.map PyData.str).findIdx? (fun z => PyData.eqv z (.str x)) = some (l.idxOf x) := by
    rw [List.findIdx?_map, List.findIdx?_eq_some_iff_findIdx_eq]
    refine ⟨List.idxOf_lt_length_iff.mpr hx, ?_⟩
    rfl
  rw [this]
  rfl
theorem set_idx {α β : Type} [DecidableEq α] {f : α → β} {y : β} {x0 : α} : ∀ {l : List α}, l.Nodup → x0 ∈ l → (l.map f).set (l.idxOf x0) y = l.map fun x => if x = x0 then y else f x
  | [], _, h => by cases h
  | a :: l, nd, h => by
    rw [List.nodup_cons] at nd
    rw [List.idxOf_cons]
    by_cases e : a = x0
    · subst e
      simp only [beq_self_eq_true, cond_true, List.map_cons, List.set_cons_zero, if_true]
      congr 1
      apply List.map_congr_left
      intro x hx
      rw [if_neg (fun z => nd.1 (by rw [← z]; exact hx))]
    · have hx : x0 ∈ l := (List.mem_cons.mp h).resolve_left fun z => e z.symm
      have : (a == x0) = false := by simpa using e
      rw [this, cond_false, List.map_cons, List.set_cons_succ, set_idx nd.2 hx, List.map_cons, if_neg e]
theorem get_idx {α β : Type} [DecidableEq α] {f : α → β} {x0 : α} {l : List α} (h : x0 ∈ l) : (l.map f)[l.idxOf x0]? = some (f x0) := by
  rw [List.getElem?_map, List.getElem?_eq_getElem (List.idxOf_lt_length_iff.mpr h), List.getElem_idxOf]; rfl
theorem termsOf_take (ts : List Tm) (x : Str) {j : Nat} (h : j < ts.length) : termsOf (ts.take (j + 1)) x = if ts[j].n = x then termsOf (ts.take j) x ++ [(ts[j].pw, ts[j].q)] else termsOf (ts.take j) x := by
  unfold termsOf
  rw [List.take_succ_eq_append_getElem h, List.filter_append, List.map_append]
  split
  · rw [List.filter_cons_of_pos (by simpa using ‹_›)]; rfl
  · rw [List.filter_cons_of_neg (by simpa using ‹_›)]; simp
theorem polyAt_append (vals : List Rat) (p : Poly) (t : List Nat × Rat) : polyAt vals (p ++ [t]) = polyAt vals p + pvV vals t := by unfold polyAt; rw [List.foldl_append]; rfl
section
variable {m : Mo} {k : Nat} {P : Pg} {A B : Mx} {n : Nat} {vals : List Rat} {E N Dv Nv nf L : Nat}
def sumV (l : List Rat) : Rat := l.foldl (fun s q => s + q) 0
theorem law_sum_ok (h : HasLMx m) {l : List Rat} (hb : ∀ q ∈ l, Bd E N q) (hE : 0 < E) (h1 : E.log2 < 1900) (h2 : (L * N * E).log2 < 1900) (hl : l.length ≤ L) : m.call (k + 4) "_law_sum" [.lst (l.map qD)] = pure (qD (sumV l)) ∧ Bd E (L * N) (sumV l) := by
  have := forL_foldI (c := ⟨m.call (k + 3), m.glob⟩) (g := .nm 2) (b := f__law_sum_b1) (enc := qD) (l := l) (i := 0) (s := (0 : Rat))
    (τ := fun s => [some (.v (.lst (l.map qD))), some (.v (qD s)), none]) (step := fun s q => s + q) (P := fun j s => Bd E (j * N) s) (Bd.zero hE) fun j hj s hs => by
    have hq := hb _ (List.getElem_mem hj)
    have nb := hs.add hq
    rw [← Nat.succ_mul] at nb
    refine ⟨?_, nb⟩
    have L0 : (0 + j) * N * E ≤ L * N * E := Nat.mul_le_mul_right _ (Nat.mul_le_mul_right _ (by omega))
    have L1 : N * E ≤ L * N * E := Nat.mul_le_mul_right _ (Nat.le_mul_of_pos_left _ (by omega))
    have fs := hs.fit h1 (Nat.lt_of_le_of_lt (log2_mono L0) h2)
    have fq := hq.fit h1 (Nat.lt_of_le_of_lt (log2_mono L1) h2)
    generalize l[j] = q at *
    simp [turnM, f__law_sum_b1, ladd_ok (k := k) h.toHasLFr fs fq]
  obtain ⟨e1, e2⟩ := this
  rw [Nat.zero_add] at e2
  refine ⟨?_, e2.up (Nat.dvd_refl _) hE (Nat.mul_le_mul_right _ hl)⟩
  rw [call_run h.sum rfl]
  simp [f__law_sum, e1, sumV]
theorem law_identity_ok (h : HasLMx m) (hn : n ≤ 1000) : m.call (k + 1) "_law_identity" [.int n] = pure (mxD (idV n)) := by
  rw [call_run h.l_identity rfl]
  simp [f__law_identity]
  rw [rng1 (by omega)]
  simp only [lift_some, pure_bind]
  rw [liml_ok (by simp; omega), compL_map (f := fun i : Nat => stD ((List.range n).map fun j => if i = j then (1 : Rat) else 0))]
  · simp [mxD, idV, Function.comp_def]
  · intro i hi
    simp
    rw [rng1 (by omega)]
    simp only [lift_some, pure_bind]
    rw [liml_ok (by simp; omega), compL_map (f := fun j : Nat => qD (if i = j then (1 : Rat) else 0))]
    · simp [stD, Function.comp_def]
    · intro j hj
      by_cases e : i = j
      · simp [e]
      · have e3 : ¬ ((i : Int) = j) := by omega
        simp [e, e3]
theorem dot_range {r : List Rat} (hr : r.length = n) (hB : Sq n B) {j : Nat} : sumV ((List.range n).map fun k => gq r k * gq (gr B k) j) = dotV r (B.map fun row => gq row j) := by
  have e : (r.zip (B.map fun row => gq row j)).map (fun p => p.1 * p.2) = (List.range n).map fun k => gq r k * gq (gr B k) j := by
    apply List.ext_getElem
    · simp [hr, hB.1]
    · intro i h1 h2
      simp at h1 h2
      simp only [List.getElem_map, List.getElem_zip, List.getElem_range]
      have q1 : gq r i = r[i]'(by omega) := gq_eq (by omega)
      have q2 : gr B i = B[i]'(by rw [hB.1]; omega) := gr_eq (by rw [hB.1]; omega)
      rw [q1, q2]
  rw [← e]
  unfold sumV dotV
  rw [List.foldl_map]
theorem law_times_ok (h : HasLMx m) {E' N' : Nat} (z : DB E N E' N' n) (hA : Sq n A) (hB : Sq n B) (h0 : 0 < n) (hn : n ≤ 1000) (ha : MB E N A) (hb : MB E' N' B) : m.call (k + 5) "_law_times" [mxD A, mxD B] = pure (mxD (mulV n A B)) := by
  have hBne : ¬ B = [] := fun e => by have := hB.1; rw [e] at this; simp at this; omega
  have e0 : idxD (mxD B) (.int 0) = some (stD (B[0]'(by rw [hB.1]; exact h0))) := by
    unfold mxD
    rw [idx_tup, item_0, List.getElem?_map, List.getElem?_eq_getElem (by rw [hB.1]; exact h0)]; rfl
  have e1 : (B[0]'(by rw [hB.1]; exact h0)).length = n := hB.2 _ (List.getElem_mem _)
  have en : deq (mxD B) (.tup []) = some (decide (B = [])) := mx_deq B []
  rw [call_run h.l_times rfl]
  simp [f__law_times, en, hBne, e0, e1]
  rw [liml_ok (by simp; rw [hA.1]; omega), compL_map (f := fun r : List Rat => stD ((colsV n B).map fun c => dotV r c))]
  · simp [mxD, mulV, Function.comp_def]
  · intro r hr
    have hrl := hA.2 r hr
    simp
    rw [rng1 (by omega)]
    simp only [lift_some, pure_bind]
    rw [liml_ok (by simp; omega), compL_map (f := fun j : Nat => qD (dotV r (B.map fun row => gq row j)))]
    · simp [stD, colsV, Function.comp_def]
    · intro j hj
      have hj := List.mem_range.mp hj
      simp
      rw [rng1 (by rw [hB.1]; omega)]
      simp only [lift_some, pure_bind]
      have cell : ∀ i, i < n → ∃ (h1 : i < r.length) (h2 : i < B.length) (h3 : j < B[i].length), True := fun i hi => ⟨by omega, by rw [hB.1]; exact hi, by rw [hB.2 _ (List.getElem_mem _)]; exact hj, trivial⟩
      have bq : ∀ i ∈ List.range B.length, Bd E N (gq r i) ∧ Bd E' N' (gq (gr B i) j) ∧ idxD (stD r) (.int (i : Int)) = some (qD (gq r i)) ∧ idxD (mxD B) (.int (i : Int)) = some (stD (gr B i)) ∧ idxD (stD (gr B i)) (.int (j : Int)) = some (qD (gq (gr B i) j)) := fun i hi => by
        have hi := List.mem_range.mp hi
        rw [hB.1] at hi
        obtain ⟨h1, h2, h3, _⟩ := cell i hi
        have q1 : gq r i = r[i] := gq_eq h1
        have q2 : gr B i = B[i] := gr_eq h2
        have q3 : gq B[i] j = B[i][j] := gq_eq h3
        rw [q1, q2, q3]
        refine ⟨ha r hr _ (List.getElem_mem _), hb _ (List.getElem_mem h2) _ (List.getElem_mem _), ?_, ?_, ?_⟩
        · unfold stD; rw [idx_tup, item_at (by simpa using h1), List.getElem_map]
        · unfold mxD; rw [idx_tup, item_at (by simpa using h2), List.getElem_map]
        · unfold stD; rw [idx_tup, item_at (by simpa using h3), List.getElem_map]
      have EE := Nat.mul_pos z.e.1 z.e'.1
      have L1 : (N * N') * (E * E') ≤ n * (N * N') * (E * E') := Nat.mul_le_mul_right _ (Nat.le_mul_of_pos_left _ h0)
      have lN := Nat.lt_of_le_of_lt (log2_mono L1) z.ln
      rw [liml_ok (by simp; rw [hB.1]; omega), compL_map (f := fun i : Nat => qD (gq r i * gq (gr B i) j))]
      · have bl : ∀ q ∈ (List.range n).map (fun i => gq r i * gq (gr B i) j), Bd (E * E') (N * N') q := fun q hq => by
          obtain ⟨i, hi, rfl⟩ := List.mem_map.mp hq
          rw [← hB.1] at hi
          obtain ⟨b1, b2, _⟩ := bq i hi
          exact b1.mul b2
        obtain ⟨s1, _⟩ := law_sum_ok (k := k) h bl EE z.le z.ln (by simp)
        rw [dot_range hrl hB] at s1
        rw [List.map_map] at s1
        simp only [Function.comp_def] at s1
        simp [hB.1, s1]
      · intro i hi
        obtain ⟨b1, b2, i1, i2, i3⟩ := bq i hi
        have fx := (b1.up (D' := E * E') (N' := N * N') (Nat.dvd_mul_right ..) EE (Nat.le_mul_of_pos_right _ z.e'.2)).fit z.le lN
        have fy := (b2.up (D' := E * E') (N' := N * N') (Nat.dvd_mul_left ..) EE (Nat.le_mul_of_pos_left _ z.e.2)).fit z.le lN
        simp [i1, i2, i3, lmul_ok (k := k + 1) h.toHasLFr fx fy]
end
end Cl.Pl

set_option Elab.async false
set_option linter.all false
/-! PlR: the law's matrices of rows. -/
namespace Cl.Pl
open PySem

section
variable {m : Mo} {k : Nat} {P : Pg} {vals : List Rat} {E N Dv Nv nf L : Nat}
/-- the products of a term, in the law's matrix -/
theorem lm_b1 (h : HasLMx m) {c : Cfg} (hc : c = ⟨m.call (k + 4), m.glob⟩) (z : PB E N Dv Nv nf L) (hL : 1 ≤ L) {r : Rw} (hvl : r.2.length = nf) {t : List Nat × Rat} (ht : PtOk nf E N t) (hv : ∀ x ∈ r.2, Bd Dv Nv x) {x0 x2 x3 x4 x5 x6 : Option Sl} :
    forL c (.tup [.nm 10, .nm 11]) f__law_matrix_b1 ((r.2.zip t.1).map fun x => .tup [qD x.1, .int x.2]) [x0, some (.v (rwD r)), x2, x3, x4, x5, x6, some (.v (pwD t.1)), none, some (.v (qD t.2)), none, none, none, none, none] =
      pure (.nx [x0, some (.v (rwD r)), x2, x3, x4, x5, x6, some (.v (pwD t.1)), none, some (.v (qD (pvV r.2 t))), none, none, none, none, none]) := by
  have len : (r.2.zip t.1).length = nf := by rw [List.length_zip, hvl, ht.pl, Nat.min_self]
  have lN := Nat.lt_of_le_of_lt (log2_mono (show (N * (Nv ^ 2) ^ nf) * (E * (Dv ^ 2) ^ nf) ≤ L * (N * (Nv ^ 2) ^ nf) * (E * (Dv ^ 2) ^ nf) from Nat.mul_le_mul_right _ (Nat.le_mul_of_pos_left _ (by omega)))) z.ln
  have up : ∀ j, j ≤ nf → ∀ q, Bd (E * (Dv ^ 2) ^ j) (N * (Nv ^ 2) ^ j) q → Fit q := fun j hj q hq => by
    refine (hq.up (D' := E * (Dv ^ 2) ^ nf) (N' := N * (Nv ^ 2) ^ nf) ?_ ?_ ?_).fit z.ld lN
    · exact Nat.mul_dvd_mul_left _ (Nat.pow_dvd_pow _ hj)
    · exact Nat.mul_pos z.e.1 (Nat.pow_pos (Nat.pow_pos z.v.1))
    · exact Nat.mul_le_mul_left _ (Nat.pow_le_pow_right (Nat.pow_pos z.v.2) hj)
  have := forL_foldI (c := c) (g := .tup [.nm 10, .nm 11]) (b := f__law_matrix_b1) (enc := fun x : Rat × Nat => D.tup [qD x.1, .int x.2]) (l := r.2.zip t.1) (i := 0) (s := t.2)
    (τ := fun s => [x0, some (.v (rwD r)), x2, x3, x4, x5, x6, some (.v (pwD t.1)), none, some (.v (qD s)), none, none, none, none, none]) (step := fun x (vn : Rat × Nat) => x * vn.1 ^ vn.2)
    (P := fun j s => Bd (E * (Dv ^ 2) ^ j) (N * (Nv ^ 2) ^ j) s) (by simpa using ht.bd) fun j hj s hs => by
    have hx : (r.2.zip t.1)[j].1 ∈ r.2 ∧ (r.2.zip t.1)[j].2 ∈ t.1 := List.of_mem_zip (List.getElem_mem hj)
    have hp := ht.pw _ hx.2
    have hvb := hv _ hx.1
    rw [len] at hj
    have fs := up (0 + j) (by omega) s hs
    have pb : ∀ i, i ≤ 2 → Bd (Dv ^ 2) (Nv ^ 2) ((r.2.zip t.1)[j].1 ^ i) := fun i hi => hvb.powLe hi z.v.2
    have fp : ∀ i, i ≤ (r.2.zip t.1)[j].2 → Fit ((r.2.zip t.1)[j].1 ^ i) := fun i hi => up 1 (by omega) _ ((pb i (by omega)).up (by rw [Nat.pow_one]; exact Nat.dvd_mul_left ..) (Nat.mul_pos z.e.1 (by rw [Nat.pow_one]; exact Nat.pow_pos z.v.1)) (by rw [Nat.pow_one]; exact Nat.le_mul_of_pos_left _ z.e.2))
    constructor
    · subst hc
      simp only [turnM, f__law_matrix_b1]
      have e1 := lpow_ok (k := k) h.toHasLFr (q := (r.2.zip t.1)[j].1) (n := (r.2.zip t.1)[j].2) (by omega) fp
      have e2 := lmul_ok (k := k + 1) h.toHasLFr fs (fp _ (Nat.le_refl _))
      generalize (r.2.zip t.1)[j] = vn at *
      simp [e1, e2]
    · have := hs.mul (pb _ hp)
      rwa [Nat.mul_assoc, Nat.mul_assoc, ← Nat.pow_succ, ← Nat.pow_succ] at this
  exact this.1
/-- a turn's cells -/
theorem lm_b2 (h : HasLMx m) {c : Cfg} (hc : c = ⟨m.call (k + 4), m.glob⟩) {names : List Str} (hn : okNames names) {r : Rw} (hvl : r.2.length = nf) (hf : nf ≤ 2) {ts : List Tm} (hts : OkSum names nf 3 ts) (hv : ∀ x ∈ r.2, Bd 6 3 x) {x0 x3 : Option Sl} :
    forL c (.tup [.nm 6, .nm 7, .nm 8]) f__law_matrix_b2 (ts.map tmD) [x0, some (.v (rwD r)), some (.v (.lst ((("" : Str) :: names).map D.str))), x3, some (.v (sumD ts)), some (.ol ((("" : Str) :: names).map fun x => qD (polyAt r.2 (termsOf [] x)))), none, none, none, none, none, none, none, none, none] =
      pure (.nx [x0, some (.v (rwD r)), some (.v (.lst ((("" : Str) :: names).map D.str))), x3, some (.v (sumD ts)), some (.ol ((("" : Str) :: names).map fun x => qD (polyAt r.2 (termsOf ts x)))), none, none, none, none, none, none, none, none, none]) := by
  have nd : (("" : Str) :: names).Nodup := List.nodup_cons.mpr ⟨hn.2.2, hn.1⟩
  have so : ∀ x ∈ (("" : Str) :: names), PyData.strOk x = true := fun x hx => by
    rcases List.mem_cons.mp hx with rfl | hx
    · decide +kernel
    · exact hn.2.1 _ hx
  have z := row_pb hf
  have DN := Nat.mul_pos z.e.1 (Nat.pow_pos (n := nf) (Nat.pow_pos (n := 2) z.v.1))
  have := forL_idx (c := c) (g := .tup [.nm 6, .nm 7, .nm 8]) (b := f__law_matrix_b2) (enc := tmD) (l := ts)
    (τ := fun j => [x0, some (.v (rwD r)), some (.v (.lst ((("" : Str) :: names).map D.str))), x3, some (.v (sumD ts)), some (.ol ((("" : Str) :: names).map fun x => qD (polyAt r.2 (termsOf (ts.take j) x)))), none, none, none, none, none, none, none, none, none]) fun j hj => by
    have hmem := List.getElem_mem hj
    have htm : ts[j].n ∈ (("" : Str) :: names) := by
      rcases hts.n _ hmem with e | e
      · rw [e]; exact List.mem_cons_self ..
      · exact List.mem_cons_of_mem _ e
    have hpt : PtOk nf 2 2 (ts[j].pw, ts[j].q) := ⟨hts.pl _ hmem, hts.pw _ hmem, (hts.nn _ hmem).bd⟩
    have b1 := lm_b1 (k := k) h hc z (by decide) hvl hpt hv (x0 := x0) (x2 := some (.v (.lst ((("" : Str) :: names).map D.str)))) (x3 := x3) (x4 := some (.v (sumD ts))) (x5 := some (.ol ((("" : Str) :: names).map fun x => qD (polyAt r.2 (termsOf (ts.take j) x))))) (x6 := some (.v (.str ts[j].n)))
    have ei := index_names htm so
    have gi := get_idx (f := fun x => qD (polyAt r.2 (termsOf (ts.take j) x))) htm
    have tb := pv_bd z hvl hpt hv
    -- the sum so far
    have pb : Bd (2 * (6 ^ 2) ^ nf) (3 * (2 * (3 ^ 2) ^ nf)) (polyAt r.2 (termsOf (ts.take j) ts[j].n)) := by
      have hp : ∀ t ∈ termsOf (ts.take j) ts[j].n, PtOk nf 2 2 t := fun t ht => by
        obtain ⟨t', ht', rfl⟩ := List.mem_map.mp ht
        have ht' := List.mem_of_mem_take (List.mem_filter.mp ht').1
        exact ⟨hts.pl t' ht', hts.pw t' ht', (hts.nn t' ht').bd⟩
      have hl : (termsOf (ts.take j) ts[j].n).length ≤ 3 := Nat.le_trans (terms_len ..) (by simp; have := hts.len; omega)
      have key : ∀ (p : Poly) (s : Rat) (i : Nat), (∀ t ∈ p, PtOk nf 2 2 t) → Bd (2 * (6 ^ 2) ^ nf) (i * (2 * (3 ^ 2) ^ nf)) s → Bd (2 * (6 ^ 2) ^ nf) ((i + p.length) * (2 * (3 ^ 2) ^ nf)) (p.foldl (fun f t => f + pvV r.2 t) s) := by
        intro p
        induction p with
        | nil => intro s i _ hs; exact hs
        | cons t p ih =>
          intro s i hp hs
          have nb := hs.add (pv_bd z hvl (hp t (List.mem_cons_self ..)) hv)
          rw [← Nat.succ_mul] at nb
          have := ih (s + pvV r.2 t) (i + 1) (fun t ht => hp t (List.mem_cons_of_mem _ ht)) nb
          rw [List.foldl_cons, List.length_cons, show i + (p.length + 1) = i + 1 + p.length by omega]
          exact this
      have := key _ 0 0 hp (Bd.zero DN)
      rw [Nat.zero_add] at this
      exact this.up (Nat.dvd_refl _) DN (Nat.mul_le_mul_right _ hl)
    have fp := pb.fit z.ld z.ln
    have lN := Nat.lt_of_le_of_lt (log2_mono (show (2 * (3 ^ 2) ^ nf) * (2 * (6 ^ 2) ^ nf) ≤ 3 * (2 * (3 ^ 2) ^ nf) * (2 * (6 ^ 2) ^ nf) from Nat.mul_le_mul_right _ (Nat.le_mul_of_pos_left _ (by decide)))) z.ln
    have ft := tb.fit z.ld lN
    have ea := ladd_ok (k := k + 1) h.toHasLFr fp ft
    have es := set_idx (f := fun x => qD (polyAt r.2 (termsOf (ts.take j) x))) (y := qD (polyAt r.2 (termsOf (ts.take j) ts[j].n) + pvV r.2 (ts[j].pw, ts[j].q))) nd htm
    have enew : ((("" : Str) :: names).map fun x => if x = ts[j].n then qD (polyAt r.2 (termsOf (ts.take j) ts[j].n) + pvV r.2 (ts[j].pw, ts[j].q)) else qD (polyAt r.2 (termsOf (ts.take j) x))) = (("" : Str) :: names).map fun x => qD (polyAt r.2 (termsOf (ts.take (j + 1)) x)) := by
      apply List.map_congr_left
      intro x _
      rw [termsOf_take ts x hj]
      by_cases e : x = ts[j].n
      · rw [if_pos e, if_pos e.symm, polyAt_append, e]
      · rw [if_neg e, if_neg (fun q => e q.symm)]
    rw [enew] at es
    have hil : (("" : Str) :: names).idxOf ts[j].n < ((("" : Str) :: names).map fun x => qD (polyAt r.2 (termsOf (ts.take j) x))).length := by rw [List.length_map]; exact List.idxOf_lt_length_iff.mpr htm
    have pl := place_nat hil
    have ii : item? ((("" : Str) :: names).map fun x => qD (polyAt r.2 (termsOf (ts.take j) x))) ((("" : Str) :: names).idxOf ts[j].n : Nat) = some (qD (polyAt r.2 (termsOf (ts.take j) ts[j].n))) := by
      rw [item_at hil, ← gi, List.getElem?_eq_getElem hil]
    generalize ((("" : Str) :: names).map fun x => qD (polyAt r.2 (termsOf (ts.take j) x))) = cells at *
    generalize ((("" : Str) :: names).map fun x => qD (polyAt r.2 (termsOf (ts.take (j + 1)) x))) = cells2 at *
    generalize (("" : Str) :: names).idxOf ts[j].n = i at *
    generalize (("" : Str) :: names).map D.str = nl at *
    generalize ts[j] = t at *
    subst hc
    simp [turnM, f__law_matrix_b2]
    rw [zipD_map, b1]
    simp only [pure_bind, seqK_nx, exs_cons, bind_assoc, ex_asg, ev_indexOf, of_v, ev_var, slot_b, slot_v, look_succ, look_zero, look_zero_ol, val_succ, val_zero, lift_some, ei, g_nm, put_succ, put_zero, ex_set, ev_call, evs_cons, evs_nil, ev_idx, of_s, slot_s, deref_lst, idx_lst, ii, List.cons_append, List.nil_append, ea, storeAt_var, at_succ, at_zero, storeK_ol, pl, ex_kil, exs_nil, wipe_cons, wipe_nil]
    rw [es]
  rw [List.take_length] at this
  exact this
theorem law_matrix_ok (h : HasLMx m) (hS : HasRm m) (ok : OkPg P) {r : Rw} (hr : OkRw P r) : m.call (k + 5) "_law_matrix" [pgD P, rwD r] = pure (mxD (rowM P r)) := by
  obtain ⟨h1, h2, h3, h4⟩ := hr.kind ok
  have kd := ok.kd _ h1
  have nl := ok.nml
  have okn := ok.okn
  have tl := kd.turns
  rw [List.length_map] at tl
  rw [call_run h.matrix rfl]
  simp [f__law_matrix]
  rw [liml_ok (by simp; omega), compL_map (f := fun x => .str x.1) (by intro x _; simp)]
  obtain ⟨names, hnm⟩ : ∃ names, names = P.nums.map (·.1) := ⟨_, rfl⟩
  have e0 : P.nums.map (fun x => D.str x.1) = names.map D.str := by rw [hnm, List.map_map]; rfl
  have nml : names.length = P.nums.length := by rw [hnm, List.length_map]
  have kdS := kd.sums
  have hrm : rowM P r = rmV names (kindOf P r.1) r.2 := by rw [hnm]; rfl
  rw [← hnm] at okn kdS
  rw [e0, hrm]
  have n6 : names.length ≤ 999999 := by omega
  have n7 : names.length ≤ 1000000 := by omega
  have n8 : (names.length : Int) ≤ 1000000 := by omega
  have rep : repL (names.length : Int) [qD 0] = List.replicate names.length (qD 0) := repL_one _ _
  have n9 : names.length + 1 ≤ 1000000 := by omega
  have n10 : (names.length : Int) + 1 ≤ 1000000 := by omega
  have n11 : (names.length : Int) ≤ 999999 := by omega
  have n12 : -1000000 ≤ (names.length : Int) + 1 := by omega
  simp [n6, n7, n8, rep, law_kind_ok (k := k + 3) h.toHasLSt ok hr]
  have := forL_idx (c := ⟨m.call (k + 4), m.glob⟩) (g := .nm 4) (b := f__law_matrix_b3) (enc := sumD) (l := (kindOf P r.1).turns)
    (τ := fun j => [some (.v (pgD P)), some (.v (rwD r)), some (.v (.lst ((("" : Str) :: names).map D.str))), some (.ol (.tup (qD 1 :: List.replicate names.length (qD 0)) :: (((kindOf P r.1).turns.map fun ts => D.tup ((("" : Str) :: names).map fun x => qD (polyAt r.2 (termsOf ts x)))).take j))), none, none, none, none, none, none, none, none, none, none, none]) fun i hi => by
    have hts := kdS _ (List.getElem_mem hi)
    rw [List.take_succ_eq_append_getElem (by simpa using hi), List.getElem_map]
    have hlen : ((((kindOf P r.1).turns.map fun ts => D.tup ((("" : Str) :: names).map fun x => qD (polyAt r.2 (termsOf ts x)))).take i)).length < 999999 := by simp; omega
    generalize (((kindOf P r.1).turns.map fun ts => D.tup ((("" : Str) :: names).map fun x => qD (polyAt r.2 (termsOf ts x)))).take i) = acc at *
    have e2 := lm_b2 (k := k) h rfl okn h4 kd.fl hts hr.bd (x0 := some (.v (pgD P))) (x3 := some (.ol (.tup (qD 1 :: List.replicate names.length (qD 0)) :: acc)))
    generalize (kindOf P r.1).turns[i] = ts at *
    have rep2 : repL ((names.length : Int) + 1) [qD 0] = ((("" : Str) :: names).map fun x => qD (polyAt r.2 (termsOf [] x))) := by
      rw [show (names.length : Int) + 1 = ((names.length + 1 : Nat) : Int) by omega, repL_one]
      rw [← List.length_cons (a := ("" : Str)) (as := names)]
      generalize (("" : Str) :: names) = l
      induction l with
      | nil => rfl
      | cons a l ih => rw [List.length_cons, List.replicate_succ, List.map_cons, ih]; rfl
    have hlen2 : acc.length + 1 < 1000000 := by omega
    simp only [List.map_cons] at e2 rep2 ⊢
    simp [turnM, f__law_matrix_b3, n9, n10, n11, n12, rep2, e2, hlen2]
  rw [List.take_zero] at this
  have tl2 : ((kindOf P r.1).turns.map fun ts => D.tup ((("" : Str) :: names).map fun x => qD (polyAt r.2 (termsOf ts x)))).length = (kindOf P r.1).turns.length := List.length_map ..
  rw [← tl2, List.take_length] at this
  have n13 : 1 + names.length ≤ 1000000 := by omega
  have one : polyAt r.2 (oneP (kindOf P r.1).fields.length) = 1 := by
    have key : ∀ (l : List Rat) (n : Nat) (x : Rat), (l.zip (List.replicate n 0)).foldl (fun x (vn : Rat × Nat) => x * vn.1 ^ vn.2) x = x := by
      intro l
      induction l with
      | nil => intro n x; rfl
      | cons a l ih =>
        intro n x
        cases n with
        | zero => rfl
        | succ n => rw [List.replicate_succ, List.zip_cons_cons, List.foldl_cons, ih]; simp
    rw [polyAt, oneP, List.foldl_cons, List.foldl_nil, pvV, key, Rat.zero_add]
  have zer : polyAt r.2 [] = 0 := rfl
  simp only [List.map_cons] at this ⊢
  simp [n13, n7, n8, rep, this]
  simp [mxD, rmV, kmV, stD, one, zer, Function.comp_def]
end
end Cl.Pl

set_option Elab.async false
set_option linter.all false
/-! PlS: a stretch's matrix, a polynomial's value and the grid, by the law. -/
namespace Cl.Pl
open PySem

/- _law_greatest -/
def f__law_greatest_b1 : List Sm := [.asg (.nm 2) (.comp [7, 8] (.bi .max [(.var 7), (.var 8)]) (.tup [(.nm 7), (.nm 8)]) (.zip (.var 2) (.var 5)) []),
    .kil [4, 5, 6]]
def f__law_greatest_b2 : List Sm := [.kil [0, 4, 5, 6],
    .for_ (.tup [(.nm 4), (.nm 5), (.nm 6)]) (.var 3) f__law_greatest_b1,
    .kil [3, 4, 5, 6]]
def f__law_greatest : Fn := ⟨2, 9, [.asg (.nm 2) (.bin .Mult (.lst [(.con (.int 0))]) (.bi .len [(.var 0)])),
    .kil [0],
    .for_ (.nm 3) (.var 1) f__law_greatest_b2,
    .ret (.var 2)]⟩
/- _law_grid -/
def f__law_grid_b1 : List Sm := [.ext 8 (.comp [10] (.bin .Add (.var 9) (.tup [(.tup [(.var 10), (.con (.int 1))])])) (.nm 10) (.rng [(.bin .Add (.var 7) (.con (.int 1)))]) []),
    .kil [9]]
def f__law_grid_b2 : List Sm := [.own 8 (.lst []),
    .kil [3, 4, 9],
    .for_ (.nm 9) (.var 6) f__law_grid_b1,
    .frz 8,
    .asg (.nm 6) (.var 8),
    .kil [7, 8, 9]]
def f__law_grid_b3 : List Sm := [.asg (.nm 5) (.call "_law_greatest" [(.var 3), (.var 4)]),
    .asg (.nm 6) (.lst [(.tup [])]),
    .kil [3, 4, 7, 8, 9],
    .for_ (.nm 7) (.var 5) f__law_grid_b2,
    .ext 1 (.comp [9] (.tup [(.var 2), (.var 9)]) (.nm 9) (.var 6) []),
    .kil [2, 3, 4, 5, 6, 7, 8, 9]]
def f__law_grid : Fn := ⟨1, 11, [.own 1 (.lst []),
    .for_ (.tup [(.nm 2), (.nm 3), (.nm 4)]) (.idx (.var 0) (.con (.int 1))) f__law_grid_b3,
    .frz 1,
    .ret (.var 1)]⟩
structure HasLGr (m : Mo) : Prop extends HasLMx m where
  greatest : m.defs "_law_greatest" = some f__law_greatest
  l_grid : m.defs "_law_grid" = some f__law_grid
section
variable {m : Mo} {k : Nat} {P : Pg} {vals : List Rat} {E N Dv Nv nf L : Nat}
theorem law_stretch_matrix_ok (h : HasLMx m) (hS : HasRm m) (ok : OkPg P) {sr : List Rw} (hl : sr.length ≤ 8) (hr : ∀ r ∈ sr, OkRw P r) : m.call (k + 6) "_law_stretch_matrix" [pgD P, srD sr] = pure (mxD (strM P sr)) ∧ MOk P sr.length (strM P sr) := by
  have nl := ok.nml
  have n1 : (P.nums.length : Int) + 1 = ((P.nums.length + 1 : Nat) : Int) := by omega
  have := forL_foldI (c := ⟨m.call (k + 5), m.glob⟩) (g := .nm 3) (b := f__law_stretch_matrix_b1) (enc := rwD) (l := sr) (i := 0) (s := idV (P.nums.length + 1))
    (τ := fun A => [some (.v (pgD P)), some (.v (srD sr)), some (.v (mxD A)), none]) (step := fun A r => mulV (P.nums.length + 1) (rowM P r) A) (P := fun j A => MOk P j A) (id_ok P) fun j hj A hA => by
    rw [Nat.zero_add] at hA ⊢
    have hrj := hr _ (List.getElem_mem hj)
    obtain ⟨_, e2⟩ := times_row (k := 0) hS ok hrj (by omega) hA
    obtain ⟨s1, s2, _⟩ := rowM_ok (k := 0) hS ok hrj
    have e1 := law_times_ok (k := k) h (db_row (j := j) (by omega) (show P.nums.length + 1 ≤ 4 by omega)) s1 hA.sq (by omega) (by omega) s2 hA.bd
    refine ⟨?_, e2⟩
    simp [turnM, f__law_stretch_matrix_b1, law_matrix_ok (k := k) h hS ok hrj, e1]
  obtain ⟨e1, e2⟩ := this
  rw [Nat.zero_add] at e2
  refine ⟨?_, e2⟩
  rw [call_run h.l_stretch_matrix rfl]
  simp [f__law_stretch_matrix]
  rw [n1, law_identity_ok (k := k + 4) h (by omega)]
  simp [e1, strM]
theorem lpoly_b1 (h : HasLMx m) {c : Cfg} (hc : c = ⟨m.call (k + 4), m.glob⟩) (z : PB E N Dv Nv nf L) (hL : 1 ≤ L) (hvl : vals.length = nf) {t : List Nat × Rat} (ht : PtOk nf E N t) (hv : ∀ x ∈ vals, Bd Dv Nv x) {x0 : Option Sl} {found : D} :
    forL c (.tup [.nm 5, .nm 6]) f__law_poly_at_b1 ((vals.zip t.1).map fun x => .tup [qD x.1, .int x.2]) [x0, some (.v (stD vals)), some (.v found), some (.v (pwD t.1)), some (.v (qD t.2)), none, none] =
      pure (.nx [x0, some (.v (stD vals)), some (.v found), some (.v (pwD t.1)), some (.v (qD (pvV vals t))), none, none]) := by
  have len : (vals.zip t.1).length = nf := by rw [List.length_zip, hvl, ht.pl, Nat.min_self]
  have lN := Nat.lt_of_le_of_lt (log2_mono (show (N * (Nv ^ 2) ^ nf) * (E * (Dv ^ 2) ^ nf) ≤ L * (N * (Nv ^ 2) ^ nf) * (E * (Dv ^ 2) ^ nf) from Nat.mul_le_mul_right _ (Nat.le_mul_of_pos_left _ (by omega)))) z.ln
  have up : ∀ j, j ≤ nf → ∀ q, Bd (E * (Dv ^ 2) ^ j) (N * (Nv ^ 2) ^ j) q → Fit q := fun j hj q hq => by
    refine (hq.up (D' := E * (Dv ^ 2) ^ nf) (N' := N * (Nv ^ 2) ^ nf) ?_ ?_ ?_).fit z.ld lN
    · exact Nat.mul_dvd_mul_left _ (Nat.pow_dvd_pow _ hj)
    · exact Nat.mul_pos z.e.1 (Nat.pow_pos (Nat.pow_pos z.v.1))
    · exact Nat.mul_le_mul_left _ (Nat.pow_le_pow_right (Nat.pow_pos z.v.2) hj)
  have := forL_foldI (c := c) (g := .tup [.nm 5, .nm 6]) (b := f__law_poly_at_b1) (enc := fun x : Rat × Nat => D.tup [qD x.1, .int x.2]) (l := vals.zip t.1) (i := 0) (s := t.2)
    (τ := fun s => [x0, some (.v (stD vals)), some (.v found), some (.v (pwD t.1)), some (.v (qD s)), none, none]) (step := fun x (vn : Rat × Nat) => x * vn.1 ^ vn.2)
    (P := fun j s => Bd (E * (Dv ^ 2) ^ j) (N * (Nv ^ 2) ^ j) s) (by simpa using ht.bd) fun j hj s hs => by
    have hx : (vals.zip t.1)[j].1 ∈ vals ∧ (vals.zip t.1)[j].2 ∈ t.1 := List.of_mem_zip (List.getElem_mem hj)
    have hp := ht.pw _ hx.2
    have hvb := hv _ hx.1
    rw [len] at hj
    have fs := up (0 + j) (by omega) s hs
    have pb : ∀ i, i ≤ 2 → Bd (Dv ^ 2) (Nv ^ 2) ((vals.zip t.1)[j].1 ^ i) := fun i hi => hvb.powLe hi z.v.2
    have fp : ∀ i, i ≤ (vals.zip t.1)[j].2 → Fit ((vals.zip t.1)[j].1 ^ i) := fun i hi => up 1 (by omega) _ ((pb i (by omega)).up (by rw [Nat.pow_one]; exact Nat.dvd_mul_left ..) (Nat.mul_pos z.e.1 (by rw [Nat.pow_one]; exact Nat.pow_pos z.v.1)) (by rw [Nat.pow_one]; exact Nat.le_mul_of_pos_left _ z.e.2))
    constructor
    · subst hc
      simp only [turnM, f__law_poly_at_b1]
      have e1 := lpow_ok (k := k) h.toHasLFr (q := (vals.zip t.1)[j].1) (n := (vals.zip t.1)[j].2) (by omega) fp
      have e2 := lmul_ok (k := k + 1) h.toHasLFr fs (fp _ (Nat.le_refl _))
      generalize (vals.zip t.1)[j] = vn at *
      simp [e1, e2]
    · have := hs.mul (pb _ hp)
      rwa [Nat.mul_assoc, Nat.mul_assoc, ← Nat.pow_succ, ← Nat.pow_succ] at this
  exact this.1
theorem law_poly_at_ok (h : HasLMx m) (z : PB E N Dv Nv nf L) (hvl : vals.length = nf) {po : Poly} (ht : ∀ t ∈ po, PtOk nf E N t) (hL : po.length ≤ L) (hv : ∀ x ∈ vals, Bd Dv Nv x) :
    m.call (k + 5) "_law_poly_at" [poD po, stD vals] = pure (qD (polyAt vals po)) := by
  have DN := Nat.mul_pos z.e.1 (Nat.pow_pos (n := nf) (Nat.pow_pos (n := 2) z.v.1))
  have := forL_foldI (c := ⟨m.call (k + 4), m.glob⟩) (g := .tup [.nm 3, .nm 4]) (b := f__law_poly_at_b2) (enc := ptD) (l := po) (i := 0) (s := (0 : Rat))
    (τ := fun f => [some (.v (poD po)), some (.v (stD vals)), some (.v (qD f)), none, none, none, none]) (step := fun f t => f + pvV vals t)
    (P := fun j f => Bd (E * (Dv ^ 2) ^ nf) (j * (N * (Nv ^ 2) ^ nf)) f) (Bd.zero DN) fun j hj s hs => by
    have htj := ht _ (List.getElem_mem hj)
    have tb := pv_bd z hvl htj hv
    have nb := hs.add tb
    rw [← Nat.succ_mul] at nb
    refine ⟨?_, nb⟩
    have L0 : (0 + j) * (N * (Nv ^ 2) ^ nf) * (E * (Dv ^ 2) ^ nf) ≤ L * (N * (Nv ^ 2) ^ nf) * (E * (Dv ^ 2) ^ nf) := Nat.mul_le_mul_right _ (Nat.mul_le_mul_right _ (by omega))
    have L1 : (N * (Nv ^ 2) ^ nf) * (E * (Dv ^ 2) ^ nf) ≤ L * (N * (Nv ^ 2) ^ nf) * (E * (Dv ^ 2) ^ nf) := Nat.mul_le_mul_right _ (Nat.le_mul_of_pos_left _ (by omega))
    have fs := hs.fit z.ld (Nat.lt_of_le_of_lt (log2_mono L0) z.ln)
    have ft := tb.fit z.ld (Nat.lt_of_le_of_lt (log2_mono L1) z.ln)
    have b1 := lpoly_b1 (k := k) h rfl z (by omega) hvl htj hv (x0 := some (.v (poD po))) (found := qD s)
    have ea := ladd_ok (k := k + 1) h.toHasLFr fs ft
    generalize po[j] = t at *
    simp [turnM, f__law_poly_at_b2]
    rw [zipD_map, b1]
    simp [ea]
  rw [call_run h.l_poly_at rfl]
  simp [f__law_poly_at, this.1, polyAt]
/-- a matrix's rows, in one -/
theorem law_flat_ok (h : HasLMx m) {n : Nat} {A : Mx} (hA : Sq n A) (hn : n ≤ 4) : m.call (k + 1) "_law_flat" [mxD A] = pure (stD A.flatten) := by
  have := forL_foldI (c := ⟨m.call k, m.glob⟩) (g := .nm 2) (b := f__law_flat_b1) (enc := stD) (l := A) (i := 0) (s := ([] : List Rat))
    (τ := fun s => [some (.v (mxD A)), some (.v (stD s)), none]) (step := fun s r => s ++ r) (P := fun j s => s.length = j * n) (by simp) fun j hj s hs => by
    have hr := hA.2 _ (List.getElem_mem hj)
    have h1 := hA.1
    rw [Nat.zero_add] at hs
    have : j * n ≤ 4 * 4 := Nat.mul_le_mul (by omega) hn
    have len : s.length + (A[j]).length ≤ 1000000 := by omega
    generalize A[j] = r at *
    refine ⟨?_, by rw [List.length_append, hs, hr, Nat.zero_add, Nat.succ_mul]⟩
    simp [turnM, f__law_flat_b1, stD, len]
  rw [call_run h.flat rfl]
  have e := this.1
  have e0 : ∀ (l : Mx) (s : List Rat), l.foldl (fun s r => s ++ r) s = s ++ l.flatten := by
    intro l
    induction l with
    | nil => intro s; simp
    | cons a l ih => intro s; rw [List.foldl_cons, ih, List.flatten_cons, List.append_assoc]
  rw [e0, List.nil_append] at e
  have en : (D.tup [] : D) = stD [] := rfl
  simp [f__law_flat, en, e]
end
end Cl.Pl

set_option Elab.async false
set_option linter.all false
/-! PlT: the grid, by the law. -/
namespace Cl.Pl
open PySem
section
variable {m : Mo} {k : Nat} {P : Pg}
theorem greatest_b1_eq : f__law_greatest_b1 = f_greatest_powers_b1 := rfl
theorem law_greatest_ok (h : HasLGr m) {names : List Str} {K : Kd} (kd : OkKd names K) : m.call (k + 1) "_law_greatest" [strsD K.fields, .tup (K.turns.map sumD)] = pure (natsD (gpV K)) := by
  have fl := kd.fl
  have hf6 : (K.fields.length : Int) ≤ 1000000 := by omega
  have hf7 : K.fields.length ≤ 1000000 := by omega
  have := forL_foldI (c := ⟨m.call k, m.glob⟩) (g := .nm 3) (b := f__law_greatest_b2) (enc := sumD) (l := K.turns) (i := 0) (s := List.replicate K.fields.length 0)
    (τ := fun acc => [none, some (.v (.tup (K.turns.map sumD))), some (.v (natsD acc)), none, none, none, none, none, none]) (step := fun acc ts => ts.foldl (fun acc t => maxV acc t.pw) acc) (P := fun _ acc => GpOk K.fields.length acc)
    ⟨by simp, fun p hp => by rw [(List.mem_replicate.mp hp).2]; decide⟩ fun j hj acc ha => by
    have hts := kd.sums _ (List.getElem_mem hj)
    generalize K.turns[j] = ts at *
    obtain ⟨i1, i2⟩ := gp_inner (c := ⟨m.call k, m.glob⟩) (nf := K.fields.length) (x0 := none) (x1 := some (.v (.tup (K.turns.map sumD)))) (x3 := some (.v (sumD ts))) (ts := ts) (acc := acc) (fun t ht => ⟨hts.pl t ht, hts.pw t ht⟩) ha (by omega)
    refine ⟨?_, i2⟩
    simp [turnM, f__law_greatest_b2, greatest_b1_eq, i1]
  rw [call_run h.greatest rfl]
  have rep : D.lst (repL (K.fields.length : Int) [D.int 0]) = natsD (List.replicate K.fields.length 0) := by rw [repL_one]; unfold natsD; rw [List.map_replicate]; rfl
  simp [f__law_greatest, hf6, hf7, rep, this.1, gpV]
/-- the values of a kind -/
theorem law_grid_b2_ok {c : Cfg} {gp : List Nat} (hg : ∀ a ∈ gp, a ≤ 2) (hl : gp.length ≤ 2) {x0 x1 x2 x5 : Option Sl} : forL c (.nm 7) f__law_grid_b2 (gp.map fun k : Nat => D.int (k : Int)) [x0, x1, x2, none, none, x5, some (.v (.lst (([[]] : List (List Rat)).map stD))), none, none, none, none] =
    pure (.nx [x0, x1, x2, none, none, x5, some (.v (.lst ((kgV gp).map stD))), none, none, none, none]) := by
  have := forL_foldI (c := c) (g := .nm 7) (b := f__law_grid_b2) (enc := fun k : Nat => D.int (k : Int)) (l := gp) (i := 0) (s := ([[]] : List (List Rat)))
    (τ := fun vs => [x0, x1, x2, none, none, x5, some (.v (.lst (vs.map stD))), none, none, none, none]) (step := fun vs mm => vs.flatMap fun v => (List.range (mm + 1)).map fun n : Nat => v ++ [(n : Rat)])
    (P := fun j vs => vs.length ≤ 3 ^ j ∧ ∀ v ∈ vs, v.length ≤ j) ⟨by simp, by simp⟩ fun j hj vs ⟨hvs, hv10⟩ => by
    have hm := hg _ (List.getElem_mem hj)
    generalize gp[j] = mm at *
    have hvs9 : vs.length ≤ 9 := Nat.le_trans hvs (Nat.pow_le_pow_right (n := 3) (by decide) (show 0 + j ≤ 2 by omega))
    have hm1 : (mm : Int) + 1 = ((mm + 1 : Nat) : Int) := by omega
    have inner := forL_foldI (c := c) (g := .nm 9) (b := f__law_grid_b1) (enc := stD) (l := vs) (i := 0) (s := ([] : List (List Rat)))
      (τ := fun acc => [x0, x1, x2, none, none, x5, some (.v (.lst (vs.map stD))), some (.v (.int mm)), some (.ol (acc.map stD)), none, none]) (step := fun acc v => acc ++ (List.range (mm + 1)).map fun n : Nat => v ++ [(n : Rat)])
      (P := fun i acc => acc.length ≤ 3 * i) (by simp) fun i hi acc ha => by
      have hv := hv10 _ (List.getElem_mem hi)
      generalize vs[i] = v at *
      have cm := compL_map (c := c) (own := [10]) (elt := .bin .Add (.var 9) (.tup [.tup [.var 10, .con (.int 1)]])) (g := .nm 10) (σ := [x0, x1, x2, none, none, x5, some (.v (.lst (vs.map stD))), some (.v (.int mm)), some (.ol (acc.map stD)), some (.v (stD v)), none])
        (enc := fun n : Nat => D.int (n : Int)) (l := List.range (mm + 1)) (f := fun n : Nat => stD (v ++ [(n : Rat)])) (by
        intro n _
        have hv6 : v.length ≤ 999999 := by omega
        have hv7 : v.length + 1 ≤ 1000000 := by omega
        simp [stD, hv6, hv7]
        rfl)
      have hr1 : mm + 1 ≤ 1000000 := by omega
      have hr2 : acc.length + (mm + 1) ≤ 1000000 := by omega
      refine ⟨?_, by rw [List.length_append, List.length_map, List.length_range]; omega⟩
      simp [turnM, f__law_grid_b1]
      rw [hm1, rng1 (by omega)]
      simp only [lift_some, pure_bind]
      rw [liml_ok (by simp; omega), cm]
      simp [hr2, Function.comp_def]
    have st : ∀ (l acc : List (List Rat)), l.foldl (fun acc v => acc ++ (List.range (mm + 1)).map fun n : Nat => v ++ [(n : Rat)]) acc = acc ++ l.flatMap fun v => (List.range (mm + 1)).map fun n : Nat => v ++ [(n : Rat)] := by
      intro l
      induction l with
      | nil => intro acc; simp
      | cons a l ih => intro acc; rw [List.foldl_cons, ih, List.flatMap_cons, List.append_assoc]
    have i1 := inner.1
    rw [st, List.nil_append] at i1
    have len : (vs.flatMap fun v => (List.range (mm + 1)).map fun n : Nat => v ++ [(n : Rat)]).length = vs.length * (mm + 1) := by rw [List.length_flatMap]; simp [sum_const]
    have lb : vs.length * (mm + 1) ≤ 3 ^ (0 + j) * 3 := Nat.mul_le_mul hvs (by omega)
    simp only [List.map_nil] at i1
    refine ⟨?_, by rw [len, Nat.pow_succ]; exact lb, fun v hv => ?_⟩
    · simp [turnM, f__law_grid_b2, owned, i1]
    · obtain ⟨w, hw, hv⟩ := List.mem_flatMap.mp hv
      obtain ⟨n, hn, rfl⟩ := List.mem_map.mp hv
      have := hv10 w hw
      simp; omega
  exact this.1
theorem kg9 {names : List Str} {K : Kd} (kd : OkKd names K) : (kgV (gpV K)).length ≤ 9 := by
  have g := gp_ok kd
  exact Nat.le_trans (kg_len _ g.le) (by rw [g.len]; exact Nat.pow_le_pow_right (by decide) kd.fl)
theorem law_grid_ok (h : HasLGr m) (ok : OkPg P) : m.call (k + 2) "_law_grid" [pgD P] = pure (.lst ((grV P).map rwD)) := by
  have kl := ok.kdl
  have := forL_foldI (c := ⟨m.call (k + 1), m.glob⟩) (g := .tup [.nm 2, .nm 3, .nm 4]) (b := f__law_grid_b3) (enc := kdD) (l := P.kinds) (i := 0) (s := ([] : List Rw))
    (τ := fun acc => [some (.v (pgD P)), some (.ol (acc.map rwD)), none, none, none, none, none, none, none, none, none]) (step := fun acc K => acc ++ (kgV (gpV K)).map fun v => (K.name, v)) (P := fun j acc => acc.length ≤ 9 * j) (by simp) fun j hj acc ha => by
    have kd := ok.kd _ (List.getElem_mem hj)
    generalize P.kinds[j] = K at *
    have k9 := kg9 kd
    have gpo := gp_ok kd
    have eg := law_greatest_ok (k := k) h kd
    have fl := kd.fl
    have e2 := law_grid_b2_ok (c := ⟨m.call (k + 1), m.glob⟩) (gp := gpV K) gpo.le (by rw [gpo.len]; exact fl) (x0 := some (.v (pgD P))) (x1 := some (.ol (acc.map rwD))) (x2 := some (.v (.str K.name))) (x5 := some (.v (natsD (gpV K))))
    have hr : acc.length + (kgV (gpV K)).length ≤ 1000000 := by omega
    refine ⟨?_, by rw [List.length_append, List.length_map]; omega⟩
    have e0 : D.lst [D.tup []] = D.lst (([[]] : List (List Rat)).map stD) := rfl
    have cm := compL_map (c := ⟨m.call (k + 1), m.glob⟩) (own := [9]) (elt := .tup [.var 2, .var 9]) (g := .nm 9) (σ := [some (.v (pgD P)), some (.ol (acc.map rwD)), some (.v (.str K.name)), none, none, some (.v (natsD (gpV K))), some (.v (.lst ((kgV (gpV K)).map stD))), none, none, none, none])
      (enc := stD) (l := kgV (gpV K)) (f := fun v => rwD (K.name, v)) (by intro v _; simp [rwD])
    simp [turnM, f__law_grid_b3, eg]
    rw [e0, e2]
    simp
    rw [liml_ok (by rw [List.length_map]; omega), cm]
    simp [hr, Function.comp_def]
  rw [call_run h.l_grid rfl]
  have st : ∀ (l : List Kd) (acc : List Rw), l.foldl (fun acc K => acc ++ (kgV (gpV K)).map fun v => (K.name, v)) acc = acc ++ l.flatMap fun K => (kgV (gpV K)).map fun v => (K.name, v) := by
    intro l
    induction l with
    | nil => intro acc; simp
    | cons a l ih => intro acc; rw [List.foldl_cons, ih, List.flatMap_cons, List.append_assoc]
  have e1 := this.1
  rw [st, List.nil_append] at e1
  simp only [List.map_nil] at e1
  simp [f__law_grid, owned, e1, grV]
end
end Cl.Pl

set_option Elab.async false
set_option linter.all false
/-! PlU: matrices' sums, in plain numbers. -/
namespace Cl.Pl
open PySem
/-- a sum below n -/
def sN : Nat → (Nat → Rat) → Rat
  | 0, _ => 0
  | n + 1, f => sN n f + f n
theorem sN_congr {f g : Nat → Rat} : ∀ {n : Nat}, (∀ i, i < n → f i = g i) → sN n f = sN n g
  | 0, _ => rfl
  | n + 1, h => by rw [sN, sN, sN_congr fun i hi => h i (by omega), h n (by omega)]
theorem sN_zero : ∀ n : Nat, sN n (fun _ => 0) = 0
  | 0 => rfl
  | n + 1 => by rw [sN, sN_zero n]; grind
theorem sN_add (f g : Nat → Rat) : ∀ n : Nat, sN n (fun i => f i + g i) = sN n f + sN n g
  | 0 => by rw [sN, sN, sN]; grind
  | n + 1 => by rw [sN, sN, sN, sN_add f g n]; grind
theorem sN_mul (c : Rat) (f : Nat → Rat) : ∀ n : Nat, sN n (fun i => c * f i) = c * sN n f
  | 0 => by rw [sN, sN]; grind
  | n + 1 => by rw [sN, sN, sN_mul c f n]; grind
theorem sN_mulr (c : Rat) (f : Nat → Rat) (n : Nat) : sN n (fun i => f i * c) = sN n f * c := by
  rw [Rat.mul_comm, ← sN_mul]; exact sN_congr fun i _ => Rat.mul_comm _ _
theorem sN_comm (f : Nat → Nat → Rat) (m : Nat) : ∀ n : Nat, sN n (fun i => sN m fun j => f i j) = sN m fun j => sN n fun i => f i j
  | 0 => by simp only [sN]; rw [sN_zero]
  | n + 1 => by simp only [sN]; rw [sN_comm f m n, sN_add]
theorem sN_ite {n i : Nat} (h : i < n) (f : Nat → Rat) : sN n (fun j => (if i = j then 1 else 0) * f j) = f i := by
  induction n with
  | zero => omega
  | succ n ih =>
    rw [sN]
    by_cases e : i = n
    · subst e
      rw [if_pos rfl, sN_congr (g := fun _ => 0) (fun j hj => by rw [if_neg (by omega)]; grind), sN_zero]; grind
    · rw [if_neg e, ih (by omega)]; grind
theorem dot_sN : ∀ (a b : List Rat), a.length = b.length → dotV a b = sN a.length fun i => gq a i * gq b i := by
  have key : ∀ (a b : List Rat) (s : Rat), a.length = b.length → (a.zip b).foldl (fun s p => s + p.1 * p.2) s = s + sN a.length fun i => gq a i * gq b i := by
    have shift : ∀ (n : Nat) (f : Nat → Rat), sN (n + 1) f = f 0 + sN n fun i => f (i + 1) := by
      intro n f
      induction n with
      | zero => rw [sN, sN, sN]; grind
      | succ n ih => rw [sN, ih, sN]; grind
    intro a
    induction a with
    | nil => intro b s h; cases b with | nil => rw [List.length_nil, sN]; simp; grind | cons _ _ => simp at h
    | cons x a ih =>
      intro b s h
      cases b with
      | nil => simp at h
      | cons y b =>
        rw [List.zip_cons_cons, List.foldl_cons, ih b _ (by simpa using h), List.length_cons, shift]
        have : gq (x :: a) 0 = x := rfl
        have : gq (y :: b) 0 = y := rfl
        have h1 : ∀ i, gq (x :: a) (i + 1) = gq a i := fun i => by unfold gq; simp
        have h2 : ∀ i, gq (y :: b) (i + 1) = gq b i := fun i => by unfold gq; simp
        simp only [h1, h2]
        grind
  intro a b h
  rw [dotV, key a b 0 h]; grind
/-- a matrix by a column -/
def colM (A : Mx) (c : List Rat) : List Rat := A.map fun r => dotV r c
theorem gq_map {α : Type} {l : List α} {f : α → Rat} {i : Nat} (h : i < l.length) : gq (l.map f) i = f l[i] := by rw [gq_eq (by simpa using h)]; simp
theorem gq_range {n i : Nat} {f : Nat → Rat} (h : i < n) : gq ((List.range n).map f) i = f i := by rw [gq_map (by simpa using h)]; simp
theorem mul_row {n : Nat} {r : List Rat} (B : Mx) : (colsV n B).map (fun c => dotV r c) = (List.range n).map fun j => dotV r (B.map fun row => gq row j) := by
  unfold colsV; rw [List.map_map]; rfl
theorem colM_mul {n : Nat} {A B : Mx} {c : List Rat} (hA : Sq n A) (hB : Sq n B) (hc : c.length = n) : colM (mulV n A B) c = colM A (colM B c) := by
  unfold colM mulV
  rw [List.map_map]
  apply List.map_congr_left
  intro r hr
  have hrl := hA.2 r hr
  simp only [Function.comp_def]
  rw [mul_row, dot_sN _ _ (by simp [hc]), dot_sN _ _ (by rw [List.length_map, hB.1, hrl]), List.length_map, List.length_range, hrl]
  have e1 : sN n (fun i => gq ((List.range n).map fun j => dotV r (B.map fun row => gq row j)) i * gq c i) = sN n fun i => sN n fun k => gq r k * gq (gr B k) i * gq c i := sN_congr fun i hi => by
    rw [gq_range hi, dot_sN _ _ (by rw [List.length_map, hB.1, hrl]), ← sN_mulr, hrl]
    exact sN_congr fun k hk => by rw [gq_map (by rw [hB.1]; exact hk), gr_eq (by rw [hB.1]; exact hk)]
  have e2 : sN n (fun i => gq r i * gq (B.map fun r => dotV r c) i) = sN n fun k => sN n fun i => gq r k * gq (gr B k) i * gq c i := sN_congr fun k hk => by
    have hk' : k < B.length := by rw [hB.1]; exact hk
    rw [gq_map hk', dot_sN _ _ (by rw [hB.2 _ (List.getElem_mem hk'), hc]), ← sN_mul, hB.2 _ (List.getElem_mem hk')]
    exact sN_congr fun i hi => by rw [gr_eq hk', Rat.mul_assoc]
  rw [e1, e2, sN_comm]
theorem cols_mul {n : Nat} {B C : Mx} (hB : Sq n B) (hC : Sq n C) {j : Nat} (hj : j < n) : (mulV n B C).map (fun row => gq row j) = colM B (C.map fun row => gq row j) := by
  unfold mulV colM
  rw [List.map_map]
  apply List.map_congr_left
  intro r _
  simp only [Function.comp_def]
  rw [mul_row, gq_range hj]
theorem mul_assocV {n : Nat} {A B C : Mx} (hA : Sq n A) (hB : Sq n B) (hC : Sq n C) : mulV n (mulV n A B) C = mulV n A (mulV n B C) := by
  have e : ∀ j, j < n → colM (mulV n A B) (C.map fun row => gq row j) = colM A ((mulV n B C).map fun row => gq row j) := fun j hj => by
    rw [colM_mul hA hB (by rw [List.length_map, hC.1]), cols_mul hB hC hj]
  have r1 : mulV n (mulV n A B) C = A.map fun r => (List.range n).map fun j => dotV ((colsV n B).map fun c => dotV r c) (C.map fun row => gq row j) := by
    show ((A.map fun r => (colsV n B).map fun c => dotV r c).map fun r => (colsV n C).map fun c => dotV r c) = _
    rw [List.map_map]
    apply List.map_congr_left
    intro r _
    simp only [Function.comp_def]
    rw [mul_row (n := n) (r := (colsV n B).map fun c => dotV r c) C]
  have r2 : mulV n A (mulV n B C) = A.map fun r => (List.range n).map fun j => dotV r ((mulV n B C).map fun row => gq row j) := by
    show (A.map fun r => (colsV n (mulV n B C)).map fun c => dotV r c) = _
    apply List.map_congr_left
    intro r _
    rw [mul_row]
  rw [r1, r2]
  apply List.map_congr_left
  intro r hr
  apply List.map_congr_left
  intro j hj
  have hj := List.mem_range.mp hj
  obtain ⟨i, hi, rfl⟩ := List.getElem_of_mem hr
  have := congrArg (fun l => gq l i) (e j hj)
  unfold colM at this
  rw [gq_map (by unfold mulV; simpa using hi), gq_map hi] at this
  rw [← this]
  congr 1
  unfold mulV
  rw [List.getElem_map]
theorem list_range {n : Nat} {c : List Rat} (hc : c.length = n) : (List.range n).map (fun i => gq c i) = c := by
  subst hc
  apply List.ext_getElem
  · simp
  · intro i h1 h2
    simp [gq_eq h2]
theorem mx_range {n : Nat} {B : Mx} (hB : Sq n B) : ((List.range n).map fun i => (List.range n).map fun j => gq (gr B i) j) = B := by
  apply List.ext_getElem
  · simp [hB.1]
  · intro i h1 h2
    simp only [List.getElem_map, List.getElem_range]
    rw [gr_eq h2, list_range (hB.2 _ (List.getElem_mem h2))]
theorem id_mul {n : Nat} {B : Mx} (hB : Sq n B) : mulV n (idV n) B = B := by
  have e : mulV n (idV n) B = (List.range n).map fun i => (List.range n).map fun j => gq (gr B i) j := by
    show ((List.range n).map fun i => (List.range n).map fun j => if i = j then (1 : Rat) else 0).map (fun r => (colsV n B).map fun c => dotV r c) = _
    rw [List.map_map]
    apply List.map_congr_left
    intro i hi
    simp only [Function.comp_def]
    rw [mul_row]
    apply List.map_congr_left
    intro j hj
    rw [dot_sN _ _ (by simp [hB.1]), List.length_map, List.length_range]
    rw [sN_congr (g := fun k => (if i = k then 1 else 0) * gq (gr B k) j) fun k hk => by
      rw [gq_range hk, gq_map (by rw [hB.1]; exact hk), gr_eq (by rw [hB.1]; exact hk)], sN_ite (List.mem_range.mp hi)]
  rw [e, mx_range hB]
theorem id_col {n : Nat} {c : List Rat} (hc : c.length = n) : colM (idV n) c = c := by
  have e : colM (idV n) c = (List.range n).map fun i => gq c i := by
    show ((List.range n).map fun i => (List.range n).map fun j => if i = j then (1 : Rat) else 0).map (fun r => dotV r c) = _
    rw [List.map_map]
    apply List.map_congr_left
    intro i hi
    simp only [Function.comp_def]
    rw [dot_sN _ _ (by simp [hc]), List.length_map, List.length_range, sN_congr (g := fun k => (if i = k then 1 else 0) * gq c k) (fun k hk => by rw [gq_range hk]), sN_ite (List.mem_range.mp hi)]
  rw [e, list_range hc]
end Cl.Pl

set_option Elab.async false
set_option linter.all false
/-! PlV: a stretch's matrix by a column is the state led. -/
namespace Cl.Pl
open PySem
def sL : List Rat → Rat
  | [] => 0
  | x :: l => x + sL l
theorem sL_append (a b : List Rat) : sL (a ++ b) = sL a + sL b := by
  induction a with
  | nil => rw [List.nil_append, sL]; grind
  | cons x a ih => rw [List.cons_append, sL, sL, ih]; grind
theorem foldl_sL {α : Type} (f : α → Rat) : ∀ (l : List α) (s : Rat), l.foldl (fun s x => s + f x) s = s + sL (l.map f)
  | [], s => by rw [List.foldl_nil, List.map_nil, sL]; grind
  | x :: l, s => by rw [List.foldl_cons, foldl_sL f l, List.map_cons, sL]; grind
theorem polyAt_sL (vals : List Rat) (p : Poly) : polyAt vals p = sL (p.map (pvV vals)) := by rw [polyAt, foldl_sL]; grind
theorem valueAt_sL (names : List Str) (st vals : List Rat) (ts : List Tm) : valueAt names st vals ts = sL (ts.map (termV names st vals)) := by rw [valueAt, foldl_sL]; grind
theorem dot_map {α : Type} (f g : α → Rat) (l : List α) : dotV (l.map f) (l.map g) = sL (l.map fun x => f x * g x) := by
  have : (l.map f).zip (l.map g) = l.map fun x => (f x, g x) := by induction l with | nil => rfl | cons a l ih => simp [ih]
  rw [dotV, this, List.foldl_map, foldl_sL]; grind
theorem sumV_sL (l : List Rat) : sumV l = sL l := by
  have := foldl_sL (fun q : Rat => q) l 0
  rw [sumV, this, List.map_id']; grind
theorem pv_start (q : Rat) : ∀ (l : List (Rat × Nat)) (s : Rat), l.foldl (fun x (vn : Rat × Nat) => x * vn.1 ^ vn.2) (s * q) = s * l.foldl (fun x (vn : Rat × Nat) => x * vn.1 ^ vn.2) q := by
  intro l
  induction l generalizing q with
  | nil => intro s; rfl
  | cons a l ih => intro s; rw [List.foldl_cons, List.foldl_cons, Rat.mul_assoc, ih]
def wtV (names : List Str) (st : List Rat) (x : Str) : Rat := if x = "" then 1 else worth names st x
theorem termV_eq (names : List Str) (st vals : List Rat) (t : Tm) : termV names st vals t = pvV vals (t.pw, t.q) * wtV names st t.n := by
  unfold termV pvV wtV
  by_cases e : t.n = ""
  · simp only [if_pos e]; grind
  · simp only [if_neg e]; rw [Rat.mul_comm t.q, pv_start]; grind
theorem sL_pick {l : List Str} (nd : l.Nodup) {x : Str} (hx : x ∈ l) (a : Rat) (w : Str → Rat) : sL (l.map fun y => (if x = y then a else 0) * w y) = a * w x := by
  have zer : ∀ l : List Str, x ∉ l → sL (l.map fun y => (if x = y then a else 0) * w y) = 0 := by
    intro l
    induction l with
    | nil => intro _; rfl
    | cons y l ih =>
      intro h
      rw [List.map_cons, sL, ih (fun h' => h (List.mem_cons_of_mem _ h')), if_neg (show ¬ x = y from fun e => h (by rw [e]; exact List.mem_cons_self ..))]; grind
  induction l with
  | nil => cases hx
  | cons y l ih =>
    have nd := List.nodup_cons.mp nd
    rw [List.map_cons, sL]
    by_cases e : x = y
    · subst e
      rw [if_pos rfl, zer l nd.1]; grind
    · rw [if_neg e, ih nd.2 (by rcases List.mem_cons.mp hx with h | h; exact absurd h e; exact h)]; grind
theorem terms_dot {l : List Str} (nd : l.Nodup) (vals : List Rat) (w : Str → Rat) : ∀ ts : List Tm, (∀ t ∈ ts, t.n ∈ l) → sL (l.map fun x => polyAt vals (termsOf ts x) * w x) = sL (ts.map fun t => pvV vals (t.pw, t.q) * w t.n) := by
  intro ts
  induction ts with
  | nil =>
    intro _
    have : ∀ l : List Str, sL (l.map fun x => polyAt vals (termsOf [] x) * w x) = 0 := by
      intro l
      induction l with
      | nil => rfl
      | cons y l ih => rw [List.map_cons, sL, ih]; have : polyAt vals (termsOf [] y) = 0 := rfl; rw [this]; grind
    rw [this]; rfl
  | cons t ts ih =>
    intro h
    have e : ∀ x, polyAt vals (termsOf (t :: ts) x) * w x = (if t.n = x then pvV vals (t.pw, t.q) else 0) * w x + polyAt vals (termsOf ts x) * w x := fun x => by
      rw [polyAt_sL, polyAt_sL, termsOf, termsOf]
      by_cases e : t.n = x
      · rw [List.filter_cons_of_pos (by simpa using e), List.map_cons, List.map_cons, sL, if_pos e]; grind
      · rw [List.filter_cons_of_neg (by simpa using e), if_neg e]; grind
    have add : ∀ (f g : Str → Rat) (l : List Str), sL (l.map fun x => f x + g x) = sL (l.map f) + sL (l.map g) := by
      intro f g l
      induction l with
      | nil => simp only [List.map_nil, sL]; grind
      | cons y l ih => rw [List.map_cons, List.map_cons, List.map_cons, sL, sL, sL, ih]; grind
    simp only [e]
    rw [add, sL_pick nd (h t (List.mem_cons_self ..)), ih fun t h' => h t (List.mem_cons_of_mem _ h'), List.map_cons, sL]
theorem worths : ∀ {names : List Str} {st : List Rat}, names.Nodup → st.length = names.length → names.map (worth names st) = st := by
  intro names st nd hl
  apply List.ext_getElem
  · simp [hl]
  · intro i h1 h2
    rw [List.getElem_map]
    have hi : i < names.length := by omega
    have hm : (names[i], st[i]) ∈ names.zip st := by
      rw [List.mem_iff_getElem]
      exact ⟨i, by simp; omega, by simp⟩
    have nz : ((names.zip st).map (·.1)).Nodup := by rw [List.map_fst_zip (by omega)]; exact nd
    have := alook_of nz hm
    unfold worth
    rw [this]; rfl
theorem wts {names : List Str} {st : List Rat} (nd : names.Nodup) (h0 : ("" : Str) ∉ names) (hl : st.length = names.length) : (("" : Str) :: names).map (wtV names st) = 1 :: st := by
  rw [List.map_cons]
  have : names.map (wtV names st) = names.map (worth names st) := by
    apply List.map_congr_left
    intro x hx
    unfold wtV
    exact if_neg (show ¬ x = "" from fun e => h0 (by rw [← e]; exact hx))
  rw [this, worths nd hl]
  rfl
theorem zer_dot : ∀ (st : List Rat) (n : Nat), dotV (List.replicate n 0) st = 0 := by
  intro st n
  have key : ∀ (st : List Rat) (n : Nat) (s : Rat), ((List.replicate n (0 : Rat)).zip st).foldl (fun s p => s + p.1 * p.2) s = s := by
    intro st
    induction st with
    | nil => intro n s; simp
    | cons y st ih =>
      intro n s
      cases n with
      | zero => rfl
      | succ n => rw [List.replicate_succ, List.zip_cons_cons, List.foldl_cons, ih]; grind
  exact key st n 0
theorem dot_cons (a b : Rat) (l l' : List Rat) : dotV (a :: l) (b :: l') = a * b + dotV l l' := by
  have key : ∀ (l : List (Rat × Rat)) (s : Rat), l.foldl (fun s p => s + p.1 * p.2) s = s + sL (l.map fun p => p.1 * p.2) := fun l s => foldl_sL (fun p : Rat × Rat => p.1 * p.2) l s
  rw [dotV, dotV, List.zip_cons_cons, List.foldl_cons, key, key]; grind
section
variable {P : Pg}
theorem polyAt_one (vals : List Rat) (n : Nat) : polyAt vals (oneP n) = 1 := by
  have key : ∀ (l : List Rat) (n : Nat) (x : Rat), (l.zip (List.replicate n 0)).foldl (fun x (vn : Rat × Nat) => x * vn.1 ^ vn.2) x = x := by
    intro l
    induction l with
    | nil => intro n x; rfl
    | cons a l ih =>
      intro n x
      cases n with
      | zero => rfl
      | succ n => rw [List.replicate_succ, List.zip_cons_cons, List.foldl_cons, ih]; simp
  rw [polyAt, oneP, List.foldl_cons, List.foldl_nil, pvV, key, Rat.zero_add]
theorem row_col (ok : OkPg P) {r : Rw} (hr : OkRw P r) {st : List Rat} (hl : st.length = P.nums.length) : colM (rowM P r) (1 :: st) = 1 :: ledV P st r := by
  obtain ⟨h1, h2, h3, h4⟩ := hr.kind ok
  have kd := ok.kd _ h1
  have okn := ok.okn
  unfold rowM ledV colM rmV kmV
  have hl' : st.length = (P.nums.map (·.1)).length := by rw [List.length_map]; exact hl
  generalize P.nums.map (·.1) = names at *
  rw [List.map_cons, List.map_cons, List.map_cons, polyAt_one]
  congr 1
  · have : (List.replicate names.length ([] : Poly)).map (fun p => polyAt r.2 p) = List.replicate names.length 0 := by rw [List.map_replicate]; rfl
    rw [this, dot_cons, zer_dot]; grind
  · rw [List.map_map, List.map_map]
    apply List.map_congr_left
    intro ts hts
    have hs := kd.sums ts hts
    simp only [Function.comp_def]
    rw [← wts okn.1 okn.2.2 hl', List.map_map]
    simp only [Function.comp_def]
    rw [dot_map (fun x => polyAt r.2 (termsOf ts x)) (wtV names st), terms_dot (List.nodup_cons.mpr ⟨okn.2.2, okn.1⟩) _ _ _ (fun t ht => by
      rcases hs.n t ht with e | e
      · rw [e]; exact List.mem_cons_self ..
      · exact List.mem_cons_of_mem _ e), valueAt_sL]
    congr 1
    apply List.map_congr_left
    intro t _
    rw [termV_eq]
theorem rowM_sq (ok : OkPg P) {r : Rw} (hr : OkRw P r) : Sq (P.nums.length + 1) (rowM P r) := by
  obtain ⟨h1, h2, h3, h4⟩ := hr.kind ok
  have kd := ok.kd _ h1
  have km := kmV_ok kd
  have nml : (P.nums.map (·.1)).length = P.nums.length := by simp
  refine ⟨by rw [rowM, rmV, List.length_map, km_len kd, nml], fun row hrow => ?_⟩
  obtain ⟨ps, hps, rfl⟩ := List.mem_map.mp hrow
  rw [List.length_map, (km ps hps).1, nml]
theorem str_fold (ok : OkPg P) : ∀ (sr : List Rw) (A : Mx), (∀ r ∈ sr, OkRw P r) → Sq (P.nums.length + 1) A →
    Sq (P.nums.length + 1) (sr.foldl (fun A r => mulV (P.nums.length + 1) (rowM P r) A) A) ∧
    (∀ B, Sq (P.nums.length + 1) B → sr.foldl (fun A r => mulV (P.nums.length + 1) (rowM P r) A) (mulV (P.nums.length + 1) A B) = mulV (P.nums.length + 1) (sr.foldl (fun A r => mulV (P.nums.length + 1) (rowM P r) A) A) B) ∧
    ∀ st : List Rat, st.length = P.nums.length → ∀ c : List Rat, c.length = P.nums.length + 1 → colM A c = 1 :: st → colM (sr.foldl (fun A r => mulV (P.nums.length + 1) (rowM P r) A) A) c = 1 :: sr.foldl (ledV P) st := by
  intro sr
  induction sr with
  | nil => intro A _ hA; exact ⟨hA, fun B _ => rfl, fun st _ c _ h => h⟩
  | cons r sr ih =>
    intro A h hA
    have hr := h r (List.mem_cons_self ..)
    have hsq := rowM_sq ok hr
    obtain ⟨i1, i2, i3⟩ := ih (mulV (P.nums.length + 1) (rowM P r) A) (fun r h' => h r (List.mem_cons_of_mem _ h')) (mul_sq hsq)
    refine ⟨i1, fun B hB => ?_, fun st hst c hc hA' => ?_⟩
    · rw [List.foldl_cons, List.foldl_cons, ← mul_assocV hsq hA hB, i2 B hB]
    · rw [List.foldl_cons, List.foldl_cons]
      refine i3 (ledV P st r) ?_ c hc ?_
      · have kd := ok.kd _ (hr.kind ok).1
        rw [ledV, List.length_map, kd.turns, List.length_map]
      · rw [colM_mul hsq hA hc, hA', row_col ok hr hst]
theorem strM_sq (ok : OkPg P) {sr : List Rw} (h : ∀ r ∈ sr, OkRw P r) : Sq (P.nums.length + 1) (strM P sr) := (str_fold ok sr _ h (id_sq _)).1
theorem strM_append (ok : OkPg P) {one other : List Rw} (h1 : ∀ r ∈ one, OkRw P r) (h2 : ∀ r ∈ other, OkRw P r) : strM P (one ++ other) = mulV (P.nums.length + 1) (strM P other) (strM P one) := by
  have sq := strM_sq ok h1
  have := (str_fold ok other _ h2 (id_sq _)).2.1 _ sq
  rw [id_mul sq] at this
  rw [strM, List.foldl_append]
  exact this
theorem strM_col (ok : OkPg P) {one other : List Rw} (h1 : ∀ r ∈ one, OkRw P r) (hl : (stateV P other).length = P.nums.length) : colM (strM P one) (1 :: stateV P other) = 1 :: stateV P (other ++ one) := by
  have := (str_fold ok one _ h1 (id_sq _)).2.2 (stateV P other) hl (1 :: stateV P other) (by simp [hl]) (id_col (by simp [hl]))
  rw [strM, this, stateV, stateV, List.foldl_append]
end
end Cl.Pl

set_option Elab.async false
set_option linter.all false
/-! PlW: the grid gives a row's matrix back. -/
namespace Cl.Pl
open PySem
theorem sL_add {α : Type} (f g : α → Rat) (l : List α) : sL (l.map fun x => f x + g x) = sL (l.map f) + sL (l.map g) := by
  induction l with
  | nil => simp only [List.map_nil, sL]; grind
  | cons y l ih => rw [List.map_cons, List.map_cons, List.map_cons, sL, sL, sL, ih]; grind
theorem sL_mul {α : Type} (c : Rat) (f : α → Rat) (l : List α) : sL (l.map fun x => c * f x) = c * sL (l.map f) := by
  induction l with
  | nil => simp only [List.map_nil, sL]; grind
  | cons y l ih => rw [List.map_cons, List.map_cons, sL, sL, ih]; grind
theorem sL_flat {α β : Type} (f : β → Rat) (g : α → List β) (l : List α) : sL ((l.flatMap g).map f) = sL (l.map fun x => sL ((g x).map f)) := by
  induction l with
  | nil => rfl
  | cons y l ih => rw [List.flatMap_cons, List.map_append, sL_append, ih, List.map_cons, sL]
theorem one_d {a p : Nat} (ha : a ≤ 2) (hp : p ≤ a) (v : Rat) : sL ((List.range (a + 1)).map fun i : Nat => shareV v i a * (i : Rat) ^ p) = v ^ p := by
  have h1 : a = 0 ∨ a = 1 ∨ a = 2 := by omega
  have h2 : p = 0 ∨ p = 1 ∨ p = 2 := by omega
  rcases h1 with rfl | rfl | rfl <;> rcases h2 with rfl | rfl | rfl <;> first | omega | (simp [List.range_succ, shareV, sL]; try grind)
def leL : List Nat → List Nat → Prop
  | [], [] => True
  | a :: as, b :: bs => a ≤ b ∧ leL as bs
  | _, _ => False
theorem leL_refl : ∀ a, leL a a
  | [] => trivial
  | a :: as => ⟨Nat.le_refl _, leL_refl as⟩
theorem leL_trans : ∀ {a b c}, leL a b → leL b c → leL a c
  | [], [], [], _, _ => trivial
  | _ :: _, _ :: _, _ :: _, h, h' => ⟨Nat.le_trans h.1 h'.1, leL_trans h.2 h'.2⟩
theorem leL_max : ∀ {a b : List Nat}, a.length = b.length → leL a (maxV a b) ∧ leL b (maxV a b)
  | [], [], _ => ⟨trivial, trivial⟩
  | x :: a, y :: b, h => by
    have := leL_max (a := a) (b := b) (by simpa using h)
    exact ⟨⟨Nat.le_max_left .., this.1⟩, ⟨Nat.le_max_right .., this.2⟩⟩
theorem gp_ge {names : List Str} {K : Kd} (kd : OkKd names K) : ∀ ts ∈ K.turns, ∀ t ∈ ts, leL t.pw (gpV K) := by
  have nf := K.fields.length
  have inner : ∀ (ts : List Tm) (acc : List Nat), (∀ t ∈ ts, t.pw.length = K.fields.length) → acc.length = K.fields.length →
      (ts.foldl (fun acc t => maxV acc t.pw) acc).length = K.fields.length ∧ leL acc (ts.foldl (fun acc t => maxV acc t.pw) acc) ∧ ∀ t ∈ ts, leL t.pw (ts.foldl (fun acc t => maxV acc t.pw) acc) := by
    intro ts
    induction ts with
    | nil => intro acc _ h; exact ⟨h, leL_refl _, fun t ht => by cases ht⟩
    | cons t ts ih =>
      intro acc h ha
      have ht := h t (List.mem_cons_self ..)
      obtain ⟨m1, m2⟩ := leL_max (a := acc) (b := t.pw) (by omega)
      obtain ⟨i1, i2, i3⟩ := ih (maxV acc t.pw) (fun t h' => h t (List.mem_cons_of_mem _ h')) (by simp [maxV, ha, ht])
      refine ⟨i1, leL_trans m1 i2, fun t' ht' => ?_⟩
      rcases List.mem_cons.mp ht' with rfl | ht'
      · exact leL_trans m2 i2
      · exact i3 t' ht'
  have outer : ∀ (l : List (List Tm)) (acc : List Nat), (∀ ts ∈ l, ∀ t ∈ ts, t.pw.length = K.fields.length) → acc.length = K.fields.length →
      leL acc (l.foldl (fun acc ts => ts.foldl (fun acc t => maxV acc t.pw) acc) acc) ∧ ∀ ts ∈ l, ∀ t ∈ ts, leL t.pw (l.foldl (fun acc ts => ts.foldl (fun acc t => maxV acc t.pw) acc) acc) := by
    intro l
    induction l with
    | nil => intro acc _ _; exact ⟨leL_refl _, fun ts h => by cases h⟩
    | cons ts l ih =>
      intro acc h ha
      obtain ⟨j1, j2, j3⟩ := inner ts acc (h ts (List.mem_cons_self ..)) ha
      obtain ⟨i1, i2⟩ := ih _ (fun ts h' => h ts (List.mem_cons_of_mem _ h')) j1
      refine ⟨leL_trans j2 i1, fun ts' h' => ?_⟩
      rcases List.mem_cons.mp h' with rfl | h'
      · exact fun t ht => leL_trans (j3 t ht) i1
      · exact i2 ts' h'
  exact (outer K.turns _ (fun ts hts t ht => (kd.sums ts hts).pl t ht) (by simp)).2
theorem nat_num (n : Nat) : (n : Rat).num.toNat = n := by simp
/-- one term -/
theorem mono_lag {gp pw : List Nat} {vals : List Rat} (hg : ∀ a ∈ gp, a ≤ 2) (hn : gp.length ≤ 2) (hl : leL pw gp) (hv : vals.length = gp.length) (q : Rat) : sL ((kgV gp).map fun pl => facV vals pl gp * pvV pl (pw, q)) = pvV vals (pw, q) := by
  match gp, pw, vals, hl, hv with
  | [], [], [], _, _ => simp [kgV, facV, pvV, sL]; grind
  | [a], [p], [v], hl, _ =>
    have h1 := one_d (hg a (by simp)) hl.1 v
    have e : (kgV [a]).map (fun pl => facV [v] pl [a] * pvV pl ([p], q)) = (List.range (a + 1)).map fun i : Nat => q * (shareV v i a * (i : Rat) ^ p) := by
      simp only [kgV, List.foldl_cons, List.foldl_nil, List.flatMap_cons, List.flatMap_nil, List.append_nil, List.nil_append, List.map_map]
      apply List.map_congr_left
      intro i _
      simp only [Function.comp_def, facV, pvV, List.zip_cons_cons, List.zip_nil_left, List.foldl_cons, List.foldl_nil, nat_num]
      grind
    rw [e, sL_mul, h1]
    simp [pvV]
  | [a, b], [p, r], [v, w], hl, _ =>
    have h1 := one_d (hg a (by simp)) hl.1 v
    have h2 := one_d (hg b (by simp)) hl.2.1 w
    have e : (kgV [a, b]).map (fun pl => facV [v, w] pl [a, b] * pvV pl ([p, r], q)) = ((List.range (a + 1)).flatMap fun i : Nat => (List.range (b + 1)).map fun j : Nat => (q * (shareV v i a * (i : Rat) ^ p)) * (shareV w j b * (j : Rat) ^ r)) := by
      simp only [kgV, List.foldl_cons, List.foldl_nil, List.flatMap_cons, List.flatMap_nil, List.append_nil, List.nil_append, List.flatMap_map, List.map_flatMap, List.map_map]
      congr 1
      funext i
      apply List.map_congr_left
      intro j _
      simp only [Function.comp_def, facV, pvV, List.cons_append, List.nil_append, List.zip_cons_cons, List.zip_nil_left, List.foldl_cons, List.foldl_nil, nat_num]
      grind
    have e3 : ((List.range (a + 1)).flatMap fun i : Nat => (List.range (b + 1)).map fun j : Nat => (q * (shareV v i a * (i : Rat) ^ p)) * (shareV w j b * (j : Rat) ^ r)) = (((List.range (a + 1)).flatMap fun i : Nat => (List.range (b + 1)).map fun j : Nat => (q * (shareV v i a * (i : Rat) ^ p)) * (shareV w j b * (j : Rat) ^ r)).map fun x => x) := by rw [List.map_id']
    rw [e, e3, sL_flat]
    have e4 : ((List.range (a + 1)).map fun i : Nat => sL (((List.range (b + 1)).map fun j : Nat => (q * (shareV v i a * (i : Rat) ^ p)) * (shareV w j b * (j : Rat) ^ r)).map fun x => x)) = (List.range (a + 1)).map fun i : Nat => (q * w ^ r) * (shareV v i a * (i : Rat) ^ p) := by
      apply List.map_congr_left
      intro i _
      rw [List.map_id', sL_mul, h2]; grind
    rw [e4, sL_mul, h1]
    simp only [pvV, List.zip_cons_cons, List.zip_nil_left, List.foldl_cons, List.foldl_nil]
    grind
/-- a polynomial -/
theorem poly_lag {gp : List Nat} {vals : List Rat} (hg : ∀ a ∈ gp, a ≤ 2) (hn : gp.length ≤ 2) (hv : vals.length = gp.length) : ∀ p : Poly, (∀ t ∈ p, leL t.1 gp) → sL ((kgV gp).map fun pl => facV vals pl gp * polyAt pl p) = polyAt vals p := by
  intro p
  induction p with
  | nil =>
    intro _
    have : ∀ l : List (List Rat), sL (l.map fun pl => facV vals pl gp * polyAt pl []) = 0 := by
      intro l
      induction l with
      | nil => rfl
      | cons y l ih => rw [List.map_cons, sL, ih]; have : polyAt y [] = 0 := rfl; rw [this]; grind
    rw [this]; rfl
  | cons t p ih =>
    intro h
    have e : ∀ pl, facV vals pl gp * polyAt pl (t :: p) = facV vals pl gp * pvV pl (t.1, t.2) + facV vals pl gp * polyAt pl p := fun pl => by
      rw [polyAt_sL, polyAt_sL, List.map_cons, sL]; grind
    simp only [e]
    rw [sL_add, mono_lag hg hn (h t (List.mem_cons_self ..)) hv, ih fun t h' => h t (List.mem_cons_of_mem _ h'), polyAt_sL, polyAt_sL, List.map_cons, sL]
end Cl.Pl

set_option Elab.async false
set_option linter.all false
/-! PlX: what is shown and sorted of matrices. -/
namespace Cl.Pl
open PySem
theorem shw_deq {n : Nat} {d : D} (hd : Shw 60 n d) (hn : n ≤ 16777216) : deq d d = some true := by
  obtain ⟨p, p1, p2, p3, p4, p5, p6⟩ := hd
  have sh : SeqAt.shaped p = true := by unfold SeqAt.shaped; simp [p3]; omega
  unfold deq
  rw [p1]
  simp only [sh, and_self, if_true, SeqAt.eqv_refl p p3]
theorem shw_st {l : List Rat} {n : Nat} (hl : l.length ≤ n) (h : ∀ q ∈ l, Fit q) : Shw 2 (n * 3811 + 3) (stD l) := by
  refine (shw_tup (k := 1) (n := 3809) (ds := l.map qD) fun d hd => ?_).up (Nat.le_refl _) ?_
  · obtain ⟨q, hq, rfl⟩ := List.mem_map.mp hd
    exact shw_q (h q hq)
  · rw [List.length_map]
    exact Nat.add_le_add_right (Nat.mul_le_mul_right 3811 hl) 3
def FitM (A : Mx) : Prop := ∀ r ∈ A, ∀ q ∈ r, Fit q
theorem shw_mx {n : Nat} {A : Mx} (h : Sq n A) (hn : n ≤ 4) (hf : FitM A) : Shw 3 61000 (mxD A) := by
  refine (shw_tup (k := 2) (n := 4 * 3811 + 3) (ds := A.map stD) fun d hd => ?_).up (Nat.le_refl _) ?_
  · obtain ⟨r, hr, rfl⟩ := List.mem_map.mp hd
    exact shw_st (by rw [h.2 r hr]; exact hn) (hf r hr)
  · rw [List.length_map, h.1]
    exact Nat.le_trans (Nat.add_le_add_right (Nat.mul_le_mul_right 15249 hn) 3) (by decide)
theorem fit_up {j : Nat} (hj : j ≤ 8) : (2592 ^ j).log2 < 1900 ∧ (1944 ^ j * 2592 ^ j).log2 < 1900 := by
  have : j = 0 ∨ j = 1 ∨ j = 2 ∨ j = 3 ∨ j = 4 ∨ j = 5 ∨ j = 6 ∨ j = 7 ∨ j = 8 := by omega
  rcases this with rfl | rfl | rfl | rfl | rfl | rfl | rfl | rfl | rfl <;> decide +kernel
theorem MOk.fit {P : Pg} {j : Nat} {A : Mx} (h : MOk P j A) (hj : j ≤ 8) : FitM A := fun r hr q hq => (h.bd r hr q hq).fit (fit_up hj).1 (fit_up hj).2
theorem fit_st {j : Nat} (hj : j ≤ 8) {q : Rat} (h : BdS j q) : Fit q := by
  have : j = 0 ∨ j = 1 ∨ j = 2 ∨ j = 3 ∨ j = 4 ∨ j = 5 ∨ j = 6 ∨ j = 7 ∨ j = 8 := by omega
  rcases this with rfl | rfl | rfl | rfl | rfl | rfl | rfl | rfl | rfl <;> exact Bd.fit h (by decide +kernel) (by decide +kernel)
theorem shw_ints {l : List Nat} (hl : l.length ≤ 2) (h : ∀ p ∈ l, p ≤ 2) : Shw 1 3809 (pwD l) := by
  refine (shw_tup (k := 0) (n := 1901) (ds := l.map fun k : Nat => D.int (k : Int)) fun d hd => ?_).up (Nat.le_refl _) ?_
  · obtain ⟨p, hp, rfl⟩ := List.mem_map.mp hd
    have := h p hp
    refine shw_int ?_
    have h2 : p = 0 ∨ p = 1 ∨ p = 2 := by omega
    rcases h2 with rfl | rfl | rfl <;> decide +kernel
  · rw [List.length_map]; omega
theorem shw_po {p : Poly} (hl : p.length ≤ 3) (h : ∀ t ∈ p, t.1.length ≤ 2 ∧ (∀ x ∈ t.1, x ≤ 2) ∧ Fit t.2) : Shw 3 23000 (.lst (p.map ptD)) := by
  refine (shw_lst (k := 2) (n := 7625) (ds := p.map ptD) fun d hd => ?_).up (Nat.le_refl _) ?_
  · obtain ⟨t, ht, rfl⟩ := List.mem_map.mp hd
    obtain ⟨h1, h2, h3⟩ := h t ht
    refine (shw_tup (k := 1) (n := 3809) (ds := [pwD t.1, qD t.2]) fun d hd => ?_).up (Nat.le_refl _) (by simp)
    rcases List.mem_cons.mp hd with rfl | hd
    · exact shw_ints h1 h2
    · rw [List.mem_singleton.mp hd]; exact shw_q h3
  · rw [List.length_map]; omega
/-! ### sorted -/
theorem ints_eqv : ∀ a b : List Nat, PyData.eqvAll (a.map fun k : Nat => PyData.int (k : Int)) (b.map fun k : Nat => PyData.int (k : Int)) = decide (a = b)
  | [], [] => rfl
  | [], _ :: _ => rfl
  | _ :: _, [] => rfl
  | x :: a, y :: b => by
    rw [List.map_cons, List.map_cons, PyData.eqvAll, ints_eqv a b]
    simp only [PyData.eqv]
    by_cases e : x = y
    · subst e; simp
    · have : ¬ ((x : Int) = y) := by omega
      simp [e, this]
def intsP (l : List Nat) : PyData := .tuple (l.map fun k : Nat => PyData.int (k : Int))
theorem pwD_py (l : List Nat) : (pwD l).py = some (intsP l) := by
  obtain ⟨ps, h1, h2, h3⟩ := hasPy_ints l
  unfold pwD intsP
  rw [D.py, h1, h3]; rfl
theorem ptD_py (t : List Nat × Rat) : (ptD t).py = some (.tuple [intsP t.1, .tuple [.int t.2.num, .int t.2.den]]) := by
  unfold ptD qD
  simp only [D.py, D.pys, pwD_py, Option.map_some]
theorem ints_alike (a b : List Nat) : PySem.W.alike (intsP a) (intsP b) = true := by
  unfold intsP; simp [PySem.W.alike, alike_ints]
theorem q_alike (a b : Rat) : PySem.W.alike (.tuple [.int a.num, .int a.den]) (.tuple [.int b.num, .int b.den]) = true := by
  simp [PySem.W.alike, PySem.W.alikeAll]
theorem eqv_intsP (a b : List Nat) : PyData.eqv (intsP a) (intsP b) = decide (a = b) := by
  unfold intsP; rw [PyData.eqv, ints_eqv]
theorem pt_le {a b : List Nat × Rat} {n : Str} (hne : a.1 ≠ b.1) (h : tkLe (n, a.1) (n, b.1) = true) : PySem.W.dataLe false enc (ptD a) (ptD b) = true := by
  have h1 : PySem.W.dataLe false enc (tkD (n, a.1)) (tkD (n, b.1)) = true := h
  rw [PySem.W.dataLe_eq] at h1 ⊢
  simp only [cond_false] at h1 ⊢
  have t1 : ∀ x : List Nat, enc (tkD (n, x)) = .tuple [.str n, intsP x] := fun x => by unfold enc; rw [enc_tk]; rfl
  have t2 : ∀ x, enc (ptD x) = .tuple [intsP x.1, .tuple [.int x.2.num, .int x.2.den]] := fun x => by unfold enc; rw [ptD_py]; rfl
  have hd : ¬ decide (b.1 = a.1) = true := fun e => hne (of_decide_eq_true e).symm
  rw [t1, t1, PySem.W.dataLt_pair (by simp [PySem.W.alike]) (ints_alike _ _), if_pos (by simp [PyData.eqv]), eqv_intsP, if_neg hd] at h1
  rw [t2, t2, PySem.W.dataLt_pair (ints_alike _ _) (q_alike _ _), eqv_intsP, if_neg hd]
  exact h1
theorem sort_pts {p : Poly} (hl : p.length ≤ 1000) (h : p.Pairwise fun a b => PySem.W.dataLe false enc (ptD a) (ptD b) = true) : sortD (p.map ptD) = some (p.map ptD) := by
  unfold sortD
  rw [if_pos]
  · rw [List.mergeSort_of_pairwise]
    rw [List.pairwise_map]
    exact h
  · simp only [Bool.and_eq_true, decide_eq_true_eq, List.length_map, List.all_eq_true, List.mem_map, Bool.or_eq_true, forall_exists_index, and_imp, forall_apply_eq_imp_iff₂]
    refine ⟨⟨⟨⟨fun a _ => ?_, ?_⟩, .inl (.inl fun a _ => rfl)⟩, fun a _ => ?_⟩, by omega⟩
    · unfold hasPy; rw [ptD_py]; rfl
    · unfold alikeL
      simp only [List.all_eq_true, List.mem_map, forall_exists_index, and_imp, forall_apply_eq_imp_iff₂]
      intro a _ b _
      unfold enc
      rw [ptD_py, ptD_py]
      simp [PySem.W.alike, PySem.W.alikeAll, ints_alike]
    · unfold enc
      rw [ptD_py]
      obtain ⟨ps, h1, h2, h3⟩ := hasPy_ints a.1
      simp [PyData.depth, PyData.depthAll, intsP, ← h3, h2]
theorem terms_sorted {names : List Str} {nf most : Nat} {ts : List Tm} (h : OkSum names nf most ts) (x : Str) : (termsOf ts x).Pairwise fun a b => PySem.W.dataLe false enc (ptD a) (ptD b) = true := by
  unfold termsOf
  rw [List.pairwise_map, List.pairwise_filter]
  have nd := h.nd
  have asc := h.asc
  unfold List.Nodup at nd
  rw [List.pairwise_map] at nd asc
  refine (nd.and asc).imp fun {a b} ⟨h1, h2⟩ ha hb => ?_
  have ha : a.n = x := by simpa using ha
  have hb : b.n = x := by simpa using hb
  unfold Tm.key at h1 h2
  rw [ha, hb] at h1 h2
  exact pt_le (n := x) (fun e => h1 (by simp only at e; rw [e])) h2
/-- the cells of a kind's matrix -/
theorem cell_ok {names : List Str} {K : Kd} (kd : OkKd names K) : ∀ ps ∈ kmV names K, ∀ p ∈ ps, sortD (p.map ptD) = some (p.map ptD) ∧ deq (.lst (p.map ptD)) (.lst (p.map ptD)) = some true ∧ (∀ t ∈ p, t.2 ≠ 0) ∧ ∀ t ∈ p, leL t.1 (gpV K) := by
  intro ps hps p hp
  have fl := kd.fl
  obtain ⟨k1, k2⟩ := (kmV_ok kd ps hps).2 p hp
  have dq : deq (.lst (p.map ptD)) (.lst (p.map ptD)) = some true := shw_deq ((shw_po k1 fun t ht => ⟨by rw [(k2 t ht).pl]; exact fl, (k2 t ht).pw, (k2 t ht).bd.fit (by decide +kernel) (by decide +kernel)⟩).up (by decide) (Nat.le_refl _)) (by decide)
  rcases List.mem_cons.mp hps with rfl | hps
  · rcases List.mem_cons.mp hp with rfl | hp
    · refine ⟨sort_pts (by simp [oneP]) (by simp [oneP]), dq, fun t ht => ?_, fun t ht => ?_⟩
      · rw [List.mem_singleton.mp ht]; show (1 : Rat) ≠ 0; decide
      · rw [List.mem_singleton.mp ht]
        have g := (gp_ok kd).len
        generalize gpV K = gp at *
        rw [← g]
        clear dq g hp hps k1 k2 kd fl ht
        induction gp with
        | nil => exact trivial
        | cons a l ih => exact ⟨Nat.zero_le _, ih⟩
    · rw [(List.mem_replicate.mp hp).2]
      exact ⟨sort_pts (by simp) List.Pairwise.nil, rfl, fun t ht => (by cases ht), fun t ht => (by cases ht)⟩
  · obtain ⟨ts, hts, rfl⟩ := List.mem_map.mp hps
    obtain ⟨x, _, rfl⟩ := List.mem_map.mp hp
    have ok := kd.sums ts hts
    refine ⟨sort_pts (by have := terms_len ts x; have := ok.len; omega) (terms_sorted ok x), dq, fun t ht => ?_, fun t ht => ?_⟩
    · obtain ⟨t', ht', rfl⟩ := List.mem_map.mp ht
      exact (ok.nn t' (List.mem_filter.mp ht').1).ne
    · obtain ⟨t', ht', rfl⟩ := List.mem_map.mp ht
      exact gp_ge kd ts hts t' (List.mem_filter.mp ht').1
theorem exs_append {c : Cfg} {b : List Sm} : ∀ {a : List Sm} {σ : Env}, exs c (a ++ b) σ = exs c a σ >>= seqK c b
  | [], σ => by rw [List.nil_append, exs_nil, pure_bind]; rfl
  | s :: a, σ => by
    rw [List.cons_append, exs_cons, exs_cons, bind_assoc]
    congr 1
    funext f
    cases f with
    | nx σ => exact exs_append
    | _ => rfl
section
variable {m : Mo} {k : Nat}
theorem bag_ok (h : HasDr m) {ns : List Int} (hl : ns.length ≤ 63) : Wp (m.call (k + 1) "_law_bag" [.frl (ns.map fun n => .int n)]) (fun d S' => d = .ref 0 ∧ Good 0 S') [] := by
  rw [call_run h.bag rfl]
  have e : cut (ns.map fun n => D.int n) none (some 63) = (ns.map fun n => D.int n) := by
    rw [show (63 : Int) = ((63 : Nat) : Int) from rfl, cut_take, List.take_of_length_le (by simpa using hl)]
  simp [f__law_bag, e]
  rw [liml_ok (by simp; omega), compL_map (f := fun n : Int => .int (if n < 0 then -n else n)) (by intro n _; simp)]
  simp
  refine ⟨_, _, rfl, rfl, 0, 1234567891, 0, ns.map fun n => if n < 0 then -n else n, ?_, by decide, by decide, by decide, by decide, by decide, by simpa using hl, ?_⟩
  · simp [Function.comp_def]
  · intro c hc
    obtain ⟨n, _, rfl⟩ := List.mem_map.mp hc
    split <;> omega
end
end Cl.Pl

set_option Elab.async false
set_option linter.all false
/-! K30: whole matrices of rows. -/
namespace Cl.Pl
open PySem
structure HasK30 (m : Mo) : Prop extends HasPg m, HasGr m, HasLGr m, HasAl m where
def f30_t1 : List Sm := [.par 7 false (.call "_law_stretch_matrix" [(.var 3), (.var 4)]) 8 false (.call "_law_stretch_matrix" [(.var 3), (.var 5)]),
    .asg (.nm 9) (.lst [(.call "row_matrix" [(.var 3), (.var 6)]), (.call "stretch_matrix" [(.var 3), (.var 4)]), (.call "stretch_matrix" [(.var 3), (.bin .Add (.var 4) (.var 5))]), (.call "column_of" [(.call "_law_state" [(.var 3), (.var 4)])]), (.call "begin_column" [(.var 3)])]),
    .ite (.not (.call "_law_alike" [(.var 9), (.lst [(.call "_law_matrix" [(.var 3), (.var 6)]), (.var 7), (.call "_law_times" [(.var 8), (.var 7)]), (.bin .Add (.tup [(.tup [(.con (.int 1)), (.con (.int 1))])]) (.call "_law_state" [(.var 3), (.var 4)])), (.bin .Add (.tup [(.tup [(.con (.int 1)), (.con (.int 1))])]) (.call "_law_state" [(.var 3), (.tup [])]))])])) [.ret (.con (.bl false))] []]
def f30_t2 : List Sm := [.asg (.nm 10) (.bin .Add (.tup [(.tup [(.con (.int 1)), (.con (.int 1))])]) (.call "_law_state" [(.var 3), (.var 5)])),
    .asg (.nm 11) (.bi .tuple [(.comp [13] (.call "_law_sum" [(.comp [21, 22] (.call "_law_mul" [(.var 21), (.var 22)]) (.tup [(.nm 21), (.nm 22)]) (.zip (.var 13) (.var 10)) [])]) (.nm 13) (.var 7) [])]),
    .ite (.cmp .NotEq (.var 11) (.bin .Add (.tup [(.tup [(.con (.int 1)), (.con (.int 1))])]) (.call "_law_state" [(.var 3), (.bin .Add (.var 5) (.var 4))]))) [.ret (.con (.bl false))] []]
def f30_b1 : List Sm := [.ite (.cmp .NotEq (.comp [23] (.var 23) (.nm 23) (.var 13) [(.or (.cmp .NotEq (.bi .list [(.var 23)]) (.bi .sorted [(.var 23)])) (.cmp .NotEq (.comp [24, 4] (.var 4) (.tup [(.nm 24), (.nm 4)]) (.var 23) [(.cmp .Eq (.var 4) (.tup [(.con (.int 0)), (.con (.int 1))]))]) (.lst [])))]) (.lst [])) [.ret (.con (.bl false))] [],
    .kil [13]]
def f30_t3 : List Sm := [.asg (.nm 12) (.call "kind_matrix" [(.var 3), (.idx (.var 6) (.con (.int 0)))]),
    .ite (.not (.call "_law_alike" [(.bi .tuple [(.comp [13] (.bi .tuple [(.comp [23] (.call "_law_poly_at" [(.var 23), (.idx (.var 6) (.con (.int 1)))]) (.nm 23) (.var 13) [])]) (.nm 13) (.var 12) [])]), (.call "_law_matrix" [(.var 3), (.var 6)])])) [.ret (.con (.bl false))] [],
    .kil [0, 2, 4, 5, 7, 8, 9, 10, 11, 13, 14, 15, 16, 17, 18, 19, 20],
    .for_ (.nm 13) (.var 12) f30_b1]
def f30_t4 : List Sm := [.asg (.nm 14) (.call "_law_grid" [(.var 3)]),
    .ite (.not (.call "_law_alike" [(.call "grid" [(.var 3)]), (.bi .tuple [(.var 14)])])) [.ret (.con (.bl false))] [],
    .asg (.nm 15) (.comp [20] (.var 20) (.nm 20) (.var 14) [(.cmp .Eq (.idx (.var 20) (.con (.int 0))) (.idx (.var 6) (.con (.int 0))))]),
    .asg (.nm 16) (.call "grid_factors" [(.var 3), (.var 6)]),
    .ite (.cmp .NotEq (.bi .len [(.var 16)]) (.bi .len [(.var 15)])) [.ret (.con (.bl false))] []]
def f30_b2 : List Sm := [.asg (.nm 18) (.comp [21, 22] (.call "_law_add" [(.var 21), (.call "_law_mul" [(.var 19), (.var 22)])]) (.tup [(.nm 21), (.nm 22)]) (.zip (.var 18) (.call "_law_flat" [(.call "_law_matrix" [(.var 3), (.var 20)])])) []),
    .kil [19, 20]]
def f30_t5 : List Sm := [.asg (.nm 17) (.bin .Add (.bi .len [(.idx (.var 3) (.con (.int 0)))]) (.con (.int 1))),
    .asg (.nm 18) (.bin .Mult (.lst [(.tup [(.con (.int 0)), (.con (.int 1))])]) (.bin .Mult (.var 17) (.var 17))),
    .kil [0, 2, 4, 5, 7, 8, 9, 10, 11, 12, 13, 14, 17, 19, 20],
    .for_ (.tup [(.nm 19), (.nm 20)]) (.zip (.var 16) (.var 15)) f30_b2,
    .ite (.cmp .NotEq (.bi .tuple [(.var 18)]) (.call "_law_flat" [(.call "_law_matrix" [(.var 3), (.var 6)])])) [.ret (.con (.bl false))] [],
    .kil [2, 3, 4, 5, 6, 7, 8, 9, 10, 11, 12, 13, 14, 15, 16, 17, 18, 19, 20]]
def f30_b3 : List Sm := [.asg (.nm 3) (.idx (.call "_law_program" [(.var 1)]) (.con (.int 0))),
    .par 4 false (.call "_law_stretch" [(.var 1), (.var 3), (.con (.int 3))]) 5 false (.call "_law_stretch" [(.var 1), (.var 3), (.con (.int 3))]),
    .asg (.nm 6) (.call "_law_row" [(.var 1), (.var 3)])] ++ (f30_t1 ++ (f30_t2 ++ (f30_t3 ++ (f30_t4 ++ f30_t5))))
def f30_law : Fn := ⟨1, 25, [.asg (.nm 1) (.call "_law_bag" [(.var 0)]),
    .kil [0],
    .for_ (.nm 2) (.rng [(.con (.int 4))]) f30_b3,
    .ret (.con (.bl true))]⟩
section
variable {m : Mo} {k : Nat}
structure E30 where
  P : Pg
  one : List Rw
  other : List Rw
  r : Rw
structure Ok30 (e : E30) : Prop where
  ok : OkPg e.P
  l1 : e.one.length ≤ 3
  l2 : e.other.length ≤ 3
  w1 : ∀ r ∈ e.one, OkRw e.P r
  w2 : ∀ r ∈ e.other, OkRw e.P r
  hr : OkRw e.P e.r
theorem add_one {st : List Rat} (h : st.length ≤ 1000) : binD .Add (.tup [qD 1]) (stD st) = some (stD (1 :: st)) := by
  have : 1 + st.length ≤ 1000000 := by omega
  simp [stD, this]
theorem add_sr {a b : List Rw} (h : a.length + b.length ≤ 1000) : binD .Add (srD a) (srD b) = some (srD (a ++ b)) := by
  have : a.length + b.length ≤ 1000000 := by omega
  simp [srD, this]
theorem t1_ok (h : HasK30 m) {e : E30} (o : Ok30 e) {x0 b x2 : Option Sl} : ∃ right found : D, exs ⟨m.call (k + 10), m.glob⟩ f30_t1 [x0, b, x2, some (.v (pgD e.P)), some (.v (srD e.one)), some (.v (srD e.other)), some (.v (rwD e.r)), none, none, none, none, none, none, none, none, none, none, none, none, none, none, none, none, none, none] =
    pure (.nx [x0, b, x2, some (.v (pgD e.P)), some (.v (srD e.one)), some (.v (srD e.other)), some (.v (rwD e.r)), some (.v (mxD (strM e.P e.one))), some (.v right), some (.v found), none, none, none, none, none, none, none, none, none, none, none, none, none, none, none]) := by
  have ok := o.ok
  have l1 := o.l1
  have l2 := o.l2
  have nl := ok.nml
  have w12 : ∀ r ∈ e.one ++ e.other, OkRw e.P r := fun r hr => (List.mem_append.mp hr).elim (o.w1 r) (o.w2 r)
  obtain ⟨a1, b1⟩ := law_stretch_matrix_ok (k := k + 4) h.toHasLMx h.toHasRm ok (by omega) o.w1
  obtain ⟨a2, b2⟩ := law_stretch_matrix_ok (k := k + 4) h.toHasLMx h.toHasRm ok (by omega) o.w2
  have a3 := row_matrix_ok (k := k + 3) h.toHasRm ok o.hr
  have a4 := (stretch_matrix_ok (k := k + 2) h.toHasRm ok (by omega) o.w1).1
  obtain ⟨a5, b5⟩ := stretch_matrix_ok (k := k + 2) h.toHasRm ok (sr := e.one ++ e.other) (by simp; omega) w12
  have a6 := law_state_ok (k := k + 4) h.toHasLSt ok (by omega) o.w1
  have a7 := law_state_ok (k := k + 4) h.toHasLSt ok (sr := []) (by simp) (by simp)
  have s1 := state_bd ok (by omega) o.w1
  have a8 := column_of_ok (k := k + 9) h.toHasRm (st := stateV e.P e.one) (by rw [s1.len]; omega)
  have a9 := begin_column_ok (k := k + 8) h.toHasRm ok
  have a10 := law_matrix_ok (k := k + 5) h.toHasLMx h.toHasRm ok o.hr
  have db : DB (2592 ^ e.other.length) (1944 ^ e.other.length) (2592 ^ e.one.length) (1944 ^ e.one.length) (e.P.nums.length + 1) := by
    have hj1 : e.one.length = 0 ∨ e.one.length = 1 ∨ e.one.length = 2 ∨ e.one.length = 3 := by omega
    have hj2 : e.other.length = 0 ∨ e.other.length = 1 ∨ e.other.length = 2 ∨ e.other.length = 3 := by omega
    have hn : e.P.nums.length = 1 ∨ e.P.nums.length = 2 ∨ e.P.nums.length = 3 := by omega
    rcases hn with hn | hn | hn <;> rw [hn] <;> rcases hj1 with hj | hj | hj | hj <;> rw [hj] <;> rcases hj2 with hj' | hj' | hj' | hj' <;> rw [hj'] <;> exact ⟨by decide, by decide, by decide +kernel, by decide +kernel⟩
  have a11 := law_times_ok (k := k + 5) h.toHasLMx db b2.sq b1.sq (by omega) (by omega) b2.bd b1.bd
  rw [← strM_append ok o.w1 o.w2] at a11
  have a12 := add_sr (a := e.one) (b := e.other) (by omega)
  have a13 := add_one (st := stateV e.P e.one) (by rw [s1.len]; omega)
  have s0 := begin_ok ok
  have a14 := add_one (st := beginV e.P) (by rw [s0.len]; omega)
  have e7 : stateV e.P [] = beginV e.P := rfl
  have e8 : srD [] = D.tup [] := rfl
  rw [e7, e8] at a7
  have sh : Shw 60 400000 (.lst [mxD (rowM e.P e.r), mxD (strM e.P e.one), mxD (strM e.P (e.one ++ e.other)), stD (1 :: stateV e.P e.one), stD (1 :: beginV e.P)]) := by
    have f1 : Fit (1 : Rat) := (Bd.one (D := 1) (N := 1) (by decide) (by decide)).fit (by decide) (by decide)
    refine (shw_lst (k := 3) (n := 61000) fun d hd => ?_).up (by decide) (by simp)
    simp only [List.mem_cons, List.not_mem_nil, or_false] at hd
    obtain ⟨r1, r2, _⟩ := rowM_ok (k := 0) h.toHasRm ok o.hr
    rcases hd with rfl | rfl | rfl | rfl | rfl
    · exact shw_mx r1 (by omega) fun r hr q hq => (r2 r hr q hq).fit (by decide +kernel) (by decide +kernel)
    · exact shw_mx b1.sq (by omega) (b1.fit (by omega))
    · exact shw_mx b5.sq (by omega) (b5.fit (by simp; omega))
    · refine (shw_st (n := 4) (by simp; rw [s1.len]; omega) fun q hq => ?_).up (by decide) (by decide)
      rcases List.mem_cons.mp hq with rfl | hq
      · exact f1
      · exact fit_st (by omega) (s1.bd q hq)
    · refine (shw_st (n := 4) (by simp; rw [s0.len]; omega) fun q hq => ?_).up (by decide) (by decide)
      rcases List.mem_cons.mp hq with rfl | hq
      · exact f1
      · exact fit_st (by omega) (s0.bd q hq)
  have al := alike_ok (k := k + 9) h.toHasAl sh (by decide) rfl
  refine ⟨mxD (strM e.P e.other), .lst [mxD (rowM e.P e.r), mxD (strM e.P e.one), mxD (strM e.P (e.one ++ e.other)), stD (1 :: stateV e.P e.one), stD (1 :: beginV e.P)], ?_⟩
  simp [f30_t1, a1, a2, a3, a4, a12, a5, a6, a8, a9, a10, a11, a13, a7, a14, al]
theorem bdl_one {j : Nat} : BdS j 1 := by
  unfold BdS
  have h1 : 0 < 2592 ^ j := Nat.pow_pos (by decide)
  have h2 : 0 < 486 ^ j := Nat.pow_pos (by decide)
  exact (Bd.one (D := 1) (N := 1) (by decide) (by decide)).up (Nat.one_dvd _) (by omega) (by omega)
theorem up_b {j : Nat} (hj : j ≤ 3) {q : Rat} (h : Bd (2592 ^ j) (1944 ^ j) q) : Bd (2592 ^ 3) (1944 ^ 3) q := by
  have : j = 0 ∨ j = 1 ∨ j = 2 ∨ j = 3 := by omega
  rcases this with rfl | rfl | rfl | rfl <;> exact h.up (by decide) (by decide) (by decide)
theorem up_s {j : Nat} (hj : j ≤ 3) {q : Rat} (h : BdS j q) : Bd (6 * 2592 ^ 3) (3 * 486 ^ 3) q := by
  unfold BdS at h
  have : j = 0 ∨ j = 1 ∨ j = 2 ∨ j = 3 := by omega
  rcases this with rfl | rfl | rfl | rfl <;> exact h.up (by decide) (by decide) (by decide)
theorem dot_sum (r c : List Rat) : sumV ((r.zip c).map fun p => p.1 * p.2) = dotV r c := by
  unfold sumV dotV; rw [List.foldl_map]
theorem t2_ok (h : HasK30 m) {e : E30} (o : Ok30 e) {x0 b x2 x8 x9 : Option Sl} : ∃ x10 x11 : D, exs ⟨m.call (k + 10), m.glob⟩ f30_t2 [x0, b, x2, some (.v (pgD e.P)), some (.v (srD e.one)), some (.v (srD e.other)), some (.v (rwD e.r)), some (.v (mxD (strM e.P e.one))), x8, x9, none, none, none, none, none, none, none, none, none, none, none, none, none, none, none] =
    pure (.nx [x0, b, x2, some (.v (pgD e.P)), some (.v (srD e.one)), some (.v (srD e.other)), some (.v (rwD e.r)), some (.v (mxD (strM e.P e.one))), x8, x9, some (.v x10), some (.v x11), none, none, none, none, none, none, none, none, none, none, none, none, none]) := by
  have ok := o.ok
  have l1 := o.l1
  have l2 := o.l2
  have nl := ok.nml
  have w21 : ∀ r ∈ e.other ++ e.one, OkRw e.P r := fun r hr => (List.mem_append.mp hr).elim (o.w2 r) (o.w1 r)
  obtain ⟨a1, b1⟩ := law_stretch_matrix_ok (k := k + 4) h.toHasLMx h.toHasRm ok (by omega) o.w1
  have a6 := law_state_ok (k := k + 4) h.toHasLSt ok (by omega) o.w2
  have a7 := law_state_ok (k := k + 4) h.toHasLSt ok (sr := e.other ++ e.one) (by simp; omega) w21
  have s1 := state_bd ok (by omega) o.w2
  have s2 := state_bd ok (sr := e.other ++ e.one) (by simp; omega) w21
  have a12 := add_sr (a := e.other) (b := e.one) (by omega)
  have a13 := add_one (st := stateV e.P e.other) (by rw [s1.len]; omega)
  have a14 := add_one (st := stateV e.P (e.other ++ e.one)) (by rw [s2.len]; omega)
  have col := strM_col ok (other := e.other) o.w1 s1.len
  have dq : deq (stD (1 :: stateV e.P (e.other ++ e.one))) (stD (1 :: stateV e.P (e.other ++ e.one))) = some true := by
    refine shw_deq (n := 20000) ((shw_st (n := 4) (by simp; rw [s2.len]; omega) fun q hq => ?_).up (by decide) (by decide)) (by decide)
    rcases List.mem_cons.mp hq with rfl | hq
    · exact fit_st (j := 0) (by omega) bdl_one
    · exact fit_st (by simp; omega) (s2.bd q hq)
  have cb : ∀ q ∈ 1 :: stateV e.P e.other, Bd (6 * 2592 ^ 3) (3 * 486 ^ 3) q := fun q hq => by
    rcases List.mem_cons.mp hq with rfl | hq
    · exact bdl_one
    · exact up_s l2 (s1.bd q hq)
  have cl : (1 :: stateV e.P e.other).length = e.P.nums.length + 1 := by simp [s1.len]
  have rb : ∀ row ∈ strM e.P e.one, ∀ q ∈ row, Bd (2592 ^ 3) (1944 ^ 3) q := fun row hr q hq => up_b l1 (b1.bd row hr q hq)
  have rl := b1.sq
  have len2 : (1 :: stateV e.P (e.other ++ e.one)).length ≤ 10 := by simp; rw [s2.len]; omega
  generalize 1 :: stateV e.P e.other = c1 at *
  generalize 1 :: stateV e.P (e.other ++ e.one) = f1 at *
  generalize strM e.P e.one = A at *
  refine ⟨stD c1, stD f1, ?_⟩
  simp [f30_t2, a6, a13]
  rw [liml_ok (by simp [rl.1]; omega), compL_map (f := fun row => qD (dotV row c1))]
  · have : (A.map fun row => qD (dotV row c1)) = f1.map qD := by
      rw [← col, colM, List.map_map]; rfl
    rw [this]
    have e9 : D.tup (f1.map qD) = stD f1 := rfl
    simp only [lift_some, pure_bind, bi_tuple_l, e9]
    simp [a12, a7, a14, e9, dq]
  · intro row hrow
    have rr := rl.2 row hrow
    have zl : (row.zip c1).length ≤ 4 := by rw [List.length_zip]; omega
    have zb : ∀ p ∈ row.zip c1, Bd (2592 ^ 3) (1944 ^ 3) p.1 ∧ Bd (6 * 2592 ^ 3) (3 * 486 ^ 3) p.2 := fun p hp => ⟨rb row hrow _ (List.of_mem_zip hp).1, cb _ (List.of_mem_zip hp).2⟩
    have ls := law_sum_ok (k := k + 6) h.toHasLMx (E := 2592 ^ 3 * (6 * 2592 ^ 3)) (N := 1944 ^ 3 * (3 * 486 ^ 3)) (L := 4) (l := (row.zip c1).map fun p => p.1 * p.2) (fun q hq => by
      obtain ⟨p, hp, rfl⟩ := List.mem_map.mp hq
      exact (zb p hp).1.mul (zb p hp).2) (by decide) (by decide +kernel) (by decide +kernel) (by rw [List.length_map]; exact zl)
    rw [dot_sum, List.map_map] at ls
    simp
    rw [zipD_map, liml_ok (by rw [List.length_map]; omega), compL_map (f := fun p : Rat × Rat => qD (p.1 * p.2))]
    · exact ls.1
    · intro p hp
      have hb := zb p hp
      simp [lmul_ok (k := k + 7) h.toHasLFr (hb.1.fit (by decide +kernel) (by decide +kernel)) (hb.2.fit (by decide +kernel) (by decide +kernel))]
/-- no cell is unsorted, none holds a nought -/
theorem b1_ok {c : Cfg} {ps : List Poly} (hl : ps.length ≤ 1000) (hl2 : ∀ p ∈ ps, p.length ≤ 3) (hp : ∀ p ∈ ps, sortD (p.map ptD) = some (p.map ptD) ∧ deq (.lst (p.map ptD)) (.lst (p.map ptD)) = some true ∧ (∀ t ∈ p, t.2 ≠ 0)) {x1 x3 x6 x12 : Option Sl} :
    turnM c (.nm 13) f30_b1 (.tup (ps.map poD)) [none, x1, none, x3, none, none, x6, none, none, none, none, none, x12, none, none, none, none, none, none, none, none, none, none, none, none] = pure (.nx [none, x1, none, x3, none, none, x6, none, none, none, none, none, x12, none, none, none, none, none, none, none, none, none, none, none, none]) := by
  have none_ : ∀ (l : List Poly), (l.filter fun _ => false).map poD = [] := fun l => by simp
  simp [turnM, f30_b1]
  rw [liml_ok (by rw [List.length_map]; omega), compL_filter (p := fun _ => false) (f := poD)]
  · rw [none_]
    simp
    rfl
  · intro p hpm
    obtain ⟨h1, h2, h3⟩ := hp p hpm
    have h4 := hl2 p hpm
    refine ⟨_, rfl, ?_, fun h => by cases h⟩
    have e1 : biD .list [poD p] = some (.lst (p.map ptD)) := rfl
    have e2 : biD .sorted [poD p] = some (.lst (p.map ptD)) := by show (sortD (p.map ptD)).map D.lst = _; rw [h1]; rfl
    have e3 : deq (D.lst []) (D.lst []) = some true := rfl
    simp [e1, e2, h2]
    rw [liml_ok (by rw [List.length_map]; omega), compL_filter (p := fun _ => false) (f := fun t => qD t.2)]
    · have : ∀ l : Poly, (l.filter fun _ => false).map (fun t => qD t.2) = [] := fun l => by simp
      rw [this]
      simp [e3]
    · intro t ht
      have := h3 t ht
      exact ⟨_, rfl, by simp [this, q_deq], fun h => by cases h⟩
theorem t3_ok (h : HasK30 m) {e : E30} (o : Ok30 e) {x0 b x2 x4 x5 x7 x8 x9 x10 x11 : Option Sl} : exs ⟨m.call (k + 10), m.glob⟩ f30_t3 [x0, b, x2, some (.v (pgD e.P)), x4, x5, some (.v (rwD e.r)), x7, x8, x9, x10, x11, none, none, none, none, none, none, none, none, none, none, none, none, none] =
    pure (.nx [none, b, none, some (.v (pgD e.P)), none, none, some (.v (rwD e.r)), none, none, none, none, none, some (.v (gmD (kmV (e.P.nums.map (·.1)) (kindOf e.P e.r.1)))), none, none, none, none, none, none, none, none, none, none, none, none]) := by
  have ok := o.ok
  have hr := o.hr
  have nl := ok.nml
  obtain ⟨h1, h2, h3, h4⟩ := hr.kind ok
  have kd := ok.kd _ h1
  have km := kmV_ok kd
  have kl := km_len kd
  have nml : (e.P.nums.map (·.1)).length = e.P.nums.length := by simp
  have a1 := kind_matrix_ok (k := k + 4) h.toHasRm ok hr
  have a2 := law_matrix_ok (k := k + 5) h.toHasLMx h.toHasRm ok hr
  obtain ⟨r1, r2, _⟩ := rowM_ok (k := 0) h.toHasRm ok hr
  have sh : Shw 60 61000 (mxD (rowM e.P e.r)) := (shw_mx r1 (by omega) fun r hr q hq => (r2 r hr q hq).fit (by decide +kernel) (by decide +kernel)).up (by decide) (Nat.le_refl _)
  have al := alike_ok (k := k + 9) h.toHasAl sh (by decide) rfl
  have co := cell_ok kd
  have rm : rowM e.P e.r = (kmV (e.P.nums.map (·.1)) (kindOf e.P e.r.1)).map fun ps => ps.map fun p => polyAt e.r.2 p := rfl
  have pa : ∀ ps ∈ kmV (e.P.nums.map (·.1)) (kindOf e.P e.r.1), ∀ p ∈ ps, m.call (k + 10) "_law_poly_at" [poD p, stD e.r.2] = pure (qD (polyAt e.r.2 p)) := fun ps hps p hp => law_poly_at_ok (k := k + 5) h.toHasLMx (row_pb kd.fl) h4 ((km ps hps).2 p hp).2 ((km ps hps).2 p hp).1 hr.bd
  generalize kmV (e.P.nums.map (·.1)) (kindOf e.P e.r.1) = G at *
  generalize rowM e.P e.r = A at *
  simp [f30_t3, a1]
  rw [liml_ok (by rw [List.length_map]; omega), compL_map (f := fun ps : List Poly => stD (ps.map fun p => polyAt e.r.2 p))]
  · have e9 : D.tup (G.map fun ps : List Poly => stD (ps.map fun p => polyAt e.r.2 p)) = mxD A := by rw [rm, mxD, List.map_map]; rfl
    have loop := forL_idx (c := ⟨m.call (k + 10), m.glob⟩) (g := .nm 13) (b := f30_b1) (enc := fun ps : List Poly => D.tup (ps.map poD)) (l := G) (τ := fun _ => [none, b, none, some (.v (pgD e.P)), none, none, some (.v (rwD e.r)), none, none, none, none, none, some (.v (gmD G)), none, none, none, none, none, none, none, none, none, none, none, none]) fun j hj => by
      have hm := List.getElem_mem hj
      exact b1_ok (by rw [(km _ hm).1]; omega) (fun p hp => ((km _ hm).2 p hp).1) fun p hp => ⟨(co _ hm p hp).1, (co _ hm p hp).2.1, (co _ hm p hp).2.2.1⟩
    simp only [lift_some, pure_bind, bi_tuple_l, e9]
    simp [e9, a2, al, loop]
  · intro ps hps
    simp
    rw [liml_ok (by rw [List.length_map, (km ps hps).1]; omega), compL_map (f := fun p : Poly => qD (polyAt e.r.2 p))]
    · simp [stD, Function.comp_def]
    · intro p hp
      simp [pa ps hps p hp]
theorem kinds_nd {P : Pg} (ok : OkPg P) : (P.kinds.map Kd.name).Nodup := by
  obtain ⟨n, _, _, h3⟩ := ok.kinds
  rw [h3]
  exact (show (["k", "m"] : List Str).Nodup by decide +kernel).sublist (List.take_sublist ..)
theorem pick_kind {f : Kd → List Rw} (hf : ∀ K, ∀ r ∈ f K, r.1 = K.name) {K0 : Kd} : ∀ {l : List Kd}, (l.map Kd.name).Nodup → K0 ∈ l → (l.flatMap f).filter (fun r => decide (r.1 = K0.name)) = f K0 := by
  have no : ∀ l : List Kd, K0.name ∉ l.map Kd.name → (l.flatMap f).filter (fun r => decide (r.1 = K0.name)) = [] := by
    intro l h
    rw [List.filter_eq_nil_iff]
    intro r hr
    obtain ⟨K, hK, hr⟩ := List.mem_flatMap.mp hr
    simp only [decide_eq_true_eq]
    intro e
    exact h (List.mem_map.mpr ⟨K, hK, by rw [← hf K r hr, e]⟩)
  intro l
  induction l with
  | nil => intro _ h; cases h
  | cons K l ih =>
    intro nd h
    rw [List.map_cons, List.nodup_cons] at nd
    rw [List.flatMap_cons, List.filter_append]
    rcases List.mem_cons.mp h with rfl | h
    · rw [no l nd.1, List.append_nil, List.filter_eq_self]
      intro r hr
      simp [hf _ r hr]
    · rw [ih nd.2 h, (List.filter_eq_nil_iff (p := fun r : Rw => decide (r.1 = K0.name)) (l := f K)).mpr, List.nil_append]
      intro r hr
      simp only [decide_eq_true_eq]
      intro e
      exact nd.1 (List.mem_map.mpr ⟨K0, h, by rw [← hf K r hr, e]⟩)
theorem gr_len {P : Pg} (ok : OkPg P) : (grV P).length ≤ 18 := by
  unfold grV
  rw [List.length_flatMap]
  have kl := ok.kdl
  have : ∀ l : List Kd, (∀ K ∈ l, K ∈ P.kinds) → (l.map fun K => ((kgV (gpV K)).map fun v => (K.name, v)).length).sum ≤ l.length * 9 := by
    intro l
    induction l with
    | nil => intro _; simp
    | cons K l ih =>
      intro h
      have := kg9 (ok.kd K (h K (List.mem_cons_self ..)))
      have := ih fun K hK => h K (List.mem_cons_of_mem _ hK)
      simp at this ⊢
      omega
  have := this P.kinds fun K hK => hK
  omega
theorem gr_mem {P : Pg} {r : Rw} (h : r ∈ grV P) : ∃ K ∈ P.kinds, r.1 = K.name ∧ r.2 ∈ kgV (gpV K) := by
  obtain ⟨K, hK, h⟩ := List.mem_flatMap.mp h
  obtain ⟨v, hv, rfl⟩ := List.mem_map.mp h
  exact ⟨K, hK, rfl, hv⟩
theorem shw_name {x : Str} (h : x ∈ (["k", "m"] : List Str)) : Shw 0 3 (.str x) := by
  simp only [List.mem_cons, List.not_mem_nil, or_false] at h
  rcases h with rfl | rfl <;> exact shw_str (by decide +kernel) (by decide +kernel) (by decide +kernel)
theorem kind_km {P : Pg} (ok : OkPg P) {K : Kd} (hK : K ∈ P.kinds) : K.name ∈ (["k", "m"] : List Str) := by
  obtain ⟨n, _, _, h3⟩ := ok.kinds
  have : K.name ∈ P.kinds.map Kd.name := List.mem_map.mpr ⟨K, hK, rfl⟩
  rw [h3] at this
  exact List.mem_of_mem_take this
theorem kg_bd {names : List Str} {K : Kd} (kd : OkKd names K) {v : List Rat} (hv : v ∈ kgV (gpV K)) : v.length = K.fields.length ∧ ∀ q ∈ v, Bd 6 3 q := by
  have g := gp_ok kd
  obtain ⟨h1, ns, rfl, h2, h3⟩ := kg_mem _ v hv
  refine ⟨by rw [h1, g.len], fun q hq => ?_⟩
  obtain ⟨i, hi, rfl⟩ := List.getElem_of_mem hq
  rw [List.getElem_map]
  have hi' : i < ns.length := by simpa using hi
  have hle := h3 i hi' (by omega)
  have := g.le _ (List.getElem_mem (show i < (gpV K).length by omega))
  have h4 : ns[i] = 0 ∨ ns[i] = 1 ∨ ns[i] = 2 := by omega
  rcases h4 with e | e | e <;> rw [e]
  · exact Bd.zero (by decide)
  · exact Bd.one (by decide) (by decide)
  · exact ⟨by decide, 12, by rfl, by decide⟩
theorem kg_row {P : Pg} (ok : OkPg P) {K : Kd} (hK : K ∈ P.kinds) {v : List Rat} (hv : v ∈ kgV (gpV K)) : OkRw P (K.name, v) := by
  obtain ⟨h1, h2⟩ := kg_bd (ok.kd K hK) hv
  exact ⟨⟨K, hK, rfl, h1⟩, h2⟩
theorem shw_grid {P : Pg} (ok : OkPg P) : Shw 60 1000000 (.tup ((grV P).map rwD)) := by
  refine (shw_tup (k := 3) (n := 15400) fun d hd => ?_).up (by decide) (by rw [List.length_map]; have := gr_len ok; omega)
  obtain ⟨r, hr, rfl⟩ := List.mem_map.mp hd
  obtain ⟨K, hK, e1, e2⟩ := gr_mem hr
  obtain ⟨h1, h2⟩ := kg_bd (ok.kd K hK) e2
  have fl := (ok.kd K hK).fl
  refine (shw_tup (k := 2) (n := 7630) (ds := [.str r.1, stD r.2]) fun d hd => ?_).up (by decide) (by simp)
  rcases List.mem_cons.mp hd with rfl | hd
  · rw [e1]; exact (shw_name (kind_km ok hK)).up (by decide) (by decide)
  · rw [List.mem_singleton.mp hd]
    exact (shw_st (n := 2) (by omega) fun q hq => (h2 q hq).fit (by decide +kernel) (by decide +kernel)).up (by decide) (by decide)
theorem t4_ok (h : HasK30 m) {e : E30} (o : Ok30 e) {b x12 : Option Sl} : exs ⟨m.call (k + 10), m.glob⟩ f30_t4 [none, b, none, some (.v (pgD e.P)), none, none, some (.v (rwD e.r)), none, none, none, none, none, x12, none, none, none, none, none, none, none, none, none, none, none, none] =
    pure (.nx [none, b, none, some (.v (pgD e.P)), none, none, some (.v (rwD e.r)), none, none, none, none, none, x12, none, some (.v (.lst ((grV e.P).map rwD))), some (.v (.lst ((kgV (gpV (kindOf e.P e.r.1))).map fun v => rwD (e.r.1, v)))), some (.v (stD (gfV e.r.2 (gpV (kindOf e.P e.r.1))))), none, none, none, none, none, none, none, none]) := by
  have ok := o.ok
  have hr := o.hr
  obtain ⟨h1, h2, h3, h4⟩ := hr.kind ok
  have kd := ok.kd _ h1
  have a1 := law_grid_ok (k := k + 8) h.toHasLGr ok
  have a2 := grid_ok (k := k + 5) h.toHasGr ok
  have a3 := (grid_factors_ok (k := k + 4) h.toHasGr ok hr).1
  have sh : Shw 60 1000000 (.tup ((grV e.P).map rwD)) := shw_grid ok
  have al := alike_ok (k := k + 9) h.toHasAl sh (by decide) rfl
  have gl : (grV e.P).length ≤ 18 := gr_len ok
  have mine : (grV e.P).filter (fun r => r.1 = e.r.1) = (kgV (gpV (kindOf e.P e.r.1))).map fun v => (e.r.1, v) := by
    have := pick_kind (f := fun K => (kgV (gpV K)).map fun v => (K.name, v)) (fun K r hr => by
      obtain ⟨v, _, rfl⟩ := List.mem_map.mp hr
      rfl) (kinds_nd ok) h1
    rw [h2] at this
    exact this
  have so : ∀ r ∈ grV e.P, PyData.strOk r.1 = true := fun r hr => by
    obtain ⟨K, hK, e1, _⟩ := gr_mem hr
    rw [e1]; exact ok.kn hK
  have sor : PyData.strOk e.r.1 = true := by rw [← h2]; exact ok.kn h1
  simp [f30_t4, a1, a2, al]
  rw [liml_ok (by rw [List.length_map]; omega), compL_filter (p := fun r => decide (r.1 = e.r.1)) (f := rwD)]
  · rw [mine, List.map_map]
    simp [a3, gfV, Function.comp_def]
  · intro r hrm
    exact ⟨_, rfl, by simp [str_deq (so r hrm) sor], fun _ => by simp⟩
theorem flat_row (P : Pg) (r : Rw) : (rowM P r).flatten = (kmV (P.nums.map (·.1)) (kindOf P r.1)).flatten.map fun p => polyAt r.2 p := by
  unfold rowM rmV
  rw [List.map_flatten]
theorem flat_len {n : Nat} {A : List (List Poly)} : A.length = n → (∀ r ∈ A, r.length = n) → A.flatten.length = n * n := by
  have key : ∀ (A : List (List Poly)), (∀ r ∈ A, r.length = n) → A.flatten.length = A.length * n := by
    intro A
    induction A with
    | nil => intro _; simp
    | cons a A ih => intro h; rw [List.flatten_cons, List.length_append, ih fun r hr => h r (List.mem_cons_of_mem _ hr), h a (List.mem_cons_self ..), List.length_cons, Nat.succ_mul, Nat.add_comm]
  intro h1 h2
  rw [key A h2, h1]
theorem zip_self {α : Type} (l : List α) : l.zip l = l.map fun p => (p, p) := by induction l with | nil => rfl | cons a l ih => rw [List.zip_cons_cons, ih]; rfl
theorem fold_fun {α β : Type} (g : α → β → Rat) (p : β) : ∀ (l : List α) (s : β → Rat), (l.foldl (fun s v => fun p => s p + g v p) s) p = s p + sL (l.map fun v => g v p)
  | [], s => by rw [List.foldl_nil, List.map_nil, sL]; grind
  | v :: l, s => by rw [List.foldl_cons, fold_fun g p l, List.map_cons, sL]; grind
def t5τ (P : Pg) (r : Rw) (b : Option Sl) (mine fac tot : D) : Env := [none, b, none, some (.v (pgD P)), none, none, some (.v (rwD r)), none, none, none, none, none, none, none, none, some (.v mine), some (.v fac), none, some (.v tot), none, none, none, none, none, none]
theorem t5_loop (h : HasK30 m) {e : E30} (o : Ok30 e) {b : Option Sl} {mine fac : D} {F : List Poly} (hF : F = (kmV (e.P.nums.map (·.1)) (kindOf e.P e.r.1)).flatten) :
    forL ⟨m.call (k + 10), m.glob⟩ (.tup [.nm 19, .nm 20]) f30_b2 ((kgV (gpV (kindOf e.P e.r.1))).map fun v => D.tup [qD (facV e.r.2 v (gpV (kindOf e.P e.r.1))), rwD (e.r.1, v)]) (t5τ e.P e.r b mine fac (.lst (F.map fun p => qD 0))) =
      pure (.nx (t5τ e.P e.r b mine fac (.lst (F.map fun p => qD (polyAt e.r.2 p))))) := by
  have ok := o.ok
  have hr := o.hr
  have nl := ok.nml
  obtain ⟨h1, h2, h3, h4⟩ := hr.kind ok
  have kd := ok.kd _ h1
  have gpo := gp_ok kd
  have k9 := kg9 kd
  have km := kmV_ok kd
  have co := cell_ok kd
  have nml : (e.P.nums.map (·.1)).length = e.P.nums.length := by simp
  have fb := (grid_factors_ok (k := 0) h.toHasGr ok hr).2
  have FL : F.length ≤ 16 := by
    rw [hF, flat_len (n := e.P.nums.length + 1) (by rw [km_len kd, nml]) (fun ps hps => by rw [(km ps hps).1, nml])]
    exact Nat.mul_le_mul (show e.P.nums.length + 1 ≤ 4 by omega) (show e.P.nums.length + 1 ≤ 4 by omega)
  have := forL_foldI (c := ⟨m.call (k + 10), m.glob⟩) (g := .tup [.nm 19, .nm 20]) (b := f30_b2) (enc := fun v : List Rat => D.tup [qD (facV e.r.2 v (gpV (kindOf e.P e.r.1))), rwD (e.r.1, v)]) (l := kgV (gpV (kindOf e.P e.r.1))) (i := 0) (s := fun _ : Poly => (0 : Rat))
    (τ := fun s => t5τ e.P e.r b mine fac (.lst (F.map fun p => qD (s p)))) (step := fun s v => fun p => s p + facV e.r.2 v (gpV (kindOf e.P e.r.1)) * polyAt v p)
    (P := fun j s => ∀ p ∈ F, Bd (1728 ^ 2 * 2592) (j * (125 ^ 2 * 486)) (s p)) (fun p _ => Bd.zero (by decide)) fun j hj s hs => by
    have hvm := List.getElem_mem hj
    have hfac := fb (facV e.r.2 (kgV (gpV (kindOf e.P e.r.1)))[j] (gpV (kindOf e.P e.r.1))) (List.mem_map.mpr ⟨_, hvm, rfl⟩)
    have hrow := kg_row ok h1 hvm
    rw [h2] at hrow
    have em := law_matrix_ok (k := k + 5) h.toHasLMx h.toHasRm ok hrow
    obtain ⟨q1, q2, _⟩ := rowM_ok (k := 0) h.toHasRm ok hrow
    have ef := law_flat_ok (k := k + 9) h.toHasLMx q1 (by omega)
    have fr := flat_row e.P (e.r.1, (kgV (gpV (kindOf e.P e.r.1)))[j])
    rw [← hF] at fr
    rw [fr] at ef
    have pb : ∀ p ∈ F, Bd 2592 486 (polyAt (kgV (gpV (kindOf e.P e.r.1)))[j] p) := fun p hp => by
      have : polyAt (kgV (gpV (kindOf e.P e.r.1)))[j] p ∈ (rowM e.P (e.r.1, (kgV (gpV (kindOf e.P e.r.1)))[j])).flatten := by rw [fr]; exact List.mem_map.mpr ⟨p, hp, rfl⟩
      obtain ⟨row, hrow, hp⟩ := List.mem_flatten.mp this
      exact q2 row hrow _ hp
    generalize (kgV (gpV (kindOf e.P e.r.1)))[j] = v at *
    generalize facV e.r.2 v (gpV (kindOf e.P e.r.1)) = f at *
    have j9 : 0 + j ≤ 9 := by omega
    have nb : ∀ p ∈ F, Bd (1728 ^ 2 * 2592) ((0 + j + 1) * (125 ^ 2 * 486)) (s p + f * polyAt v p) := fun p hp => by
      have := (hs p hp).add (hfac.mul (pb p hp))
      rwa [← Nat.succ_mul] at this
    refine ⟨?_, nb⟩
    have ez : zipD (F.map fun p => qD (s p)) (F.map (qD ∘ fun p => polyAt v p)) = F.map fun p => D.tup [qD (s p), qD (polyAt v p)] := by
      rw [zipD_map]
      rw [zip_self, List.map_map]; rfl
    have el : ∀ p ∈ F, m.call (k + 10) "_law_mul" [qD f, qD (polyAt v p)] = pure (qD (f * polyAt v p)) ∧ m.call (k + 10) "_law_add" [qD (s p), qD (f * polyAt v p)] = pure (qD (s p + f * polyAt v p)) := fun p hp => by
      have b1 := hfac.fit (by decide +kernel) (by decide +kernel)
      have b2 := (pb p hp).fit (by decide +kernel) (by decide +kernel)
      have b3 := (hfac.mul (pb p hp)).fit (by decide +kernel) (by decide +kernel)
      have b4 : Fit (s p) := ((hs p hp).up (N' := 9 * (125 ^ 2 * 486)) (Nat.dvd_refl _) (by decide) (Nat.mul_le_mul_right _ j9)).fit (by decide +kernel) (by decide +kernel)
      exact ⟨lmul_ok (k := k + 7) h.toHasLFr b1 b2, ladd_ok (k := k + 7) h.toHasLFr b4 b3⟩
    simp [turnM, f30_b2, t5τ, em, ef]
    rw [ez, liml_ok (by rw [List.length_map]; omega), compL_map (f := fun p : Poly => qD (s p + f * polyAt v p))]
    · simp
    · intro p hp
      simp [(el p hp).1, (el p hp).2]
  have e0 := this.1
  rw [e0]
  have fin : (F.map fun p => qD (((kgV (gpV (kindOf e.P e.r.1))).foldl (fun s v => fun p => s p + facV e.r.2 v (gpV (kindOf e.P e.r.1)) * polyAt v p) fun _ : Poly => (0 : Rat)) p)) = F.map fun p => qD (polyAt e.r.2 p) := by
    apply List.map_congr_left
    intro p hp
    rw [hF] at hp
    obtain ⟨ps, hps, hp⟩ := List.mem_flatten.mp hp
    have pl := poly_lag (gp := gpV (kindOf e.P e.r.1)) (vals := e.r.2) gpo.le (by rw [gpo.len]; exact kd.fl) (by rw [gpo.len, h4]) p (co ps hps p hp).2.2.2
    rw [fold_fun (fun v p => facV e.r.2 v (gpV (kindOf e.P e.r.1)) * polyAt v p), pl, Rat.zero_add]
  rw [fin]
theorem t5_ok (h : HasK30 m) {e : E30} (o : Ok30 e) {b x12 x14 : Option Sl} : exs ⟨m.call (k + 10), m.glob⟩ f30_t5 [none, b, none, some (.v (pgD e.P)), none, none, some (.v (rwD e.r)), none, none, none, none, none, x12, none, x14, some (.v (.lst ((kgV (gpV (kindOf e.P e.r.1))).map fun v => rwD (e.r.1, v)))), some (.v (stD (gfV e.r.2 (gpV (kindOf e.P e.r.1))))), none, none, none, none, none, none, none, none] =
    pure (.nx ([none, b] ++ List.replicate 23 none)) := by
  have ok := o.ok
  have hr := o.hr
  have nl := ok.nml
  obtain ⟨h1, h2, h3, h4⟩ := hr.kind ok
  have kd := ok.kd _ h1
  have km := kmV_ok kd
  have nml : (e.P.nums.map (·.1)).length = e.P.nums.length := by simp
  obtain ⟨F, hF⟩ : ∃ F, F = (kmV (e.P.nums.map (·.1)) (kindOf e.P e.r.1)).flatten := ⟨_, rfl⟩
  have FL : F.length = (e.P.nums.length + 1) * (e.P.nums.length + 1) := by
    rw [hF, flat_len (n := e.P.nums.length + 1) (by rw [km_len kd, nml]) (fun ps hps => by rw [(km ps hps).1, nml])]
  have F16 : F.length ≤ 16 := by rw [FL]; exact Nat.mul_le_mul (show e.P.nums.length + 1 ≤ 4 by omega) (show e.P.nums.length + 1 ≤ 4 by omega)
  have em := law_matrix_ok (k := k + 5) h.toHasLMx h.toHasRm ok hr
  obtain ⟨q1, q2, _⟩ := rowM_ok (k := 0) h.toHasRm ok hr
  have ef := law_flat_ok (k := k + 9) h.toHasLMx q1 (by omega)
  have fr := flat_row e.P e.r
  rw [← hF] at fr
  rw [fr] at ef
  have dq : deq (stD (F.map fun p => polyAt e.r.2 p)) (stD (F.map fun p => polyAt e.r.2 p)) = some true := by
    refine shw_deq (n := 70000) ((shw_st (n := 16) (by rw [List.length_map]; exact F16) fun q hq => ?_).up (by decide) (by decide)) (by decide)
    rw [← fr] at hq
    obtain ⟨row, hrow, hp⟩ := List.mem_flatten.mp hq
    exact (q2 row hrow _ hp).fit (by decide +kernel) (by decide +kernel)
  have ez : zipD ((gfV e.r.2 (gpV (kindOf e.P e.r.1))).map qD) ((kgV (gpV (kindOf e.P e.r.1))).map fun v => rwD (e.r.1, v)) = (kgV (gpV (kindOf e.P e.r.1))).map fun v => D.tup [qD (facV e.r.2 v (gpV (kindOf e.P e.r.1))), rwD (e.r.1, v)] := by
    unfold gfV
    rw [List.map_map, zipD_map, zip_self, List.map_map]; rfl
  have loop := t5_loop (k := k) h o (b := b) (mine := .lst ((kgV (gpV (kindOf e.P e.r.1))).map fun v => rwD (e.r.1, v))) (fac := stD (gfV e.r.2 (gpV (kindOf e.P e.r.1)))) hF
  have nF : ((e.P.nums.length : Int) + 1) * ((e.P.nums.length : Int) + 1) = (F.length : Int) := by rw [FL]; push_cast; rfl
  have mo : mulOk ((e.P.nums.length : Int) + 1) ((e.P.nums.length : Int) + 1) = true := by
    have : e.P.nums.length = 1 ∨ e.P.nums.length = 2 ∨ e.P.nums.length = 3 := by omega
    rcases this with z | z | z <;> rw [z] <;> decide +kernel
  have eF : D.tup (F.map fun p => qD (polyAt e.r.2 p)) = stD (F.map fun p => polyAt e.r.2 p) := by rw [stD, List.map_map]; rfl
  unfold t5τ at loop
  simp [f30_t5, mo]
  have er : D.lst (repL (F.length : Int) [qD 0]) = .lst (F.map fun p => qD 0) := by rw [repL_one, List.map_const']
  rw [nF, if_pos (by omega), er]
  simp only [lift_some, pure_bind]
  rw [ez, loop]
  simp [em, ef, eF, dq]
def k30I (i : Nat) (σ : Env) (S : CH) : Prop := σ = [none, some (.v (.ref 0))] ++ List.replicate 23 none ∧ Good (i * 300) S
theorem k30_tail (h : HasK30 m) {e : E30} (o : Ok30 e) {x0 b x2 : Option Sl} : exs ⟨m.call (k + 10), m.glob⟩ (f30_t1 ++ (f30_t2 ++ (f30_t3 ++ (f30_t4 ++ f30_t5)))) [x0, b, x2, some (.v (pgD e.P)), some (.v (srD e.one)), some (.v (srD e.other)), some (.v (rwD e.r)), none, none, none, none, none, none, none, none, none, none, none, none, none, none, none, none, none, none] =
    pure (.nx ([none, b] ++ List.replicate 23 none)) := by
  obtain ⟨r, f, e1⟩ := t1_ok (k := k) h o (x0 := x0) (b := b) (x2 := x2)
  obtain ⟨x10, x11, e2⟩ := t2_ok (k := k) h o (x0 := x0) (b := b) (x2 := x2) (x8 := some (.v r)) (x9 := some (.v f))
  rw [exs_append, e1, pure_bind, seqK_nx, exs_append, e2, pure_bind, seqK_nx, exs_append, t3_ok h o, pure_bind, seqK_nx, exs_append, t4_ok h o, pure_bind, seqK_nx, t5_ok h o]
theorem k30_lap (h : HasK30 m) (hlaw : m.defs "law" = some f30_law) {i : Nat} (hi : i < 4) {σ : Env} {S : CH} (hI : k30I i σ S) {d : D} : Wp (turnM ⟨m.call (k + 10), m.glob⟩ (.nm 2) f30_b3 d σ) (fun fl S' => ∃ σ', fl = .nx σ' ∧ k30I (i + 1) σ' S') S := by
  obtain ⟨rfl, G⟩ := hI
  obtain ⟨rest, hrest⟩ : ∃ rest, rest = f30_t1 ++ (f30_t2 ++ (f30_t3 ++ (f30_t4 ++ f30_t5))) := ⟨_, rfl⟩
  unfold f30_b3
  rw [← hrest]
  simp [turnM, List.replicate]
  refine Wp.seq (law_program_ok (k := k + 4) h.toHasPg G (by omega)) ?_
  rintro _ S1 ⟨P, adds, rfl, ok, G1⟩
  have nl := ok.nml
  simp
  refine Wp.seq (law_stretch_ok (k := k + 5) h.toHasPg ok G1 (most := 3) (by omega) (by omega)) ?_
  rintro _ S5 ⟨one, rfl, l1, w1, G5⟩
  refine Wp.seq (law_stretch_ok (k := k + 5) h.toHasPg ok G5 (most := 3) (by omega) (by omega)) ?_
  rintro _ S6 ⟨other, rfl, l2, w2, G6⟩
  refine Wp.seq (law_row_ok (k := k + 6) h.toHasPg ok G6 (by omega)) ?_
  rintro _ S7 ⟨r, rfl, hr, G7⟩
  rw [hrest, k30_tail (k := k) h (e := ⟨P, one, other, r⟩) ⟨ok, l1, l2, w1, w2, hr⟩]
  simp
  exact ⟨rfl, G7.up (by omega)⟩
theorem k30_ans (h : HasK30 m) (hlaw : m.defs "law" = some f30_law) {ns : List Int} (hl : ns.length ≤ 63) : ∃ S', m.call (k + 11) "law" [.frl (ns.map fun n => .int n)] [] = some (.ok (.bl true) S') := by
  have : Wp (m.call (k + 11) "law" [.frl (ns.map fun n => .int n)]) (fun d _ => d = .bl true) [] := by
    rw [call_run hlaw rfl]
    simp only [f30_law]
    simp
    refine Wp.seq (bag_ok (k := k + 9) h.toHasDr hl) ?_
    rintro _ S1 ⟨rfl, G1⟩
    rw [show (4 : Int) = ((4 : Nat) : Int) from rfl, rng1 (by decide)]
    simp only [lift_some, pure_bind]
    refine Wp.seq (wp_forL (I := k30I) (i := 0) ⟨rfl, by simpa using G1⟩ ?_) ?_
    · intro j hj σ S hI
      simp only [List.length_map, List.length_range] at hj
      rw [Nat.zero_add] at hI
      have := k30_lap (k := k) h hlaw hj hI (d := .int j)
      rw [Nat.zero_add]
      simpa using this
    · rintro _ S2 ⟨_, rfl, rfl, G2⟩
      simp
  obtain ⟨d, S', e, rfl⟩ := this
  exact ⟨S', e⟩
end
end Cl.Pl

namespace L30
open PySem PySem.Spec PyProof.Rows L2 Cl Cl.Pl
def depth : Nat := 30
/-! ### the text -/
def topS (i : Nat) : Stmt := PySem.Challenge.pw_splitsums_k30_whole_matrices_of_rows.main.body.getD i (.Pass ⟨0, 0, 0, 0⟩)
/- law: script bag lap program one other row left right found column led told cells rows mine factors many total factor its a b poly powers -/
def f_law_b1 : List Sm := [.ite (.cmp .NotEq (.comp [23] (.var 23) (.nm 23) (.var 13) [(.or (.cmp .NotEq (.bi .list [(.var 23)]) (.bi .sorted [(.var 23)])) (.cmp .NotEq (.comp [24, 4] (.var 4) (.tup [(.nm 24), (.nm 4)]) (.var 23) [(.cmp .Eq (.var 4) (.tup [(.con (.int 0)), (.con (.int 1))]))]) (.lst [])))]) (.lst [])) [.ret (.con (.bl false))] [],
    .kil [13]]
def f_law_b2 : List Sm := [.asg (.nm 18) (.comp [21, 22] (.call "_law_add" [(.var 21), (.call "_law_mul" [(.var 19), (.var 22)])]) (.tup [(.nm 21), (.nm 22)]) (.zip (.var 18) (.call "_law_flat" [(.call "_law_matrix" [(.var 3), (.var 20)])])) []),
    .kil [19, 20]]
def f_law_b3 : List Sm := [.asg (.nm 3) (.idx (.call "_law_program" [(.var 1)]) (.con (.int 0))),
    .par 4 false (.call "_law_stretch" [(.var 1), (.var 3), (.con (.int 3))]) 5 false (.call "_law_stretch" [(.var 1), (.var 3), (.con (.int 3))]),
    .asg (.nm 6) (.call "_law_row" [(.var 1), (.var 3)]),
    .par 7 false (.call "_law_stretch_matrix" [(.var 3), (.var 4)]) 8 false (.call "_law_stretch_matrix" [(.var 3), (.var 5)]),
    .asg (.nm 9) (.lst [(.call "row_matrix" [(.var 3), (.var 6)]), (.call "stretch_matrix" [(.var 3), (.var 4)]), (.call "stretch_matrix" [(.var 3), (.bin .Add (.var 4) (.var 5))]), (.call "column_of" [(.call "_law_state" [(.var 3), (.var 4)])]), (.call "begin_column" [(.var 3)])]),
    .ite (.not (.call "_law_alike" [(.var 9), (.lst [(.call "_law_matrix" [(.var 3), (.var 6)]), (.var 7), (.call "_law_times" [(.var 8), (.var 7)]), (.bin .Add (.tup [(.tup [(.con (.int 1)), (.con (.int 1))])]) (.call "_law_state" [(.var 3), (.var 4)])), (.bin .Add (.tup [(.tup [(.con (.int 1)), (.con (.int 1))])]) (.call "_law_state" [(.var 3), (.tup [])]))])])) [.ret (.con (.bl false))] [],
    .asg (.nm 10) (.bin .Add (.tup [(.tup [(.con (.int 1)), (.con (.int 1))])]) (.call "_law_state" [(.var 3), (.var 5)])),
    .asg (.nm 11) (.bi .tuple [(.comp [13] (.call "_law_sum" [(.comp [21, 22] (.call "_law_mul" [(.var 21), (.var 22)]) (.tup [(.nm 21), (.nm 22)]) (.zip (.var 13) (.var 10)) [])]) (.nm 13) (.var 7) [])]),
    .ite (.cmp .NotEq (.var 11) (.bin .Add (.tup [(.tup [(.con (.int 1)), (.con (.int 1))])]) (.call "_law_state" [(.var 3), (.bin .Add (.var 5) (.var 4))]))) [.ret (.con (.bl false))] [],
    .asg (.nm 12) (.call "kind_matrix" [(.var 3), (.idx (.var 6) (.con (.int 0)))]),
    .ite (.not (.call "_law_alike" [(.bi .tuple [(.comp [13] (.bi .tuple [(.comp [23] (.call "_law_poly_at" [(.var 23), (.idx (.var 6) (.con (.int 1)))]) (.nm 23) (.var 13) [])]) (.nm 13) (.var 12) [])]), (.call "_law_matrix" [(.var 3), (.var 6)])])) [.ret (.con (.bl false))] [],
    .kil [0, 2, 4, 5, 7, 8, 9, 10, 11, 13, 14, 15, 16, 17, 18, 19, 20],
    .for_ (.nm 13) (.var 12) f_law_b1,
    .asg (.nm 14) (.call "_law_grid" [(.var 3)]),
    .ite (.not (.call "_law_alike" [(.call "grid" [(.var 3)]), (.bi .tuple [(.var 14)])])) [.ret (.con (.bl false))] [],
    .asg (.nm 15) (.comp [20] (.var 20) (.nm 20) (.var 14) [(.cmp .Eq (.idx (.var 20) (.con (.int 0))) (.idx (.var 6) (.con (.int 0))))]),
    .asg (.nm 16) (.call "grid_factors" [(.var 3), (.var 6)]),
    .ite (.cmp .NotEq (.bi .len [(.var 16)]) (.bi .len [(.var 15)])) [.ret (.con (.bl false))] [],
    .asg (.nm 17) (.bin .Add (.bi .len [(.idx (.var 3) (.con (.int 0)))]) (.con (.int 1))),
    .asg (.nm 18) (.bin .Mult (.lst [(.tup [(.con (.int 0)), (.con (.int 1))])]) (.bin .Mult (.var 17) (.var 17))),
    .kil [0, 2, 4, 5, 7, 8, 9, 10, 11, 12, 13, 14, 17, 19, 20],
    .for_ (.tup [(.nm 19), (.nm 20)]) (.zip (.var 16) (.var 15)) f_law_b2,
    .ite (.cmp .NotEq (.bi .tuple [(.var 18)]) (.call "_law_flat" [(.call "_law_matrix" [(.var 3), (.var 6)])])) [.ret (.con (.bl false))] [],
    .kil [2, 3, 4, 5, 6, 7, 8, 9, 10, 11, 12, 13, 14, 15, 16, 17, 18, 19, 20]]
def f_law : Fn := ⟨1, 25, [.asg (.nm 1) (.call "_law_bag" [(.var 0)]),
    .kil [0],
    .for_ (.nm 2) (.rng [(.con (.int 4))]) f_law_b3,
    .ret (.con (.bl true))]⟩

def L (l : List String) : List Str := l.map Str.ofString
def fns : List Str := (L ["is_number", "common_divisor", "made", "whole", "added", "negative", "less", "times", "divided", "power", "identity", "product_of", "transposed", "matrix_times", "gathered_poly", "single", "poly_at", "terms_of", "number_names", "begin_state", "kind_named", "fields_of", "turns_of", "column_of", "begin_column", "kind_matrix", "row_matrix", "stretch_matrix", "greatest_powers", "kind_grid", "grid", "share", "grid_factors", "_law_bag", "_law_take", "_law_some", "_law_alike", "_law_gcd", "_law_fr", "_law_add", "_law_mul", "_law_pow", "_law_sum", "_law_small", "_law_not_nought", "_law_poly_at", "_law_turn", "_law_program", "_law_kind", "_law_led", "_law_state", "_law_row", "_law_stretch", "_law_matrix", "_law_times", "_law_identity", "_law_stretch_matrix", "_law_flat", "_law_grid", "_law_greatest", "law"])
def gls : List Str := (L ["ZERO", "ONE"])
def tab : List Fn := [f_is_number, f_common_divisor, f_made, f_whole, f_added, f_negative, f_less, f_times, f_divided, f_power, f_identity, f_product_of, f_transposed, f_matrix_times, f_gathered_poly, f_single, f_poly_at, f_terms_of, f_number_names, f_begin_state, f_kind_named, f_fields_of, f_turns_of, f_column_of, f_begin_column, f_kind_matrix, f_row_matrix, f_stretch_matrix, f_greatest_powers, f_kind_grid, f_grid, f_share, f_grid_factors, f__law_bag, f__law_take, f__law_some, f__law_alike, f__law_gcd, f__law_fr, f__law_add, f__law_mul, f__law_pow, f__law_sum, f__law_small, f__law_not_nought, f__law_poly_at, f__law_turn, f__law_program, f__law_kind, f__law_led, f__law_state, f__law_row, f__law_stretch, f__law_matrix, f__law_times, f__law_identity, f__law_stretch_matrix, f__law_flat, f__law_grid, f__law_greatest, f_law]
def mo : Mo := ⟨fun f => (fns.zip tab).lookup f, fun x => if x = Str.ofString "ZERO" then some (.tup [.int (0), .int (1)]) else if x = Str.ofString "ONE" then some (.tup [.int (1), .int (1)]) else none⟩
theorem ok_is_number : defB ⟨(L ["thing"]), fns, gls⟩ (L ["thing"]) f_is_number (topS 5) = true := by decide +kernel
theorem df_is_number : mo.defs "is_number" = some f_is_number := by rfl
theorem ok_common_divisor : defB ⟨(L ["one", "other"]), fns, gls⟩ (L ["one", "other"]) f_common_divisor (topS 6) = true := by decide +kernel
theorem df_common_divisor : mo.defs "common_divisor" = some f_common_divisor := by rfl
theorem ok_made : defB ⟨(L ["a", "b", "its"]), fns, gls⟩ (L ["a", "b"]) f_made (topS 10) = true := by decide +kernel
theorem df_made : mo.defs "made" = some f_made := by rfl
theorem ok_whole : defB ⟨(L ["n"]), fns, gls⟩ (L ["n"]) f_whole (topS 11) = true := by decide +kernel
theorem df_whole : mo.defs "whole" = some f_whole := by rfl
theorem ok_added : defB ⟨(L ["one", "other"]), fns, gls⟩ (L ["one", "other"]) f_added (topS 12) = true := by decide +kernel
theorem df_added : mo.defs "added" = some f_added := by rfl
theorem ok_negative : defB ⟨(L ["one"]), fns, gls⟩ (L ["one"]) f_negative (topS 13) = true := by decide +kernel
theorem df_negative : mo.defs "negative" = some f_negative := by rfl
theorem ok_less : defB ⟨(L ["one", "other"]), fns, gls⟩ (L ["one", "other"]) f_less (topS 14) = true := by decide +kernel
theorem df_less : mo.defs "less" = some f_less := by rfl
theorem ok_times : defB ⟨(L ["one", "other"]), fns, gls⟩ (L ["one", "other"]) f_times (topS 15) = true := by decide +kernel
theorem df_times : mo.defs "times" = some f_times := by rfl
theorem ok_divided : defB ⟨(L ["one", "other"]), fns, gls⟩ (L ["one", "other"]) f_divided (topS 16) = true := by decide +kernel
theorem df_divided : mo.defs "divided" = some f_divided := by rfl
theorem ok_power : defB ⟨(L ["one", "n", "found", "_time"]), fns, gls⟩ (L ["one", "n"]) f_power (topS 17) = true := by decide +kernel
theorem df_power : mo.defs "power" = some f_power := by rfl
theorem ok_identity : defB ⟨(L ["n", "one", "other"]), fns, gls⟩ (L ["n"]) f_identity (topS 19) = true := by decide +kernel
theorem df_identity : mo.defs "identity" = some f_identity := by rfl
theorem ok_product_of : defB ⟨(L ["row", "column", "found", "one", "other"]), fns, gls⟩ (L ["row", "column"]) f_product_of (topS 20) = true := by decide +kernel
theorem df_product_of : mo.defs "product_of" = some f_product_of := by rfl
theorem ok_transposed : defB ⟨(L ["matrix", "at", "row"]), fns, gls⟩ (L ["matrix"]) f_transposed (topS 21) = true := by decide +kernel
theorem df_transposed : mo.defs "transposed" = some f_transposed := by rfl
theorem ok_matrix_times : defB ⟨(L ["one", "other", "columns", "row", "column"]), fns, gls⟩ (L ["one", "other"]) f_matrix_times (topS 22) = true := by decide +kernel
theorem df_matrix_times : mo.defs "matrix_times" = some f_matrix_times := by rfl
theorem ok_gathered_poly : defB ⟨(L ["terms", "found", "powers", "fraction"]), fns, gls⟩ (L ["terms"]) f_gathered_poly (topS 24) = true := by decide +kernel
theorem df_gathered_poly : mo.defs "gathered_poly" = some f_gathered_poly := by rfl
theorem ok_single : defB ⟨(L ["fraction", "many"]), fns, gls⟩ (L ["fraction", "many"]) f_single (topS 25) = true := by decide +kernel
theorem df_single : mo.defs "single" = some f_single := by rfl
theorem ok_poly_at : defB ⟨(L ["poly", "values", "found", "powers", "fraction", "one", "value"]), fns, gls⟩ (L ["poly", "values"]) f_poly_at (topS 26) = true := by decide +kernel
theorem df_poly_at : mo.defs "poly_at" = some f_poly_at := by rfl
theorem ok_terms_of : defB ⟨(L ["told", "number", "its", "powers", "fraction"]), fns, gls⟩ (L ["told", "number"]) f_terms_of (topS 28) = true := by decide +kernel
theorem df_terms_of : mo.defs "terms_of" = some f_terms_of := by rfl
theorem ok_number_names : defB ⟨(L ["program", "name", "begin"]), fns, gls⟩ (L ["program"]) f_number_names (topS 30) = true := by decide +kernel
theorem df_number_names : mo.defs "number_names" = some f_number_names := by rfl
theorem ok_begin_state : defB ⟨(L ["program", "name", "begin"]), fns, gls⟩ (L ["program"]) f_begin_state (topS 31) = true := by decide +kernel
theorem df_begin_state : mo.defs "begin_state" = some f_begin_state := by rfl
theorem ok_kind_named : defB ⟨(L ["program", "name", "kind"]), fns, gls⟩ (L ["program", "name"]) f_kind_named (topS 32) = true := by decide +kernel
theorem df_kind_named : mo.defs "kind_named" = some f_kind_named := by rfl
theorem ok_fields_of : defB ⟨(L ["program", "kind"]), fns, gls⟩ (L ["program", "kind"]) f_fields_of (topS 33) = true := by decide +kernel
theorem df_fields_of : mo.defs "fields_of" = some f_fields_of := by rfl
theorem ok_turns_of : defB ⟨(L ["program", "kind"]), fns, gls⟩ (L ["program", "kind"]) f_turns_of (topS 34) = true := by decide +kernel
theorem df_turns_of : mo.defs "turns_of" = some f_turns_of := by rfl
theorem ok_column_of : defB ⟨(L ["state"]), fns, gls⟩ (L ["state"]) f_column_of (topS 36) = true := by decide +kernel
theorem df_column_of : mo.defs "column_of" = some f_column_of := by rfl
theorem ok_begin_column : defB ⟨(L ["program"]), fns, gls⟩ (L ["program"]) f_begin_column (topS 37) = true := by decide +kernel
theorem df_begin_column : mo.defs "begin_column" = some f_begin_column := by rfl
theorem ok_kind_matrix : defB ⟨(L ["program", "kind", "names", "fields", "found", "turn", "name"]), fns, gls⟩ (L ["program", "kind"]) f_kind_matrix (topS 38) = true := by decide +kernel
theorem df_kind_matrix : mo.defs "kind_matrix" = some f_kind_matrix := by rfl
theorem ok_row_matrix : defB ⟨(L ["program", "row", "kind", "values", "its", "poly"]), fns, gls⟩ (L ["program", "row"]) f_row_matrix (topS 39) = true := by decide +kernel
theorem df_row_matrix : mo.defs "row_matrix" = some f_row_matrix := by rfl
theorem ok_stretch_matrix : defB ⟨(L ["program", "stretch", "found", "row"]), fns, gls⟩ (L ["program", "stretch"]) f_stretch_matrix (topS 40) = true := by decide +kernel
theorem df_stretch_matrix : mo.defs "stretch_matrix" = some f_stretch_matrix := by rfl
theorem ok_greatest_powers : defB ⟨(L ["program", "kind", "found", "turn", "number", "powers", "fraction", "one", "other"]), fns, gls⟩ (L ["program", "kind"]) f_greatest_powers (topS 41) = true := by decide +kernel
theorem df_greatest_powers : mo.defs "greatest_powers" = some f_greatest_powers := by rfl
theorem ok_kind_grid : defB ⟨(L ["program", "kind", "values", "most", "one", "n"]), fns, gls⟩ (L ["program", "kind"]) f_kind_grid (topS 42) = true := by decide +kernel
theorem df_kind_grid : mo.defs "kind_grid" = some f_kind_grid := by rfl
theorem ok_grid : defB ⟨(L ["program", "kind", "fields", "turns", "row"]), fns, gls⟩ (L ["program"]) f_grid (topS 43) = true := by decide +kernel
theorem df_grid : mo.defs "grid" = some f_grid := by rfl
theorem ok_share : defB ⟨(L ["value", "at", "most", "found", "n"]), fns, gls⟩ (L ["value", "at", "most"]) f_share (topS 44) = true := by decide +kernel
theorem df_share : mo.defs "share" = some f_share := by rfl
theorem ok_grid_factors : defB ⟨(L ["program", "row", "kind", "values", "most", "found", "its", "places", "factor", "value", "place", "limit"]), fns, gls⟩ (L ["program", "row"]) f_grid_factors (topS 45) = true := by decide +kernel
theorem df_grid_factors : mo.defs "grid_factors" = some f_grid_factors := by rfl
theorem ok__law_bag : defB ⟨(L ["script", "cell"]), fns, gls⟩ (L ["script"]) f__law_bag (topS 47) = true := by decide +kernel
theorem df__law_bag : mo.defs "_law_bag" = some f__law_bag := by rfl
theorem ok__law_take : defB ⟨(L ["bag", "many", "cell", "stirred", "value", "begin", "second"]), fns, gls⟩ (L ["bag", "many"]) f__law_take (topS 48) = true := by decide +kernel
theorem df__law_take : mo.defs "_law_take" = some f__law_take := by rfl
theorem ok__law_some : defB ⟨(L ["bag", "things"]), fns, gls⟩ (L ["bag", "things"]) f__law_some (topS 49) = true := by decide +kernel
theorem df__law_some : mo.defs "_law_some" = some f__law_some := by rfl
theorem ok__law_alike : defB ⟨(L ["found", "due"]), fns, gls⟩ (L ["found", "due"]) f__law_alike (topS 50) = true := by decide +kernel
theorem df__law_alike : mo.defs "_law_alike" = some f__law_alike := by rfl
theorem ok__law_gcd : defB ⟨(L ["a", "b"]), fns, gls⟩ (L ["a", "b"]) f__law_gcd (topS 51) = true := by decide +kernel
theorem df__law_gcd : mo.defs "_law_gcd" = some f__law_gcd := by rfl
theorem ok__law_fr : defB ⟨(L ["a", "b", "part"]), fns, gls⟩ (L ["a", "b"]) f__law_fr (topS 52) = true := by decide +kernel
theorem df__law_fr : mo.defs "_law_fr" = some f__law_fr := by rfl
theorem ok__law_add : defB ⟨(L ["one", "other"]), fns, gls⟩ (L ["one", "other"]) f__law_add (topS 53) = true := by decide +kernel
theorem df__law_add : mo.defs "_law_add" = some f__law_add := by rfl
theorem ok__law_mul : defB ⟨(L ["one", "other"]), fns, gls⟩ (L ["one", "other"]) f__law_mul (topS 54) = true := by decide +kernel
theorem df__law_mul : mo.defs "_law_mul" = some f__law_mul := by rfl
theorem ok__law_pow : defB ⟨(L ["one", "n", "found", "k"]), fns, gls⟩ (L ["one", "n"]) f__law_pow (topS 55) = true := by decide +kernel
theorem df__law_pow : mo.defs "_law_pow" = some f__law_pow := by rfl
theorem ok__law_sum : defB ⟨(L ["some", "found", "one"]), fns, gls⟩ (L ["some"]) f__law_sum (topS 56) = true := by decide +kernel
theorem df__law_sum : mo.defs "_law_sum" = some f__law_sum := by rfl
theorem ok__law_small : defB ⟨(L ["bag"]), fns, gls⟩ (L ["bag"]) f__law_small (topS 57) = true := by decide +kernel
theorem df__law_small : mo.defs "_law_small" = some f__law_small := by rfl
theorem ok__law_not_nought : defB ⟨(L ["bag"]), fns, gls⟩ (L ["bag"]) f__law_not_nought (topS 58) = true := by decide +kernel
theorem df__law_not_nought : mo.defs "_law_not_nought" = some f__law_not_nought := by rfl
theorem ok__law_poly_at : defB ⟨(L ["poly", "values", "found", "powers", "one", "value", "n"]), fns, gls⟩ (L ["poly", "values"]) f__law_poly_at (topS 59) = true := by decide +kernel
theorem df__law_poly_at : mo.defs "_law_poly_at" = some f__law_poly_at := by rfl
theorem ok__law_turn : defB ⟨(L ["bag", "names", "fields", "most", "found", "k", "key", "field"]), fns, gls⟩ (L ["bag", "names", "fields", "most"]) f__law_turn (topS 60) = true := by decide +kernel
theorem df__law_turn : mo.defs "_law_turn" = some f__law_turn := by rfl
theorem ok__law_program : defB ⟨(L ["bag", "names", "adds", "kinds", "kind", "fields", "turns", "name", "plain", "one", "key"]), fns, gls⟩ (L ["bag"]) f__law_program (topS 61) = true := by decide +kernel
theorem df__law_program : mo.defs "_law_program" = some f__law_program := by rfl
theorem ok__law_kind : defB ⟨(L ["program", "name", "kind"]), fns, gls⟩ (L ["program", "name"]) f__law_kind (topS 62) = true := by decide +kernel
theorem df__law_kind : mo.defs "_law_kind" = some f__law_kind := by rfl
theorem ok__law_led : defB ⟨(L ["program", "state", "row", "names", "worths", "found", "turn", "told", "number", "powers", "fraction", "one", "value", "n", "name", "begin"]), fns, gls⟩ (L ["program", "state", "row"]) f__law_led (topS 63) = true := by decide +kernel
theorem df__law_led : mo.defs "_law_led" = some f__law_led := by rfl
theorem ok__law_state : defB ⟨(L ["program", "stretch", "state", "row", "name", "begin"]), fns, gls⟩ (L ["program", "stretch"]) f__law_state (topS 64) = true := by decide +kernel
theorem df__law_state : mo.defs "_law_state" = some f__law_state := by rfl
theorem ok__law_row : defB ⟨(L ["bag", "program", "kind", "field"]), fns, gls⟩ (L ["bag", "program"]) f__law_row (topS 65) = true := by decide +kernel
theorem df__law_row : mo.defs "_law_row" = some f__law_row := by rfl
theorem ok__law_stretch : defB ⟨(L ["bag", "program", "most", "k"]), fns, gls⟩ (L ["bag", "program", "most"]) f__law_stretch (topS 66) = true := by decide +kernel
theorem df__law_stretch : mo.defs "_law_stretch" = some f__law_stretch := by rfl
theorem ok__law_matrix : defB ⟨(L ["program", "row", "names", "found", "turn", "cells", "number", "powers", "fraction", "one", "value", "n", "k", "name", "begin"]), fns, gls⟩ (L ["program", "row"]) f__law_matrix (topS 67) = true := by decide +kernel
theorem df__law_matrix : mo.defs "_law_matrix" = some f__law_matrix := by rfl
theorem ok__law_times : defB ⟨(L ["one", "other", "many", "row", "j", "k"]), fns, gls⟩ (L ["one", "other"]) f__law_times (topS 68) = true := by decide +kernel
theorem df__law_times : mo.defs "_law_times" = some f__law_times := by rfl
theorem ok__law_identity : defB ⟨(L ["n", "i", "j"]), fns, gls⟩ (L ["n"]) f__law_identity (topS 69) = true := by decide +kernel
theorem df__law_identity : mo.defs "_law_identity" = some f__law_identity := by rfl
theorem ok__law_stretch_matrix : defB ⟨(L ["program", "stretch", "found", "row"]), fns, gls⟩ (L ["program", "stretch"]) f__law_stretch_matrix (topS 70) = true := by decide +kernel
theorem df__law_stretch_matrix : mo.defs "_law_stretch_matrix" = some f__law_stretch_matrix := by rfl
theorem ok__law_flat : defB ⟨(L ["matrix", "found", "row"]), fns, gls⟩ (L ["matrix"]) f__law_flat (topS 71) = true := by decide +kernel
theorem df__law_flat : mo.defs "_law_flat" = some f__law_flat := by rfl
theorem ok__law_grid : defB ⟨(L ["program", "found", "name", "fields", "turns", "most", "values", "one", "longer", "value", "n"]), fns, gls⟩ (L ["program"]) f__law_grid (topS 72) = true := by decide +kernel
theorem df__law_grid : mo.defs "_law_grid" = some f__law_grid := by rfl
theorem ok__law_greatest : defB ⟨(L ["fields", "turns", "most", "turn", "number", "powers", "fraction", "a", "b"]), fns, gls⟩ (L ["fields", "turns"]) f__law_greatest (topS 73) = true := by decide +kernel
theorem df__law_greatest : mo.defs "_law_greatest" = some f__law_greatest := by rfl
theorem ok_law : defB ⟨(L ["script", "bag", "lap", "program", "one", "other", "row", "left", "right", "found", "column", "led", "told", "cells", "rows", "mine", "factors", "many", "total", "factor", "its", "a", "b", "poly", "powers"]), fns, gls⟩ (L ["script"]) f_law (topS 74) = true := by decide +kernel
theorem df_law : mo.defs "law" = some f_law := by rfl
theorem has : HasK30 mo := { is_number := rfl, common_divisor := rfl, made := rfl, added := rfl, times := rfl, divided := rfl, power := rfl, ZERO := rfl, ONE := rfl, gcd := rfl, fr := rfl, add := rfl, mul := rfl, pow := rfl, bag := rfl, take := rfl, some_ := rfl, small := rfl, nn := rfl, turn := rfl, program := rfl, row := rfl, stretch := rfl, begin_state := rfl, kind_named := rfl, turns_of := rfl, kind := rfl, l_led := rfl, state := rfl, alike := rfl, whole := rfl, negative := rfl, less := rfl, identity := rfl, product_of := rfl, transposed := rfl, matrix_times := rfl, gathered_poly := rfl, single := rfl, poly_at := rfl, terms_of := rfl, number_names := rfl, fields_of := rfl, column_of := rfl, begin_column := rfl, kind_matrix := rfl, row_matrix := rfl, stretch_matrix := rfl, greatest_powers := rfl, kind_grid := rfl, grid := rfl, share := rfl, grid_factors := rfl, sum := rfl, l_poly_at := rfl, matrix := rfl, l_times := rfl, l_identity := rfl, l_stretch_matrix := rfl, flat := rfl, greatest := rfl, l_grid := rfl }
theorem ans (ns : List Int) (hl : ns.length ≤ 63) : ∃ S', mo.call (depth + 1) "law" [scr ns] [] = some (.ok (.bl true) S') := k30_ans (k := 20) has rfl hl

/-! ### what the top has written -/
set_option maxHeartbeats 0 in
theorem fin_mk {P : Program} {w : World} {K : PySem.W.Frag} {h : Heap} {mg : Str → Option Value} {fa : Addr} (X : K.In h) (G : h.Ns mainGlobals mg) (hfa : mg "law" = some (.ref fa))
    {a0 : Addr} {od0 an0 : Option Addr} {sl0 : Array (Option Value)} {oc0 kV0 dc0 pm0 cd0 ct0 : Value}
    {a1 : Addr} {od1 an1 : Option Addr} {sl1 : Array (Option Value)} {oc1 kV1 dc1 pm1 cd1 ct1 : Value}
    {a2 : Addr} {od2 an2 : Option Addr} {sl2 : Array (Option Value)} {oc2 kV2 dc2 pm2 cd2 ct2 : Value}
    {a3 : Addr} {od3 an3 : Option Addr} {sl3 : Array (Option Value)} {oc3 kV3 dc3 pm3 cd3 ct3 : Value}
    {a4 : Addr} {od4 an4 : Option Addr} {sl4 : Array (Option Value)} {oc4 kV4 dc4 pm4 cd4 ct4 : Value}
    {a5 : Addr} {od5 an5 : Option Addr} {sl5 : Array (Option Value)} {oc5 kV5 dc5 pm5 cd5 ct5 : Value}
    {a6 : Addr} {od6 an6 : Option Addr} {sl6 : Array (Option Value)} {oc6 kV6 dc6 pm6 cd6 ct6 : Value}
    {a7 : Addr} {od7 an7 : Option Addr} {sl7 : Array (Option Value)} {oc7 kV7 dc7 pm7 cd7 ct7 : Value}
    {a8 : Addr} {od8 an8 : Option Addr} {sl8 : Array (Option Value)} {oc8 kV8 dc8 pm8 cd8 ct8 : Value}
    {a9 : Addr} {od9 an9 : Option Addr} {sl9 : Array (Option Value)} {oc9 kV9 dc9 pm9 cd9 ct9 : Value}
    {a10 : Addr} {od10 an10 : Option Addr} {sl10 : Array (Option Value)} {oc10 kV10 dc10 pm10 cd10 ct10 : Value}
    {a11 : Addr} {od11 an11 : Option Addr} {sl11 : Array (Option Value)} {oc11 kV11 dc11 pm11 cd11 ct11 : Value}
    {a12 : Addr} {od12 an12 : Option Addr} {sl12 : Array (Option Value)} {oc12 kV12 dc12 pm12 cd12 ct12 : Value}
    {a13 : Addr} {od13 an13 : Option Addr} {sl13 : Array (Option Value)} {oc13 kV13 dc13 pm13 cd13 ct13 : Value}
    {a14 : Addr} {od14 an14 : Option Addr} {sl14 : Array (Option Value)} {oc14 kV14 dc14 pm14 cd14 ct14 : Value}
    {a15 : Addr} {od15 an15 : Option Addr} {sl15 : Array (Option Value)} {oc15 kV15 dc15 pm15 cd15 ct15 : Value}
    {a16 : Addr} {od16 an16 : Option Addr} {sl16 : Array (Option Value)} {oc16 kV16 dc16 pm16 cd16 ct16 : Value}
    {a17 : Addr} {od17 an17 : Option Addr} {sl17 : Array (Option Value)} {oc17 kV17 dc17 pm17 cd17 ct17 : Value}
    {a18 : Addr} {od18 an18 : Option Addr} {sl18 : Array (Option Value)} {oc18 kV18 dc18 pm18 cd18 ct18 : Value}
    {a19 : Addr} {od19 an19 : Option Addr} {sl19 : Array (Option Value)} {oc19 kV19 dc19 pm19 cd19 ct19 : Value}
    {a20 : Addr} {od20 an20 : Option Addr} {sl20 : Array (Option Value)} {oc20 kV20 dc20 pm20 cd20 ct20 : Value}
    {a21 : Addr} {od21 an21 : Option Addr} {sl21 : Array (Option Value)} {oc21 kV21 dc21 pm21 cd21 ct21 : Value}
    {a22 : Addr} {od22 an22 : Option Addr} {sl22 : Array (Option Value)} {oc22 kV22 dc22 pm22 cd22 ct22 : Value}
    {a23 : Addr} {od23 an23 : Option Addr} {sl23 : Array (Option Value)} {oc23 kV23 dc23 pm23 cd23 ct23 : Value}
    {a24 : Addr} {od24 an24 : Option Addr} {sl24 : Array (Option Value)} {oc24 kV24 dc24 pm24 cd24 ct24 : Value}
    {a25 : Addr} {od25 an25 : Option Addr} {sl25 : Array (Option Value)} {oc25 kV25 dc25 pm25 cd25 ct25 : Value}
    {a26 : Addr} {od26 an26 : Option Addr} {sl26 : Array (Option Value)} {oc26 kV26 dc26 pm26 cd26 ct26 : Value}
    {a27 : Addr} {od27 an27 : Option Addr} {sl27 : Array (Option Value)} {oc27 kV27 dc27 pm27 cd27 ct27 : Value}
    {a28 : Addr} {od28 an28 : Option Addr} {sl28 : Array (Option Value)} {oc28 kV28 dc28 pm28 cd28 ct28 : Value}
    {a29 : Addr} {od29 an29 : Option Addr} {sl29 : Array (Option Value)} {oc29 kV29 dc29 pm29 cd29 ct29 : Value}
    {a30 : Addr} {od30 an30 : Option Addr} {sl30 : Array (Option Value)} {oc30 kV30 dc30 pm30 cd30 ct30 : Value}
    {a31 : Addr} {od31 an31 : Option Addr} {sl31 : Array (Option Value)} {oc31 kV31 dc31 pm31 cd31 ct31 : Value}
    {a32 : Addr} {od32 an32 : Option Addr} {sl32 : Array (Option Value)} {oc32 kV32 dc32 pm32 cd32 ct32 : Value}
    {a33 : Addr} {od33 an33 : Option Addr} {sl33 : Array (Option Value)} {oc33 kV33 dc33 pm33 cd33 ct33 : Value}
    {a34 : Addr} {od34 an34 : Option Addr} {sl34 : Array (Option Value)} {oc34 kV34 dc34 pm34 cd34 ct34 : Value}
    {a35 : Addr} {od35 an35 : Option Addr} {sl35 : Array (Option Value)} {oc35 kV35 dc35 pm35 cd35 ct35 : Value}
    {a36 : Addr} {od36 an36 : Option Addr} {sl36 : Array (Option Value)} {oc36 kV36 dc36 pm36 cd36 ct36 : Value}
    {a37 : Addr} {od37 an37 : Option Addr} {sl37 : Array (Option Value)} {oc37 kV37 dc37 pm37 cd37 ct37 : Value}
    {a38 : Addr} {od38 an38 : Option Addr} {sl38 : Array (Option Value)} {oc38 kV38 dc38 pm38 cd38 ct38 : Value}
    {a39 : Addr} {od39 an39 : Option Addr} {sl39 : Array (Option Value)} {oc39 kV39 dc39 pm39 cd39 ct39 : Value}
    {a40 : Addr} {od40 an40 : Option Addr} {sl40 : Array (Option Value)} {oc40 kV40 dc40 pm40 cd40 ct40 : Value}
    {a41 : Addr} {od41 an41 : Option Addr} {sl41 : Array (Option Value)} {oc41 kV41 dc41 pm41 cd41 ct41 : Value}
    {a42 : Addr} {od42 an42 : Option Addr} {sl42 : Array (Option Value)} {oc42 kV42 dc42 pm42 cd42 ct42 : Value}
    {a43 : Addr} {od43 an43 : Option Addr} {sl43 : Array (Option Value)} {oc43 kV43 dc43 pm43 cd43 ct43 : Value}
    {a44 : Addr} {od44 an44 : Option Addr} {sl44 : Array (Option Value)} {oc44 kV44 dc44 pm44 cd44 ct44 : Value}
    {a45 : Addr} {od45 an45 : Option Addr} {sl45 : Array (Option Value)} {oc45 kV45 dc45 pm45 cd45 ct45 : Value}
    {a46 : Addr} {od46 an46 : Option Addr} {sl46 : Array (Option Value)} {oc46 kV46 dc46 pm46 cd46 ct46 : Value}
    {a47 : Addr} {od47 an47 : Option Addr} {sl47 : Array (Option Value)} {oc47 kV47 dc47 pm47 cd47 ct47 : Value}
    {a48 : Addr} {od48 an48 : Option Addr} {sl48 : Array (Option Value)} {oc48 kV48 dc48 pm48 cd48 ct48 : Value}
    {a49 : Addr} {od49 an49 : Option Addr} {sl49 : Array (Option Value)} {oc49 kV49 dc49 pm49 cd49 ct49 : Value}
    {a50 : Addr} {od50 an50 : Option Addr} {sl50 : Array (Option Value)} {oc50 kV50 dc50 pm50 cd50 ct50 : Value}
    {a51 : Addr} {od51 an51 : Option Addr} {sl51 : Array (Option Value)} {oc51 kV51 dc51 pm51 cd51 ct51 : Value}
    {a52 : Addr} {od52 an52 : Option Addr} {sl52 : Array (Option Value)} {oc52 kV52 dc52 pm52 cd52 ct52 : Value}
    {a53 : Addr} {od53 an53 : Option Addr} {sl53 : Array (Option Value)} {oc53 kV53 dc53 pm53 cd53 ct53 : Value}
    {a54 : Addr} {od54 an54 : Option Addr} {sl54 : Array (Option Value)} {oc54 kV54 dc54 pm54 cd54 ct54 : Value}
    {a55 : Addr} {od55 an55 : Option Addr} {sl55 : Array (Option Value)} {oc55 kV55 dc55 pm55 cd55 ct55 : Value}
    {a56 : Addr} {od56 an56 : Option Addr} {sl56 : Array (Option Value)} {oc56 kV56 dc56 pm56 cd56 ct56 : Value}
    {a57 : Addr} {od57 an57 : Option Addr} {sl57 : Array (Option Value)} {oc57 kV57 dc57 pm57 cd57 ct57 : Value}
    {a58 : Addr} {od58 an58 : Option Addr} {sl58 : Array (Option Value)} {oc58 kV58 dc58 pm58 cd58 ct58 : Value}
    {a59 : Addr} {od59 an59 : Option Addr} {sl59 : Array (Option Value)} {oc59 kV59 dc59 pm59 cd59 ct59 : Value}
    {a60 : Addr} {od60 an60 : Option Addr} {sl60 : Array (Option Value)} {oc60 kV60 dc60 pm60 cd60 ct60 : Value}
    {z0 : Addr} {zd0 : Option Addr} {zs0 : Array (Option Value)} {zn0 : Nat} {zi0 zj0 : Value}
    {z1 : Addr} {zd1 : Option Addr} {zs1 : Array (Option Value)} {zn1 : Nat} {zi1 zj1 : Value}
    (a0_ : PySem.W.nsIn K mainGlobals "is_number" = some (some (.ref a0))) (l0_ : K.lookup a0 = some ⟨oc0, od0, .func (PySem.W.fnOf "is_number" "is_number" (defArgs (topS 5)) (defBody (topS 5)) (defScope (topS 5)) .none kV0 dc0 pm0 an0 cd0 ct0), sl0⟩) (c0_ : PySem.W.codeIn K cd0 "is_number" = true) (k0_ : PySem.W.keepIn K (.ref a0) = true)
    (a1_ : PySem.W.nsIn K mainGlobals "common_divisor" = some (some (.ref a1))) (l1_ : K.lookup a1 = some ⟨oc1, od1, .func (PySem.W.fnOf "common_divisor" "common_divisor" (defArgs (topS 6)) (defBody (topS 6)) (defScope (topS 6)) .none kV1 dc1 pm1 an1 cd1 ct1), sl1⟩) (c1_ : PySem.W.codeIn K cd1 "common_divisor" = true) (k1_ : PySem.W.keepIn K (.ref a1) = true)
    (a2_ : PySem.W.nsIn K mainGlobals "made" = some (some (.ref a2))) (l2_ : K.lookup a2 = some ⟨oc2, od2, .func (PySem.W.fnOf "made" "made" (defArgs (topS 10)) (defBody (topS 10)) (defScope (topS 10)) .none kV2 dc2 pm2 an2 cd2 ct2), sl2⟩) (c2_ : PySem.W.codeIn K cd2 "made" = true) (k2_ : PySem.W.keepIn K (.ref a2) = true)
    (a3_ : PySem.W.nsIn K mainGlobals "whole" = some (some (.ref a3))) (l3_ : K.lookup a3 = some ⟨oc3, od3, .func (PySem.W.fnOf "whole" "whole" (defArgs (topS 11)) (defBody (topS 11)) (defScope (topS 11)) .none kV3 dc3 pm3 an3 cd3 ct3), sl3⟩) (c3_ : PySem.W.codeIn K cd3 "whole" = true) (k3_ : PySem.W.keepIn K (.ref a3) = true)
    (a4_ : PySem.W.nsIn K mainGlobals "added" = some (some (.ref a4))) (l4_ : K.lookup a4 = some ⟨oc4, od4, .func (PySem.W.fnOf "added" "added" (defArgs (topS 12)) (defBody (topS 12)) (defScope (topS 12)) .none kV4 dc4 pm4 an4 cd4 ct4), sl4⟩) (c4_ : PySem.W.codeIn K cd4 "added" = true) (k4_ : PySem.W.keepIn K (.ref a4) = true)
    (a5_ : PySem.W.nsIn K mainGlobals "negative" = some (some (.ref a5))) (l5_ : K.lookup a5 = some ⟨oc5, od5, .func (PySem.W.fnOf "negative" "negative" (defArgs (topS 13)) (defBody (topS 13)) (defScope (topS 13)) .none kV5 dc5 pm5 an5 cd5 ct5), sl5⟩) (c5_ : PySem.W.codeIn K cd5 "negative" = true) (k5_ : PySem.W.keepIn K (.ref a5) = true)
    (a6_ : PySem.W.nsIn K mainGlobals "less" = some (some (.ref a6))) (l6_ : K.lookup a6 = some ⟨oc6, od6, .func (PySem.W.fnOf "less" "less" (defArgs (topS 14)) (defBody (topS 14)) (defScope (topS 14)) .none kV6 dc6 pm6 an6 cd6 ct6), sl6⟩) (c6_ : PySem.W.codeIn K cd6 "less" = true) (k6_ : PySem.W.keepIn K (.ref a6) = true)
    (a7_ : PySem.W.nsIn K mainGlobals "times" = some (some (.ref a7))) (l7_ : K.lookup a7 = some ⟨oc7, od7, .func (PySem.W.fnOf "times" "times" (defArgs (topS 15)) (defBody (topS 15)) (defScope (topS 15)) .none kV7 dc7 pm7 an7 cd7 ct7), sl7⟩) (c7_ : PySem.W.codeIn K cd7 "times" = true) (k7_ : PySem.W.keepIn K (.ref a7) = true)
    (a8_ : PySem.W.nsIn K mainGlobals "divided" = some (some (.ref a8))) (l8_ : K.lookup a8 = some ⟨oc8, od8, .func (PySem.W.fnOf "divided" "divided" (defArgs (topS 16)) (defBody (topS 16)) (defScope (topS 16)) .none kV8 dc8 pm8 an8 cd8 ct8), sl8⟩) (c8_ : PySem.W.codeIn K cd8 "divided" = true) (k8_ : PySem.W.keepIn K (.ref a8) = true)
    (a9_ : PySem.W.nsIn K mainGlobals "power" = some (some (.ref a9))) (l9_ : K.lookup a9 = some ⟨oc9, od9, .func (PySem.W.fnOf "power" "power" (defArgs (topS 17)) (defBody (topS 17)) (defScope (topS 17)) .none kV9 dc9 pm9 an9 cd9 ct9), sl9⟩) (c9_ : PySem.W.codeIn K cd9 "power" = true) (k9_ : PySem.W.keepIn K (.ref a9) = true)
    (a10_ : PySem.W.nsIn K mainGlobals "identity" = some (some (.ref a10))) (l10_ : K.lookup a10 = some ⟨oc10, od10, .func (PySem.W.fnOf "identity" "identity" (defArgs (topS 19)) (defBody (topS 19)) (defScope (topS 19)) .none kV10 dc10 pm10 an10 cd10 ct10), sl10⟩) (c10_ : PySem.W.codeIn K cd10 "identity" = true) (k10_ : PySem.W.keepIn K (.ref a10) = true)
    (a11_ : PySem.W.nsIn K mainGlobals "product_of" = some (some (.ref a11))) (l11_ : K.lookup a11 = some ⟨oc11, od11, .func (PySem.W.fnOf "product_of" "product_of" (defArgs (topS 20)) (defBody (topS 20)) (defScope (topS 20)) .none kV11 dc11 pm11 an11 cd11 ct11), sl11⟩) (c11_ : PySem.W.codeIn K cd11 "product_of" = true) (k11_ : PySem.W.keepIn K (.ref a11) = true)
    (a12_ : PySem.W.nsIn K mainGlobals "transposed" = some (some (.ref a12))) (l12_ : K.lookup a12 = some ⟨oc12, od12, .func (PySem.W.fnOf "transposed" "transposed" (defArgs (topS 21)) (defBody (topS 21)) (defScope (topS 21)) .none kV12 dc12 pm12 an12 cd12 ct12), sl12⟩) (c12_ : PySem.W.codeIn K cd12 "transposed" = true) (k12_ : PySem.W.keepIn K (.ref a12) = true)
    (a13_ : PySem.W.nsIn K mainGlobals "matrix_times" = some (some (.ref a13))) (l13_ : K.lookup a13 = some ⟨oc13, od13, .func (PySem.W.fnOf "matrix_times" "matrix_times" (defArgs (topS 22)) (defBody (topS 22)) (defScope (topS 22)) .none kV13 dc13 pm13 an13 cd13 ct13), sl13⟩) (c13_ : PySem.W.codeIn K cd13 "matrix_times" = true) (k13_ : PySem.W.keepIn K (.ref a13) = true)
    (a14_ : PySem.W.nsIn K mainGlobals "gathered_poly" = some (some (.ref a14))) (l14_ : K.lookup a14 = some ⟨oc14, od14, .func (PySem.W.fnOf "gathered_poly" "gathered_poly" (defArgs (topS 24)) (defBody (topS 24)) (defScope (topS 24)) .none kV14 dc14 pm14 an14 cd14 ct14), sl14⟩) (c14_ : PySem.W.codeIn K cd14 "gathered_poly" = true) (k14_ : PySem.W.keepIn K (.ref a14) = true)
    (a15_ : PySem.W.nsIn K mainGlobals "single" = some (some (.ref a15))) (l15_ : K.lookup a15 = some ⟨oc15, od15, .func (PySem.W.fnOf "single" "single" (defArgs (topS 25)) (defBody (topS 25)) (defScope (topS 25)) .none kV15 dc15 pm15 an15 cd15 ct15), sl15⟩) (c15_ : PySem.W.codeIn K cd15 "single" = true) (k15_ : PySem.W.keepIn K (.ref a15) = true)
    (a16_ : PySem.W.nsIn K mainGlobals "poly_at" = some (some (.ref a16))) (l16_ : K.lookup a16 = some ⟨oc16, od16, .func (PySem.W.fnOf "poly_at" "poly_at" (defArgs (topS 26)) (defBody (topS 26)) (defScope (topS 26)) .none kV16 dc16 pm16 an16 cd16 ct16), sl16⟩) (c16_ : PySem.W.codeIn K cd16 "poly_at" = true) (k16_ : PySem.W.keepIn K (.ref a16) = true)
    (a17_ : PySem.W.nsIn K mainGlobals "terms_of" = some (some (.ref a17))) (l17_ : K.lookup a17 = some ⟨oc17, od17, .func (PySem.W.fnOf "terms_of" "terms_of" (defArgs (topS 28)) (defBody (topS 28)) (defScope (topS 28)) .none kV17 dc17 pm17 an17 cd17 ct17), sl17⟩) (c17_ : PySem.W.codeIn K cd17 "terms_of" = true) (k17_ : PySem.W.keepIn K (.ref a17) = true)
    (a18_ : PySem.W.nsIn K mainGlobals "number_names" = some (some (.ref a18))) (l18_ : K.lookup a18 = some ⟨oc18, od18, .func (PySem.W.fnOf "number_names" "number_names" (defArgs (topS 30)) (defBody (topS 30)) (defScope (topS 30)) .none kV18 dc18 pm18 an18 cd18 ct18), sl18⟩) (c18_ : PySem.W.codeIn K cd18 "number_names" = true) (k18_ : PySem.W.keepIn K (.ref a18) = true)
    (a19_ : PySem.W.nsIn K mainGlobals "begin_state" = some (some (.ref a19))) (l19_ : K.lookup a19 = some ⟨oc19, od19, .func (PySem.W.fnOf "begin_state" "begin_state" (defArgs (topS 31)) (defBody (topS 31)) (defScope (topS 31)) .none kV19 dc19 pm19 an19 cd19 ct19), sl19⟩) (c19_ : PySem.W.codeIn K cd19 "begin_state" = true) (k19_ : PySem.W.keepIn K (.ref a19) = true)
    (a20_ : PySem.W.nsIn K mainGlobals "kind_named" = some (some (.ref a20))) (l20_ : K.lookup a20 = some ⟨oc20, od20, .func (PySem.W.fnOf "kind_named" "kind_named" (defArgs (topS 32)) (defBody (topS 32)) (defScope (topS 32)) .none kV20 dc20 pm20 an20 cd20 ct20), sl20⟩) (c20_ : PySem.W.codeIn K cd20 "kind_named" = true) (k20_ : PySem.W.keepIn K (.ref a20) = true)
    (a21_ : PySem.W.nsIn K mainGlobals "fields_of" = some (some (.ref a21))) (l21_ : K.lookup a21 = some ⟨oc21, od21, .func (PySem.W.fnOf "fields_of" "fields_of" (defArgs (topS 33)) (defBody (topS 33)) (defScope (topS 33)) .none kV21 dc21 pm21 an21 cd21 ct21), sl21⟩) (c21_ : PySem.W.codeIn K cd21 "fields_of" = true) (k21_ : PySem.W.keepIn K (.ref a21) = true)
    (a22_ : PySem.W.nsIn K mainGlobals "turns_of" = some (some (.ref a22))) (l22_ : K.lookup a22 = some ⟨oc22, od22, .func (PySem.W.fnOf "turns_of" "turns_of" (defArgs (topS 34)) (defBody (topS 34)) (defScope (topS 34)) .none kV22 dc22 pm22 an22 cd22 ct22), sl22⟩) (c22_ : PySem.W.codeIn K cd22 "turns_of" = true) (k22_ : PySem.W.keepIn K (.ref a22) = true)
    (a23_ : PySem.W.nsIn K mainGlobals "column_of" = some (some (.ref a23))) (l23_ : K.lookup a23 = some ⟨oc23, od23, .func (PySem.W.fnOf "column_of" "column_of" (defArgs (topS 36)) (defBody (topS 36)) (defScope (topS 36)) .none kV23 dc23 pm23 an23 cd23 ct23), sl23⟩) (c23_ : PySem.W.codeIn K cd23 "column_of" = true) (k23_ : PySem.W.keepIn K (.ref a23) = true)
    (a24_ : PySem.W.nsIn K mainGlobals "begin_column" = some (some (.ref a24))) (l24_ : K.lookup a24 = some ⟨oc24, od24, .func (PySem.W.fnOf "begin_column" "begin_column" (defArgs (topS 37)) (defBody (topS 37)) (defScope (topS 37)) .none kV24 dc24 pm24 an24 cd24 ct24), sl24⟩) (c24_ : PySem.W.codeIn K cd24 "begin_column" = true) (k24_ : PySem.W.keepIn K (.ref a24) = true)
    (a25_ : PySem.W.nsIn K mainGlobals "kind_matrix" = some (some (.ref a25))) (l25_ : K.lookup a25 = some ⟨oc25, od25, .func (PySem.W.fnOf "kind_matrix" "kind_matrix" (defArgs (topS 38)) (defBody (topS 38)) (defScope (topS 38)) .none kV25 dc25 pm25 an25 cd25 ct25), sl25⟩) (c25_ : PySem.W.codeIn K cd25 "kind_matrix" = true) (k25_ : PySem.W.keepIn K (.ref a25) = true)
    (a26_ : PySem.W.nsIn K mainGlobals "row_matrix" = some (some (.ref a26))) (l26_ : K.lookup a26 = some ⟨oc26, od26, .func (PySem.W.fnOf "row_matrix" "row_matrix" (defArgs (topS 39)) (defBody (topS 39)) (defScope (topS 39)) .none kV26 dc26 pm26 an26 cd26 ct26), sl26⟩) (c26_ : PySem.W.codeIn K cd26 "row_matrix" = true) (k26_ : PySem.W.keepIn K (.ref a26) = true)
    (a27_ : PySem.W.nsIn K mainGlobals "stretch_matrix" = some (some (.ref a27))) (l27_ : K.lookup a27 = some ⟨oc27, od27, .func (PySem.W.fnOf "stretch_matrix" "stretch_matrix" (defArgs (topS 40)) (defBody (topS 40)) (defScope (topS 40)) .none kV27 dc27 pm27 an27 cd27 ct27), sl27⟩) (c27_ : PySem.W.codeIn K cd27 "stretch_matrix" = true) (k27_ : PySem.W.keepIn K (.ref a27) = true)
    (a28_ : PySem.W.nsIn K mainGlobals "greatest_powers" = some (some (.ref a28))) (l28_ : K.lookup a28 = some ⟨oc28, od28, .func (PySem.W.fnOf "greatest_powers" "greatest_powers" (defArgs (topS 41)) (defBody (topS 41)) (defScope (topS 41)) .none kV28 dc28 pm28 an28 cd28 ct28), sl28⟩) (c28_ : PySem.W.codeIn K cd28 "greatest_powers" = true) (k28_ : PySem.W.keepIn K (.ref a28) = true)
    (a29_ : PySem.W.nsIn K mainGlobals "kind_grid" = some (some (.ref a29))) (l29_ : K.lookup a29 = some ⟨oc29, od29, .func (PySem.W.fnOf "kind_grid" "kind_grid" (defArgs (topS 42)) (defBody (topS 42)) (defScope (topS 42)) .none kV29 dc29 pm29 an29 cd29 ct29), sl29⟩) (c29_ : PySem.W.codeIn K cd29 "kind_grid" = true) (k29_ : PySem.W.keepIn K (.ref a29) = true)
    (a30_ : PySem.W.nsIn K mainGlobals "grid" = some (some (.ref a30))) (l30_ : K.lookup a30 = some ⟨oc30, od30, .func (PySem.W.fnOf "grid" "grid" (defArgs (topS 43)) (defBody (topS 43)) (defScope (topS 43)) .none kV30 dc30 pm30 an30 cd30 ct30), sl30⟩) (c30_ : PySem.W.codeIn K cd30 "grid" = true) (k30_ : PySem.W.keepIn K (.ref a30) = true)
    (a31_ : PySem.W.nsIn K mainGlobals "share" = some (some (.ref a31))) (l31_ : K.lookup a31 = some ⟨oc31, od31, .func (PySem.W.fnOf "share" "share" (defArgs (topS 44)) (defBody (topS 44)) (defScope (topS 44)) .none kV31 dc31 pm31 an31 cd31 ct31), sl31⟩) (c31_ : PySem.W.codeIn K cd31 "share" = true) (k31_ : PySem.W.keepIn K (.ref a31) = true)
    (a32_ : PySem.W.nsIn K mainGlobals "grid_factors" = some (some (.ref a32))) (l32_ : K.lookup a32 = some ⟨oc32, od32, .func (PySem.W.fnOf "grid_factors" "grid_factors" (defArgs (topS 45)) (defBody (topS 45)) (defScope (topS 45)) .none kV32 dc32 pm32 an32 cd32 ct32), sl32⟩) (c32_ : PySem.W.codeIn K cd32 "grid_factors" = true) (k32_ : PySem.W.keepIn K (.ref a32) = true)
    (a33_ : PySem.W.nsIn K mainGlobals "_law_bag" = some (some (.ref a33))) (l33_ : K.lookup a33 = some ⟨oc33, od33, .func (PySem.W.fnOf "_law_bag" "_law_bag" (defArgs (topS 47)) (defBody (topS 47)) (defScope (topS 47)) .none kV33 dc33 pm33 an33 cd33 ct33), sl33⟩) (c33_ : PySem.W.codeIn K cd33 "_law_bag" = true) (k33_ : PySem.W.keepIn K (.ref a33) = true)
    (a34_ : PySem.W.nsIn K mainGlobals "_law_take" = some (some (.ref a34))) (l34_ : K.lookup a34 = some ⟨oc34, od34, .func (PySem.W.fnOf "_law_take" "_law_take" (defArgs (topS 48)) (defBody (topS 48)) (defScope (topS 48)) .none kV34 dc34 pm34 an34 cd34 ct34), sl34⟩) (c34_ : PySem.W.codeIn K cd34 "_law_take" = true) (k34_ : PySem.W.keepIn K (.ref a34) = true)
    (a35_ : PySem.W.nsIn K mainGlobals "_law_some" = some (some (.ref a35))) (l35_ : K.lookup a35 = some ⟨oc35, od35, .func (PySem.W.fnOf "_law_some" "_law_some" (defArgs (topS 49)) (defBody (topS 49)) (defScope (topS 49)) .none kV35 dc35 pm35 an35 cd35 ct35), sl35⟩) (c35_ : PySem.W.codeIn K cd35 "_law_some" = true) (k35_ : PySem.W.keepIn K (.ref a35) = true)
    (a36_ : PySem.W.nsIn K mainGlobals "_law_alike" = some (some (.ref a36))) (l36_ : K.lookup a36 = some ⟨oc36, od36, .func (PySem.W.fnOf "_law_alike" "_law_alike" (defArgs (topS 50)) (defBody (topS 50)) (defScope (topS 50)) .none kV36 dc36 pm36 an36 cd36 ct36), sl36⟩) (c36_ : PySem.W.codeIn K cd36 "_law_alike" = true) (k36_ : PySem.W.keepIn K (.ref a36) = true)
    (a37_ : PySem.W.nsIn K mainGlobals "_law_gcd" = some (some (.ref a37))) (l37_ : K.lookup a37 = some ⟨oc37, od37, .func (PySem.W.fnOf "_law_gcd" "_law_gcd" (defArgs (topS 51)) (defBody (topS 51)) (defScope (topS 51)) .none kV37 dc37 pm37 an37 cd37 ct37), sl37⟩) (c37_ : PySem.W.codeIn K cd37 "_law_gcd" = true) (k37_ : PySem.W.keepIn K (.ref a37) = true)
    (a38_ : PySem.W.nsIn K mainGlobals "_law_fr" = some (some (.ref a38))) (l38_ : K.lookup a38 = some ⟨oc38, od38, .func (PySem.W.fnOf "_law_fr" "_law_fr" (defArgs (topS 52)) (defBody (topS 52)) (defScope (topS 52)) .none kV38 dc38 pm38 an38 cd38 ct38), sl38⟩) (c38_ : PySem.W.codeIn K cd38 "_law_fr" = true) (k38_ : PySem.W.keepIn K (.ref a38) = true)
    (a39_ : PySem.W.nsIn K mainGlobals "_law_add" = some (some (.ref a39))) (l39_ : K.lookup a39 = some ⟨oc39, od39, .func (PySem.W.fnOf "_law_add" "_law_add" (defArgs (topS 53)) (defBody (topS 53)) (defScope (topS 53)) .none kV39 dc39 pm39 an39 cd39 ct39), sl39⟩) (c39_ : PySem.W.codeIn K cd39 "_law_add" = true) (k39_ : PySem.W.keepIn K (.ref a39) = true)
    (a40_ : PySem.W.nsIn K mainGlobals "_law_mul" = some (some (.ref a40))) (l40_ : K.lookup a40 = some ⟨oc40, od40, .func (PySem.W.fnOf "_law_mul" "_law_mul" (defArgs (topS 54)) (defBody (topS 54)) (defScope (topS 54)) .none kV40 dc40 pm40 an40 cd40 ct40), sl40⟩) (c40_ : PySem.W.codeIn K cd40 "_law_mul" = true) (k40_ : PySem.W.keepIn K (.ref a40) = true)
    (a41_ : PySem.W.nsIn K mainGlobals "_law_pow" = some (some (.ref a41))) (l41_ : K.lookup a41 = some ⟨oc41, od41, .func (PySem.W.fnOf "_law_pow" "_law_pow" (defArgs (topS 55)) (defBody (topS 55)) (defScope (topS 55)) .none kV41 dc41 pm41 an41 cd41 ct41), sl41⟩) (c41_ : PySem.W.codeIn K cd41 "_law_pow" = true) (k41_ : PySem.W.keepIn K (.ref a41) = true)
    (a42_ : PySem.W.nsIn K mainGlobals "_law_sum" = some (some (.ref a42))) (l42_ : K.lookup a42 = some ⟨oc42, od42, .func (PySem.W.fnOf "_law_sum" "_law_sum" (defArgs (topS 56)) (defBody (topS 56)) (defScope (topS 56)) .none kV42 dc42 pm42 an42 cd42 ct42), sl42⟩) (c42_ : PySem.W.codeIn K cd42 "_law_sum" = true) (k42_ : PySem.W.keepIn K (.ref a42) = true)
    (a43_ : PySem.W.nsIn K mainGlobals "_law_small" = some (some (.ref a43))) (l43_ : K.lookup a43 = some ⟨oc43, od43, .func (PySem.W.fnOf "_law_small" "_law_small" (defArgs (topS 57)) (defBody (topS 57)) (defScope (topS 57)) .none kV43 dc43 pm43 an43 cd43 ct43), sl43⟩) (c43_ : PySem.W.codeIn K cd43 "_law_small" = true) (k43_ : PySem.W.keepIn K (.ref a43) = true)
    (a44_ : PySem.W.nsIn K mainGlobals "_law_not_nought" = some (some (.ref a44))) (l44_ : K.lookup a44 = some ⟨oc44, od44, .func (PySem.W.fnOf "_law_not_nought" "_law_not_nought" (defArgs (topS 58)) (defBody (topS 58)) (defScope (topS 58)) .none kV44 dc44 pm44 an44 cd44 ct44), sl44⟩) (c44_ : PySem.W.codeIn K cd44 "_law_not_nought" = true) (k44_ : PySem.W.keepIn K (.ref a44) = true)
    (a45_ : PySem.W.nsIn K mainGlobals "_law_poly_at" = some (some (.ref a45))) (l45_ : K.lookup a45 = some ⟨oc45, od45, .func (PySem.W.fnOf "_law_poly_at" "_law_poly_at" (defArgs (topS 59)) (defBody (topS 59)) (defScope (topS 59)) .none kV45 dc45 pm45 an45 cd45 ct45), sl45⟩) (c45_ : PySem.W.codeIn K cd45 "_law_poly_at" = true) (k45_ : PySem.W.keepIn K (.ref a45) = true)
    (a46_ : PySem.W.nsIn K mainGlobals "_law_turn" = some (some (.ref a46))) (l46_ : K.lookup a46 = some ⟨oc46, od46, .func (PySem.W.fnOf "_law_turn" "_law_turn" (defArgs (topS 60)) (defBody (topS 60)) (defScope (topS 60)) .none kV46 dc46 pm46 an46 cd46 ct46), sl46⟩) (c46_ : PySem.W.codeIn K cd46 "_law_turn" = true) (k46_ : PySem.W.keepIn K (.ref a46) = true)
    (a47_ : PySem.W.nsIn K mainGlobals "_law_program" = some (some (.ref a47))) (l47_ : K.lookup a47 = some ⟨oc47, od47, .func (PySem.W.fnOf "_law_program" "_law_program" (defArgs (topS 61)) (defBody (topS 61)) (defScope (topS 61)) .none kV47 dc47 pm47 an47 cd47 ct47), sl47⟩) (c47_ : PySem.W.codeIn K cd47 "_law_program" = true) (k47_ : PySem.W.keepIn K (.ref a47) = true)
    (a48_ : PySem.W.nsIn K mainGlobals "_law_kind" = some (some (.ref a48))) (l48_ : K.lookup a48 = some ⟨oc48, od48, .func (PySem.W.fnOf "_law_kind" "_law_kind" (defArgs (topS 62)) (defBody (topS 62)) (defScope (topS 62)) .none kV48 dc48 pm48 an48 cd48 ct48), sl48⟩) (c48_ : PySem.W.codeIn K cd48 "_law_kind" = true) (k48_ : PySem.W.keepIn K (.ref a48) = true)
    (a49_ : PySem.W.nsIn K mainGlobals "_law_led" = some (some (.ref a49))) (l49_ : K.lookup a49 = some ⟨oc49, od49, .func (PySem.W.fnOf "_law_led" "_law_led" (defArgs (topS 63)) (defBody (topS 63)) (defScope (topS 63)) .none kV49 dc49 pm49 an49 cd49 ct49), sl49⟩) (c49_ : PySem.W.codeIn K cd49 "_law_led" = true) (k49_ : PySem.W.keepIn K (.ref a49) = true)
    (a50_ : PySem.W.nsIn K mainGlobals "_law_state" = some (some (.ref a50))) (l50_ : K.lookup a50 = some ⟨oc50, od50, .func (PySem.W.fnOf "_law_state" "_law_state" (defArgs (topS 64)) (defBody (topS 64)) (defScope (topS 64)) .none kV50 dc50 pm50 an50 cd50 ct50), sl50⟩) (c50_ : PySem.W.codeIn K cd50 "_law_state" = true) (k50_ : PySem.W.keepIn K (.ref a50) = true)
    (a51_ : PySem.W.nsIn K mainGlobals "_law_row" = some (some (.ref a51))) (l51_ : K.lookup a51 = some ⟨oc51, od51, .func (PySem.W.fnOf "_law_row" "_law_row" (defArgs (topS 65)) (defBody (topS 65)) (defScope (topS 65)) .none kV51 dc51 pm51 an51 cd51 ct51), sl51⟩) (c51_ : PySem.W.codeIn K cd51 "_law_row" = true) (k51_ : PySem.W.keepIn K (.ref a51) = true)
    (a52_ : PySem.W.nsIn K mainGlobals "_law_stretch" = some (some (.ref a52))) (l52_ : K.lookup a52 = some ⟨oc52, od52, .func (PySem.W.fnOf "_law_stretch" "_law_stretch" (defArgs (topS 66)) (defBody (topS 66)) (defScope (topS 66)) .none kV52 dc52 pm52 an52 cd52 ct52), sl52⟩) (c52_ : PySem.W.codeIn K cd52 "_law_stretch" = true) (k52_ : PySem.W.keepIn K (.ref a52) = true)
    (a53_ : PySem.W.nsIn K mainGlobals "_law_matrix" = some (some (.ref a53))) (l53_ : K.lookup a53 = some ⟨oc53, od53, .func (PySem.W.fnOf "_law_matrix" "_law_matrix" (defArgs (topS 67)) (defBody (topS 67)) (defScope (topS 67)) .none kV53 dc53 pm53 an53 cd53 ct53), sl53⟩) (c53_ : PySem.W.codeIn K cd53 "_law_matrix" = true) (k53_ : PySem.W.keepIn K (.ref a53) = true)
    (a54_ : PySem.W.nsIn K mainGlobals "_law_times" = some (some (.ref a54))) (l54_ : K.lookup a54 = some ⟨oc54, od54, .func (PySem.W.fnOf "_law_times" "_law_times" (defArgs (topS 68)) (defBody (topS 68)) (defScope (topS 68)) .none kV54 dc54 pm54 an54 cd54 ct54), sl54⟩) (c54_ : PySem.W.codeIn K cd54 "_law_times" = true) (k54_ : PySem.W.keepIn K (.ref a54) = true)
    (a55_ : PySem.W.nsIn K mainGlobals "_law_identity" = some (some (.ref a55))) (l55_ : K.lookup a55 = some ⟨oc55, od55, .func (PySem.W.fnOf "_law_identity" "_law_identity" (defArgs (topS 69)) (defBody (topS 69)) (defScope (topS 69)) .none kV55 dc55 pm55 an55 cd55 ct55), sl55⟩) (c55_ : PySem.W.codeIn K cd55 "_law_identity" = true) (k55_ : PySem.W.keepIn K (.ref a55) = true)
    (a56_ : PySem.W.nsIn K mainGlobals "_law_stretch_matrix" = some (some (.ref a56))) (l56_ : K.lookup a56 = some ⟨oc56, od56, .func (PySem.W.fnOf "_law_stretch_matrix" "_law_stretch_matrix" (defArgs (topS 70)) (defBody (topS 70)) (defScope (topS 70)) .none kV56 dc56 pm56 an56 cd56 ct56), sl56⟩) (c56_ : PySem.W.codeIn K cd56 "_law_stretch_matrix" = true) (k56_ : PySem.W.keepIn K (.ref a56) = true)
    (a57_ : PySem.W.nsIn K mainGlobals "_law_flat" = some (some (.ref a57))) (l57_ : K.lookup a57 = some ⟨oc57, od57, .func (PySem.W.fnOf "_law_flat" "_law_flat" (defArgs (topS 71)) (defBody (topS 71)) (defScope (topS 71)) .none kV57 dc57 pm57 an57 cd57 ct57), sl57⟩) (c57_ : PySem.W.codeIn K cd57 "_law_flat" = true) (k57_ : PySem.W.keepIn K (.ref a57) = true)
    (a58_ : PySem.W.nsIn K mainGlobals "_law_grid" = some (some (.ref a58))) (l58_ : K.lookup a58 = some ⟨oc58, od58, .func (PySem.W.fnOf "_law_grid" "_law_grid" (defArgs (topS 72)) (defBody (topS 72)) (defScope (topS 72)) .none kV58 dc58 pm58 an58 cd58 ct58), sl58⟩) (c58_ : PySem.W.codeIn K cd58 "_law_grid" = true) (k58_ : PySem.W.keepIn K (.ref a58) = true)
    (a59_ : PySem.W.nsIn K mainGlobals "_law_greatest" = some (some (.ref a59))) (l59_ : K.lookup a59 = some ⟨oc59, od59, .func (PySem.W.fnOf "_law_greatest" "_law_greatest" (defArgs (topS 73)) (defBody (topS 73)) (defScope (topS 73)) .none kV59 dc59 pm59 an59 cd59 ct59), sl59⟩) (c59_ : PySem.W.codeIn K cd59 "_law_greatest" = true) (k59_ : PySem.W.keepIn K (.ref a59) = true)
    (a60_ : PySem.W.nsIn K mainGlobals "law" = some (some (.ref a60))) (l60_ : K.lookup a60 = some ⟨oc60, od60, .func (PySem.W.fnOf "law" "law" (defArgs (topS 74)) (defBody (topS 74)) (defScope (topS 74)) .none kV60 dc60 pm60 an60 cd60 ct60), sl60⟩) (c60_ : PySem.W.codeIn K cd60 "law" = true) (k60_ : PySem.W.keepIn K (.ref a60) = true)
    (za0 : PySem.W.nsIn K mainGlobals "ZERO" = some (some (.ref z0))) (zl0 : K.lookup z0 = some ⟨.type "tuple", zd0, .seq #[zi0, zj0] zn0, zs0⟩) (zr0 : RelV (.int (0)) zi0) (zt0 : RelV (.int (1)) zj0)
    (za1 : PySem.W.nsIn K mainGlobals "ONE" = some (some (.ref z1))) (zl1 : K.lookup z1 = some ⟨.type "tuple", zd1, .seq #[zi1, zj1] zn1, zs1⟩) (zr1 : RelV (.int (1)) zi1) (zt1 : RelV (.int (1)) zj1)
    (b_len : PySem.W.nsIn K mainGlobals "len" = some none)
    (b_abs : PySem.W.nsIn K mainGlobals "abs" = some none)
    (b_tuple : PySem.W.nsIn K mainGlobals "tuple" = some none)
    (b_list : PySem.W.nsIn K mainGlobals "list" = some none)
    (b_sorted : PySem.W.nsIn K mainGlobals "sorted" = some none)
    (b_all : PySem.W.nsIn K mainGlobals "all" = some none)
    (b_any : PySem.W.nsIn K mainGlobals "any" = some none)
    (b_sum : PySem.W.nsIn K mainGlobals "sum" = some none)
    (b_int : PySem.W.nsIn K mainGlobals "int" = some none)
    (b_str : PySem.W.nsIn K mainGlobals "str" = some none)
    (b_repr : PySem.W.nsIn K mainGlobals "repr" = some none)
    (b_max : PySem.W.nsIn K mainGlobals "max" = some none)
    (b_min : PySem.W.nsIn K mainGlobals "min" = some none)
    (b_dict : PySem.W.nsIn K mainGlobals "dict" = some none)
    (b_bool : PySem.W.nsIn K mainGlobals "bool" = some none)
    (b_range : PySem.W.nsIn K mainGlobals "range" = some none)
    (b_zip : PySem.W.nsIn K mainGlobals "zip" = some none)
    (b_enumerate : PySem.W.nsIn K mainGlobals "enumerate" = some none)
    (b_isinstance : PySem.W.nsIn K mainGlobals "isinstance" = some none) (k : Nat) :
    ∃ fd : FuncData, (∀ (s : Shared) (u : Value), BindsTo s fd ⟨[u], []⟩ [("script", u)]) ∧ ∀ base : Heap, K.In base → base.Ns mainGlobals mg → FnG P w K mg base (k + 1) fa fd ["script"] (mo.call (k + 1) "law") := by
  have rows : ∀ f ∈ fns, Row K mg mo fns gls f := rows_cons (row_of X G df_is_number ok_is_number a0_ l0_ c0_ k0_ fun _ _ _ _ _ _ us hl => match us, hl with | [_], _ => rfl) <|
    rows_cons (row_of X G df_common_divisor ok_common_divisor a1_ l1_ c1_ k1_ fun _ _ _ _ _ _ us hl => match us, hl with | [_, _], _ => rfl) <|
    rows_cons (row_of X G df_made ok_made a2_ l2_ c2_ k2_ fun _ _ _ _ _ _ us hl => match us, hl with | [_, _], _ => rfl) <|
    rows_cons (row_of X G df_whole ok_whole a3_ l3_ c3_ k3_ fun _ _ _ _ _ _ us hl => match us, hl with | [_], _ => rfl) <|
    rows_cons (row_of X G df_added ok_added a4_ l4_ c4_ k4_ fun _ _ _ _ _ _ us hl => match us, hl with | [_, _], _ => rfl) <|
    rows_cons (row_of X G df_negative ok_negative a5_ l5_ c5_ k5_ fun _ _ _ _ _ _ us hl => match us, hl with | [_], _ => rfl) <|
    rows_cons (row_of X G df_less ok_less a6_ l6_ c6_ k6_ fun _ _ _ _ _ _ us hl => match us, hl with | [_, _], _ => rfl) <|
    rows_cons (row_of X G df_times ok_times a7_ l7_ c7_ k7_ fun _ _ _ _ _ _ us hl => match us, hl with | [_, _], _ => rfl) <|
    rows_cons (row_of X G df_divided ok_divided a8_ l8_ c8_ k8_ fun _ _ _ _ _ _ us hl => match us, hl with | [_, _], _ => rfl) <|
    rows_cons (row_of X G df_power ok_power a9_ l9_ c9_ k9_ fun _ _ _ _ _ _ us hl => match us, hl with | [_, _], _ => rfl) <|
    rows_cons (row_of X G df_identity ok_identity a10_ l10_ c10_ k10_ fun _ _ _ _ _ _ us hl => match us, hl with | [_], _ => rfl) <|
    rows_cons (row_of X G df_product_of ok_product_of a11_ l11_ c11_ k11_ fun _ _ _ _ _ _ us hl => match us, hl with | [_, _], _ => rfl) <|
    rows_cons (row_of X G df_transposed ok_transposed a12_ l12_ c12_ k12_ fun _ _ _ _ _ _ us hl => match us, hl with | [_], _ => rfl) <|
    rows_cons (row_of X G df_matrix_times ok_matrix_times a13_ l13_ c13_ k13_ fun _ _ _ _ _ _ us hl => match us, hl with | [_, _], _ => rfl) <|
    rows_cons (row_of X G df_gathered_poly ok_gathered_poly a14_ l14_ c14_ k14_ fun _ _ _ _ _ _ us hl => match us, hl with | [_], _ => rfl) <|
    rows_cons (row_of X G df_single ok_single a15_ l15_ c15_ k15_ fun _ _ _ _ _ _ us hl => match us, hl with | [_, _], _ => rfl) <|
    rows_cons (row_of X G df_poly_at ok_poly_at a16_ l16_ c16_ k16_ fun _ _ _ _ _ _ us hl => match us, hl with | [_, _], _ => rfl) <|
    rows_cons (row_of X G df_terms_of ok_terms_of a17_ l17_ c17_ k17_ fun _ _ _ _ _ _ us hl => match us, hl with | [_, _], _ => rfl) <|
    rows_cons (row_of X G df_number_names ok_number_names a18_ l18_ c18_ k18_ fun _ _ _ _ _ _ us hl => match us, hl with | [_], _ => rfl) <|
    rows_cons (row_of X G df_begin_state ok_begin_state a19_ l19_ c19_ k19_ fun _ _ _ _ _ _ us hl => match us, hl with | [_], _ => rfl) <|
    rows_cons (row_of X G df_kind_named ok_kind_named a20_ l20_ c20_ k20_ fun _ _ _ _ _ _ us hl => match us, hl with | [_, _], _ => rfl) <|
    rows_cons (row_of X G df_fields_of ok_fields_of a21_ l21_ c21_ k21_ fun _ _ _ _ _ _ us hl => match us, hl with | [_, _], _ => rfl) <|
    rows_cons (row_of X G df_turns_of ok_turns_of a22_ l22_ c22_ k22_ fun _ _ _ _ _ _ us hl => match us, hl with | [_, _], _ => rfl) <|
    rows_cons (row_of X G df_column_of ok_column_of a23_ l23_ c23_ k23_ fun _ _ _ _ _ _ us hl => match us, hl with | [_], _ => rfl) <|
    rows_cons (row_of X G df_begin_column ok_begin_column a24_ l24_ c24_ k24_ fun _ _ _ _ _ _ us hl => match us, hl with | [_], _ => rfl) <|
    rows_cons (row_of X G df_kind_matrix ok_kind_matrix a25_ l25_ c25_ k25_ fun _ _ _ _ _ _ us hl => match us, hl with | [_, _], _ => rfl) <|
    rows_cons (row_of X G df_row_matrix ok_row_matrix a26_ l26_ c26_ k26_ fun _ _ _ _ _ _ us hl => match us, hl with | [_, _], _ => rfl) <|
    rows_cons (row_of X G df_stretch_matrix ok_stretch_matrix a27_ l27_ c27_ k27_ fun _ _ _ _ _ _ us hl => match us, hl with | [_, _], _ => rfl) <|
    rows_cons (row_of X G df_greatest_powers ok_greatest_powers a28_ l28_ c28_ k28_ fun _ _ _ _ _ _ us hl => match us, hl with | [_, _], _ => rfl) <|
    rows_cons (row_of X G df_kind_grid ok_kind_grid a29_ l29_ c29_ k29_ fun _ _ _ _ _ _ us hl => match us, hl with | [_, _], _ => rfl) <|
    rows_cons (row_of X G df_grid ok_grid a30_ l30_ c30_ k30_ fun _ _ _ _ _ _ us hl => match us, hl with | [_], _ => rfl) <|
    rows_cons (row_of X G df_share ok_share a31_ l31_ c31_ k31_ fun _ _ _ _ _ _ us hl => match us, hl with | [_, _, _], _ => rfl) <|
    rows_cons (row_of X G df_grid_factors ok_grid_factors a32_ l32_ c32_ k32_ fun _ _ _ _ _ _ us hl => match us, hl with | [_, _], _ => rfl) <|
    rows_cons (row_of X G df__law_bag ok__law_bag a33_ l33_ c33_ k33_ fun _ _ _ _ _ _ us hl => match us, hl with | [_], _ => rfl) <|
    rows_cons (row_of X G df__law_take ok__law_take a34_ l34_ c34_ k34_ fun _ _ _ _ _ _ us hl => match us, hl with | [_, _], _ => rfl) <|
    rows_cons (row_of X G df__law_some ok__law_some a35_ l35_ c35_ k35_ fun _ _ _ _ _ _ us hl => match us, hl with | [_, _], _ => rfl) <|
    rows_cons (row_of X G df__law_alike ok__law_alike a36_ l36_ c36_ k36_ fun _ _ _ _ _ _ us hl => match us, hl with | [_, _], _ => rfl) <|
    rows_cons (row_of X G df__law_gcd ok__law_gcd a37_ l37_ c37_ k37_ fun _ _ _ _ _ _ us hl => match us, hl with | [_, _], _ => rfl) <|
    rows_cons (row_of X G df__law_fr ok__law_fr a38_ l38_ c38_ k38_ fun _ _ _ _ _ _ us hl => match us, hl with | [_, _], _ => rfl) <|
    rows_cons (row_of X G df__law_add ok__law_add a39_ l39_ c39_ k39_ fun _ _ _ _ _ _ us hl => match us, hl with | [_, _], _ => rfl) <|
    rows_cons (row_of X G df__law_mul ok__law_mul a40_ l40_ c40_ k40_ fun _ _ _ _ _ _ us hl => match us, hl with | [_, _], _ => rfl) <|
    rows_cons (row_of X G df__law_pow ok__law_pow a41_ l41_ c41_ k41_ fun _ _ _ _ _ _ us hl => match us, hl with | [_, _], _ => rfl) <|
    rows_cons (row_of X G df__law_sum ok__law_sum a42_ l42_ c42_ k42_ fun _ _ _ _ _ _ us hl => match us, hl with | [_], _ => rfl) <|
    rows_cons (row_of X G df__law_small ok__law_small a43_ l43_ c43_ k43_ fun _ _ _ _ _ _ us hl => match us, hl with | [_], _ => rfl) <|
    rows_cons (row_of X G df__law_not_nought ok__law_not_nought a44_ l44_ c44_ k44_ fun _ _ _ _ _ _ us hl => match us, hl with | [_], _ => rfl) <|
    rows_cons (row_of X G df__law_poly_at ok__law_poly_at a45_ l45_ c45_ k45_ fun _ _ _ _ _ _ us hl => match us, hl with | [_, _], _ => rfl) <|
    rows_cons (row_of X G df__law_turn ok__law_turn a46_ l46_ c46_ k46_ fun _ _ _ _ _ _ us hl => match us, hl with | [_, _, _, _], _ => rfl) <|
    rows_cons (row_of X G df__law_program ok__law_program a47_ l47_ c47_ k47_ fun _ _ _ _ _ _ us hl => match us, hl with | [_], _ => rfl) <|
    rows_cons (row_of X G df__law_kind ok__law_kind a48_ l48_ c48_ k48_ fun _ _ _ _ _ _ us hl => match us, hl with | [_, _], _ => rfl) <|
    rows_cons (row_of X G df__law_led ok__law_led a49_ l49_ c49_ k49_ fun _ _ _ _ _ _ us hl => match us, hl with | [_, _, _], _ => rfl) <|
    rows_cons (row_of X G df__law_state ok__law_state a50_ l50_ c50_ k50_ fun _ _ _ _ _ _ us hl => match us, hl with | [_, _], _ => rfl) <|
    rows_cons (row_of X G df__law_row ok__law_row a51_ l51_ c51_ k51_ fun _ _ _ _ _ _ us hl => match us, hl with | [_, _], _ => rfl) <|
    rows_cons (row_of X G df__law_stretch ok__law_stretch a52_ l52_ c52_ k52_ fun _ _ _ _ _ _ us hl => match us, hl with | [_, _, _], _ => rfl) <|
    rows_cons (row_of X G df__law_matrix ok__law_matrix a53_ l53_ c53_ k53_ fun _ _ _ _ _ _ us hl => match us, hl with | [_, _], _ => rfl) <|
    rows_cons (row_of X G df__law_times ok__law_times a54_ l54_ c54_ k54_ fun _ _ _ _ _ _ us hl => match us, hl with | [_, _], _ => rfl) <|
    rows_cons (row_of X G df__law_identity ok__law_identity a55_ l55_ c55_ k55_ fun _ _ _ _ _ _ us hl => match us, hl with | [_], _ => rfl) <|
    rows_cons (row_of X G df__law_stretch_matrix ok__law_stretch_matrix a56_ l56_ c56_ k56_ fun _ _ _ _ _ _ us hl => match us, hl with | [_, _], _ => rfl) <|
    rows_cons (row_of X G df__law_flat ok__law_flat a57_ l57_ c57_ k57_ fun _ _ _ _ _ _ us hl => match us, hl with | [_], _ => rfl) <|
    rows_cons (row_of X G df__law_grid ok__law_grid a58_ l58_ c58_ k58_ fun _ _ _ _ _ _ us hl => match us, hl with | [_], _ => rfl) <|
    rows_cons (row_of X G df__law_greatest ok__law_greatest a59_ l59_ c59_ k59_ fun _ _ _ _ _ _ us hl => match us, hl with | [_, _], _ => rfl) <|
    rows_cons (row_of X G df_law ok_law a60_ l60_ c60_ k60_ fun _ _ _ _ _ _ us hl => match us, hl with | [_], _ => rfl) <|
    rows_nil
  have blt : ∀ x : Str, x ∈ (["len", "abs", "tuple", "list", "sorted", "all", "any", "sum", "int", "str", "repr", "max", "min", "dict", "bool", "range", "zip", "enumerate", "isinstance"] : List Str) → mg x = none := by
    intro x hx
    simp only [List.mem_cons, List.not_mem_nil, or_false] at hx
    rcases hx with rfl | rfl | rfl | rfl | rfl | rfl | rfl | rfl | rfl | rfl | rfl | rfl | rfl | rfl | rfl | rfl | rfl | rfl | rfl
    · exact PySem.W.mg_none_of X G b_len
    · exact PySem.W.mg_none_of X G b_abs
    · exact PySem.W.mg_none_of X G b_tuple
    · exact PySem.W.mg_none_of X G b_list
    · exact PySem.W.mg_none_of X G b_sorted
    · exact PySem.W.mg_none_of X G b_all
    · exact PySem.W.mg_none_of X G b_any
    · exact PySem.W.mg_none_of X G b_sum
    · exact PySem.W.mg_none_of X G b_int
    · exact PySem.W.mg_none_of X G b_str
    · exact PySem.W.mg_none_of X G b_repr
    · exact PySem.W.mg_none_of X G b_max
    · exact PySem.W.mg_none_of X G b_min
    · exact PySem.W.mg_none_of X G b_dict
    · exact PySem.W.mg_none_of X G b_bool
    · exact PySem.W.mg_none_of X G b_range
    · exact PySem.W.mg_none_of X G b_zip
    · exact PySem.W.mg_none_of X G b_enumerate
    · exact PySem.W.mg_none_of X G b_isinstance
  have gl : ∀ x, x ∈ gls → ∀ d, mo.glob x = some d → ∃ v u, mg x = some u ∧ RelV v u ∧ ∀ M ρ H, RV ⟨K, w⟩ M ρ H d v := by
    intro x hx d e
    have hx : x ∈ [Str.ofString "ZERO", Str.ofString "ONE"] := hx
    simp only [List.mem_cons, List.not_mem_nil, or_false] at hx
    rcases hx with rfl | rfl
    · obtain rfl : D.tup [.int (0), .int (1)] = d := Option.some.inj e
      exact gl_pair X G za0 zl0 zr0 zt0
    · obtain rfl : D.tup [.int (1), .int (1)] = d := Option.some.inj e
      exact gl_pair X G za1 zl1 zr1 zt1
  have e := hfa.symm.trans (PySem.W.mg_of X G a60_)
  cases e
  refine ⟨PySem.W.fnOf "law" "law" (defArgs (topS 74)) (defBody (topS 74)) (defScope (topS 74)) .none kV60 dc60 pm60 an60 cd60 ct60, fun s u => .of_eq rfl, fun base _ _ => ?_⟩
  rw [call_body df_law]
  have hd := ok_law
  unfold defB at hd
  simp only [Bool.and_eq_true, decide_eq_true_eq] at hd
  exact fnG_of (mods rows blt gl k _) (fun_mk (st := topS 74) l60_ c60_ k60_) (scB_ok hd.1.1.1) hd.1.1.2 hd.1.2 hd.2
end L30
open PySem PySem.W PyProof.Rows
set_option maxHeartbeats 0 in
theorem PySem.Challenge.cw_splitsums_k30_whole_matrices_of_rows_holds : PySem.Challenge.rw_splitsums_k30_whole_matrices_of_rows.Holds := by
  w_on; o_law; k_head; (case hw => w_witness2)
  k_fill
  refine Cl.walk_G (l := PySem.Challenge.rw_splitsums_k30_whole_matrices_of_rows) (n := 63) (k := L30.depth + 1) (x := "script") (callf := L30.mo.call (L30.depth + 1) "law") rfl (by decide) rfl ⟨rfl, by decide, by decide⟩ (fun w h Y => PySem.W.kIn_of Y) ?F L30.ans
  case F =>
    intro w mg fa h KX G hmg
    refine' L30.fin_mk KX G hmg ?a0_ ?l0_ ?c0_ ?k0_ ?a1_ ?l1_ ?c1_ ?k1_ ?a2_ ?l2_ ?c2_ ?k2_ ?a3_ ?l3_ ?c3_ ?k3_ ?a4_ ?l4_ ?c4_ ?k4_ ?a5_ ?l5_ ?c5_ ?k5_ ?a6_ ?l6_ ?c6_ ?k6_ ?a7_ ?l7_ ?c7_ ?k7_ ?a8_ ?l8_ ?c8_ ?k8_ ?a9_ ?l9_ ?c9_ ?k9_ ?a10_ ?l10_ ?c10_ ?k10_ ?a11_ ?l11_ ?c11_ ?k11_ ?a12_ ?l12_ ?c12_ ?k12_ ?a13_ ?l13_ ?c13_ ?k13_ ?a14_ ?l14_ ?c14_ ?k14_ ?a15_ ?l15_ ?c15_ ?k15_ ?a16_ ?l16_ ?c16_ ?k16_ ?a17_ ?l17_ ?c17_ ?k17_ ?a18_ ?l18_ ?c18_ ?k18_ ?a19_ ?l19_ ?c19_ ?k19_ ?a20_ ?l20_ ?c20_ ?k20_ ?a21_ ?l21_ ?c21_ ?k21_ ?a22_ ?l22_ ?c22_ ?k22_ ?a23_ ?l23_ ?c23_ ?k23_ ?a24_ ?l24_ ?c24_ ?k24_ ?a25_ ?l25_ ?c25_ ?k25_ ?a26_ ?l26_ ?c26_ ?k26_ ?a27_ ?l27_ ?c27_ ?k27_ ?a28_ ?l28_ ?c28_ ?k28_ ?a29_ ?l29_ ?c29_ ?k29_ ?a30_ ?l30_ ?c30_ ?k30_ ?a31_ ?l31_ ?c31_ ?k31_ ?a32_ ?l32_ ?c32_ ?k32_ ?a33_ ?l33_ ?c33_ ?k33_ ?a34_ ?l34_ ?c34_ ?k34_ ?a35_ ?l35_ ?c35_ ?k35_ ?a36_ ?l36_ ?c36_ ?k36_ ?a37_ ?l37_ ?c37_ ?k37_ ?a38_ ?l38_ ?c38_ ?k38_ ?a39_ ?l39_ ?c39_ ?k39_ ?a40_ ?l40_ ?c40_ ?k40_ ?a41_ ?l41_ ?c41_ ?k41_ ?a42_ ?l42_ ?c42_ ?k42_ ?a43_ ?l43_ ?c43_ ?k43_ ?a44_ ?l44_ ?c44_ ?k44_ ?a45_ ?l45_ ?c45_ ?k45_ ?a46_ ?l46_ ?c46_ ?k46_ ?a47_ ?l47_ ?c47_ ?k47_ ?a48_ ?l48_ ?c48_ ?k48_ ?a49_ ?l49_ ?c49_ ?k49_ ?a50_ ?l50_ ?c50_ ?k50_ ?a51_ ?l51_ ?c51_ ?k51_ ?a52_ ?l52_ ?c52_ ?k52_ ?a53_ ?l53_ ?c53_ ?k53_ ?a54_ ?l54_ ?c54_ ?k54_ ?a55_ ?l55_ ?c55_ ?k55_ ?a56_ ?l56_ ?c56_ ?k56_ ?a57_ ?l57_ ?c57_ ?k57_ ?a58_ ?l58_ ?c58_ ?k58_ ?a59_ ?l59_ ?c59_ ?k59_ ?a60_ ?l60_ ?c60_ ?k60_ ?za0 ?zl0 ?zr0 ?zt0 ?za1 ?zl1 ?zr1 ?zt1 ?b_len ?b_abs ?b_tuple ?b_list ?b_sorted ?b_all ?b_any ?b_sum ?b_int ?b_str ?b_repr ?b_max ?b_min ?b_dict ?b_bool ?b_range ?b_zip ?b_enumerate ?b_isinstance L30.depth
    (case a0_ => k_is)
    (case l0_ => k_is)
    (case c0_ => k_is)
    (case k0_ => k_is)
    (case a1_ => k_is)
    (case l1_ => k_is)
    (case c1_ => k_is)
    (case k1_ => k_is)
    (case a2_ => k_is)
    (case l2_ => k_is)
    (case c2_ => k_is)
    (case k2_ => k_is)
    (case a3_ => k_is)
    (case l3_ => k_is)
    (case c3_ => k_is)
    (case k3_ => k_is)
    (case a4_ => k_is)
    (case l4_ => k_is)
    (case c4_ => k_is)
    (case k4_ => k_is)
    (case a5_ => k_is)
    (case l5_ => k_is)
    (case c5_ => k_is)
    (case k5_ => k_is)
    (case a6_ => k_is)
    (case l6_ => k_is)
    (case c6_ => k_is)
    (case k6_ => k_is)
    (case a7_ => k_is)
    (case l7_ => k_is)
    (case c7_ => k_is)
    (case k7_ => k_is)
    (case a8_ => k_is)
    (case l8_ => k_is)
    (case c8_ => k_is)
    (case k8_ => k_is)
    (case a9_ => k_is)
    (case l9_ => k_is)
    (case c9_ => k_is)
    (case k9_ => k_is)
    (case a10_ => k_is)
    (case l10_ => k_is)
    (case c10_ => k_is)
    (case k10_ => k_is)
    (case a11_ => k_is)
    (case l11_ => k_is)
    (case c11_ => k_is)
    (case k11_ => k_is)
    (case a12_ => k_is)
    (case l12_ => k_is)
    (case c12_ => k_is)
    (case k12_ => k_is)
    (case a13_ => k_is)
    (case l13_ => k_is)
    (case c13_ => k_is)
    (case k13_ => k_is)
    (case a14_ => k_is)
    (case l14_ => k_is)
    (case c14_ => k_is)
    (case k14_ => k_is)
    (case a15_ => k_is)
    (case l15_ => k_is)
    (case c15_ => k_is)
    (case k15_ => k_is)
    (case a16_ => k_is)
    (case l16_ => k_is)
    (case c16_ => k_is)
    (case k16_ => k_is)
    (case a17_ => k_is)
    (case l17_ => k_is)
    (case c17_ => k_is)
    (case k17_ => k_is)
    (case a18_ => k_is)
    (case l18_ => k_is)
    (case c18_ => k_is)
    (case k18_ => k_is)
    (case a19_ => k_is)
    (case l19_ => k_is)
    (case c19_ => k_is)
    (case k19_ => k_is)
    (case a20_ => k_is)
    (case l20_ => k_is)
    (case c20_ => k_is)
    (case k20_ => k_is)
    (case a21_ => k_is)
    (case l21_ => k_is)
    (case c21_ => k_is)
    (case k21_ => k_is)
    (case a22_ => k_is)
    (case l22_ => k_is)
    (case c22_ => k_is)
    (case k22_ => k_is)
    (case a23_ => k_is)
    (case l23_ => k_is)
    (case c23_ => k_is)
    (case k23_ => k_is)
    (case a24_ => k_is)
    (case l24_ => k_is)
    (case c24_ => k_is)
    (case k24_ => k_is)
    (case a25_ => k_is)
    (case l25_ => k_is)
    (case c25_ => k_is)
    (case k25_ => k_is)
    (case a26_ => k_is)
    (case l26_ => k_is)
    (case c26_ => k_is)
    (case k26_ => k_is)
    (case a27_ => k_is)
    (case l27_ => k_is)
    (case c27_ => k_is)
    (case k27_ => k_is)
    (case a28_ => k_is)
    (case l28_ => k_is)
    (case c28_ => k_is)
    (case k28_ => k_is)
    (case a29_ => k_is)
    (case l29_ => k_is)
    (case c29_ => k_is)
    (case k29_ => k_is)
    (case a30_ => k_is)
    (case l30_ => k_is)
    (case c30_ => k_is)
    (case k30_ => k_is)
    (case a31_ => k_is)
    (case l31_ => k_is)
    (case c31_ => k_is)
    (case k31_ => k_is)
    (case a32_ => k_is)
    (case l32_ => k_is)
    (case c32_ => k_is)
    (case k32_ => k_is)
    (case a33_ => k_is)
    (case l33_ => k_is)
    (case c33_ => k_is)
    (case k33_ => k_is)
    (case a34_ => k_is)
    (case l34_ => k_is)
    (case c34_ => k_is)
    (case k34_ => k_is)
    (case a35_ => k_is)
    (case l35_ => k_is)
    (case c35_ => k_is)
    (case k35_ => k_is)
    (case a36_ => k_is)
    (case l36_ => k_is)
    (case c36_ => k_is)
    (case k36_ => k_is)
    (case a37_ => k_is)
    (case l37_ => k_is)
    (case c37_ => k_is)
    (case k37_ => k_is)
    (case a38_ => k_is)
    (case l38_ => k_is)
    (case c38_ => k_is)
    (case k38_ => k_is)
    (case a39_ => k_is)
    (case l39_ => k_is)
    (case c39_ => k_is)
    (case k39_ => k_is)
    (case a40_ => k_is)
    (case l40_ => k_is)
    (case c40_ => k_is)
    (case k40_ => k_is)
    (case a41_ => k_is)
    (case l41_ => k_is)
    (case c41_ => k_is)
    (case k41_ => k_is)
    (case a42_ => k_is)
    (case l42_ => k_is)
    (case c42_ => k_is)
    (case k42_ => k_is)
    (case a43_ => k_is)
    (case l43_ => k_is)
    (case c43_ => k_is)
    (case k43_ => k_is)
    (case a44_ => k_is)
    (case l44_ => k_is)
    (case c44_ => k_is)
    (case k44_ => k_is)
    (case a45_ => k_is)
    (case l45_ => k_is)
    (case c45_ => k_is)
    (case k45_ => k_is)
    (case a46_ => k_is)
    (case l46_ => k_is)
    (case c46_ => k_is)
    (case k46_ => k_is)
    (case a47_ => k_is)
    (case l47_ => k_is)
    (case c47_ => k_is)
    (case k47_ => k_is)
    (case a48_ => k_is)
    (case l48_ => k_is)
    (case c48_ => k_is)
    (case k48_ => k_is)
    (case a49_ => k_is)
    (case l49_ => k_is)
    (case c49_ => k_is)
    (case k49_ => k_is)
    (case a50_ => k_is)
    (case l50_ => k_is)
    (case c50_ => k_is)
    (case k50_ => k_is)
    (case a51_ => k_is)
    (case l51_ => k_is)
    (case c51_ => k_is)
    (case k51_ => k_is)
    (case a52_ => k_is)
    (case l52_ => k_is)
    (case c52_ => k_is)
    (case k52_ => k_is)
    (case a53_ => k_is)
    (case l53_ => k_is)
    (case c53_ => k_is)
    (case k53_ => k_is)
    (case a54_ => k_is)
    (case l54_ => k_is)
    (case c54_ => k_is)
    (case k54_ => k_is)
    (case a55_ => k_is)
    (case l55_ => k_is)
    (case c55_ => k_is)
    (case k55_ => k_is)
    (case a56_ => k_is)
    (case l56_ => k_is)
    (case c56_ => k_is)
    (case k56_ => k_is)
    (case a57_ => k_is)
    (case l57_ => k_is)
    (case c57_ => k_is)
    (case k57_ => k_is)
    (case a58_ => k_is)
    (case l58_ => k_is)
    (case c58_ => k_is)
    (case k58_ => k_is)
    (case a59_ => k_is)
    (case l59_ => k_is)
    (case c59_ => k_is)
    (case k59_ => k_is)
    (case a60_ => k_is)
    (case l60_ => k_is)
    (case c60_ => k_is)
    (case k60_ => k_is)
    (case za0 => k_is)
    (case zl0 => k_is)
    (case za1 => k_is)
    (case zl1 => k_is)
    (case zr0 => exact ⟨_, rfl⟩)
    (case zt0 => exact ⟨_, rfl⟩)
    (case zr1 => exact ⟨_, rfl⟩)
    (case zt1 => exact ⟨_, rfl⟩)
    (case b_len => k_is)
    (case b_abs => k_is)
    (case b_tuple => k_is)
    (case b_list => k_is)
    (case b_sorted => k_is)
    (case b_all => k_is)
    (case b_any => k_is)
    (case b_sum => k_is)
    (case b_int => k_is)
    (case b_str => k_is)
    (case b_repr => k_is)
    (case b_max => k_is)
    (case b_min => k_is)
    (case b_dict => k_is)
    (case b_bool => k_is)
    (case b_range => k_is)
    (case b_zip => k_is)
    (case b_enumerate => k_is)
    (case b_isinstance => k_is)
