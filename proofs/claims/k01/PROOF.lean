import PyProof.Rows.All
import Wide.All
import OpenK.AllK
import Wide.FinOn
import HandS.ForMost
import HandS.Exc
import HandS.TupAny
import HandS.TupMul
import HandS.Style
import HandS.Gcd
import HandS.Conv
import HandS.SortInts
import HandS.SortRule
import HandS.TupLe
import HandS.Wide
import HandS.WideMore
import HandS.Dict
import HandS.IsInst
import KE.KDictSum
import HandS.SetFor
import HandS.Remove
import HandS.Zip
import KE.GoesEnum
import HandS.TryOnly
import HandS.Words
import KE.GoesEnumKw
import PySem.Challenge.RW_stairsintime_k01_ticks_to_a_goal
set_option Elab.async false
set_option linter.all false
set_option maxRecDepth 100000
/-! mini: the data, the syntax, the evaluator -/
namespace MP
open PySem L2

abbrev Dt := PyData

/-! ### shapes of containers -/
inductive Sh where
  | ls | tp | dk (ks : List Key) | dt (ks : List (List Key))
  deriving DecidableEq

def keyD : Key → Dt
  | .inl i => .int i
  | .inr s => .str s
def keyT (k : List Key) : Dt := .tuple (k.map keyD)

def Sh.dat : Sh → List Dt → Dt
  | .ls, ds => .list ds
  | .tp, ds => .tuple ds
  | .dk ks, ds => .dict ((ks.map keyD).zip ds)
  | .dt ks, ds => .dict ((ks.map keyT).zip ds)
def Sh.ho : Sh → List V → HO
  | .ls, vs => .lst vs
  | .tp, vs => .tup vs
  | .dk ks, vs => .dK (ks.zip vs)
  | .dt ks, vs => .dT (ks.zip vs)
def Sh.ok : Sh → Nat → Prop
  | .ls, _ => True
  | .tp, _ => True
  | .dk ks, n => ks.length = n ∧ ks.Nodup
  | .dt ks, n => ks.length = n ∧ ks.Nodup

/-! ### trees: what is owned, with frozen leaves -/
inductive Tr where
  | fr (d : Dt)
  | nd (sh : Sh) (ts : List Tr)

mutual
def Tr.data : Tr → Dt
  | .fr d => d
  | .nd sh ts => sh.dat (Tr.datas ts)
def Tr.datas : List Tr → List Dt
  | [] => []
  | t :: ts => t.data :: Tr.datas ts
end
theorem Tr.datas_map : ∀ ts : List Tr, Tr.datas ts = ts.map Tr.data
  | [] => rfl
  | t :: ts => by simp [Tr.datas, Tr.datas_map ts]

def Tr.kids : Tr → List Tr
  | .fr _ => []
  | .nd _ ts => ts
def Dt.kids : Dt → List Dt
  | .list xs => xs
  | .tuple xs => xs
  | .dict kvs => kvs.map (·.2)
  | _ => []
def Tr.at : Tr → List Nat → Option Tr
  | t, [] => some t
  | t, i :: p => match t.kids[i]? with
    | some u => u.at p
    | none => none
def Dt.at : Dt → List Nat → Option Dt
  | d, [] => some d
  | d, i :: p => match (Dt.kids d)[i]? with
    | some u => Dt.at u p
    | none => none
/-- the sub-tree at a place replaced -/
def Tr.put : Tr → List Nat → Tr → Tr
  | _, [], u => u
  | .fr d, _ :: _, _ => .fr d
  | .nd sh ts, i :: p, u => match ts[i]? with
    | some t => .nd sh (ts.set i (t.put p u))
    | none => .nd sh ts

/-! ### entries -/
/-- un: not set; fr: frozen data; own: a tree that this slot owns; fd: what it owned, frozen in its place; al: the node at a place of what slot s owns -/
inductive En where
  | un
  | fr (d : Dt)
  | own (t : Tr)
  | fd (d : Dt)
  | al (s : Nat) (p : List Nat)
abbrev Ev := List En

inductive Res (α : Type) where
  | ok (a : α)
  | exc (c : Nat) (d : Dt) (env : Ev)
  | stuck
def Res.bind {α β : Type} : Res α → (α → Res β) → Res β
  | .ok a, f => f a
  | .exc c d e, _ => .exc c d e
  | .stuck, _ => .stuck
def ofO {α : Type} : Option α → Res α
  | some a => .ok a
  | none => .stuck
@[simp] theorem ofO_some {α : Type} (a : α) : ofO (some a) = .ok a := rfl
@[simp] theorem ofO_none {α : Type} : ofO (none : Option α) = .stuck := rfl
@[simp] theorem Res.bind_ok {α β : Type} (a : α) (f : α → Res β) : (Res.ok a).bind f = f a := rfl
@[simp] theorem Res.bind_stuck {α β : Type} (f : α → Res β) : (Res.stuck : Res α).bind f = .stuck := rfl
@[simp] theorem Res.bind_exc {α β : Type} (c : Nat) (d : Dt) (e : Ev) (f : α → Res β) : (Res.exc c d e : Res α).bind f = .exc c d e := rfl

/-- what an entry is now -/
def res (env : Ev) : En → Option Tr
  | .fr d => some (.fr d)
  | .own t => some t
  | .fd d => some (.fr d)
  | .al s p => match env[s]? with
    | some (.own t) => t.at p
    | some (.fd d) => (Dt.at d p).map .fr
    | _ => none
  | .un => none
def peek (env : Ev) (x : En) : Option Dt := (res env x).map Tr.data
/-- an entry frozen -/
def frz (env : Ev) : En → Option (Ev × Dt)
  | .fr d => some (env, d)
  | .own t => some (env, t.data)
  | .fd d => some (env, d)
  | .al s p => match env[s]? with
    | some (.own t) => match t.at p with
      | some u => some (env.set s (.fd t.data), u.data)
      | none => none
    | some (.fd d) => (Dt.at d p).map fun e => (env, e)
    | _ => none
  | .un => none
/-- an entry ahead of a new value of slot i -/
def unr (env : Ev) (i : Nat) : En → En
  | .al s p => if s = i then (match peek env (.al s p) with | some d => .fr d | none => .un) else .al s p
  | x => x
def puts : Ev → List (Nat × En) → Ev
  | env, [] => env
  | env, (i, x) :: r => puts ((env.map (unr env i)).set i (unr env i x)) (r.map fun q => (q.1, unr env i q.2))
termination_by _ l => l.length
/-- an entry's tree, for a place in another one -/
def toTr (env : Ev) : En → Option (Ev × Tr)
  | .own t => some (env, t)
  | x => (frz env x).map fun q => (q.1, .fr q.2)

def frzL (env : Ev) : List En → Option (Ev × List Dt)
  | [] => some (env, [])
  | x :: xs => match frz env x with
    | none => none
    | some (env1, d) => (frzL env1 xs).map fun q => (q.1, d :: q.2)
def toTrL (env : Ev) : List En → Option (Ev × List Tr)
  | [] => some (env, [])
  | x :: xs => match toTr env x with
    | none => none
    | some (env1, d) => (toTrL env1 xs).map fun q => (q.1, d :: q.2)

/-! ### syntax -/
inductive IK where
  | seq | rng | enm | enm1 | zip
  deriving DecidableEq, Repr
inductive Tg where
  | nm (i : Nat)
  | tup (t : Tg)
  | nil
  | cons (a r : Tg)
  deriving DecidableEq, Repr

inductive BI where
  | len | sum | min | max | min2 | max2 | abs | int | all | any | tuple | list | sorted | repr | isInt | isBool | isTuple | isStr | isList | gcd
  | setLen
  | maxD | minD
  deriving DecidableEq, Repr
inductive MI where
  | append | pop | extend | get | index | count | remove
  deriving DecidableEq, Repr

inductive Ex where
  | var (i : Nat)
  | non | bl (b : Bool) | int (i : Int) | str (s : Str)
  /-- a module's constant, an int -/
  | glob (x : Str) (i : Int)
  | bin (o : Operator) (a b : Ex)
  | neg (a : Ex)
  | not (a : Ex)
  | cmp (o : CmpOp) (a b : Ex)
  | chain (o o' : CmpOp) (a b c : Ex)
  | and (a b : Ex)
  | or (a b : Ex)
  | ife (c a b : Ex)
  | tup (es : Ex)
  | lst (es : Ex)
  | dnew (t : Bool)
  | sub (a b : Ex)
  /-- a[lo:hi]; nil: left out -/
  | slc (a lo hi : Ex)
  | rev (a : Ex)
  | bi (f : BI) (es : Ex)
  | call (f : Nat) (es : Ex)
  /-- f(a, .., k = b, ..): the places of all arguments, in the order in which they stand, among the parameters -/
  | callk (f : Nat) (es ks : Ex) (at_ : List Nat)
  | mth (m : MI) (a : Ex) (es : Ex)
  /-- [e for tg in src if c]: own: the slots of its names -/
  | lc (e : Ex) (tg : Tg) (k : IK) (src : Ex) (c : Ex) (own : List Nat)
  | nil
  | cons (a r : Ex)

inductive Sm where
  | skip
  | seq (a b : Sm)
  | asg (tg : Tg) (e : Ex)
  /-- a, b, .. = e, f, .. -/
  | asgp (tg : Tg) (es : Ex)
  | aug (i : Nat) (o : Operator) (e : Ex)
  | sets (a b e : Ex)
  | augs (o : Operator) (a b e : Ex)
  | ex (e : Ex)
  | ite (c : Ex) (a b : Sm)
  | for_ (tg : Tg) (k : IK) (src : Ex) (b : Sm)
  | whl (c : Ex) (b : Sm)
  | ret (e : Ex)
  | retn
  | brk
  | cnt
  | pass
  | rse (c : Nat) (e : Ex)
  /-- never reached -/
  | nev

inductive Fl where
  | nx (env : Ev) | bk (env : Ev) | ct (env : Ev) | rt (env : Ev) (x : En)

/-! ### operations on data -/
def lineN : Nat := sizeLine
def lim64 (i : Int) : Bool := decide (-(2 ^ 64) < i) && decide (i < 2 ^ 64)
/-- below 2 ^ 400 -/
def limB (i : Int) : Bool := decide (i.natAbs < 2 ^ 400)
/-- what a divisor of // keeps to -/
def divN : Int := 1000000000000000000000000000000

def binD : Operator → Dt → Dt → Option Dt
  | .Add, .int i, .int j => some (.int (i + j))
  | .Sub, .int i, .int j => some (.int (i - j))
  | .Mult, .int i, .int j => if lim64 i || lim64 j || (limB i && limB j) then some (.int (i * j)) else none
  | .FloorDiv, .int i, .int j => if 0 < j ∧ j < divN then some (.int (i / j)) else none
  | .Mod, .int i, .int j => if 0 < j then some (.int (i % j)) else none
  | .Pow, .int i, .int j => if 0 ≤ j ∧ j ≤ 1000000 ∧ i.natAbs < 2 ^ 64 then some (.int (i ^ j.toNat)) else none
  | .Add, .str x, .str y => if x.length + y.length ≤ lineN then some (.str (x ++ y)) else none
  | .Add, .tuple xs, .tuple ys => if xs.length + ys.length ≤ lineN then some (.tuple (xs ++ ys)) else none
  | .Mult, .tuple xs, .int k => if xs ≠ [] ∧ 2 ≤ k ∧ k ≤ 1000 ∧ xs.length ≤ 1000 then some (.tuple (List.replicate k.toNat xs).flatten) else none
  | _, _, _ => none

def allFr : List Tr → Option (List Dt)
  | [] => some []
  | .fr d :: ts => (allFr ts).map (d :: ·)
  | _ :: _ => none
/-- the items of a list whose items are frozen -/
def lstOf : Tr → Option (List Dt)
  | .fr (.list ds) => some ds
  | .nd .ls ts => allFr ts
  | _ => none
def lItems (env : Ev) (x : En) : Option (List Dt) := (res env x).bind lstOf
def newList (ds : List Dt) : En := .own (.nd .ls (ds.map .fr))

def binE (o : Operator) (env : Ev) (x y : En) : Option En :=
  match lItems env x with
  | some xs => match o with
    | .Add => match lItems env y with
      | some ys => if xs.length + ys.length ≤ lineN then some (newList (xs ++ ys)) else none
      | none => none
    | .Mult => match res env y with
      | some (.fr (.int k)) => if -(2 ^ 63) ≤ k ∧ k < 2 ^ 63 ∧ xs.length * k.toNat ≤ lineN then some (newList (List.replicate k.toNat xs).flatten) else none
      | _ => none
    | _ => none
  | none => match res env x, res env y with
    | some (.fr a), some (.fr b) => (binD o a b).map .fr
    | _, _ => none

/-- flat items of a list or tuple -/
def flatD : Dt → Bool
  | .none | .bool _ | .int _ | .str _ => true
  | _ => false
def seqOf : Tr → Option (List Dt)
  | .fr (.tuple ds) => some ds
  | t => lstOf t
def seqItems (env : Ev) (x : En) : Option (List Dt) := (res env x).bind seqOf
/-- all ints -/
def intsOf : List Dt → Option (List Int)
  | [] => some []
  | .int i :: ds => (intsOf ds).map (i :: ·)
  | _ :: _ => none
def boolsOf : List Dt → Option (List Bool)
  | [] => some []
  | .bool i :: ds => (boolsOf ds).map (i :: ·)
  | _ :: _ => none
def keyOf : Dt → Option (Key ⊕ List Key)
  | .int i => some (.inl (.inl i))
  | .str s => some (.inl (.inr s))
  | .tuple ds => (keysOf ds).map .inr
  | _ => none
where keysOf : List Dt → Option (List Key)
  | [] => some []
  | .int i :: ds => (keysOf ds).map (.inl i :: ·)
  | .str s :: ds => (keysOf ds).map (.inr s :: ·)
  | _ :: _ => none
def pos1 {κ : Type} [DecidableEq κ] (k : κ) : List κ → Option Nat
  | [] => none
  | j :: r => if j = k then some 0 else (pos1 k r).map (· + 1)
/-- where a key stands in a dict -/
def Sh.find : Sh → Dt → Option (Option Nat)
  | .dk ks, d => match keyOf d with
    | some (.inl k) => some (pos1 k ks)
    | _ => none
  | .dt ks, d => match keyOf d with
    | some (.inr k) => some (pos1 k ks)
    | _ => none
  | _, _ => none

def lexD (x y : List Int) : Bool := HT.lexLt x y
def cmpE (o : CmpOp) (env : Ev) (x y : En) : Option Bool :=
  match o with
  | .Is => match res env y with
    | some (.fr .none) => match res env x with | some (.fr .none) => some true | some _ => some false | none => none
    | some (.fr (.bool b)) => match res env x with | some (.fr (.bool c)) => some (decide (c = b)) | _ => none
    | _ => none
  | .IsNot => match res env y with
    | some (.fr .none) => match res env x with | some (.fr .none) => some false | some _ => some true | none => none
    | some (.fr (.bool b)) => match res env x with | some (.fr (.bool c)) => some (!decide (c = b)) | _ => none
    | _ => none
  | .In => inn env x y
  | .NotIn => (inn env x y).map (!·)
  | .Eq => eqq env x y
  | .NotEq => (eqq env x y).map (!·)
  | .Lt => match peek env x, peek env y with
    | some (.int i), some (.int j) => some (decide (i < j))
    | some (.tuple a), some (.tuple b) => match intsOf a, intsOf b with
      | some a, some b => some (lexD a b)
      | _, _ => none
    | _, _ => none
  | .LtE => match peek env x, peek env y with
    | some (.int i), some (.int j) => some (decide (i ≤ j))
    | _, _ => none
  | .Gt => match peek env x, peek env y with
    | some (.int i), some (.int j) => some (decide (j < i))
    | _, _ => none
  | .GtE => match peek env x, peek env y with
    | some (.int i), some (.int j) => some (decide (j ≤ i))
    | _, _ => none
where
  eqq (env : Ev) (x y : En) : Option Bool := match peek env x, peek env y with
    | some (.str a), some (.str b) => some (a == b)
    | some a, some b => if SeqAt.shaped a && SeqAt.shaped b then some (PyData.eqv a b) else none
    | _, _ => none
  inn (env : Ev) (x y : En) : Option Bool := match res env y with
    | some (.nd (.dk ks) _) => match peek env x with
      | some d => ((Sh.dk ks).find d).map (·.isSome)
      | none => none
    | some (.nd (.dt ks) _) => match peek env x with
      | some d => ((Sh.dt ks).find d).map (·.isSome)
      | none => none
    | _ => match peek env x, seqItems env y with
      | some d, some ds => if flatD d && ds.all flatD then some (ds.any fun e => PyData.eqv e d) else none
      | _, _ => none

def ixNat (n : Nat) (i : Int) : Option Nat := ixN n i
/-- the item at place j of the node that x is -/
def pickE (ts : List Tr) (x : En) (j : Nat) : Option En := match ts[j]? with
  | none => none
  | some (.fr d) => some (.fr d)
  | some u => match x with
    | .al s p => some (.al s (p ++ [j]))
    | _ => some (.own u)
/-- x[y] -/
def subE (env : Ev) (x y : En) : Option En :=
  match peek env y with
  | none => none
  | some k => match res env x with
    | some (.fr (.list ds)) => match k with | .int i => ((ixNat ds.length i).bind fun j => ds[j]?).map .fr | _ => none
    | some (.fr (.tuple ds)) => match k with | .int i => ((ixNat ds.length i).bind fun j => ds[j]?).map .fr | _ => none
    | some (.nd sh ts) => match (match sh, k with
        | .ls, .int i => ixNat ts.length i
        | .tp, .int i => ixNat ts.length i
        | .dk ks, k => ((Sh.dk ks).find k).join
        | .dt ks, k => ((Sh.dt ks).find k).join
        | _, _ => none) with
      | none => none
      | some j => pickE ts x j
    | _ => none

def cutD (ds : List Dt) (lo hi : Option Int) : List Dt := (ds.drop (HT.sIx ds.length 0 lo)).take (HT.sIx ds.length ds.length hi - HT.sIx ds.length 0 lo)
def slcE (env : Ev) (x : En) (lo hi : Option Int) : Option En := match lItems env x with
  | some ds => some (newList (cutD ds lo hi))
  | none => match res env x with
    | some (.fr (.tuple ds)) => some (.fr (.tuple (cutD ds lo hi)))
    | _ => none
def revE (env : Ev) (x : En) : Option En := match lItems env x with
  | some ds => some (newList ds.reverse)
  | none => match res env x with
    | some (.fr (.tuple ds)) => some (.fr (.tuple ds.reverse))
    | _ => none

/-- entries of env at a node that is taken away, or of a dict's slot -/
def isPre : List Nat → List Nat → Bool
  | [], _ => true
  | a :: p, b :: q => a == b && isPre p q
  | _ :: _, [] => false
def under (s : Nat) (p : List Nat) : En → Bool
  | .al s' q => s' == s && isPre p q
  | _ => false
/-- where a[k] = .. goes: the new shape, the place (none: at the end) -/
def setSh : Sh → Nat → Dt → Option (Sh × Option Nat)
  | .ls, n, .int i => (ixNat n i).map fun j => (.ls, some j)
  | .dk ks, _, k => match keyOf k with
    | some (.inl kk) => match pos1 kk ks with
      | some j => some (.dk ks, some j)
      | none => some (.dk (ks ++ [kk]), none)
    | _ => none
  | .dt ks, _, k => match keyOf k with
    | some (.inr kk) => match pos1 kk ks with
      | some j => some (.dt ks, some j)
      | none => some (.dt (ks ++ [kk]), none)
    | _ => none
  | _, _, _ => none
/-- the node at place p of slot s is another one -/
def chgE (env : Ev) (s : Nat) (t : Tr) (p : List Nat) (sh : Sh) (ts : List Tr) : Ev := env.set s (.own (t.put p (.nd sh ts)))
/-- a[y] = x, a: al s p -/
def setE (env : Ev) (a y x : En) : Option Ev :=
  match peek env y with
  | none => none
  | some k => match toTr env x with
    | none => none
    | some (env1, u) => match a with
      | .al s p => match env1[s]? with
        | some (.own t) => match t.at p with
          | some (.nd sh ts) => match setSh sh ts.length k with
            | some (sh', some j) => if env1.any (under s (p ++ [j])) || decide (lineN ≤ ts.length) then none else some (chgE env1 s t p sh' (ts.set j u))
            | some (sh', none) => if ts.length < lineN then some (chgE env1 s t p sh' (ts ++ [u])) else none
            | none => none
          | _ => none
        | _ => none
      | _ => none

/-! ### built-ins -/
def maxL : List Int → Int
  | [] => 0
  | x :: xs => xs.foldl max x
def minL : List Int → Int
  | [] => 0
  | x :: xs => xs.foldl min x
def sortI (l : List Int) : List Int := l.mergeSort (fun a b => decide (a ≤ b))
def lexLe (a b : Int × Int) : Bool := decide (a.1 < b.1) || (decide (a.1 = b.1) && decide (a.2 ≤ b.2))
def pairsOf : List Dt → Option (List (Int × Int))
  | [] => some []
  | .tuple [.int i, .int j] :: r => (pairsOf r).map fun l => (i, j) :: l
  | _ :: _ => none
def sortP (l : List (Int × Int)) : List (Int × Int) := l.mergeSort lexLe
def intsOfE (env : Ev) (x : En) : Option (List Int) := (seqItems env x).bind intsOf

/-- a tree's type -/
def tyS : Tr → String
  | .fr .none => "NoneType"
  | .fr (.bool _) => "bool"
  | .fr (.int _) => "int"
  | .fr (.str _) => "str"
  | .fr (.list _) => "list"
  | .fr (.tuple _) => "tuple"
  | .fr (.dict _) => "dict"
  | .nd .ls _ => "list"
  | .nd .tp _ => "tuple"
  | .nd _ _ => "dict"
/-- T or below it -/
def isA (T t : String) : Bool := t == T || (T == "int" && t == "bool")
/-- the pair that a key tuple is -/
def keyP : List Key → Option (Int × Int)
  | [.inl i, .inl j] => some (i, j)
  | _ => none
def keyPs : List (List Key) → Option (List (Int × Int))
  | [] => some []
  | k :: r => match keyP k, keyPs r with
    | some p, some l => some (p :: l)
    | _, _ => none
def biE (f : BI) (env : Ev) (xs : List En) : Option (Ev × En) :=
  match f, xs with
  | .len, [x] => match res env x with
    | some (.fr (.list ds)) => some (env, .fr (.int ds.length))
    | some (.fr (.tuple ds)) => some (env, .fr (.int ds.length))
    | some (.fr (.str s)) => if s.length ≤ lineN then some (env, .fr (.int s.length)) else none
    | some (.nd .ls ts) => some (env, .fr (.int ts.length))
    | some (.nd (.dk ks) _) => some (env, .fr (.int ks.length))
    | _ => none
  | .sum, [x] => (intsOfE env x).map fun l => (env, .fr (.int l.sum))
  | .min, [x] => match intsOfE env x with
    | some (i :: l) => some (env, .fr (.int (minL (i :: l))))
    | _ => none
  | .max, [x] => match intsOfE env x with
    | some (i :: l) => some (env, .fr (.int (maxL (i :: l))))
    | _ => none
  | .minD, [x, y] => match intsOfE env x, res env y with
    | some [], some (.fr (.int d)) => some (env, .fr (.int d))
    | some (i :: l), some (.fr (.int _)) => some (env, .fr (.int (minL (i :: l))))
    | _, _ => none
  | .maxD, [x, y] => match intsOfE env x, res env y with
    | some [], some (.fr (.int d)) => some (env, .fr (.int d))
    | some (i :: l), some (.fr (.int _)) => some (env, .fr (.int (maxL (i :: l))))
    | _, _ => none
  | .min2, [x, y] => match res env x, res env y with
    | some (.fr (.int i)), some (.fr (.int j)) => some (env, .fr (.int (if j < i then j else i)))
    | _, _ => none
  | .max2, [x, y] => match res env x, res env y with
    | some (.fr (.int i)), some (.fr (.int j)) => some (env, .fr (.int (if j > i then j else i)))
    | _, _ => none
  | .abs, [x] => match res env x with
    | some (.fr (.int i)) => some (env, .fr (.int (if i < 0 then -i else i)))
    | _ => none
  | .int, [x] => match res env x with
    | some (.fr (.int i)) => some (env, .fr (.int i))
    | some (.fr (.bool b)) => some (env, .fr (.int (if b then 1 else 0)))
    | _ => none
  | .all, [x] => ((lItems env x).bind boolsOf).map fun l => (env, .fr (.bool (l.all id)))
  | .any, [x] => ((lItems env x).bind boolsOf).map fun l => (env, .fr (.bool (l.any id)))
  | .tuple, [x] => match lItems env x with
    | some ds => some (env, .fr (.tuple ds))
    | none => match frz env x with
      | some (env', .list ds) => some (env', .fr (.tuple ds))
      | some (env', .tuple ds) => some (env', .fr (.tuple ds))
      | _ => none
  | .list, [x] => (seqItems env x).map fun ds => (env, newList ds)
  | .sorted, [x] => match (lItems env x).bind intsOf with
    | some l => some (env, newList ((sortI l).map .int))
    | none => match (lItems env x).bind pairsOf with
      | some l => some (env, newList ((sortP l).map fun a => .tuple [.int a.1, .int a.2]))
      | none => match res env x with
        | some (.nd (.dt ks) _) => (keyPs ks).map fun l => (env, newList ((sortP l).map fun a => .tuple [.int a.1, .int a.2]))
        | _ => none
  | .repr, [x] => match peek env x with
    | some (.int i) => if i.natAbs.log2 < 1920 then some (env, .fr (.str (toString i))) else none
    | some (.bool c) => some (env, .fr (.str (if c then "True" else "False")))
    | some .none => some (env, .fr (.str "None"))
    | some (.list ds) => if (PyData.list ds).showable = true ∧ (PyData.list ds).hasDict = false ∧ (PyData.list ds).depth ≤ 40 ∧ (PyData.list ds).shown.length ≤ lineN then some (env, .fr (.str (PyData.list ds).shown)) else none
    | some (.tuple ds) => if (PyData.tuple ds).showable = true ∧ (PyData.tuple ds).hasDict = false ∧ (PyData.tuple ds).depth ≤ 40 ∧ (PyData.tuple ds).shown.length ≤ lineN then some (env, .fr (.str (PyData.tuple ds).shown)) else none
    | _ => none
  | .isInt, [x] => (res env x).map fun t => (env, .fr (.bool (isA "int" (tyS t))))
  | .isBool, [x] => (res env x).map fun t => (env, .fr (.bool (isA "bool" (tyS t))))
  | .isTuple, [x] => (res env x).map fun t => (env, .fr (.bool (isA "tuple" (tyS t))))
  | .isStr, [x] => (res env x).map fun t => (env, .fr (.bool (isA "str" (tyS t))))
  | .isList, [x] => (res env x).map fun t => (env, .fr (.bool (isA "list" (tyS t))))
  | .gcd, [x, y] => match res env x, res env y with
    | some (.fr (.int i)), some (.fr (.int j)) => if i.natAbs < 2 ^ 60 ∧ j.natAbs < 2 ^ 60 then some (env, .fr (.int (Int.gcd i j))) else none
    | _, _ => none
  | _, _ => none

/-! ### methods -/
/-- what a method is a method of -/
def tyM : MI → String
  | .get => "dict"
  | _ => "list"
def mtE (m : MI) (env : Ev) (a : En) (xs : List En) : Option (Ev × En) :=
  match m, xs with
  | .append, [x] => match toTr env x with
    | none => none
    | some (env1, u) => match a with
      | .al s p => match env1[s]? with
        | some (.own t) => match t.at p with
          | some (.nd .ls ts) => if ts.length < lineN then some (chgE env1 s t p .ls (ts ++ [u]), .fr .none) else none
          | _ => none
        | _ => none
      | _ => none
  | .pop, [] => match a with
    | .al s p => match env[s]? with
      | some (.own t) => match t.at p with
        | some (.nd .ls ts) => match ts[ts.length - 1]? with
          | some (.fr d) => some (chgE env s t p .ls ts.dropLast, .fr d)
          | _ => none
        | _ => none
      | _ => none
    | _ => none
  | .extend, [x] => match a, lItems env x with
    | .al s p, some ds => match env[s]? with
      | some (.own t) => match t.at p with
        | some (.nd .ls ts) => if ts.length + ds.length ≤ lineN then some (chgE env s t p .ls (ts ++ ds.map .fr), .fr .none) else none
        | _ => none
      | _ => none
    | _, _ => none
  | .get, [k, x] => match peek env k with
    | none => none
    | some kd => match res env a with
      | some (.nd sh ts) => match sh.find kd with
        | some none => match x with
          | .un => none
          | .fd _ => none
          | x => some (env, x)
        | some (some j) => (pickE ts a j).map fun z => (env, z)
        | none => none
      | _ => none
  | .index, [x] => match peek env x, lItems env a with
    | some d, some ds => if flatD d && ds.all flatD then (ds.findIdx? fun e => PyData.eqv e d).map fun j => (env, .fr (.int (j : Nat))) else none
    | _, _ => none
  | .count, [x] => match peek env x, (lItems env a).bind intsOf with
    | some (.int k), some ns => some (env, .fr (.int (ns.count k : Nat)))
    | _, _ => none
  | .remove, [x] => match peek env x with
    | some (.int k) => match a with
      | .al s p => match env[s]? with
        | some (.own t) => match t.at p with
          | some (.nd .ls ts) => match (allFr ts).bind intsOf with
            | some l => if k ∈ l then some (chgE env s t p .ls ((l.erase k).map fun i => .fr (.int i)), .fr .none) else none
            | none => none
          | _ => none
        | _ => none
      | _ => none
    | _ => none
  | _, _ => none
/-- the type of an entry -/
def tyE (env : Ev) (x : En) : Option String := (res env x).map tyS

/-! ### sources of loops -/
/-- seq, enm, zip: true: a list, false: a tuple -/
inductive SK where
  | rng (lo st : Int) (n : Nat)
  | seq (l : Bool)
  | enm (l : Bool) (st : Int)
  | zip (ls : List Bool)
inductive Itm where
  | one (x : En)
  | many (xs : List En)
/-- the i-th item of the sequence that stands at slot b -/
def seqAt (l : Bool) (env : Ev) (b i : Nat) : Option (Option En) := match env[b]? with
  | none => none
  | some x => match res env x with
    | some (.fr (.list ds)) => if l && decide (i ≤ ds.length) then some (ds[i]?.map .fr) else none
    | some (.fr (.tuple ds)) => if !l && decide (i ≤ ds.length) then some (ds[i]?.map .fr) else none
    | some (.nd .ls ts) => if l && decide (i ≤ ts.length) then (match ts[i]? with
      | none => some none
      | some (.fr d) => some (some (.fr d))
      | some _ => match x with
        | .al s p => some (some (.al s (p ++ [i])))
        | _ => none) else none
    | _ => none
def seqsAt (env : Ev) (i : Nat) : Nat → List Bool → Option (Option (List En))
  | _, [] => some (some [])
  | b, l :: ls => match seqAt l env b i with
    | none => none
    | some none => match seqsAt env i (b + 1) ls with
      | none => none
      | some _ => some none
    | some (some x) => match seqsAt env i (b + 1) ls with
      | none => none
      | some none => some none
      | some (some r) => some (some (x :: r))
def srcAt (k : SK) (b : Nat) (env : Ev) (i : Nat) : Option (Option Itm) := match k with
  | .rng lo st n => some (if i < n then some (.one (.fr (.int (lo + st * i)))) else none)
  | .seq l => (seqAt l env b i).map fun o => o.map .one
  | .enm l st => (seqAt l env b i).map fun o => o.map fun x => .many [.fr (.int (st + i)), x]
  | .zip ls => (seqsAt env i b ls).map fun o => o.map .many
/-- an entry that may be walked: a temporary one is frozen; a list or a tuple? -/
def walkE (env : Ev) (x : En) : Option (En × Bool) :=
  match (match res env x with
    | some (.fr (.list _)) => some true
    | some (.nd .ls _) => some true
    | some (.fr (.tuple _)) => some false
    | _ => none) with
  | none => none
  | some l => match x with
    | .own t => some (.fr t.data, l)
    | .fr d => some (.fr d, l)
    | .al s p => some (.al s p, l)
    | _ => none
def walkL (env : Ev) : List En → Option (List En × List Bool)
  | [] => some ([], [])
  | x :: xs => match walkE env x, walkL env xs with
    | some (y, l), some (ys, ls) => some (y :: ys, l :: ls)
    | _, _ => none
def lim62 (i : Int) : Bool := decide (-(2 ^ 62) ≤ i) && decide (i < 2 ^ 62)
/-- turns of range(a, b, c) -/
def rngN (a b c : Int) : Nat := if 0 < c then ((b - a + c - 1) / c).toNat else ((a - b + -c - 1) / -c).toNat
def mkSrc (k : IK) (env : Ev) (xs : List En) : Option (SK × List En) := match k with
  | .seq => match walkL env xs with
    | some ([y], [l]) => some (.seq l, [y])
    | _ => none
  | .rng => match xs with
    | [x] => match res env x with
      | some (.fr (.int n)) => if lim62 n then some (.rng 0 1 n.toNat, []) else none
      | _ => none
    | [x, y] => match res env x, res env y with
      | some (.fr (.int a)), some (.fr (.int b)) => if lim62 a && lim62 b then some (.rng a 1 (b - a).toNat, []) else none
      | _, _ => none
    | [x, y, z] => match res env x, res env y, res env z with
      | some (.fr (.int a)), some (.fr (.int b)), some (.fr (.int c)) => if lim62 a && lim62 b && decide (c.natAbs < 1073741824) && decide (c ≠ 0) then some (.rng a c (rngN a b c), []) else none
      | _, _, _ => none
    | _ => none
  | .enm => match walkL env xs with
    | some ([y], [l]) => some (.enm l 0, [y])
    | _ => none
  | .enm1 => match xs with
    | [x, z] => match walkE env x, res env z with
      | some (y, l), some (.fr (.int st)) => if lim62 st then some (.enm l st, [y]) else none
      | _, _ => none
    | _ => none
  | .zip => match walkL env xs with
    | some ([y, z], [l, m]) => some (.zip [l, m], [y, z])
    | _ => none

/-! ### targets -/
mutual
def bindT : Tg → En → Option (List (Nat × En))
  | .nm i, x => some [(i, x)]
  | .tup ts, .fr (.tuple ds) => bindL ts (ds.map .fr)
  | _, _ => none
def bindL : Tg → List En → Option (List (Nat × En))
  | .nil, [] => some []
  | .cons a r, x :: xs => match bindT a x, bindL r xs with
    | some p, some q => some (p ++ q)
    | _, _ => none
  | _, _ => none
end
def bindI (tg : Tg) : Itm → Option (List (Nat × En))
  | .one x => bindT tg x
  | .many xs => match tg with
    | .tup ts => bindL ts xs
    | _ => none
/-- what may be given to a name -/
def okE : En → Bool
  | .un => false
  | .fd _ => false
  | _ => true
def asgT (env : Ev) (tg : Tg) (it : Itm) : Option Ev := match bindI tg it with
  | none => none
  | some l => if l.all (fun q => okE q.2) then some (puts env l) else none

/-! ### calls -/
inductive Ar where
  | fr (d : Dt)
  | io (t : Tr)
structure Rt where
  val : Dt ⊕ Tr
  outs : List Tr
structure Cl where
  md : Nat → List Bool
  run : Nat → List Ar → Res Rt
/-- the arguments: those that are only read are frozen -/
def argsF (env : Ev) : List Bool → List En → Option (Ev × List En)
  | [], [] => some (env, [])
  | true :: ms, .al s p :: xs => (argsF env ms xs).map fun q => (q.1, .al s p :: q.2)
  | false :: ms, x :: xs => match frz env x with
    | some (env', d) => (argsF env' ms xs).map fun q => (q.1, .fr d :: q.2)
    | none => none
  | _, _ => none
def argsA (env : Ev) : List En → Option (List Ar × List (Nat × List Nat))
  | [] => some ([], [])
  | .al s p :: xs => match env[s]? with
    | some (.own t) => match t.at p with
      | some (.nd sh ts) => match allFr ts with
        | some _ => (argsA env xs).map fun q => (.io (.nd sh ts) :: q.1, (s, p) :: q.2)
        | none => none
      | _ => none
    | _ => none
  | .fr d :: xs => (argsA env xs).map fun q => (.fr d :: q.1, q.2)
  | _ => none
/-- what the callee has made of them put back -/
def backA (env : Ev) : List (Nat × List Nat) → List Tr → Option Ev
  | [], [] => some env
  | (s, p) :: r, u :: us => match env[s]?, u with
    | some (.own t), .nd _ _ => backA (env.set s (.own (t.put p u))) r us
    | _, _ => none
  | _, _ => none
def doCall (C : Cl) (f : Nat) (env : Ev) (xs : List En) : Res (Ev × En) :=
  match argsF env (C.md f) xs with
  | none => .stuck
  | some (env1, ys) => match argsA env1 ys with
    | none => .stuck
    | some (as, bs) => if (bs.map (·.1)).Nodup then
        match C.run f as with
        | .ok r => match backA env1 bs r.outs with
          | some env2 => .ok (env2, match r.val with | .inl d => .fr d | .inr t => .own t)
          | none => .stuck
        | _ => .stuck
      else .stuck

def truthE (env : Ev) (x : En) : Option Bool := match res env x with
  | some (.fr (.bool b)) => some b
  | _ => none
def optInt (env : Ev) (xs : List En) : Option (Option Int) := match xs with
  | [] => some none
  | [x] => match res env x with
    | some (.fr (.int i)) => some (some i)
    | _ => none
  | _ => none

/-! ### the evaluator -/
def bigW : Nat := 2 ^ 40
/-- positional and keyword arguments in the parameters' order -/
def placed {α : Type} (xs : List α) (at_ : List Nat) : List α := (List.range xs.length).filterMap fun i => (pos1 i at_).bind fun j => xs[j]?

/-- a comprehension's turns -/
def lcGo (step : Ev → Itm → Res (Ev × Option Tr)) (k : SK) (b : Nat) : Nat → Nat → Ev → List Tr → Res (Ev × List Tr)
  | 0, _, _, _ => .stuck
  | n + 1, i, env, acc => match srcAt k b env i with
    | none => .stuck
    | some none => .ok (env, acc)
    | some (some it) => match step env it with
      | .ok (env', none) => lcGo step k b n (i + 1) env' acc
      | .ok (env', some t) => if acc.length < lineN then lcGo step k b n (i + 1) env' (acc ++ [t]) else .stuck
      | _ => .stuck
def isRoot : En → Bool
  | .own _ => true
  | .fd _ => true
  | _ => false
def wipeE (env : Ev) (l : List Nat) : Ev := l.foldl (fun e i => e.set i .un) env
/-- an entry handed back to its slot -/
def vwE : En → En
  | .fr d => .fr d
  | .al s p => .al s p
  | _ => .un
def restE : Ev → List Nat → List En → Ev
  | env, i :: l, x :: xs => restE (env.set i (vwE x)) l xs
  | env, _, _ => env
def rooted (env : Ev) (l : List Nat) : Bool := l.any fun i => isRoot (env.getD i .un)

mutual
def evE (C : Cl) : Ex → Ev → Res (Ev × En)
  | .var i, env => match env[i]? with
    | some (.fr d) => .ok (env, .fr d)
    | some (.own (.nd _ _)) => .ok (env, .al i [])
    | some (.fd d) => .ok (env, .fr d)
    | some (.al s p) => .ok (env, .al s p)
    | _ => .stuck
  | .non, env => .ok (env, .fr .none)
  | .bl b, env => .ok (env, .fr (.bool b))
  | .int i, env => .ok (env, .fr (.int i))
  | .str s, env => .ok (env, .fr (.str s))
  | .glob _ i, env => .ok (env, .fr (.int i))
  | .bin o a b, env => (evE C a env).bind fun q => (evE C b q.1).bind fun r => (ofO (binE o r.1 q.2 r.2)).bind fun z => .ok (r.1, z)
  | .neg a, env => (evE C a env).bind fun q => match res q.1 q.2 with
    | some (.fr (.int i)) => .ok (q.1, .fr (.int (-i)))
    | _ => .stuck
  | .not a, env => (evE C a env).bind fun q => (ofO (truthE q.1 q.2)).bind fun b => .ok (q.1, .fr (.bool (!b)))
  | .cmp o a b, env => (evE C a env).bind fun q => (evE C b q.1).bind fun r => (ofO (cmpE o r.1 q.2 r.2)).bind fun z => .ok (r.1, .fr (.bool z))
  | .chain o o' a b c, env => (evE C a env).bind fun q => (evE C b q.1).bind fun r => (ofO (cmpE o r.1 q.2 r.2)).bind fun z =>
      match r.2 with
      | .fr (.int i) => if z then (evE C c r.1).bind fun w => (ofO (cmpE o' w.1 (.fr (.int i)) w.2)).bind fun z' => .ok (w.1, .fr (.bool z')) else .ok (r.1, .fr (.bool false))
      | _ => .stuck
  | .and a b, env => (evE C a env).bind fun q => (ofO (truthE q.1 q.2)).bind fun t => if t then evE C b q.1 else .ok (q.1, .fr (.bool false))
  | .or a b, env => (evE C a env).bind fun q => (ofO (truthE q.1 q.2)).bind fun t => if t then .ok (q.1, .fr (.bool true)) else evE C b q.1
  | .ife c a b, env => (evE C c env).bind fun q => (ofO (truthE q.1 q.2)).bind fun t => if t then evE C a q.1 else evE C b q.1
  | .tup es, env => (evL C es env).bind fun q => (ofO (frzL q.1 q.2)).bind fun r => if r.2.length ≤ lineN then .ok (r.1, .fr (.tuple r.2)) else .stuck
  | .lst es, env => (evL C es env).bind fun q => (ofO (toTrL q.1 q.2)).bind fun r => if r.2.length ≤ lineN then .ok (r.1, .own (.nd .ls r.2)) else .stuck
  | .dnew t, env => .ok (env, .own (.nd (if t then .dt [] else .dk []) []))
  | .sub a b, env => (evE C a env).bind fun q => (evE C b q.1).bind fun r => (ofO (subE r.1 q.2 r.2)).bind fun z => .ok (r.1, z)
  | .slc a lo hi, env => (evE C a env).bind fun q => ((evL C lo q.1).bind fun r => (ofO (optInt r.1 r.2)).bind fun o => .ok (r.1, o)).bind fun r =>
      ((evL C hi r.1).bind fun w => (ofO (optInt w.1 w.2)).bind fun o => .ok (w.1, o)).bind fun w => (ofO (slcE w.1 q.2 r.2 w.2)).bind fun z => .ok (w.1, z)
  | .rev a, env => (evE C a env).bind fun q => (ofO (revE q.1 q.2)).bind fun z => .ok (q.1, z)
  | .bi f es, env => (evL C es env).bind fun q => ofO (biE f q.1 q.2)
  | .call f es, env => (evL C es env).bind fun q => doCall C f q.1 q.2
  | .callk f es ks at_, env => (evL C es env).bind fun q => (evL C ks q.1).bind fun r => (ofO (frzL r.1 (q.2 ++ r.2))).bind fun w => doCall C f w.1 ((placed w.2 at_).map .fr)
  | .mth m a es, env => (evE C a env).bind fun q => if tyE q.1 q.2 = some (tyM m) then (evL C es q.1).bind fun r => ofO (mtE m r.1 q.2 r.2) else .stuck
  | .lc e tg k src c own, env => ((evL C src env).bind fun q => (ofO (mkSrc k q.1 q.2)).bind fun r => .ok (q.1, r)).bind fun q =>
      if rooted q.1 own then .stuck else
      (lcGo (fun env it => if rooted env own then .stuck else (ofO (asgT (wipeE env own) tg it)).bind fun env => ((evE C c env).bind fun q => (ofO (truthE q.1 q.2)).bind fun t => .ok (q.1, t)).bind fun q =>
          if q.2 then (evE C e q.1).bind fun x => (ofO (toTr x.1 x.2)).bind fun y => .ok (y.1, some y.2) else .ok (q.1, none))
        q.2.1 q.1.length bigW 0 (wipeE q.1 own ++ q.2.2 ++ own.map (fun i => q.1.getD i .un)) []).bind fun z =>
      if rooted z.1 own then .stuck else .ok (restE (z.1.take q.1.length) own (z.1.drop (q.1.length + q.2.2.length)), .own (.nd .ls z.2))
  | _, _ => .stuck
def evL (C : Cl) : Ex → Ev → Res (Ev × List En)
  | .nil, env => .ok (env, [])
  | .cons a r, env => (evE C a env).bind fun q => (evL C r q.1).bind fun w => .ok (w.1, q.2 :: w.2)
  | _, _ => .stuck
end

/-- a for's turns -/
def forGo (step : Ev → Itm → Res Fl) (k : SK) (b : Nat) : Nat → Nat → Ev → Res Fl
  | 0, _, _ => .stuck
  | n + 1, i, env => match srcAt k b env i with
    | none => .stuck
    | some none => .ok (.nx env)
    | some (some it) => (step env it).bind fun fl => match fl with
      | .nx env' => forGo step k b n (i + 1) env'
      | .ct env' => forGo step k b n (i + 1) env'
      | .bk env' => .ok (.nx env')
      | .rt env' x => .ok (.rt env' x)
def whGo (c : Ev → Res (Ev × Bool)) (step : Ev → Res Fl) : Nat → Ev → Res Fl
  | 0, _ => .stuck
  | n + 1, env => (c env).bind fun q => if q.2 then (step q.1).bind fun fl => match fl with
      | .nx env' => whGo c step n env'
      | .ct env' => whGo c step n env'
      | .bk env' => .ok (.nx env')
      | .rt env' x => .ok (.rt env' x)
    else .ok (.nx q.1)
/-- the loop's own slots go -/
def Fl.cut (n : Nat) : Fl → Fl
  | .nx env => .nx (env.take n)
  | .bk env => .bk (env.take n)
  | .ct env => .ct (env.take n)
  | .rt env x => .rt (env.take n) x
def Res.cut (n : Nat) : Res Fl → Res Fl
  | .ok f => .ok (f.cut n)
  | .exc c d env => .exc c d (env.take n)
  | .stuck => .stuck
/-- x op= y: ints, texts -/
def augE (o : Operator) (env : Ev) (x y : En) : Option En := match res env x, res env y with
  | some (.fr (.int i)), some (.fr (.int j)) => match o with
    | .Add => some (.fr (.int (i + j)))
    | .Sub => some (.fr (.int (i - j)))
    | .Mult => if lim64 i || lim64 j || (limB i && limB j) then some (.fr (.int (i * j))) else none
    | .FloorDiv => if 0 < j ∧ j < divN then some (.fr (.int (i / j))) else none
    | .Mod => if 0 < j then some (.fr (.int (i % j))) else none
    | _ => none
  | some (.fr (.str a)), some (.fr (.str c)) => match o with
    | .Add => if a.length + c.length ≤ lineN then some (.fr (.str (a ++ c))) else none
    | _ => none
  | _, _ => none
/-- frozen data at a place -/
def subF (env : Ev) (x y : En) : Option Dt := match subE env x y with
  | some (.fr d) => some d
  | _ => none

def evS (C : Cl) : Sm → Ev → Res Fl
  | .skip, env => .ok (.nx env)
  | .seq a b, env => (evS C a env).bind fun fl => match fl with
    | .nx env' => evS C b env'
    | r => .ok r
  | .asg tg e, env => (evE C e env).bind fun q => (ofO (asgT q.1 tg (.one q.2))).bind fun env' => .ok (.nx env')
  | .asgp tg es, env => (evL C es env).bind fun q => (ofO (asgT q.1 tg (.many q.2))).bind fun env' => .ok (.nx env')
  | .aug i o e, env => (evE C (.var i) env).bind fun q => (evE C e q.1).bind fun r => (ofO (augE o r.1 q.2 r.2)).bind fun z => (ofO (asgT r.1 (.nm i) (.one z))).bind fun env' => .ok (.nx env')
  | .sets a b e, env => (evE C e env).bind fun x => (evE C a x.1).bind fun y => (evE C b y.1).bind fun z => (ofO (setE z.1 y.2 z.2 x.2)).bind fun env' => .ok (.nx env')
  | .augs o a b e, env => (evE C a env).bind fun y => (evE C b y.1).bind fun z => (ofO (subF z.1 y.2 z.2)).bind fun old => (evE C e z.1).bind fun x =>
      (ofO (augE o x.1 (.fr old) x.2)).bind fun w => (ofO (setE x.1 y.2 z.2 w)).bind fun env' => .ok (.nx env')
  | .ex e, env => (evE C e env).bind fun q => .ok (.nx q.1)
  | .ite c a b, env => (evE C c env).bind fun q => (ofO (truthE q.1 q.2)).bind fun t => if t then evS C a q.1 else evS C b q.1
  | .for_ tg k src b, env => (evL C src env).bind fun q => (ofO (mkSrc k q.1 q.2)).bind fun r =>
      (forGo (fun env it => (ofO (asgT env tg it)).bind fun env => evS C b env) r.1 q.1.length bigW 0 (q.1 ++ r.2)).cut q.1.length
  | .whl c b, env => whGo (fun env => (evE C c env).bind fun q => (ofO (truthE q.1 q.2)).bind fun t => .ok (q.1, t)) (fun env => evS C b env) bigW env
  | .ret e, env => (evE C e env).bind fun q => .ok (.rt q.1 q.2)
  | .retn, env => .ok (.rt env (.fr .none))
  | .brk, env => .ok (.bk env)
  | .cnt, env => .ok (.ct env)
  | .pass, env => .ok (.nx env)
  | .rse c e, env => (evE C e env).bind fun q => (ofO (frz q.1 q.2)).bind fun r => .exc c r.2 r.1
  | .nev, _ => .stuck

/-! ### defs -/
structure Df where
  /-- parameters: true: handed in as it is, to be changed -/
  io : List Bool
  /-- its names -/
  nl : Nat
  body : Sm
def entP (nl : Nat) : List Ar → Nat → List En
  | [], _ => []
  | .fr d :: r, h => .fr d :: entP nl r h
  | .io _ :: r, h => .al (nl + h) [] :: entP nl r (h + 1)
def ioOf : List Ar → List Tr
  | [] => []
  | .fr _ :: r => ioOf r
  | .io t :: r => t :: ioOf r
def env0 (d : Df) (as : List Ar) : Ev := entP d.nl as 0 ++ List.replicate (d.nl - as.length) .un ++ (ioOf as).map .own
def kindsOk : List Bool → List Ar → Bool
  | [], [] => true
  | true :: ms, .io _ :: as => kindsOk ms as
  | false :: ms, .fr _ :: as => kindsOk ms as
  | _, _ => false
def outsOf : List En → Option (List Tr)
  | [] => some []
  | .own t :: r => (outsOf r).map (t :: ·)
  | .fd d :: r => (outsOf r).map (.fr d :: ·)
  | _ :: _ => none
/-- the value that is handed back -/
def retE (nl : Nat) (env : Ev) (x : En) : Option (Ev × (Dt ⊕ Tr)) := match x with
  | .own t => some (env, .inr t)
  | .al s [] => match env[s]? with
    | some (.own t) => if s < nl then some (env.set s .un, .inr t) else (frz env x).map fun q => (q.1, .inl q.2)
    | _ => (frz env x).map fun q => (q.1, .inl q.2)
  | y => (frz env y).map fun q => (q.1, .inl q.2)
def runDf (C : Cl) (d : Df) (as : List Ar) : Res Rt :=
  if kindsOk d.io as = true ∧ as.length ≤ d.nl then
    match evS C d.body (env0 d as) with
    | .ok (.nx env) => match outsOf (env.drop d.nl) with
      | some o => .ok ⟨.inl .none, o⟩
      | none => .stuck
    | .ok (.rt env x) => match retE d.nl env x with
      | some (env', v) => match outsOf (env'.drop d.nl) with
        | some o => .ok ⟨v, o⟩
        | none => .stuck
      | none => .stuck
    | .exc c e env => .exc c e env
    | _ => .stuck
  else .stuck
def mdOf (P : Nat → Option Df) (f : Nat) : List Bool := match P f with
  | some d => d.io
  | none => []
def callN (P : Nat → Option Df) : Nat → Nat → List Ar → Res Rt
  | 0, _, _ => .stuck
  | n + 1, f, as => match P f with
    | none => .stuck
    | some d => runDf ⟨mdOf P, callN P n⟩ d as
abbrev clN (P : Nat → Option Df) (n : Nat) : Cl := ⟨mdOf P, callN P n⟩

end MP
set_option maxHeartbeats 1000000
set_option autoImplicit false
/-! mini: what stands in the heap for an entry -/
namespace MP
open PySem PySem.Spec PyProof.Rows L2

/-! ### frozen data -/
/-- a container that may be read: it is tracked; a list may be the script -/
def RdS (H : Hp) (a : Addr) (sh : Sh) (vs : List V) : Prop := H a = some (sh.ho vs) ∨ (sh = .ls ∧ ∃ o, H a = some (.frz o (.lst vs)))
theorem RdS.rd {H : Hp} {a : Addr} {sh : Sh} {vs : List V} (r : RdS H a sh vs) : Rd H a (sh.ho vs) := by
  rcases r with r | ⟨rfl, o, r⟩
  · exact .inl r
  · exact .inr ⟨o, r⟩
inductive IsD (H : Hp) (fz : Addr → Prop) : V → Dt → Prop
  | non : IsD H fz .non .none
  | bl (b : Bool) : IsD H fz (.bl b) (.bool b)
  | int (i : Int) : IsD H fz (.int i) (.int i)
  | str (x : Str) : IsD H fz (.str x) (.str x)
  | nd {a : Addr} {vs : List V} {ds : List Dt} {d : Dt} (sh : Sh) : d = sh.dat ds → fz a → RdS H a sh vs → sh.ok vs.length → vs.length = ds.length →
      (∀ (i : Nat) (v : V) (e : Dt), vs[i]? = some v → ds[i]? = some e → IsD H fz v e) → IsD H fz (.ref a) d

def Keep (H H' : Hp) (fz : Addr → Prop) : Prop := ∀ a o, fz a → H a = some o → H' a = some o
theorem Keep.refl {H : Hp} {fz : Addr → Prop} : Keep H H fz := fun _ _ _ h => h
theorem Keep.rd {H H' : Hp} {fz : Addr → Prop} (k : Keep H H' fz) {a : Addr} {sh : Sh} {vs : List V} (hf : fz a) (r : RdS H a sh vs) : RdS H' a sh vs := by
  rcases r with r | ⟨e, o, r⟩
  · exact .inl (k _ _ hf r)
  · exact .inr ⟨e, o, k _ _ hf r⟩
theorem IsD.mono {H H' : Hp} {fz fz' : Addr → Prop} (k : Keep H H' fz) (s : ∀ a, fz a → fz' a) {v : V} {d : Dt} (h : IsD H fz v d) : IsD H' fz' v d := by
  induction h with
  | non => exact .non
  | bl b => exact .bl b
  | int i => exact .int i
  | str x => exact .str x
  | nd sh e hf r ok hl _ ih => exact .nd sh e (s _ hf) (k.rd hf r) ok hl ih

/-! ### ghost trees: where an owned tree stands -/
inductive G where
  | lf (v : V)
  | nd (a : Addr) (cs : List G)
def G.val : G → V
  | .lf v => v
  | .nd a _ => .ref a
mutual
def G.fp : G → List Addr
  | .lf _ => []
  | .nd a cs => a :: G.fps cs
def G.fps : List G → List Addr
  | [] => []
  | c :: cs => c.fp ++ G.fps cs
end
theorem G.mem_fps {a : Addr} : ∀ {cs : List G}, a ∈ G.fps cs ↔ ∃ c, c ∈ cs ∧ a ∈ c.fp
  | [] => by simp [G.fps]
  | c :: cs => by simp [G.fps, G.mem_fps (cs := cs)]
theorem G.fps_append (l m : List G) : G.fps (l ++ m) = G.fps l ++ G.fps m := by
  induction l with
  | nil => simp [G.fps]
  | cons c l ih => simp [G.fps, ih]
def G.kids : G → List G
  | .lf _ => []
  | .nd _ cs => cs
def G.at : G → List Nat → Option G
  | g, [] => some g
  | g, i :: p => match g.kids[i]? with
    | some u => u.at p
    | none => none
def G.put : G → List Nat → G → G
  | _, [], u => u
  | .lf v, _ :: _, _ => .lf v
  | .nd a cs, i :: p, u => match cs[i]? with
    | some t => .nd a (cs.set i (t.put p u))
    | none => .nd a cs

inductive OwnG (H : Hp) (fz : Addr → Prop) : G → Tr → Prop
  | fr {v : V} {d : Dt} : IsD H fz v d → OwnG H fz (.lf v) (.fr d)
  | nd {a : Addr} {cs : List G} {ts : List Tr} (sh : Sh) : H a = some (sh.ho (cs.map G.val)) → sh.ok cs.length → cs.length = ts.length →
      (∀ (i : Nat) (c : G) (t : Tr), cs[i]? = some c → ts[i]? = some t → OwnG H fz c t) → sh ≠ .tp → OwnG H fz (.nd a cs) (.nd sh ts)

theorem OwnG.mono {H H' : Hp} {fz fz' : Addr → Prop} (k : Keep H H' fz) (s : ∀ a, fz a → fz' a) {g : G} {t : Tr} (h : OwnG H fz g t) (kf : ∀ a ∈ g.fp, ∀ o, H a = some o → H' a = some o) : OwnG H' fz' g t := by
  induction h with
  | fr h => exact .fr (h.mono k s)
  | @nd a cs ts sh e ok hl _ nt ih =>
    refine .nd sh (kf a (by simp [G.fp]) _ e) ok hl (fun i c t hc ht => ih i c t hc ht fun b hb o => kf b ?_ o) nt
    simp only [G.fp, List.mem_cons]
    exact .inr (G.mem_fps.mpr ⟨c, List.mem_of_getElem? hc, hb⟩)

theorem OwnG.tracked {H : Hp} {fz : Addr → Prop} {g : G} {t : Tr} (h : OwnG H fz g t) : ∀ a ∈ g.fp, ∃ o, H a = some o := by
  induction h with
  | fr h => intro a ha; simp [G.fp] at ha
  | @nd a cs ts sh e ok hl _ nt ih =>
    intro b hb
    simp only [G.fp, List.mem_cons] at hb
    rcases hb with rfl | hb
    · exact ⟨_, e⟩
    · obtain ⟨c, hc, hb⟩ := G.mem_fps.mp hb
      obtain ⟨i, hi⟩ := List.getElem?_of_mem hc
      have hlt : i < ts.length := by rw [← hl]; exact (List.getElem?_eq_some_iff.mp hi).1
      exact ih i c ts[i] hi (by simp [hlt]) b hb

theorem Dt.kids_dat {sh : Sh} {ds : List Dt} (ok : sh.ok ds.length) : Dt.kids (sh.dat ds) = ds := by
  cases sh with
  | ls => rfl
  | tp => rfl
  | dk ks =>
    obtain ⟨h, _⟩ := ok
    show ((ks.map keyD).zip ds).map (·.2) = ds
    rw [List.map_snd_zip]
    simp [h]
  | dt ks =>
    obtain ⟨h, _⟩ := ok
    show ((ks.map keyT).zip ds).map (·.2) = ds
    rw [List.map_snd_zip]
    simp [h]

/-- what is owned, frozen -/
theorem OwnG.freeze {H : Hp} {fz fz' : Addr → Prop} {g : G} {t : Tr} (h : OwnG H fz g t) (s : ∀ a, fz a → fz' a) (sf : ∀ a ∈ g.fp, fz' a) : IsD H fz' g.val t.data := by
  induction h with
  | fr h => exact h.mono Keep.refl s
  | @nd a cs ts sh e ok hl _ nt ih =>
    simp only [Tr.data, Tr.datas_map]
    refine .nd (vs := cs.map G.val) (ds := ts.map Tr.data) sh rfl (sf a (by simp [G.fp])) (.inl e) (by simpa using ok) (by simp [hl]) fun i v d hv hd => ?_
    rw [List.getElem?_map] at hv hd
    obtain ⟨c, hc, rfl⟩ := Option.map_eq_some_iff.mp hv
    obtain ⟨u, hu, rfl⟩ := Option.map_eq_some_iff.mp hd
    refine ih i c u hc hu fun b hb => sf b ?_
    simp only [G.fp, List.mem_cons]
    exact .inr (G.mem_fps.mpr ⟨c, List.mem_of_getElem? hc, hb⟩)

theorem G.at_fp {g h : G} {p : List Nat} (e : g.at p = some h) : ∀ a ∈ h.fp, a ∈ g.fp := by
  induction p generalizing g with
  | nil => simp only [G.at, Option.some.injEq] at e; subst e; exact fun _ x => x
  | cons i p ih =>
    intro a ha
    cases g with
    | lf v => simp [G.at, G.kids] at e
    | nd b cs =>
      simp only [G.at, G.kids] at e
      cases hc : cs[i]? with
      | none => rw [hc] at e; cases e
      | some c =>
        rw [hc] at e
        simp only [G.fp, List.mem_cons]
        exact .inr (G.mem_fps.mpr ⟨c, List.mem_of_getElem? hc, ih e a ha⟩)

theorem OwnG.at {H : Hp} {fz : Addr → Prop} {g h : G} {t : Tr} {p : List Nat} (o : OwnG H fz g t) (e : g.at p = some h) : ∃ u, t.at p = some u ∧ OwnG H fz h u := by
  induction p generalizing g t with
  | nil => simp only [G.at, Option.some.injEq] at e; subst e; exact ⟨t, rfl, o⟩
  | cons i p ih =>
    cases o with
    | fr d => simp [G.at, G.kids] at e
    | @nd a cs ts sh e1 ok hl ch =>
      simp only [G.at, G.kids] at e
      cases hc : cs[i]? with
      | none => rw [hc] at e; cases e
      | some c =>
        rw [hc] at e
        have hlt : i < ts.length := by rw [← hl]; exact (List.getElem?_eq_some_iff.mp hc).1
        have ht : ts[i]? = some ts[i] := by simp [hlt]
        obtain ⟨u, hu, ou⟩ := ih (ch i c _ hc ht) e
        exact ⟨u, by simp only [Tr.at, Tr.kids, ht]; exact hu, ou⟩
theorem OwnG.at' {H : Hp} {fz : Addr → Prop} {g : G} {t u : Tr} {p : List Nat} (o : OwnG H fz g t) (e : t.at p = some u) : ∃ h, g.at p = some h ∧ OwnG H fz h u := by
  induction p generalizing g t with
  | nil => simp only [Tr.at, Option.some.injEq] at e; subst e; exact ⟨g, rfl, o⟩
  | cons i p ih =>
    cases o with
    | fr d => simp [Tr.at, Tr.kids] at e
    | @nd a cs ts sh e1 ok hl ch =>
      simp only [Tr.at, Tr.kids] at e
      cases hc : ts[i]? with
      | none => rw [hc] at e; cases e
      | some c =>
        rw [hc] at e
        have hlt : i < cs.length := by rw [hl]; exact (List.getElem?_eq_some_iff.mp hc).1
        have ht : cs[i]? = some cs[i] := by simp [hlt]
        obtain ⟨u, hu, ou⟩ := ih (ch i _ c ht hc) e
        exact ⟨u, by simp only [G.at, G.kids, ht]; exact hu, ou⟩

theorem OwnG.dat {H : Hp} {fz : Addr → Prop} {g : G} {t u : Tr} {p : List Nat} (o : OwnG H fz g t) (e : t.at p = some u) : Dt.at t.data p = some u.data := by
  induction p generalizing g t with
  | nil => simp only [Tr.at, Option.some.injEq] at e; subst e; rfl
  | cons i p ih =>
    cases o with
    | fr d => simp [Tr.at, Tr.kids] at e
    | @nd a cs ts sh e1 ok hl ch =>
      simp only [Tr.at, Tr.kids] at e
      cases hc : ts[i]? with
      | none => rw [hc] at e; cases e
      | some c =>
        rw [hc] at e
        have hlt : i < cs.length := by rw [hl]; exact (List.getElem?_eq_some_iff.mp hc).1
        have ht : cs[i]? = some cs[i] := by simp [hlt]
        have := ih (ch i _ c ht hc) e
        have hk : Dt.kids (sh.dat (Tr.datas ts)) = Tr.datas ts := Dt.kids_dat (by rw [Tr.datas_map, List.length_map, ← hl]; exact ok)
        rw [Tr.datas_map] at hk
        simp only [Dt.at, Tr.data, Tr.datas_map, hk, List.getElem?_map, hc, Option.map_some]
        exact this

theorem IsD.at {H : Hp} {fz : Addr → Prop} {v : V} {d e : Dt} {p : List Nat} (h : IsD H fz v d) (hp : Dt.at d p = some e) : ∃ w, IsD H fz w e := by
  induction p generalizing v d with
  | nil => simp only [Dt.at, Option.some.injEq] at hp; subst hp; exact ⟨v, h⟩
  | cons i p ih =>
    cases h with
    | non => simp [Dt.at, Dt.kids] at hp
    | bl b => simp [Dt.at, Dt.kids] at hp
    | int j => simp [Dt.at, Dt.kids] at hp
    | str x => simp [Dt.at, Dt.kids] at hp
    | nd sh e1 hf r ok hl ch =>
      rename_i a vs ds
      subst e1
      rw [hl] at ok
      simp only [Dt.at, Dt.kids_dat ok] at hp
      cases hc : ds[i]? with
      | none => rw [hc] at hp; cases hp
      | some c =>
        rw [hc] at hp
        have hlt : i < vs.length := by rw [hl]; exact (List.getElem?_eq_some_iff.mp hc).1
        exact ih (ch i vs[i] c (by simp [hlt]) hc) hp

/-! ### footprints -/
theorem G.fps_get : ∀ {l : List G} {j : Nat} {d : G}, (G.fps l).Nodup → l[j]? = some d → d.fp.Nodup ∧ ∀ (j2 : Nat) (d2 : G), j2 ≠ j → l[j2]? = some d2 → ∀ b ∈ d2.fp, b ∉ d.fp
  | [], _, _, _, h => by simp at h
  | x :: l, 0, d, n, hd => by
    simp only [G.fps, List.nodup_append] at n
    obtain ⟨n1, n2, n3⟩ := n
    simp only [List.getElem?_cons_zero, Option.some.injEq] at hd
    subst hd
    refine ⟨n1, fun j2 d2 hj h2 b hb z => ?_⟩
    cases j2 with
    | zero => exact hj rfl
    | succ j2 => exact n3 b z b (G.mem_fps.mpr ⟨d2, List.mem_of_getElem? (by simpa using h2), hb⟩) rfl
  | x :: l, j + 1, d, n, hd => by
    simp only [G.fps, List.nodup_append] at n
    obtain ⟨n1, n2, n3⟩ := n
    have hd' : l[j]? = some d := by simpa using hd
    obtain ⟨m1, m2⟩ := G.fps_get (j := j) n2 hd'
    refine ⟨m1, fun j2 d2 hj h2 b hb z => ?_⟩
    cases j2 with
    | zero =>
      simp only [List.getElem?_cons_zero, Option.some.injEq] at h2
      subst h2
      exact n3 b hb b (G.mem_fps.mpr ⟨d, List.mem_of_getElem? hd', z⟩) rfl
    | succ j2 => exact m2 j2 d2 (fun q => hj (by rw [q])) (by simpa using h2) b hb z
theorem G.fps_set : ∀ {gs : List G} {i : Nat} {g g' : G}, (G.fps gs).Nodup → gs[i]? = some g → g'.fp.Nodup → (∀ a ∈ g'.fp, a ∈ g.fp ∨ a ∉ G.fps gs) →
    (G.fps (gs.set i g')).Nodup ∧ ∀ a ∈ G.fps (gs.set i g'), (a ∈ G.fps gs ∧ (a ∈ g.fp → a ∈ g'.fp)) ∨ a ∈ g'.fp
  | [], _, _, _, _, h, _, _ => by simp at h
  | c :: gs, 0, g, g', nod, h, n', k => by
    simp only [List.getElem?_cons_zero, Option.some.injEq] at h
    subst h
    simp only [G.fps, List.nodup_append] at nod
    obtain ⟨n1, n2, n3⟩ := nod
    refine ⟨?_, ?_⟩
    · simp only [List.set_cons_zero, G.fps, List.nodup_append]
      refine ⟨n', n2, fun a ha b hb e => ?_⟩
      subst e
      rcases k a ha with z | z
      · exact n3 a z a hb rfl
      · exact z (by simp only [G.fps, List.mem_append]; exact .inr hb)
    · intro a ha
      simp only [List.set_cons_zero, G.fps, List.mem_append] at ha ⊢
      rcases ha with ha | ha
      · exact .inr ha
      · exact .inl ⟨.inr ha, fun z => absurd rfl (n3 a z a ha)⟩
  | c :: gs, i + 1, g, g', nod, h, n', k => by
    simp only [List.getElem?_cons_succ] at h
    simp only [G.fps, List.nodup_append] at nod
    obtain ⟨n1, n2, n3⟩ := nod
    have hg : ∀ a ∈ g.fp, a ∈ G.fps gs := fun a ha => G.mem_fps.mpr ⟨g, List.mem_of_getElem? h, ha⟩
    obtain ⟨m1, m2⟩ := G.fps_set (i := i) n2 h n' fun a ha => (k a ha).imp id fun z y => z (by simp only [G.fps, List.mem_append]; exact .inr y)
    refine ⟨?_, ?_⟩
    · simp only [List.set_cons_succ, G.fps, List.nodup_append]
      refine ⟨n1, m1, fun a ha b hb e => ?_⟩
      subst e
      rcases m2 a hb with z | z
      · exact n3 a ha a z.1 rfl
      · rcases k a z with y | y
        · exact n3 a ha a (hg a y) rfl
        · exact y (by simp only [G.fps, List.mem_append]; exact .inl ha)
    · intro a ha
      simp only [List.set_cons_succ, G.fps, List.mem_append] at ha ⊢
      rcases ha with ha | ha
      · exact .inl ⟨.inl ha, fun z => absurd rfl (n3 a ha a (hg a z))⟩
      · rcases m2 a ha with z | z
        · exact .inl ⟨.inr z.1, z.2⟩
        · exact .inr z

theorem G.put_fp {p : List Nat} : ∀ {g h h' : G}, g.fp.Nodup → g.at p = some h → h'.fp.Nodup → (∀ a ∈ h'.fp, a ∈ h.fp ∨ a ∉ g.fp) →
    (g.put p h').fp.Nodup ∧ ∀ a ∈ (g.put p h').fp, (a ∈ g.fp ∧ (a ∈ h.fp → a ∈ h'.fp)) ∨ a ∈ h'.fp := by
  induction p with
  | nil =>
    intro g h h' nd e n' k
    exact ⟨by simpa only [G.put] using n', fun a ha => .inr (by simpa only [G.put] using ha)⟩
  | cons i p ih =>
    intro g h h' nd e n' k
    cases g with
    | lf v => simp [G.at, G.kids] at e
    | nd b cs =>
      simp only [G.at, G.kids] at e
      cases hc : cs[i]? with
      | none => rw [hc] at e; cases e
      | some c =>
        rw [hc] at e
        simp only [G.put, hc]
        simp only [G.fp, List.nodup_cons] at nd ⊢
        obtain ⟨nb, nd⟩ := nd
        have hcf : ∀ a ∈ c.fp, a ∈ G.fps cs := fun a ha => G.mem_fps.mpr ⟨c, List.mem_of_getElem? hc, ha⟩
        have hhf : ∀ a ∈ h.fp, a ∈ c.fp := G.at_fp e
        have ndc : c.fp.Nodup := (G.fps_get nd hc).1
        obtain ⟨i1, i2⟩ := ih ndc e n' fun a ha => (k a ha).imp id fun z y => z (by simp only [G.fp, List.mem_cons]; exact .inr (hcf a y))
        have h'f : ∀ a ∈ h'.fp, a ∈ c.fp ∨ a ∉ G.fps cs := fun a ha => (k a ha).imp (hhf a) fun z y => z (by simp only [G.fp, List.mem_cons]; exact .inr y)
        obtain ⟨j1, j2⟩ := G.fps_set nd hc i1 fun a ha => by
          rcases i2 a ha with z | z
          · exact .inl z.1
          · exact h'f a z
        refine ⟨⟨fun z => ?_, j1⟩, fun a ha => ?_⟩
        · rcases j2 b z with y | y
          · exact nb y.1
          · rcases i2 b y with x | x
            · exact nb (hcf b x.1)
            · rcases k b x with w | w
              · exact nb (hcf b (hhf b w))
              · exact w (by simp [G.fp])
        · simp only [List.mem_cons] at ha ⊢
          rcases ha with rfl | ha
          · exact .inl ⟨.inl rfl, fun z => absurd (hcf _ (hhf _ z)) nb⟩
          · rcases j2 a ha with y | y
            · exact .inl ⟨.inr y.1, fun z => by
                rcases i2 a (y.2 (hhf a z)) with x | x
                · exact x.2 z
                · exact x⟩
            · rcases i2 a y with x | x
              · exact .inl ⟨.inr (hcf a x.1), x.2⟩
              · exact .inr x

/-- nodes stay where they are -/
def NodePres (h h' : G) : Prop := ∀ (r : List Nat) (a : Addr) (cs : List G), h.at r = some (.nd a cs) → ∃ cs', h'.at r = some (.nd a cs')
theorem G.at_append {g : G} {p q : List Nat} : g.at (p ++ q) = (g.at p).bind fun h => h.at q := by
  induction p generalizing g with
  | nil => simp [G.at]
  | cons i p ih =>
    simp only [List.cons_append, G.at]
    cases g.kids[i]? with
    | none => rfl
    | some c => exact ih
theorem G.put_at {p : List Nat} : ∀ {g h h' : G} {q : List Nat} {a : Addr} {cs : List G}, g.at p = some h → h'.val = h.val → (∀ r, q = p ++ r → ∃ cs', h'.at r = some (.nd a cs')) → g.at q = some (.nd a cs) → ∃ cs', (g.put p h').at q = some (.nd a cs') := by
  induction p with
  | nil =>
    intro g h h' q a cs e ev np hq
    simp only [G.put]
    exact np q rfl
  | cons i p ih =>
    intro g h h' q a cs e ev np hq
    cases g with
    | lf v => simp [G.at, G.kids] at e
    | nd b ds =>
      simp only [G.at, G.kids] at e
      cases hc : ds[i]? with
      | none => rw [hc] at e; cases e
      | some c =>
        rw [hc] at e
        simp only [G.put, hc]
        cases q with
        | nil =>
          simp only [G.at, Option.some.injEq, G.nd.injEq] at hq
          obtain ⟨rfl, rfl⟩ := hq
          exact ⟨_, rfl⟩
        | cons j q =>
          simp only [G.at, G.kids] at hq ⊢
          have hlt : i < ds.length := (List.getElem?_eq_some_iff.mp hc).1
          by_cases hj : i = j
          · subst hj
            rw [hc] at hq
            simp only [List.getElem?_set_self hlt]
            exact ih e ev (fun r er => np r (by rw [er]; rfl)) hq
          · rw [List.getElem?_set_ne hj]
            cases hd : ds[j]? with
            | none => rw [hd] at hq; cases hq
            | some d => rw [hd] at hq; exact ⟨cs, hq⟩
theorem G.put_val {g h h' : G} {p : List Nat} (e : g.at p = some h) (ev : h'.val = h.val) : (g.put p h').val = g.val := by
  cases p with
  | nil => simp only [G.at, Option.some.injEq] at e; subst e; exact ev
  | cons i p =>
    cases g with
    | lf v => rfl
    | nd a cs =>
      simp only [G.put]
      cases cs[i]? <;> rfl

/-- the tree at a place is another one -/
theorem OwnG.put {H H' : Hp} {fz fz' : Addr → Prop} (k : Keep H H' fz) (s : ∀ a, fz a → fz' a) {p : List Nat} : ∀ {g h h' : G} {t u u' : Tr}, OwnG H fz g t → g.fp.Nodup → g.at p = some h → t.at p = some u → OwnG H' fz' h' u' → h'.val = h.val →
    (∀ a ∈ g.fp, a ∉ h.fp → ∀ o, H a = some o → H' a = some o) → OwnG H' fz' (g.put p h') (t.put p u') := by
  induction p with
  | nil =>
    intro g h h' t u u' o nd e1 e2 o' ev kf
    simpa only [G.put, Tr.put] using o'
  | cons i p ih =>
    intro g h h' t u u' o nd e1 e2 o' ev kf
    cases o with
    | fr d => simp [G.at, G.kids] at e1
    | @nd a cs ts sh e ok hl ch nt =>
      simp only [G.at, G.kids] at e1
      simp only [Tr.at, Tr.kids] at e2
      cases hc : cs[i]? with
      | none => rw [hc] at e1; cases e1
      | some c =>
        rw [hc] at e1
        cases ht : ts[i]? with
        | none => rw [ht] at e2; cases e2
        | some t1 =>
          rw [ht] at e2
          simp only [G.put, Tr.put, hc, ht]
          simp only [G.fp, List.nodup_cons] at nd
          have hlt : i < cs.length := (List.getElem?_eq_some_iff.mp hc).1
          have hltt : i < ts.length := (List.getElem?_eq_some_iff.mp ht).1
          have hcf : ∀ b ∈ c.fp, b ∈ G.fps cs := fun b hb => G.mem_fps.mpr ⟨c, List.mem_of_getElem? hc, hb⟩
          have na : a ∉ h.fp := fun z => nd.1 (hcf a (G.at_fp e1 a z))
          obtain ⟨nc, nc2⟩ := G.fps_get nd.2 hc
          have vals : (cs.set i (c.put p h')).map G.val = cs.map G.val := by
            rw [List.map_set, G.put_val e1 ev]
            refine List.ext_getElem? fun j => ?_
            by_cases hj : i = j
            · subst hj
              rw [List.getElem?_set_self (by simpa using hlt), List.getElem?_map, hc]
              rfl
            · rw [List.getElem?_set_ne hj]
          refine .nd sh ?_ (by simpa using ok) (by simp [hl]) (fun j d w hd hw => ?_) nt
          · rw [vals]; exact kf a (by simp [G.fp]) na _ e
          · by_cases hj : i = j
            · subst hj
              rw [List.getElem?_set_self hlt] at hd
              rw [List.getElem?_set_self hltt] at hw
              cases hd; cases hw
              exact ih (ch i c t1 hc ht) nc e1 e2 o' ev fun b hb hb2 oo => kf b (by simp only [G.fp, List.mem_cons]; exact .inr (hcf b hb)) hb2 oo
            · rw [List.getElem?_set_ne hj] at hd hw
              refine (ch j d w hd hw).mono k s fun b hb oo => kf b ?_ ?_ oo
              · simp only [G.fp, List.mem_cons]; exact .inr (G.mem_fps.mpr ⟨d, List.mem_of_getElem? hd, hb⟩)
              · exact fun z => nc2 j d (fun q => hj q.symm) hd b hb (G.at_fp e1 b z)
end MP
set_option maxHeartbeats 1000000
set_option autoImplicit false
/-! mini: the entries and the heap -/
namespace MP
open PySem PySem.Spec PyProof.Rows L2

/-- what a def's body starts from: n: slots that may own; H0: the heap at its entry; S0: what was handed in to be changed; F0: what was frozen -/
structure Fx where
  n : Nat
  H0 : Hp
  S0 : List Addr
  F0 : Addr → Prop

def AlOk (H : Hp) (fz : Addr → Prop) (es : Ev) (gs : List G) (s : Nat) (p : List Nat) (v : V) : Prop := match es[s]? with
  | some (.own _) => ∃ g a cs, gs[s]? = some g ∧ g.at p = some (.nd a cs) ∧ v = .ref a
  | some (.fd d) => ∃ e, Dt.at d p = some e ∧ IsD H fz v e
  | _ => False
def EntOk (H : Hp) (fz : Addr → Prop) (es : Ev) (gs : List G) (vs : List (Option V)) (i : Nat) : En → Prop
  | .un => gs[i]? = some (.lf .non)
  | .fr d => gs[i]? = some (.lf .non) ∧ ∃ v, vs[i]? = some (some v) ∧ IsD H fz v d
  | .fd d => gs[i]? = some (.lf .non) ∧ ∃ v, vs[i]? = some (some v) ∧ IsD H fz v d
  | .own t => ∃ g, gs[i]? = some g ∧ vs[i]? = some (some g.val) ∧ OwnG H fz g t
  | .al s p => gs[i]? = some (.lf .non) ∧ ∃ v, vs[i]? = some (some v) ∧ AlOk H fz es gs s p v

/-- not there, or a tuple: what may be frozen behind an entry -/
def Nw (H : Hp) (a : Addr) : Prop := H a = none ∨ ∃ vs, H a = some (.tup vs)
structure Rel (Φ : Fx) (vs : List (Option V)) (es : Ev) (H : Hp) (fz : Addr → Prop) (gs : List G) : Prop where
  lenv : vs.length = es.length
  leng : gs.length = es.length
  big : Φ.n ≤ es.length
  als : ∀ (i s : Nat) (p : List Nat), es[i]? = some (En.al s p) → s < Φ.n
  ent : ∀ (i : Nat) (e : En), es[i]? = some e → EntOk H fz es gs vs i e
  nod : (G.fps gs).Nodup
  nfz : ∀ a ∈ G.fps gs, ¬ fz a
  tr : ∀ a, fz a → H a ≠ none
  frm : ∀ a o, Φ.H0 a = some o → a ∉ Φ.S0 → H a = some o ∧ a ∉ G.fps gs
  fzi : ∀ a, fz a → Φ.F0 a ∨ a ∈ Φ.S0 ∨ Nw Φ.H0 a
  fzo : ∀ a, Φ.F0 a → fz a
def RelX (Φ : Fx) (vs : List (Option V)) (es : Ev) (H : Hp) : Prop := ∃ fz gs, Rel Φ vs es H fz gs

section
variable {Φ : Fx} {vs ws : List (Option V)} {es xs : Ev} {H H' : Hp} {fz : Addr → Prop} {gs : List G}

theorem Rel.at_g (R : Rel Φ vs es H fz gs) {i : Nat} {e : En} (h : es[i]? = some e) : ∃ g, gs[i]? = some g := by
  have hi : i < gs.length := by rw [R.leng]; exact (List.getElem?_eq_some_iff.mp h).1
  exact ⟨gs[i], by simp [hi]⟩
theorem Rel.own_in (R : Rel Φ vs es H fz gs) {g : G} {i : Nat} (h : gs[i]? = some g) : ∀ a ∈ g.fp, a ∈ G.fps gs := fun a ha => G.mem_fps.mpr ⟨g, List.mem_of_getElem? h, ha⟩

/-- a node: the value of an entry, and how its tree stands -/
theorem Rel.look (R : Rel Φ vs es H fz gs) {i : Nat} {e : En} {t : Tr} (h : es[i]? = some e) (hr : res es e = some t) : ∃ g, vs[i]? = some (some g.val) ∧ OwnG H fz g t ∧ (∀ a ∈ g.fp, a ∈ G.fps gs) := by
  have E := R.ent i e h
  cases e with
  | un => cases hr
  | fr d =>
    obtain ⟨_, v, hv, hd⟩ := E
    simp only [res, Option.some.injEq] at hr
    subst hr
    exact ⟨.lf v, hv, .fr hd, fun a ha => by simp [G.fp] at ha⟩
  | fd d =>
    obtain ⟨_, v, hv, hd⟩ := E
    simp only [res, Option.some.injEq] at hr
    subst hr
    exact ⟨.lf v, hv, .fr hd, fun a ha => by simp [G.fp] at ha⟩
  | own t' =>
    obtain ⟨g, hg, hv, ho⟩ := E
    simp only [res, Option.some.injEq] at hr
    subst hr
    exact ⟨g, hv, ho, R.own_in hg⟩
  | al s p =>
    obtain ⟨_, v, hv, ha⟩ := E
    unfold AlOk at ha
    simp only [res] at hr
    cases hs : es[s]? with
    | none => rw [hs] at ha; exact ha.elim
    | some x =>
      rw [hs] at ha hr
      cases x with
      | own t' =>
        obtain ⟨g, a, cs, hg, hp, rfl⟩ := ha
        obtain ⟨g', hg', _, ho⟩ := R.ent s _ hs
        rw [hg] at hg'; cases hg'
        obtain ⟨u, hu, ou⟩ := ho.at hp
        have hr' : t'.at p = some t := hr
        rw [hr'] at hu; cases hu
        exact ⟨G.nd a cs, hv, ou, fun b hb => R.own_in hg b (G.at_fp hp b hb)⟩
      | fd d =>
        obtain ⟨e, he, hi⟩ := ha
        simp only [he, Option.map_some, Option.some.injEq] at hr
        subst hr
        exact ⟨.lf v, hv, .fr hi, fun a ha => by simp [G.fp] at ha⟩
      | un => exact ha.elim
      | fr d => exact ha.elim
      | al s' p' => exact ha.elim
/-- what it is as data, to be read now -/
theorem Rel.read (R : Rel Φ vs es H fz gs) {i : Nat} {e : En} {d : Dt} (h : es[i]? = some e) (hr : peek es e = some d) : ∃ v, vs[i]? = some (some v) ∧ IsD H (fun a => fz a ∨ a ∈ G.fps gs) v d := by
  unfold peek at hr
  obtain ⟨t, ht, rfl⟩ := Option.map_eq_some_iff.mp hr
  obtain ⟨g, hv, ho, hf⟩ := R.look h ht
  exact ⟨_, hv, ho.freeze (fun a ha => .inl ha) fun a ha => .inr (hf a ha)⟩

theorem res_app {es l : Ev} {n : Nat} {x : En} (hn : n ≤ es.length) (hx : ∀ s p, x = En.al s p → s < n) : res (es ++ l) x = res es x := by
  cases x with
  | al s p =>
    have := hx s p rfl
    simp only [res]
    rw [List.getElem?_append_left (by omega)]
  | _ => rfl
theorem peek_app {es l : Ev} {n : Nat} {x : En} (hn : n ≤ es.length) (hx : ∀ s p, x = En.al s p → s < n) : peek (es ++ l) x = peek es x := by
  unfold peek; rw [res_app hn hx]

/-- what is owned is no tuple -/
theorem OwnG.noTup {g : G} {t : Tr} (h : OwnG H fz g t) : ∀ a ∈ g.fp, ∀ ws, H a ≠ some (.tup ws) := by
  induction h with
  | fr h => intro a ha; simp [G.fp] at ha
  | @nd a cs ts sh e ok hl _ nt ih =>
    intro b hb ws
    simp only [G.fp, List.mem_cons] at hb
    rcases hb with rfl | hb
    · rw [e]
      cases sh with
      | tp => exact absurd rfl nt
      | ls => intro z; cases z
      | dk ks => intro z; cases z
      | dt ks => intro z; cases z
    · obtain ⟨c, hc, hb⟩ := G.mem_fps.mp hb
      obtain ⟨i, hi⟩ := List.getElem?_of_mem hc
      have hlt : i < ts.length := by rw [← hl]; exact (List.getElem?_eq_some_iff.mp hi).1
      exact ih i c ts[i] hi (by simp [hlt]) b hb ws
theorem Rel.noTup (R : Rel Φ vs es H fz gs) {p : Addr} {ws : List V} (hp : H p = some (.tup ws)) : p ∉ G.fps gs := fun z => by
  obtain ⟨g, hg, ha⟩ := G.mem_fps.mp z
  obtain ⟨i, hi⟩ := List.getElem?_of_mem hg
  have hie : i < es.length := by rw [← R.leng]; exact (List.getElem?_eq_some_iff.mp hi).1
  have E := R.ent i _ (List.getElem?_eq_getElem hie)
  generalize es[i] = e at E
  cases e with
  | own t =>
    obtain ⟨g', hg', _, ho⟩ := E
    rw [hi] at hg'; cases hg'
    exact ho.noTup p ha ws hp
  | un => rw [show gs[i]? = some (.lf .non) from E] at hi; cases hi; simp [G.fp] at ha
  | fr d => rw [E.1] at hi; cases hi; simp [G.fp] at ha
  | fd d => rw [E.1] at hi; cases hi; simp [G.fp] at ha
  | al s q => rw [E.1] at hi; cases hi; simp [G.fp] at ha
/-- what is owned is tracked -/
theorem Rel.noFp (R : Rel Φ vs es H fz gs) {p : Addr} (hp : H p = none) : p ∉ G.fps gs := fun z => by
  obtain ⟨c, hc, hca⟩ := G.mem_fps.mp z
  obtain ⟨i, hi⟩ := List.getElem?_of_mem hc
  have hlt : i < es.length := by rw [← R.leng]; exact (List.getElem?_eq_some_iff.mp hi).1
  have he : es[i]? = some es[i] := by simp [hlt]
  have E := R.ent i _ he
  have nolf : gs[i]? ≠ some (.lf .non) := fun q => by rw [hi] at q; cases q; simp [G.fp] at hca
  cases hx : es[i] with
  | own t =>
    rw [hx] at E
    obtain ⟨g', hg', _, ho⟩ := E
    rw [hi] at hg'; cases hg'
    obtain ⟨o, ho⟩ := ho.tracked p hca
    rw [hp] at ho; cases ho
  | un => rw [hx] at E; exact nolf E
  | fr d => rw [hx] at E; exact nolf E.1
  | fd d => rw [hx] at E; exact nolf E.1
  | al s q => rw [hx] at E; exact nolf E.1

/-! ### the heap grows -/
def Hext (H H' : Hp) : Prop := ∀ a o, H a = some o → H' a = some o
theorem Hext.refl : Hext H H := fun _ _ h => h
theorem Hext.trans {H'' : Hp} (a : Hext H H') (b : Hext H' H'') : Hext H H'' := fun c o h => b c o (a c o h)
theorem Hext.new {p : Addr} {o : HO} (h : H p = none) : Hext H (upd H p o) := fun a u q => by rw [upd_ne (ne_of_none q h)]; exact q
theorem Hext.keep (x : Hext H H') : Keep H H' fz := fun a o _ h => x a o h
theorem AlOk.mono {fz' : Addr → Prop} (k : Keep H H' fz) (s : ∀ a, fz a → fz' a) {j : Nat} {p : List Nat} {v : V} (h : AlOk H fz es gs j p v) : AlOk H' fz' es gs j p v := by
  unfold AlOk at h ⊢
  cases hs : es[j]? with
  | none => rw [hs] at h; exact h
  | some x =>
    rw [hs] at h
    cases x with
    | fd d => obtain ⟨e, he, hi⟩ := h; exact ⟨e, he, hi.mono k s⟩
    | own t => exact h
    | un => exact h
    | fr d => exact h
    | al a b => exact h
theorem EntOk.mono {fz' : Addr → Prop} (k : Keep H H' fz) (s : ∀ a, fz a → fz' a) (kf : ∀ a ∈ G.fps gs, ∀ o, H a = some o → H' a = some o) {i : Nat} {e : En} (h : EntOk H fz es gs vs i e) : EntOk H' fz' es gs vs i e := by
  cases e with
  | un => exact h
  | fr d => obtain ⟨a, v, b, c⟩ := h; exact ⟨a, v, b, c.mono k s⟩
  | fd d => obtain ⟨a, v, b, c⟩ := h; exact ⟨a, v, b, c.mono k s⟩
  | own t => obtain ⟨g, a, b, c⟩ := h; exact ⟨g, a, b, c.mono k s fun x hx => kf x (G.mem_fps.mpr ⟨g, List.mem_of_getElem? a, hx⟩)⟩
  | al j p => obtain ⟨a, v, b, c⟩ := h; exact ⟨a, v, b, c.mono k s⟩
theorem Rel.ext (R : Rel Φ vs es H fz gs) (x : Hext H H') : Rel Φ vs es H' fz gs :=
  { R with
    ent := fun i e h => (R.ent i e h).mono x.keep (fun _ z => z) fun a _ o h => x a o h
    tr := fun a ha z => by
      cases q : H a with
      | none => exact R.tr a ha q
      | some o => rw [x a o q] at z; cases z
    frm := fun a o h hs => ⟨x a o (R.frm a o h hs).1, (R.frm a o h hs).2⟩ }
/-- what is new and will never be changed -/
def New (H H' : Hp) (a : Addr) : Prop := H a = none ∧ H' a ≠ none
theorem Rel.extF (R : Rel Φ vs es H fz gs) (x : Hext H H') : Rel Φ vs es H' (fun a => fz a ∨ New H H' a) gs :=
  { R.ext x with
    ent := fun i e h => (R.ent i e h).mono x.keep (fun _ z => .inl z) fun a _ o h => x a o h
    nfz := fun a ha z => by
      rcases z with z | z
      · exact R.nfz a ha z
      · exact R.noFp z.1 ha
    tr := fun a ha => by
      rcases ha with ha | ha
      · exact (R.ext x).tr a ha
      · exact ha.2
    fzi := fun a ha => by
      rcases ha with ha | ha
      · exact R.fzi a ha
      · by_cases hs : a ∈ Φ.S0
        · exact .inr (.inl hs)
        · refine .inr (.inr (.inl ?_))
          cases q : Φ.H0 a with
          | none => rfl
          | some o =>
            have := (R.frm a o q hs).1
            rw [ha.1] at this; cases this
    fzo := fun a ha => .inl (R.fzo a ha) }

/-! ### entries at the end -/
theorem AlOk.app {l : Ev} {gl : List G} {s : Nat} {p : List Nat} {v : V} (hs : s < es.length) (hg : gs.length = es.length) (h : AlOk H fz es gs s p v) : AlOk H fz (es ++ l) (gs ++ gl) s p v := by
  unfold AlOk at h ⊢
  rw [List.getElem?_append_left hs, List.getElem?_append_left (by omega)]
  exact h
theorem AlOk.unapp {l : Ev} {gl : List G} {s : Nat} {p : List Nat} {v : V} (hs : s < es.length) (hg : gs.length = es.length) (h : AlOk H fz (es ++ l) (gs ++ gl) s p v) : AlOk H fz es gs s p v := by
  unfold AlOk at h ⊢
  rw [List.getElem?_append_left hs, List.getElem?_append_left (by omega)] at h
  exact h
theorem EntOk.app {l : Ev} {gl : List G} {wl : List (Option V)} {i : Nat} {e : En} (n : Nat) (hn : n ≤ es.length) (ha : ∀ s p, e = En.al s p → s < n) (hi : i < es.length) (hg : gs.length = es.length) (hv : vs.length = es.length) (h : EntOk H fz es gs vs i e) : EntOk H fz (es ++ l) (gs ++ gl) (vs ++ wl) i e := by
  have eg : (gs ++ gl)[i]? = gs[i]? := List.getElem?_append_left (by omega)
  have ev : (vs ++ wl)[i]? = vs[i]? := List.getElem?_append_left (by omega)
  cases e with
  | un => exact eg.trans h
  | fr d => obtain ⟨a, v, b, c⟩ := h; exact ⟨eg.trans a, v, ev.trans b, c⟩
  | fd d => obtain ⟨a, v, b, c⟩ := h; exact ⟨eg.trans a, v, ev.trans b, c⟩
  | own t => obtain ⟨g, a, b, c⟩ := h; exact ⟨g, eg.trans a, ev.trans b, c⟩
  | al s p => obtain ⟨a, v, b, c⟩ := h; exact ⟨eg.trans a, v, ev.trans b, c.app (Nat.lt_of_lt_of_le (ha s p rfl) hn) hg⟩
theorem EntOk.unapp {l : Ev} {gl : List G} {wl : List (Option V)} {i : Nat} {e : En} (n : Nat) (hn : n ≤ es.length) (ha : ∀ s p, e = En.al s p → s < n) (hi : i < es.length) (hg : gs.length = es.length) (hv : vs.length = es.length) (h : EntOk H fz (es ++ l) (gs ++ gl) (vs ++ wl) i e) : EntOk H fz es gs vs i e := by
  have eg : (gs ++ gl)[i]? = gs[i]? := List.getElem?_append_left (by omega)
  have ev : (vs ++ wl)[i]? = vs[i]? := List.getElem?_append_left (by omega)
  cases e with
  | un => exact eg.symm.trans h
  | fr d => obtain ⟨a, v, b, c⟩ := h; exact ⟨eg.symm.trans a, v, ev.symm.trans b, c⟩
  | fd d => obtain ⟨a, v, b, c⟩ := h; exact ⟨eg.symm.trans a, v, ev.symm.trans b, c⟩
  | own t => obtain ⟨g, a, b, c⟩ := h; exact ⟨g, eg.symm.trans a, ev.symm.trans b, c⟩
  | al s p => obtain ⟨a, v, b, c⟩ := h; exact ⟨eg.symm.trans a, v, ev.symm.trans b, c.unapp (Nat.lt_of_lt_of_le (ha s p rfl) hn) hg⟩

/-- the last entries dropped -/
theorem Rel.drop (R : Rel Φ (vs ++ ws) (es ++ xs) H fz gs) (hl : vs.length = es.length) (hn : Φ.n ≤ es.length) : Rel Φ vs es H fz (gs.take es.length) := by
  have hgl : (gs.take es.length).length = es.length := by
    have := R.leng
    simp only [List.length_append] at this
    rw [List.length_take]; omega
  have eg : gs = gs.take es.length ++ gs.drop es.length := (List.take_append_drop _ _).symm
  have sub : ∀ a, a ∈ G.fps (gs.take es.length) → a ∈ G.fps gs := fun a ha => by
    obtain ⟨c, hc, hca⟩ := G.mem_fps.mp ha
    exact G.mem_fps.mpr ⟨c, List.mem_of_mem_take hc, hca⟩
  refine ⟨hl, hgl, hn, fun i s p h => R.als i s p ?_, fun i e h => ?_, ?_, fun a ha => R.nfz a (sub a ha), R.tr, fun a o h hs => ⟨(R.frm a o h hs).1, fun z => (R.frm a o h hs).2 (sub a z)⟩, R.fzi, R.fzo⟩
  · rw [List.getElem?_append_left (List.getElem?_eq_some_iff.mp h).1]; exact h
  · have hi := (List.getElem?_eq_some_iff.mp h).1
    have h' : (es ++ xs)[i]? = some e := by rw [List.getElem?_append_left hi]; exact h
    have E := R.ent i e h'
    rw [eg] at E
    exact E.unapp Φ.n hn (fun s p q => R.als i s p (by rw [h', q])) hi hgl hl
  · have := R.nod
    rw [eg, G.fps_append] at this
    exact (List.nodup_append.mp this).1
theorem RelX.drop (R : RelX Φ (vs ++ ws) (es ++ xs) H) (hl : vs.length = es.length) (hn : Φ.n ≤ es.length) : RelX Φ vs es H := let ⟨_, _, r⟩ := R; ⟨_, _, r.drop hl hn⟩

/-- entries that own nothing, at the end -/
theorem Rel.pushF (R : Rel Φ vs es H fz gs) {v : V} {d : Dt} (h : IsD H fz v d) : Rel Φ (vs ++ [some v]) (es ++ [.fr d]) H fz (gs ++ [.lf .non]) := by
  refine ⟨by simp [R.lenv], by simp [R.leng], by have := R.big; simp; omega, fun i s p q => ?_, fun i e q => ?_, ?_, ?_, R.tr, ?_, R.fzi, R.fzo⟩
  · by_cases hi : i < es.length
    · rw [List.getElem?_append_left hi] at q; exact R.als i s p q
    · rw [List.getElem?_append_right (by omega)] at q
      cases hj : i - es.length with
      | zero => rw [hj] at q; cases q
      | succ j => rw [hj] at q; simp at q
  · by_cases hi : i < es.length
    · rw [List.getElem?_append_left hi] at q
      exact (R.ent i e q).app Φ.n R.big (fun s p z => R.als i s p (by rw [q, z])) hi R.leng R.lenv
    · rw [List.getElem?_append_right (by omega)] at q
      cases hj : i - es.length with
      | zero =>
        rw [hj] at q
        simp only [List.getElem?_cons_zero, Option.some.injEq] at q
        subst q
        have : i = es.length := by omega
        subst this
        refine ⟨?_, v, ?_, h⟩
        · rw [List.getElem?_append_right (by rw [R.leng]; exact Nat.le_refl _), R.leng]; simp
        · rw [List.getElem?_append_right (by rw [R.lenv]; exact Nat.le_refl _), R.lenv]; simp
      | succ j => rw [hj] at q; simp at q
  · rw [G.fps_append]; simpa [G.fps, G.fp] using R.nod
  · intro a ha; rw [G.fps_append] at ha; simp [G.fps, G.fp] at ha; exact R.nfz a ha
  · intro a o h hs; rw [G.fps_append]; simp [G.fps, G.fp]; exact R.frm a o h hs
theorem Rel.pushD (R : Rel Φ vs es H fz gs) (x : Hext H H') {v : V} {d : Dt} (h : IsD H' (fun a => fz a ∨ New H H' a) v d) : RelX Φ (vs ++ [some v]) (es ++ [.fr d]) H' := ⟨_, _, (R.extF x).pushF h⟩
/-- an alias at the end -/
theorem Rel.pushA (R : Rel Φ vs es H fz gs) {v : V} {s : Nat} {p : List Nat} (hs : s < Φ.n) (h : AlOk H fz es gs s p v) : Rel Φ (vs ++ [some v]) (es ++ [.al s p]) H fz (gs ++ [.lf .non]) := by
  refine ⟨by simp [R.lenv], by simp [R.leng], by have := R.big; simp; omega, fun i s' p' q => ?_, fun i e q => ?_, ?_, ?_, R.tr, ?_, R.fzi, R.fzo⟩
  · by_cases hi : i < es.length
    · rw [List.getElem?_append_left hi] at q; exact R.als i s' p' q
    · rw [List.getElem?_append_right (by omega)] at q
      cases hj : i - es.length with
      | zero => rw [hj] at q; simp at q; omega
      | succ j => rw [hj] at q; simp at q
  · by_cases hi : i < es.length
    · rw [List.getElem?_append_left hi] at q
      exact (R.ent i e q).app Φ.n R.big (fun s p z => R.als i s p (by rw [q, z])) hi R.leng R.lenv
    · rw [List.getElem?_append_right (by omega)] at q
      cases hj : i - es.length with
      | zero =>
        rw [hj] at q
        simp only [List.getElem?_cons_zero, Option.some.injEq] at q
        subst q
        have : i = es.length := by omega
        subst this
        refine ⟨?_, v, ?_, h.app (Nat.lt_of_lt_of_le hs R.big) R.leng⟩
        · rw [List.getElem?_append_right (by rw [R.leng]; exact Nat.le_refl _), R.leng]; simp
        · rw [List.getElem?_append_right (by rw [R.lenv]; exact Nat.le_refl _), R.lenv]; simp
      | succ j => rw [hj] at q; simp at q
  · rw [G.fps_append]; simpa [G.fps, G.fp] using R.nod
  · intro a ha; rw [G.fps_append] at ha; simp [G.fps, G.fp] at ha; exact R.nfz a ha
  · intro a o h hs; rw [G.fps_append]; simp [G.fps, G.fp]; exact R.frm a o h hs
/-- what is owned, at the end -/
theorem Rel.pushO (R : Rel Φ vs es H fz gs) {g : G} {t : Tr} (h : OwnG H fz g t) (nd : g.fp.Nodup) (ng : ∀ a ∈ g.fp, a ∉ G.fps gs) (nf : ∀ a ∈ g.fp, ¬ fz a) (n0 : ∀ a ∈ g.fp, ∀ o, Φ.H0 a = some o → a ∈ Φ.S0) :
    Rel Φ (vs ++ [some g.val]) (es ++ [.own t]) H fz (gs ++ [g]) := by
  refine ⟨by simp [R.lenv], by simp [R.leng], by have := R.big; simp; omega, fun i s' p' q => ?_, fun i e q => ?_, ?_, ?_, R.tr, ?_, R.fzi, R.fzo⟩
  · by_cases hi : i < es.length
    · rw [List.getElem?_append_left hi] at q; exact R.als i s' p' q
    · rw [List.getElem?_append_right (by omega)] at q
      cases hj : i - es.length with
      | zero => rw [hj] at q; cases q
      | succ j => rw [hj] at q; simp at q
  · by_cases hi : i < es.length
    · rw [List.getElem?_append_left hi] at q
      exact (R.ent i e q).app Φ.n R.big (fun s p z => R.als i s p (by rw [q, z])) hi R.leng R.lenv
    · rw [List.getElem?_append_right (by omega)] at q
      cases hj : i - es.length with
      | zero =>
        rw [hj] at q
        simp only [List.getElem?_cons_zero, Option.some.injEq] at q
        subst q
        have : i = es.length := by omega
        subst this
        refine ⟨g, ?_, ?_, h⟩
        · rw [List.getElem?_append_right (by rw [R.leng]; exact Nat.le_refl _), R.leng]; simp
        · rw [List.getElem?_append_right (by rw [R.lenv]; exact Nat.le_refl _), R.lenv]; simp
      | succ j => rw [hj] at q; simp at q
  · rw [G.fps_append, List.nodup_append]
    refine ⟨R.nod, by simpa [G.fps] using nd, fun a ha b hb e => ?_⟩
    subst e
    exact ng a (by simpa [G.fps] using hb) ha
  · intro a ha; rw [G.fps_append] at ha
    simp only [G.fps, List.append_nil, List.mem_append] at ha
    exact ha.elim (R.nfz a) (nf a)
  · intro a o q hs; rw [G.fps_append]
    simp only [G.fps, List.append_nil, List.mem_append]
    exact ⟨(R.frm a o q hs).1, fun z => z.elim (R.frm a o q hs).2 fun y => hs (n0 a y o q)⟩

/-! ### an entry is another one -/
/-- an entry that nobody sees through, owning nothing -/
theorem Rel.setF (R : Rel Φ vs es H fz gs) {i : Nat} {e : En} {v : V} {d : Dt} (h : es[i]? = some e) (hv : vs[i]? = some (some v)) (hd : IsD H fz v d) (ho : ∀ t, e ≠ .own t) (hf : i < Φ.n → ∀ c, e ≠ .fd c) : Rel Φ vs (es.set i (.fr d)) H fz gs := by
  have hi := (List.getElem?_eq_some_iff.mp h).1
  have hlf : gs[i]? = some (.lf .non) := by
    have E := R.ent i e h
    cases e with
    | un => exact E
    | fr d => exact E.1
    | fd d => exact E.1
    | own t => exact absurd rfl (ho t)
    | al s p => exact E.1
  refine ⟨by simpa using R.lenv, by simpa using R.leng, by simpa using R.big, fun j s p q => ?_, fun j x q => ?_, R.nod, R.nfz, R.tr, R.frm, R.fzi, R.fzo⟩
  · by_cases hj : i = j
    · subst hj; rw [List.getElem?_set_self hi] at q; cases q
    · rw [List.getElem?_set_ne hj] at q; exact R.als j s p q
  · by_cases hj : i = j
    · subst hj
      rw [List.getElem?_set_self hi] at q
      cases q
      exact ⟨hlf, v, hv, hd⟩
    · rw [List.getElem?_set_ne hj] at q
      have E := R.ent j x q
      cases x with
      | un => exact E
      | fr d => exact E
      | fd d => exact E
      | own t => exact E
      | al s p =>
        obtain ⟨a, w, b, c⟩ := E
        refine ⟨a, w, b, ?_⟩
        unfold AlOk at c ⊢
        by_cases hs : i = s
        · subst hs
          rw [h] at c
          cases e with
          | own t => exact absurd rfl (ho t)
          | fd c' => exact absurd rfl (hf (R.als j i p q) c')
          | un => exact c.elim
          | fr d => exact c.elim
          | al s' p' => exact c.elim
        · rw [List.getElem?_set_ne hs]; exact c
/-- a root frozen in its place -/
theorem Rel.frzS (R : Rel Φ vs es H fz gs) {i : Nat} {t : Tr} (h : es[i]? = some (.own t)) : ∃ fz' gs', Rel Φ vs (es.set i (.fd t.data)) H fz' gs' ∧ (∀ a, fz a → fz' a) ∧ (∀ a, fz' a → fz a ∨ a ∈ G.fps gs) := by
  have hi := (List.getElem?_eq_some_iff.mp h).1
  obtain ⟨g, hg, hv, ho⟩ := R.ent i _ h
  have hig : i < gs.length := by rw [R.leng]; exact hi
  obtain ⟨n1, n2⟩ := G.fps_get R.nod hg
  have key : ∀ a ∈ G.fps (gs.set i (.lf .non)), a ∈ G.fps gs ∧ a ∉ g.fp := fun a ha => by
    obtain ⟨c, hc, hca⟩ := G.mem_fps.mp ha
    obtain ⟨j, hj⟩ := List.getElem?_of_mem hc
    by_cases hij : i = j
    · subst hij
      rw [List.getElem?_set_self hig] at hj
      cases hj
      simp [G.fp] at hca
    · rw [List.getElem?_set_ne hij] at hj
      exact ⟨R.own_in hj a hca, n2 j c (fun q => hij q.symm) hj a hca⟩
  refine ⟨fun a => fz a ∨ a ∈ g.fp, gs.set i (.lf .non), ?_, fun a ha => .inl ha, fun a ha => ha.imp id (R.own_in hg a)⟩
  have hfr : IsD H (fun a => fz a ∨ a ∈ g.fp) g.val t.data := ho.freeze (fun a ha => .inl ha) fun a ha => .inr ha
  refine ⟨by simpa using R.lenv, by simpa using R.leng, by simpa using R.big, fun j s p q => ?_, fun j x q => ?_, ?_, fun a ha z => ?_, fun a ha => ?_, fun a o q hs => ⟨(R.frm a o q hs).1, fun z => (R.frm a o q hs).2 (key a z).1⟩, fun a ha => ?_, fun a ha => .inl (R.fzo a ha)⟩
  · by_cases hj : i = j
    · subst hj; rw [List.getElem?_set_self hi] at q; cases q
    · rw [List.getElem?_set_ne hj] at q; exact R.als j s p q
  · by_cases hj : i = j
    · subst hj
      rw [List.getElem?_set_self hi] at q
      cases q
      exact ⟨List.getElem?_set_self hig, _, hv, hfr⟩
    · rw [List.getElem?_set_ne hj] at q
      have E := (R.ent j x q).mono (fz' := fun a => fz a ∨ a ∈ g.fp) Keep.refl (fun _ z => .inl z) fun _ _ _ z => z
      cases x with
      | un => show (gs.set i _)[j]? = _; rw [List.getElem?_set_ne hj]; exact E
      | fr d => obtain ⟨a, w, b, c⟩ := E; exact ⟨by rw [List.getElem?_set_ne hj]; exact a, w, b, c⟩
      | fd d => obtain ⟨a, w, b, c⟩ := E; exact ⟨by rw [List.getElem?_set_ne hj]; exact a, w, b, c⟩
      | own u => obtain ⟨g', a, b, c⟩ := E; exact ⟨g', by rw [List.getElem?_set_ne hj]; exact a, b, c⟩
      | al s p =>
        obtain ⟨a, w, b, c⟩ := E
        refine ⟨by rw [List.getElem?_set_ne hj]; exact a, w, b, ?_⟩
        unfold AlOk at c ⊢
        by_cases hs : i = s
        · subst hs
          rw [h] at c
          rw [List.getElem?_set_self hi]
          obtain ⟨g', ad, cs, hg', hp, rfl⟩ := c
          rw [hg] at hg'; cases hg'
          obtain ⟨u, hu, ou⟩ := ho.at hp
          refine ⟨u.data, ho.dat hu, ?_⟩
          exact ou.freeze (fun a ha => .inl ha) fun a ha => .inr (G.at_fp hp a ha)
        · rw [List.getElem?_set_ne hs, List.getElem?_set_ne hs]
          exact c
  · exact (G.fps_set R.nod hg (g' := .lf .non) (by simp [G.fp]) (by simp [G.fp])).1
  · rcases z with z | z
    · exact R.nfz a (key a ha).1 z
    · exact (key a ha).2 z
  · rcases ha with ha | ha
    · exact R.tr a ha
    · obtain ⟨o, q⟩ := ho.tracked a ha
      rw [q]; exact fun z => by cases z
  · rcases ha with ha | ha
    · exact R.fzi a ha
    · by_cases hs : a ∈ Φ.S0
      · exact .inr (.inl hs)
      · refine .inr (.inr (.inl ?_))
        cases q : Φ.H0 a with
        | none => rfl
        | some o => exact absurd (R.own_in hg a ha) (R.frm a o q hs).2
/-- tuples may be frozen at any time -/
theorem Rel.tupF (R : Rel Φ vs es H fz gs) {P : Addr → Prop} (hP : ∀ a, P a → ∃ ws, H a = some (.tup ws)) : Rel Φ vs es H (fun a => fz a ∨ P a) gs := by
  refine ⟨R.lenv, R.leng, R.big, R.als, fun i e hi => EntOk.mono Keep.refl (fun _ z => .inl z) (fun _ _ _ h => h) (R.ent i e hi), R.nod, fun a ha hf => ?_, fun a ha => ?_, R.frm, fun a ha => ?_, fun a ha => .inl (R.fzo a ha)⟩
  · rcases hf with h | h
    · exact R.nfz a ha h
    · obtain ⟨ws, e⟩ := hP a h
      exact R.noTup e ha
  · rcases ha with h | h
    · exact R.tr a h
    · obtain ⟨ws, e⟩ := hP a h
      rw [e]; exact fun z => by cases z
  · rcases ha with h | h
    · exact R.fzi a h
    · obtain ⟨ws, e⟩ := hP a h
      by_cases hs : a ∈ Φ.S0
      · exact .inr (.inl hs)
      · refine .inr (.inr ?_)
        cases q : Φ.H0 a with
        | none => exact .inl q
        | some o =>
          have := (R.frm a o q hs).1
          rw [e] at this
          cases this
          exact .inr ⟨ws, q⟩
end
end MP
set_option maxHeartbeats 1000000
set_option autoImplicit false
/-! mini: entries frozen, taken, put into places; nodes made and changed -/
namespace MP
open PySem PySem.Spec PyProof.Rows L2
section
variable {Φ : Fx} {vs ws : List (Option V)} {es xs env tl : Ev} {H H' : Hp} {fz : Addr → Prop} {gs : List G}

theorem set_app_left {α : Type} {l m : List α} {i : Nat} {x : α} (h : i < l.length) : (l ++ m).set i x = l.set i x ++ m := by
  rw [List.set_append, if_pos h]
theorem set_app_right {α : Type} {l m : List α} {j : Nat} {x : α} : (l ++ m).set (l.length + j) x = l ++ m.set j x := by
  rw [List.set_append, if_neg (by omega)]
  simp
theorem get_app_left {α : Type} {l m : List α} {i : Nat} (h : i < l.length) : (l ++ m)[i]? = l[i]? := List.getElem?_append_left h
theorem get_app_right {α : Type} {l m : List α} {j : Nat} : (l ++ m)[l.length + j]? = m[j]? := by
  rw [List.getElem?_append_right (by omega)]; simp

/-- an entry at the end frozen -/
theorem Rel.frz1 (R : Rel Φ vs (env ++ tl) H fz gs) (hn : Φ.n ≤ env.length) {j : Nat} {x : En} {d : Dt} {env' : Ev} (hj : tl[j]? = some x) (h : frz env x = some (env', d)) :
    env'.length = env.length ∧ ∃ fz' gs', Rel Φ vs (env' ++ tl.set j (.fr d)) H fz' gs' ∧ (∀ a, fz a → fz' a) := by
  have hx : (env ++ tl)[env.length + j]? = some x := by rw [get_app_right]; exact hj
  have E := R.ent _ _ hx
  cases x with
  | un => cases h
  | fr e =>
    simp only [frz, Option.some.injEq, Prod.mk.injEq] at h
    obtain ⟨rfl, rfl⟩ := h
    obtain ⟨_, v, hv, hd⟩ := E
    have := R.setF hx hv hd (fun _ z => by cases z) (fun _ _ z => by cases z)
    rw [set_app_right] at this
    exact ⟨rfl, _, _, this, fun _ z => z⟩
  | fd e =>
    simp only [frz, Option.some.injEq, Prod.mk.injEq] at h
    obtain ⟨rfl, rfl⟩ := h
    obtain ⟨_, v, hv, hd⟩ := E
    have := R.setF hx hv hd (fun _ z => by cases z) (fun z => absurd z (by omega))
    rw [set_app_right] at this
    exact ⟨rfl, _, _, this, fun _ z => z⟩
  | own t =>
    simp only [frz, Option.some.injEq, Prod.mk.injEq] at h
    obtain ⟨rfl, rfl⟩ := h
    obtain ⟨fz', gs', R', m, _⟩ := R.frzS hx
    rw [set_app_right] at R'
    have hlt : j < tl.length := (List.getElem?_eq_some_iff.mp hj).1
    have hx' : (env ++ tl.set j (.fd t.data))[env.length + j]? = some (.fd t.data) := by rw [get_app_right, List.getElem?_set_self hlt]
    obtain ⟨_, v, hv, hd⟩ := R'.ent _ _ hx'
    have := R'.setF hx' hv hd (fun _ z => by cases z) (fun z => absurd z (by omega))
    rw [set_app_right, List.set_set] at this
    exact ⟨rfl, _, _, this, m⟩
  | al s p =>
    have hsn := R.als _ s p hx
    have hse : s < env.length := by omega
    obtain ⟨_, v, hv, ha⟩ := E
    simp only [frz] at h
    unfold AlOk at ha
    rw [get_app_left hse] at ha
    cases hs : env[s]? with
    | none => rw [hs] at ha; exact ha.elim
    | some y =>
      rw [hs] at ha h
      cases y with
      | un => exact ha.elim
      | fr d => exact ha.elim
      | al a b => exact ha.elim
      | fd c =>
        obtain ⟨e, he, hi⟩ := ha
        simp only [he, Option.map_some, Option.some.injEq, Prod.mk.injEq] at h
        obtain ⟨rfl, rfl⟩ := h
        have := R.setF hx hv hi (fun _ z => by cases z) (fun z => absurd z (by omega))
        rw [set_app_right] at this
        exact ⟨rfl, _, _, this, fun _ z => z⟩
      | own t =>
        obtain ⟨g, ad, cs, hg, hp, rfl⟩ := ha
        have hs' : (env ++ tl)[s]? = some (.own t) := by rw [get_app_left hse]; exact hs
        obtain ⟨g', hg', hgv, ho⟩ := R.ent s _ hs'
        rw [hg] at hg'; cases hg'
        obtain ⟨u, hu, ou⟩ := ho.at hp
        have hu' : t.at p = some u := hu
        simp only [hu', Option.some.injEq, Prod.mk.injEq] at h
        obtain ⟨rfl, rfl⟩ := h
        obtain ⟨fz', gs', R', m, _⟩ := R.frzS hs'
        rw [set_app_left hse] at R'
        have hx' : (env.set s (.fd t.data) ++ tl)[env.length + j]? = some (.al s p) := by
          have := get_app_right (l := env.set s (.fd t.data)) (m := tl) (j := j)
          rw [List.length_set] at this
          rw [this]; exact hj
        obtain ⟨_, v, hv', ha'⟩ := R'.ent _ _ hx'
        unfold AlOk at ha'
        rw [get_app_left (by simpa using hse), List.getElem?_set_self hse] at ha'
        obtain ⟨e, he, hi⟩ := ha'
        rw [ho.dat hu'] at he
        cases he
        have := R'.setF hx' hv' hi (fun _ z => by cases z) (fun z => absurd z (by omega))
        have sr := set_app_right (l := env.set s (.fd t.data)) (m := tl) (j := j) (x := En.fr u.data)
        rw [List.length_set] at sr
        rw [sr] at this
        exact ⟨by simp, _, _, this, m⟩

theorem set_mid {α : Type} {S xs : List α} {x y : α} : (S ++ x :: xs).set S.length y = S ++ y :: xs := by
  have := set_app_right (l := S) (m := x :: xs) (j := 0) (x := y)
  simpa using this
/-- .. several -/
theorem Rel.frzs : ∀ {xs S : Ev} {env env' : Ev} {ds : List Dt} {fz : Addr → Prop} {gs : List G}, Rel Φ vs (env ++ (S ++ xs)) H fz gs → Φ.n ≤ env.length → frzL env xs = some (env', ds) →
    env'.length = env.length ∧ ∃ fz' gs', Rel Φ vs (env' ++ (S ++ ds.map .fr)) H fz' gs' ∧ (∀ a, fz a → fz' a)
  | [], S, env, env', ds, fz, gs, R, hn, h => by
    simp only [frzL, Option.some.injEq, Prod.mk.injEq] at h
    obtain ⟨rfl, rfl⟩ := h
    exact ⟨rfl, fz, gs, by simpa using R, fun _ z => z⟩
  | x :: xs, S, env, env', ds, fz, gs, R, hn, h => by
    simp only [frzL] at h
    cases hx : frz env x with
    | none => rw [hx] at h; cases h
    | some q =>
      obtain ⟨env1, d⟩ := q
      rw [hx] at h
      obtain ⟨q', hq', e⟩ := Option.map_eq_some_iff.mp h
      obtain ⟨env2, ds'⟩ := q'
      simp only [Prod.mk.injEq] at e
      obtain ⟨rfl, rfl⟩ := e
      obtain ⟨l1, fz1, gs1, R1, m1⟩ := R.frz1 hn (j := S.length) (by simp) hx
      rw [set_mid] at R1
      obtain ⟨l2, fz2, gs2, R2, m2⟩ := Rel.frzs (S := S ++ [.fr d]) (xs := xs) (by simpa using R1) (by omega) hq'
      exact ⟨by omega, fz2, gs2, by simpa using R2, fun a z => m2 a (m1 a z)⟩

/-- frozen data as what is owned -/
theorem Rel.frOwn (R : Rel Φ vs es H fz gs) {i : Nat} {d : Dt} (h : es[i]? = some (.fr d)) : ∃ gs', Rel Φ vs (es.set i (.own (.fr d))) H fz gs' := by
  have hi := (List.getElem?_eq_some_iff.mp h).1
  have hig : i < gs.length := by rw [R.leng]; exact hi
  obtain ⟨hlf, v, hv, hd⟩ := R.ent i _ h
  have k : G.fps (gs.set i (.lf v)) = G.fps gs := by
    clear R h
    induction gs generalizing i es vs with
    | nil => rfl
    | cons c gs ih =>
      cases i with
      | zero =>
        simp only [List.getElem?_cons_zero, Option.some.injEq] at hlf
        subst hlf
        rfl
      | succ i =>
        simp only [List.set_cons_succ, G.fps]
        have h2 : i < gs.length := by simpa using hig
        rw [ih (es := List.replicate (i + 1) .un) (vs := List.replicate i none ++ [some v]) (by simp) h2 (by simpa using hlf) (by simp)]
  refine ⟨gs.set i (.lf v), by simpa using R.lenv, by simpa using R.leng, by simpa using R.big, fun j s p q => ?_, fun j x q => ?_, by rw [k]; exact R.nod, by rw [k]; exact R.nfz, R.tr, by rw [k]; exact R.frm, R.fzi, R.fzo⟩
  · by_cases hj : i = j
    · subst hj; rw [List.getElem?_set_self hi] at q; cases q
    · rw [List.getElem?_set_ne hj] at q; exact R.als j s p q
  · by_cases hj : i = j
    · subst hj
      rw [List.getElem?_set_self hi] at q
      cases q
      exact ⟨.lf v, List.getElem?_set_self hig, hv, .fr hd⟩
    · rw [List.getElem?_set_ne hj] at q
      have E := R.ent j x q
      cases x with
      | un => show (gs.set i _)[j]? = _; rw [List.getElem?_set_ne hj]; exact E
      | fr d => obtain ⟨a, w, b, c⟩ := E; exact ⟨by rw [List.getElem?_set_ne hj]; exact a, w, b, c⟩
      | fd d => obtain ⟨a, w, b, c⟩ := E; exact ⟨by rw [List.getElem?_set_ne hj]; exact a, w, b, c⟩
      | own u => obtain ⟨g', a, b, c⟩ := E; exact ⟨g', by rw [List.getElem?_set_ne hj]; exact a, b, c⟩
      | al s p =>
        obtain ⟨a, w, b, c⟩ := E
        refine ⟨by rw [List.getElem?_set_ne hj]; exact a, w, b, ?_⟩
        unfold AlOk at c ⊢
        by_cases hs : i = s
        · subst hs
          rw [h] at c
          exact c.elim
        · rw [List.getElem?_set_ne hs, List.getElem?_set_ne hs]
          exact c
/-- an entry at the end as a tree -/
theorem Rel.toTr1 (R : Rel Φ vs (env ++ tl) H fz gs) (hn : Φ.n ≤ env.length) {j : Nat} {x : En} {u : Tr} {env' : Ev} (hj : tl[j]? = some x) (h : toTr env x = some (env', u)) :
    env'.length = env.length ∧ ∃ fz' gs', Rel Φ vs (env' ++ tl.set j (.own u)) H fz' gs' ∧ (∀ a, fz a → fz' a) := by
  have hlt : j < tl.length := (List.getElem?_eq_some_iff.mp hj).1
  have go : ∀ {q : Ev × Dt}, frz env x = some q → (q.1, Tr.fr q.2) = (env', u) → env'.length = env.length ∧ ∃ fz' gs', Rel Φ vs (env' ++ tl.set j (.own u)) H fz' gs' ∧ (∀ a, fz a → fz' a) := by
    rintro ⟨e, d⟩ hq hu
    simp only [Prod.mk.injEq] at hu
    obtain ⟨rfl, rfl⟩ := hu
    obtain ⟨l1, fz1, gs1, R1, m1⟩ := R.frz1 hn hj hq
    obtain ⟨gs2, R2⟩ := R1.frOwn (i := e.length + j) (d := d) (by rw [get_app_right, List.getElem?_set_self hlt])
    rw [set_app_right, List.set_set] at R2
    exact ⟨l1, fz1, gs2, R2, m1⟩
  cases x with
  | own t =>
    simp only [toTr, Option.some.injEq, Prod.mk.injEq] at h
    obtain ⟨rfl, rfl⟩ := h
    have : tl.set j (.own t) = tl := by
      refine List.ext_getElem? fun i => ?_
      by_cases hi : j = i
      · subst hi; rw [List.getElem?_set_self hlt]; exact hj.symm
      · rw [List.getElem?_set_ne hi]
    exact ⟨rfl, fz, gs, by rw [this]; exact R, fun _ z => z⟩
  | un => simp only [toTr] at h; obtain ⟨q, hq, e⟩ := Option.map_eq_some_iff.mp h; exact go hq e
  | fr d => simp only [toTr] at h; obtain ⟨q, hq, e⟩ := Option.map_eq_some_iff.mp h; exact go hq e
  | fd d => simp only [toTr] at h; obtain ⟨q, hq, e⟩ := Option.map_eq_some_iff.mp h; exact go hq e
  | al s p => simp only [toTr] at h; obtain ⟨q, hq, e⟩ := Option.map_eq_some_iff.mp h; exact go hq e
theorem Rel.toTrs : ∀ {xs S : Ev} {env env' : Ev} {us : List Tr} {fz : Addr → Prop} {gs : List G}, Rel Φ vs (env ++ (S ++ xs)) H fz gs → Φ.n ≤ env.length → toTrL env xs = some (env', us) →
    env'.length = env.length ∧ us.length = xs.length ∧ ∃ fz' gs', Rel Φ vs (env' ++ (S ++ us.map .own)) H fz' gs' ∧ (∀ a, fz a → fz' a)
  | [], S, env, env', ds, fz, gs, R, hn, h => by
    simp only [toTrL, Option.some.injEq, Prod.mk.injEq] at h
    obtain ⟨rfl, rfl⟩ := h
    exact ⟨rfl, rfl, fz, gs, by simpa using R, fun _ z => z⟩
  | x :: xs, S, env, env', ds, fz, gs, R, hn, h => by
    simp only [toTrL] at h
    cases hx : toTr env x with
    | none => rw [hx] at h; cases h
    | some q =>
      obtain ⟨env1, d⟩ := q
      rw [hx] at h
      obtain ⟨q', hq', e⟩ := Option.map_eq_some_iff.mp h
      obtain ⟨env2, ds'⟩ := q'
      simp only [Prod.mk.injEq] at e
      obtain ⟨rfl, rfl⟩ := e
      obtain ⟨l1, fz1, gs1, R1, m1⟩ := R.toTr1 hn (j := S.length) (by simp) hx
      rw [set_mid] at R1
      obtain ⟨l2, l3, fz2, gs2, R2, m2⟩ := Rel.toTrs (S := S ++ [.own d]) (xs := xs) (by simpa using R1) (by omega) hq'
      exact ⟨by omega, by simp [l3], fz2, gs2, by simpa using R2, fun a z => m2 a (m1 a z)⟩

/-- the trees at the end, with the ghosts of all that stays ahead -/
theorem Rel.tail {us : List Tr} {wv : List V} (R : Rel Φ (vs ++ wv.map some) (es ++ us.map .own) H fz gs) (hl : vs.length = es.length) :
    ∃ gt, gs = gs.take es.length ++ gt ∧ gt.map G.val = wv ∧ gt.length = us.length ∧ (G.fps gt).Nodup ∧ (∀ a ∈ G.fps gt, a ∉ G.fps (gs.take es.length) ∧ ¬ fz a ∧ ∀ o, Φ.H0 a = some o → a ∈ Φ.S0) ∧
      ∀ (i : Nat) (c : G) (t : Tr), gt[i]? = some c → us[i]? = some t → OwnG H fz c t := by
  have eg : gs = gs.take es.length ++ gs.drop es.length := (List.take_append_drop _ _).symm
  have lg := R.leng
  have lv := R.lenv
  simp only [List.length_append, List.length_map] at lg lv
  have key : ∀ (i : Nat) (t : Tr), us[i]? = some t → ∃ c, (gs.drop es.length)[i]? = some c ∧ wv[i]? = some c.val ∧ OwnG H fz c t := fun i t h => by
    have q : (es ++ us.map En.own)[es.length + i]? = some (.own t) := by rw [get_app_right, List.getElem?_map, h]; rfl
    obtain ⟨g, hg, hv, ho⟩ := R.ent _ _ q
    refine ⟨g, by rw [List.getElem?_drop]; exact hg, ?_, ho⟩
    rw [← hl, get_app_right, List.getElem?_map] at hv
    cases hw : wv[i]? with
    | none => rw [hw] at hv; cases hv
    | some z => rw [hw] at hv; cases hv; rfl
  have gl : (gs.drop es.length).length = us.length := by rw [List.length_drop]; omega
  refine ⟨gs.drop es.length, eg, ?_, gl, ?_, fun a ha => ?_, fun i c t hc ht => ?_⟩
  · refine List.ext_getElem? fun i => ?_
    rw [List.getElem?_map]
    by_cases hi : i < us.length
    · obtain ⟨c, hc, hw, _⟩ := key i us[i] (by simp [hi])
      rw [hc, hw]; rfl
    · rw [List.getElem?_eq_none (by omega), List.getElem?_eq_none (by omega)]; rfl
  · have := R.nod
    rw [eg, G.fps_append] at this
    exact (List.nodup_append.mp this).2.1
  · have hn := R.nod
    rw [eg, G.fps_append] at hn
    have ha' : a ∈ G.fps gs := by rw [eg, G.fps_append]; exact List.mem_append_right _ ha
    refine ⟨fun z => (List.nodup_append.mp hn).2.2 a z a ha rfl, R.nfz a ha', fun o ho => ?_⟩
    by_cases hs : a ∈ Φ.S0
    · exact hs
    · exact absurd ha' (R.frm a o ho hs).2
  · obtain ⟨c', hc', _, ho⟩ := key i t ht
    rw [hc] at hc'; cases hc'; exact ho

/-- a new node of what stands at the end -/
theorem Rel.mkO {us : List Tr} {wv : List V} (R : Rel Φ (vs ++ wv.map some) (es ++ us.map .own) H fz gs) (hl : vs.length = es.length) (hn : Φ.n ≤ es.length) (sh : Sh) (ok : sh.ok us.length) {p : Addr} (hp : H p = none) (nt : sh ≠ .tp := by first | assumption | (intro h; cases h)) :
    RelX Φ (vs ++ [some (.ref p)]) (es ++ [.own (.nd sh us)]) (upd H p (sh.ho wv)) := by
  obtain ⟨gt, eg, ev, gl, n1, n2, ch⟩ := R.tail hl
  have R1 := (R.drop hl hn).ext (Hext.new (o := sh.ho wv) hp)
  have npf : ¬ fz p := fun z => R.tr p z hp
  have npg : p ∉ G.fps gs := R.noFp hp
  have npt : p ∉ G.fps gt := fun z => npg (by rw [eg, G.fps_append]; exact List.mem_append_right _ z)
  have npk : p ∉ G.fps (gs.take es.length) := fun z => npg (by rw [eg, G.fps_append]; exact List.mem_append_left _ z)
  have own : OwnG (upd H p (sh.ho wv)) fz (.nd p gt) (.nd sh us) := by
    refine .nd sh ?_ (by rw [gl]; exact ok) gl (fun i c t hc ht => (ch i c t hc ht).mono (Hext.new hp).keep (fun _ z => z) fun a _ o h => Hext.new hp a o h) nt
    rw [upd_same, ev]
  refine ⟨_, _, R1.pushO own ?_ ?_ ?_ ?_⟩
  · simp only [G.fp, List.nodup_cons]; exact ⟨npt, n1⟩
  · intro a ha
    simp only [G.fp, List.mem_cons] at ha
    rcases ha with rfl | ha
    · exact npk
    · exact (n2 a ha).1
  · intro a ha
    simp only [G.fp, List.mem_cons] at ha
    rcases ha with rfl | ha
    · exact npf
    · exact (n2 a ha).2.1
  · intro a ha o ho
    simp only [G.fp, List.mem_cons] at ha
    rcases ha with rfl | ha
    · by_cases hs : a ∈ Φ.S0
      · exact hs
      · have := (R.frm a o ho hs).1
        rw [hp] at this; cases this
    · exact (n2 a ha).2.2 o ho

/-- the frozen data at the end, by places -/
theorem Rel.frs {ds : List Dt} {wv : List V} (R : Rel Φ (vs ++ wv.map some) (es ++ ds.map .fr) H fz gs) (hl : vs.length = es.length) : wv.length = ds.length ∧ ∀ (i : Nat) (v : V) (d : Dt), wv[i]? = some v → ds[i]? = some d → IsD H fz v d := by
  have lv := R.lenv
  simp only [List.length_append, List.length_map] at lv
  refine ⟨by omega, fun i v d hv hd => ?_⟩
  have q : (es ++ ds.map En.fr)[es.length + i]? = some (.fr d) := by rw [get_app_right, List.getElem?_map, hd]; rfl
  obtain ⟨_, w, hw, h⟩ := R.ent _ _ q
  rw [← hl, get_app_right, List.getElem?_map, hv] at hw
  cases hw
  exact h
/-- a new frozen node of them -/
theorem Rel.mkF {ds : List Dt} {wv : List V} (R : Rel Φ (vs ++ wv.map some) (es ++ ds.map .fr) H fz gs) (hl : vs.length = es.length) (hn : Φ.n ≤ es.length) (sh : Sh) (ok : sh.ok ds.length) {p : Addr} (hp : H p = none) :
    RelX Φ (vs ++ [some (.ref p)]) (es ++ [.fr (sh.dat ds)]) (upd H p (sh.ho wv)) := by
  obtain ⟨l, k⟩ := R.frs hl
  refine (R.drop hl hn).pushD (Hext.new hp) ?_
  refine .nd sh rfl (.inr ⟨hp, by rw [upd_same]; exact fun z => by cases z⟩) (.inl upd_same) (by rw [l]; exact ok) l fun i v d hv hd => ?_
  exact (k i v d hv hd).mono (Hext.new hp).keep fun _ z => .inl z

theorem G.at_nodup : ∀ {q : List Nat} {g0 h0 : G}, g0.fp.Nodup → g0.at q = some h0 → h0.fp.Nodup
  | [], g0, h0, n, e => by simp only [G.at, Option.some.injEq] at e; subst e; exact n
  | i :: q, g0, h0, n, e => by
    cases g0 with
    | lf v => simp [G.at, G.kids] at e
    | nd b ds =>
      simp only [G.at, G.kids] at e
      cases hc : ds[i]? with
      | none => rw [hc] at e; cases e
      | some c =>
        rw [hc] at e
        simp only [G.fp, List.nodup_cons] at n
        exact G.at_nodup (G.fps_get n.2 hc).1 e
/-- a node is changed -/
theorem Rel.mut (R : Rel Φ vs es H fz gs) {s : Nat} {t : Tr} {g : G} {p : List Nat} {a : Addr} {cs cs' : List G} {ts' : List Tr} (sh' : Sh) (hs : es[s]? = some (.own t)) (hg : gs[s]? = some g) (hp : g.at p = some (.nd a cs))
    (ok : sh'.ok cs'.length) (hl : cs'.length = ts'.length) (ch : ∀ (i : Nat) (c : G) (u : Tr), cs'[i]? = some c → ts'[i]? = some u → OwnG H fz c u) (n1 : (G.fps cs').Nodup)
    (n2 : ∀ b ∈ G.fps cs', b ∈ G.fps cs ∨ (b ∉ G.fps gs ∧ ¬ fz b ∧ ∀ o, Φ.H0 b = some o → b ∈ Φ.S0))
    (al : ∀ (i : Nat) (r : List Nat) (b : Addr) (ds : List G), es[i]? = some (.al s (p ++ r)) → (G.nd a cs).at r = some (.nd b ds) → ∃ ds', (G.nd a cs').at r = some (.nd b ds')) (nt : sh' ≠ .tp := by first | assumption | (intro h; cases h)) :
    Rel Φ vs (es.set s (.own (t.put p (.nd sh' ts')))) (upd H a (sh'.ho (cs'.map G.val))) fz (gs.set s (g.put p (.nd a cs'))) := by
  have hi := (List.getElem?_eq_some_iff.mp hs).1
  have hig : s < gs.length := by rw [R.leng]; exact hi
  obtain ⟨g', hg', hgv, ho⟩ := R.ent s _ hs
  rw [hg] at hg'; cases hg'
  obtain ⟨gnd, gap⟩ := G.fps_get R.nod hg
  have inG : ∀ b ∈ g.fp, b ∈ G.fps gs := R.own_in hg
  have csG : ∀ b ∈ (G.nd a cs).fp, b ∈ g.fp := G.at_fp hp
  have aG : a ∈ g.fp := csG a (by simp [G.fp])
  have naf : ¬ fz a := R.nfz a (inG a aG)
  have nacs : a ∉ G.fps cs := by
    have := G.at_nodup gnd hp
    simp only [G.fp, List.nodup_cons] at this
    exact this.1
  have nacs' : a ∉ G.fps cs' := fun z => (n2 a z).elim nacs fun y => y.1 (inG a aG)
  have keep : ∀ b o, b ≠ a → H b = some o → upd H a (sh'.ho (cs'.map G.val)) b = some o := fun b o nb h => by rw [upd_ne nb]; exact h
  have kz : Keep H (upd H a (sh'.ho (cs'.map G.val))) fz := fun b o hb h => keep b o (fun z => naf (z ▸ hb)) h
  have own' : OwnG (upd H a (sh'.ho (cs'.map G.val))) fz (.nd a cs') (.nd sh' ts') := by
    refine .nd sh' upd_same ok hl (fun i c u hc hu => (ch i c u hc hu).mono kz (fun _ z => z) fun b hb o h => keep b o (fun z => nacs' (z ▸ G.mem_fps.mpr ⟨c, List.mem_of_getElem? hc, hb⟩)) h) nt
  have fp' : (G.nd a cs').fp.Nodup := by simp only [G.fp, List.nodup_cons]; exact ⟨nacs', n1⟩
  have sub' : ∀ b ∈ (G.nd a cs').fp, b ∈ (G.nd a cs).fp ∨ b ∉ G.fps gs := fun b hb => by
    simp only [G.fp, List.mem_cons] at hb ⊢
    rcases hb with rfl | hb
    · exact .inl (.inl rfl)
    · exact (n2 b hb).imp .inr (·.1)
  obtain ⟨p1, p2⟩ := G.put_fp gnd hp fp' fun b hb => (sub' b hb).imp id fun z y => z (inG b y)
  obtain ⟨q1, q2⟩ := G.fps_set R.nod hg p1 fun b hb => by
    rcases p2 b hb with z | z
    · exact .inl z.1
    · exact (sub' b z).imp (csG b) id
  have newIn : ∀ b ∈ G.fps (gs.set s (g.put p (.nd a cs'))), b ∈ G.fps gs ∨ (¬ fz b ∧ ∀ o, Φ.H0 b = some o → b ∈ Φ.S0) := fun b hb => by
    rcases q2 b hb with z | z
    · exact .inl z.1
    · rcases p2 b z with y | y
      · exact .inl (inG b y.1)
      · simp only [G.fp, List.mem_cons] at y
        rcases y with rfl | y
        · exact .inl (inG _ aG)
        · exact (n2 b y).elim (fun w => .inl (inG b (csG b (by simp only [G.fp, List.mem_cons]; exact .inr w)))) fun w => .inr w.2
  obtain ⟨u0, hu0, _⟩ := ho.at hp
  refine ⟨by simpa using R.lenv, by simpa using R.leng, by simpa using R.big, fun j s' p' q => ?_, fun j x q => ?_, q1, fun b hb => (newIn b hb).elim (R.nfz b) (·.1), fun b hb => ?_, fun b o h hn => ?_, R.fzi, R.fzo⟩
  · by_cases hj : s = j
    · subst hj; rw [List.getElem?_set_self hi] at q; cases q
    · rw [List.getElem?_set_ne hj] at q; exact R.als j s' p' q
  · by_cases hj : s = j
    · subst hj
      rw [List.getElem?_set_self hi] at q
      cases q
      refine ⟨_, List.getElem?_set_self hig, ?_, ?_⟩
      · rw [G.put_val (h' := .nd a cs') hp rfl]; exact hgv
      · exact OwnG.put kz (fun _ z => z) ho gnd hp hu0 own' rfl fun b hb hb2 o h => keep b o (fun z => hb2 (by rw [z]; simp [G.fp])) h
    · rw [List.getElem?_set_ne hj] at q
      have E := R.ent j x q
      cases x with
      | un => show (gs.set s _)[j]? = _; rw [List.getElem?_set_ne hj]; exact E
      | fr d => obtain ⟨e, w, b, c⟩ := E; exact ⟨by rw [List.getElem?_set_ne hj]; exact e, w, b, c.mono kz fun _ z => z⟩
      | fd d => obtain ⟨e, w, b, c⟩ := E; exact ⟨by rw [List.getElem?_set_ne hj]; exact e, w, b, c.mono kz fun _ z => z⟩
      | own u =>
        obtain ⟨g', e, b, c⟩ := E
        exact ⟨g', by rw [List.getElem?_set_ne hj]; exact e, b, c.mono kz (fun _ z => z) fun y hy o h => keep y o (fun z => gap j g' (fun q => hj q.symm) e y hy (z ▸ aG)) h⟩
      | al s' q' =>
        obtain ⟨e, w, b, c⟩ := E
        refine ⟨by rw [List.getElem?_set_ne hj]; exact e, w, b, ?_⟩
        unfold AlOk at c ⊢
        by_cases hs' : s = s'
        · subst hs'
          rw [hs] at c
          rw [List.getElem?_set_self hi, List.getElem?_set_self hig]
          obtain ⟨g', b', ds, hg', hq', rfl⟩ := c
          rw [hg] at hg'; cases hg'
          obtain ⟨ds', h'⟩ := G.put_at (h' := .nd a cs') hp rfl (fun r er => by
            subst er
            refine al j r b' ds q ?_
            rw [G.at_append, hp] at hq'
            exact hq') hq'
          exact ⟨_, b', ds', rfl, h', rfl⟩
        · rw [List.getElem?_set_ne hs', List.getElem?_set_ne hs']
          cases hx : es[s']? with
          | none => rw [hx] at c; exact c
          | some y =>
            rw [hx] at c
            cases y with
            | fd d => obtain ⟨e, he, h⟩ := c; exact ⟨e, he, h.mono kz fun _ z => z⟩
            | own t => exact c
            | un => exact c
            | fr d => exact c
            | al _ _ => exact c
  · by_cases e : b = a
    · subst e; rw [upd_same]; exact fun z => by cases z
    · rw [upd_ne e]; exact R.tr b hb
  · obtain ⟨h1, h2⟩ := R.frm b o h hn
    refine ⟨keep b o (fun z => h2 (z ▸ inG a aG)) h1, fun z => ?_⟩
    rcases newIn b z with y | y
    · exact h2 y
    · exact hn (y.2 o h)
end
end MP
set_option maxHeartbeats 1000000
set_option autoImplicit false
/-! mini: assignment; a callee's changes -/
namespace MP
open PySem PySem.Spec PyProof.Rows L2
section
variable {Φ : Fx} {vs ws : List (Option V)} {es xs env tl : Ev} {H H' : Hp} {fz fz' : Addr → Prop} {gs : List G}

/-- an alias that is looked through -/
def cv (d : Dt) (i : Nat) : En → En
  | .al s p => if s = i then (match Dt.at d p with | some e => .fr e | none => .un) else .al s p
  | x => x
theorem Rel.noAl (R : Rel Φ vs es H fz gs) {i : Nat} {d : Dt} (h : es[i]? = some (.fd d)) : Rel Φ vs (es.map (cv d i)) H fz gs := by
  refine ⟨by simpa using R.lenv, by simpa using R.leng, by simpa using R.big, fun j s p q => ?_, fun j x q => ?_, R.nod, R.nfz, R.tr, R.frm, R.fzi, R.fzo⟩
  · rw [List.getElem?_map] at q
    obtain ⟨y, hy, e⟩ := Option.map_eq_some_iff.mp q
    cases y with
    | al s' p' =>
      simp only [cv] at e
      split at e
      · split at e <;> cases e
      · cases e; exact R.als j s p hy
    | un => cases e
    | fr d => cases e
    | fd d => cases e
    | own t => cases e
  · rw [List.getElem?_map] at q
    obtain ⟨y, hy, rfl⟩ := Option.map_eq_some_iff.mp q
    have E := R.ent j y hy
    cases y with
    | un => exact E
    | fr d => exact E
    | fd d => exact E
    | own t => exact E
    | al s p =>
      obtain ⟨a, w, b, c⟩ := E
      simp only [cv]
      by_cases hs : s = i
      · subst hs
        rw [if_pos rfl]
        unfold AlOk at c
        rw [h] at c
        obtain ⟨e, he, hi⟩ := c
        simp only [he]
        exact ⟨a, w, b, hi⟩
      · rw [if_neg hs]
        refine ⟨a, w, b, ?_⟩
        unfold AlOk at c ⊢
        rw [List.getElem?_map]
        cases hx : es[s]? with
        | none => rw [hx] at c; exact c.elim
        | some z =>
          rw [hx] at c
          cases z with
          | own t => exact c
          | fd d => exact c
          | un => exact c.elim
          | fr d => exact c.elim
          | al _ _ => exact c.elim
/-- a value at the end goes to a slot that nobody sees through -/
theorem Rel.move (R : Rel Φ vs es H fz gs) {i k : Nat} {x : En} {v : V} (hk : es[k]? = some x) (hv : vs[k]? = some (some v)) (hkn : Φ.n ≤ k) (hi : i < Φ.n) (ho : ∀ t, es[i]? ≠ some (.own t)) (hx : x ≠ .un) (hxd : ∀ d, x ≠ .fd d)
    (na : ∀ (j : Nat) (p : List Nat), es[j]? ≠ some (.al i p)) :
    ∃ gs', Rel Φ (vs.set i (some v)) ((es.set i x).set k .un) H fz gs' := by
  have hkl := (List.getElem?_eq_some_iff.mp hk).1
  have hil : i < es.length := Nat.lt_of_lt_of_le hi R.big
  have hig : i < gs.length := by rw [R.leng]; exact hil
  have hkg : k < gs.length := by rw [R.leng]; exact hkl
  have hik : i ≠ k := by omega
  obtain ⟨g, hg⟩ := R.at_g hk
  have lfi : gs[i]? = some (.lf .non) := by
    have he : es[i]? = some es[i] := by simp [hil]
    have E := R.ent i _ he
    cases hx : es[i] with
    | own t => rw [hx] at he; exact absurd he (ho t)
    | un => rw [hx] at E; exact E
    | fr d => rw [hx] at E; exact E.1
    | fd d => rw [hx] at E; exact E.1
    | al s p => rw [hx] at E; exact E.1
  obtain ⟨g1, g2⟩ := G.fps_get R.nod hg
  obtain ⟨n1, n2⟩ := G.fps_set R.nod hg (g' := .lf .non) (by simp [G.fp]) (by simp [G.fp])
  have ngk : ∀ a ∈ G.fps (gs.set k (.lf .non)), a ∈ G.fps gs ∧ a ∉ g.fp := fun a ha => by
    obtain ⟨c, hc, hca⟩ := G.mem_fps.mp ha
    obtain ⟨j, hj⟩ := List.getElem?_of_mem hc
    by_cases hjk : k = j
    · subst hjk
      rw [List.getElem?_set_self hkg] at hj
      cases hj
      simp [G.fp] at hca
    · rw [List.getElem?_set_ne hjk] at hj
      exact ⟨R.own_in hj a hca, g2 j c (fun q => hjk q.symm) hj a hca⟩
  have lfi' : (gs.set k (.lf .non))[i]? = some (.lf .non) := by rw [List.getElem?_set_ne (Ne.symm hik)]; exact lfi
  obtain ⟨m1, m2⟩ := G.fps_set n1 lfi' (g' := g) g1 fun a ha => .inr fun z => (ngk a z).2 ha
  have sub : ∀ a ∈ G.fps ((gs.set k (.lf .non)).set i g), a ∈ G.fps gs := fun a ha => by
    rcases m2 a ha with z | z
    · exact (ngk a z.1).1
    · exact R.own_in hg a z
  have gat : ∀ j, j ≠ i → j ≠ k → ((gs.set k (.lf .non)).set i g)[j]? = gs[j]? := fun j h1 h2 => by
    rw [List.getElem?_set_ne (Ne.symm h1), List.getElem?_set_ne (Ne.symm h2)]
  have gati : ((gs.set k (.lf .non)).set i g)[i]? = some g := List.getElem?_set_self (by simpa using hig)
  have gatk : ((gs.set k (.lf .non)).set i g)[k]? = some (.lf .non) := by
    rw [List.getElem?_set_ne hik, List.getElem?_set_self hkg]
  have eat : ∀ j, j ≠ i → j ≠ k → ((es.set i x).set k .un)[j]? = es[j]? := fun j h1 h2 => by
    rw [List.getElem?_set_ne (Ne.symm h2), List.getElem?_set_ne (Ne.symm h1)]
  have eati : ((es.set i x).set k .un)[i]? = some x := by rw [List.getElem?_set_ne (Ne.symm hik), List.getElem?_set_self hil]
  have eatk : ((es.set i x).set k .un)[k]? = some .un := List.getElem?_set_self (by simpa using hkl)
  have al : ∀ {s : Nat} {p : List Nat} {w : V}, s ≠ i → s < Φ.n → AlOk H fz es gs s p w → AlOk H fz ((es.set i x).set k .un) ((gs.set k (.lf .non)).set i g) s p w := fun {s p w} h1 h2 c => by
    unfold AlOk at c ⊢
    rw [eat s h1 (by omega), gat s h1 (by omega)]
    exact c
  refine ⟨_, by simpa using R.lenv, by simpa using R.leng, by simpa using R.big, fun j s p q => ?_, fun j y q => ?_, m1, fun a ha => R.nfz a (sub a ha), R.tr, fun a o h hs => ⟨(R.frm a o h hs).1, fun z => (R.frm a o h hs).2 (sub a z)⟩, R.fzi, R.fzo⟩
  · by_cases h1 : j = k
    · subst h1; rw [eatk] at q; cases q
    · by_cases h2 : j = i
      · subst h2; rw [eati] at q; exact R.als k s p (by rw [hk]; exact q)
      · rw [eat j h2 h1] at q; exact R.als j s p q
  · by_cases h1 : j = k
    · subst h1; rw [eatk] at q; cases q; exact gatk
    · by_cases h2 : j = i
      · subst h2
        rw [eati] at q
        cases q
        have E := R.ent k x hk
        have hvi : (vs.set j (some v))[j]? = some (some v) := List.getElem?_set_self (by rw [R.lenv]; exact hil)
        have hlf : (∀ t, x ≠ .own t) → g = .lf .non := fun nt => by
          cases x with
          | un => exact absurd rfl hx
          | fr d => have := E.1; rw [hg] at this; exact Option.some.inj this
          | fd d => have := E.1; rw [hg] at this; exact Option.some.inj this
          | own t => exact absurd rfl (nt t)
          | al s p => have := E.1; rw [hg] at this; exact Option.some.inj this
        cases x with
        | un => exact absurd rfl hx
        | fr d =>
          obtain ⟨_, w, b, c⟩ := E
          rw [hv] at b; cases b
          exact ⟨by rw [gati, hlf fun t z => by cases z], v, hvi, c⟩
        | fd d => exact absurd rfl (hxd d)
        | own t =>
          obtain ⟨g', a, b, c⟩ := E
          rw [hg] at a; cases a
          rw [hv] at b; cases b
          exact ⟨g, gati, hvi, c⟩
        | al s p =>
          obtain ⟨_, w, b, c⟩ := E
          rw [hv] at b; cases b
          have hsn := R.als k s p hk
          have hsi : s ≠ j := fun z => by subst z; exact na k p hk
          exact ⟨by rw [gati, hlf fun t z => by cases z], v, hvi, al hsi hsn c⟩
      · rw [eat j h2 h1] at q
        have E := R.ent j y q
        have hvj : (vs.set i (some v))[j]? = vs[j]? := List.getElem?_set_ne (Ne.symm h2)
        cases y with
        | un => exact (gat j h2 h1).trans E
        | fr d => obtain ⟨a, w, b, c⟩ := E; exact ⟨(gat j h2 h1).trans a, w, hvj.trans b, c⟩
        | fd d => obtain ⟨a, w, b, c⟩ := E; exact ⟨(gat j h2 h1).trans a, w, hvj.trans b, c⟩
        | own u => obtain ⟨g', a, b, c⟩ := E; exact ⟨g', (gat j h2 h1).trans a, hvj.trans b, c⟩
        | al s p =>
          obtain ⟨a, w, b, c⟩ := E
          exact ⟨(gat j h2 h1).trans a, w, hvj.trans b, al (fun z => by subst z; exact na j p q) (R.als j s p q) c⟩

theorem unr_frz {es : Ev} {i : Nat} {t : Tr} {g : G} (hi : es[i]? = some (.own t)) (ho : OwnG H fz g t) {x : En} (hx : ∀ p, x = En.al i p → ∃ h, g.at p = some h) : cv t.data i x = unr es i x := by
  cases x with
  | al s p =>
    simp only [cv, unr]
    by_cases hs : s = i
    · subst hs
      rw [if_pos rfl, if_pos rfl]
      obtain ⟨h, hh⟩ := hx p rfl
      obtain ⟨u, hu, _⟩ := ho.at hh
      simp only [peek, res, hi]
      have hu' : t.at p = some u := hu
      rw [ho.dat hu', hu']
      rfl
    · rw [if_neg hs, if_neg hs]
  | _ => rfl
theorem unr_fd {es : Ev} {i : Nat} {d : Dt} (hi : es[i]? = some (.fd d)) {x : En} : cv d i x = unr es i x := by
  cases x with
  | al s p =>
    simp only [cv, unr]
    by_cases hs : s = i
    · subst hs
      rw [if_pos rfl, if_pos rfl]
      simp only [peek, res, hi]
      cases Dt.at d p <;> rfl
    · rw [if_neg hs, if_neg hs]
  | _ => rfl
theorem unr_app {env l : Ev} {i : Nat} (h : i < env.length) (x : En) : unr (env ++ l) i x = unr env i x := by
  cases x with
  | al s p =>
    simp only [unr]
    by_cases hs : s = i
    · subst hs
      rw [if_pos rfl, if_pos rfl]
      simp only [peek, res, List.getElem?_append_left h]
    · rw [if_neg hs, if_neg hs]
  | _ => rfl

/-- slot i gets the value at the end's place j -/
theorem Rel.put1 {B W : List (Option V)} {T : Ev} (R : Rel Φ (B ++ W) (env ++ T) H fz gs) (hB : B.length = env.length) (hn : Φ.n ≤ env.length) {i j : Nat} {x : En} {v : V} (hi : i < Φ.n) (hj : T[j]? = some x) (hw : W[j]? = some (some v)) (hx : x ≠ .un) (hxd : ∀ d, x ≠ .fd d) :
    ∃ fz' gs', Rel Φ (B.set i (some v) ++ W) ((env.map (unr env i)).set i (unr env i x) ++ (T.map (unr env i)).set j .un) H fz' gs' := by
  have hie : i < env.length := Nat.lt_of_lt_of_le hi hn
  have hjl : j < T.length := (List.getElem?_eq_some_iff.mp hj).1
  have hvk : (B ++ W)[env.length + j]? = some (some v) := by rw [← hB, get_app_right]; exact hw
  -- all entries looked through
  have step : ∃ fz1 gs1 es1, Rel Φ (B ++ W) es1 H fz1 gs1 ∧ (∀ t, es1[i]? ≠ some (.own t)) ∧ (∀ (j : Nat) (p : List Nat), es1[j]? ≠ some (.al i p)) ∧ es1.length = (env ++ T).length ∧ ∀ k, k ≠ i → es1[k]? = ((env ++ T).map (unr (env ++ T) i))[k]? := by
    have hei : (env ++ T)[i]? = env[i]? := get_app_left hie
    have he : env[i]? = some env[i] := by simp [hie]
    have noal : ∀ (es1 : Ev) (d : Dt), (∀ p, es1[i]? ≠ some (.al i p)) → ∀ (j : Nat) (p : List Nat), (es1.map (cv d i))[j]? ≠ some (.al i p) := fun es1 d h0 j p q => by
      rw [List.getElem?_map] at q
      obtain ⟨y, hy, e⟩ := Option.map_eq_some_iff.mp q
      cases y with
      | al s' p' =>
        simp only [cv] at e
        split at e
        · split at e <;> cases e
        · rename_i hne; cases e; exact hne rfl
      | un => cases e
      | fr d => cases e
      | fd d => cases e
      | own t => cases e
    cases hq : env[i] with
    | own t =>
      rw [hq] at he
      have hes : (env ++ T)[i]? = some (.own t) := hei.trans he
      obtain ⟨g, hg, _, ho⟩ := R.ent i _ hes
      obtain ⟨fz1, gs1, R1, _, _⟩ := R.frzS hes
      have hfd : ((env ++ T).set i (.fd t.data))[i]? = some (.fd t.data) := List.getElem?_set_self (by simp; omega)
      refine ⟨fz1, gs1, _, R1.noAl hfd, fun u z => ?_, noal _ _ (fun p z => by rw [hfd] at z; cases z), by simp, fun k hk => ?_⟩
      · rw [List.getElem?_map, hfd] at z; cases z
      · rw [List.getElem?_map, List.getElem?_map, List.getElem?_set_ne (Ne.symm hk)]
        cases hy : (env ++ T)[k]? with
        | none => rfl
        | some y =>
          show some _ = some _
          rw [unr_frz (H := H) (fz := fz) hes ho fun p e => ?_]
          subst e
          obtain ⟨_, w, _, c⟩ := R.ent k _ hy
          unfold AlOk at c
          rw [hes] at c
          obtain ⟨g', a, cs, hg', hp, _⟩ := c
          rw [hg] at hg'; cases hg'
          exact ⟨_, hp⟩
    | fd d =>
      rw [hq] at he
      have hes : (env ++ T)[i]? = some (.fd d) := hei.trans he
      refine ⟨fz, gs, _, R.noAl hes, fun u z => ?_, noal _ _ (fun p z => by rw [hes] at z; cases z), by simp, fun k hk => ?_⟩
      · rw [List.getElem?_map, hes] at z; cases z
      · rw [List.getElem?_map, List.getElem?_map]
        cases hy : (env ++ T)[k]? with
        | none => rfl
        | some y => show some _ = some _; rw [unr_fd hes]
    | un =>
      rw [hq] at he
      have hes := hei.trans he
      have na : ∀ (j : Nat) (p : List Nat), (env ++ T)[j]? ≠ some (.al i p) := fun j p z => by
        obtain ⟨_, w, _, c⟩ := R.ent j _ z
        unfold AlOk at c
        rw [hes] at c; exact c
      refine ⟨fz, gs, _, R, (fun t z => by rw [hes] at z; cases z), na, rfl, fun k hk => ?_⟩
      rw [List.getElem?_map]
      cases hy : (env ++ T)[k]? with
      | none => rfl
      | some y =>
        cases y with
        | al s p =>
          show some _ = some (unr _ _ _)
          rw [unr, if_neg (fun (z : s = i) => na k p (z ▸ hy))]
        | _ => rfl
    | fr d =>
      rw [hq] at he
      have hes := hei.trans he
      have na : ∀ (j : Nat) (p : List Nat), (env ++ T)[j]? ≠ some (.al i p) := fun j p z => by
        obtain ⟨_, w, _, c⟩ := R.ent j _ z
        unfold AlOk at c
        rw [hes] at c; exact c
      refine ⟨fz, gs, _, R, (fun t z => by rw [hes] at z; cases z), na, rfl, fun k hk => ?_⟩
      rw [List.getElem?_map]
      cases hy : (env ++ T)[k]? with
      | none => rfl
      | some y =>
        cases y with
        | al s p =>
          show some _ = some (unr _ _ _)
          rw [unr, if_neg (fun (z : s = i) => na k p (z ▸ hy))]
        | _ => rfl
    | al s0 p0 =>
      rw [hq] at he
      have hes := hei.trans he
      have na : ∀ (j : Nat) (p : List Nat), (env ++ T)[j]? ≠ some (.al i p) := fun j p z => by
        obtain ⟨_, w, _, c⟩ := R.ent j _ z
        unfold AlOk at c
        rw [hes] at c; exact c
      refine ⟨fz, gs, _, R, (fun t z => by rw [hes] at z; cases z), na, rfl, fun k hk => ?_⟩
      rw [List.getElem?_map]
      cases hy : (env ++ T)[k]? with
      | none => rfl
      | some y =>
        cases y with
        | al s p =>
          show some _ = some (unr _ _ _)
          rw [unr, if_neg (fun (z : s = i) => na k p (z ▸ hy))]
        | _ => rfl
  obtain ⟨fz1, gs1, es1, R1, no, na, le, eq⟩ := step
  have mapApp : ((env ++ T).map (unr (env ++ T) i)) = env.map (unr env i) ++ T.map (unr env i) := by
    rw [List.map_append]
    congr 1 <;> exact List.map_congr_left fun x _ => unr_app hie x
  rw [mapApp] at eq
  have hk : es1[env.length + j]? = some (unr env i x) := by
    rw [eq _ (by omega)]
    have := get_app_right (l := env.map (unr env i)) (m := T.map (unr env i)) (j := j)
    rw [List.length_map] at this
    rw [this, List.getElem?_map, hj]
    rfl
  have hx1 : unr env i x ≠ .un := fun z => by
    cases x with
    | un => exact hx rfl
    | fr d => cases z
    | fd d => cases z
    | own t => cases z
    | al s p =>
      have hxx : (env ++ T)[env.length + j]? = some (.al s p) := by rw [get_app_right]; exact hj
      obtain ⟨_, w, _, c⟩ := R.ent _ _ hxx
      simp only [unr] at z
      split at z
      · rename_i hs
        subst hs
        unfold AlOk at c
        rw [get_app_left hie] at c
        cases hz : env[s]? with
        | none => rw [hz] at c; exact c
        | some y =>
          rw [hz] at c
          cases y with
          | own t =>
            obtain ⟨g, a, cs, hg, hp, _⟩ := c
            obtain ⟨g', hg', _, ho⟩ := R.ent s _ ((get_app_left hie).trans hz)
            rw [hg] at hg'; cases hg'
            obtain ⟨u, hu, _⟩ := ho.at hp
            have hu' : t.at p = some u := hu
            simp only [peek, res, hz, hu'] at z
            cases z
          | fd d =>
            obtain ⟨e, he, _⟩ := c
            simp only [peek, res, hz, he] at z
            cases z
          | un => exact c
          | fr d => exact c
          | al _ _ => exact c
      · cases z
  have hx2 : ∀ d, unr env i x ≠ .fd d := fun d z => by
    cases x with
    | un => exact hx rfl
    | fr d => cases z
    | fd d' => exact hxd d' rfl
    | own t => cases z
    | al s p =>
      simp only [unr] at z
      split at z
      · split at z <;> cases z
      · cases z
  obtain ⟨gs2, R2⟩ := R1.move hk hvk (by omega) hi no hx1 hx2 na
  refine ⟨fz1, gs2, ?_⟩
  have e1 : (es1.set i (unr env i x)).set (env.length + j) .un = (env.map (unr env i)).set i (unr env i x) ++ (T.map (unr env i)).set j .un := by
    refine List.ext_getElem? fun k => ?_
    have lenA : (env.map (unr env i)).length = env.length := by simp
    have hsr := set_app_right (l := (env.map (unr env i)).set i (unr env i x)) (m := T.map (unr env i)) (j := j) (x := En.un)
    rw [List.length_set, lenA] at hsr
    rw [← hsr, ← set_app_left (by simpa using hie)]
    by_cases h1 : env.length + j = k
    · subst h1
      rw [List.getElem?_set_self (by simp [le]; exact hjl), List.getElem?_set_self (by simp; exact hjl)]
    · rw [List.getElem?_set_ne h1, List.getElem?_set_ne h1]
      by_cases h2 : i = k
      · subst h2
        rw [List.getElem?_set_self (by rw [le]; simp; omega), List.getElem?_set_self (by simp; omega)]
      · rw [List.getElem?_set_ne h2, List.getElem?_set_ne h2]
        exact eq k (Ne.symm h2)
  have e2 : (B ++ W).set i (some v) = B.set i (some v) ++ W := set_app_left (by omega)
  rw [e1, e2] at R2
  exact R2

/-- what the entries at the end are given to -/
def putV (B : List (Option V)) : List Nat → List V → List (Option V)
  | [], _ => B
  | _, [] => B
  | i :: is, v :: vs => putV (B.set i (some v)) is vs
theorem putV_len (B : List (Option V)) : ∀ (is : List Nat) (vs : List V), (putV B is vs).length = B.length
  | [], _ => by simp [putV]
  | _ :: _, [] => by simp [putV]
  | i :: is, v :: vs => by simp [putV, putV_len]
theorem Rel.puts : ∀ {l : List (Nat × En)} {B : List (Option V)} {env T : Ev} {wv : List V} {tv : List (Option V)} {fz : Addr → Prop} {gs : List G}, Rel Φ (B ++ (tv ++ wv.map some)) (env ++ (T ++ l.map (·.2))) H fz gs → B.length = env.length → tv.length = T.length → Φ.n ≤ env.length → (∀ q ∈ l, q.1 < Φ.n ∧ q.2 ≠ .un ∧ ∀ d, q.2 ≠ .fd d) →
    (MP.puts env l).length = env.length ∧ RelX Φ (putV B (l.map (·.1)) wv) (MP.puts env l) H
  | [], B, env, T, wv, tv, fz, gs, R, hB, hT, hn, hq => by
    rw [MP.puts]
    refine ⟨rfl, ?_⟩
    simp only [List.map_nil, putV]
    exact ⟨_, _, R.drop hB hn⟩
  | (i, x) :: r, B, env, T, wv, tv, fz, gs, R, hB, hT, hn, hq => by
    have lv := R.lenv
    simp only [List.length_append, List.length_map, List.length_cons] at lv
    cases wv with
    | nil => simp at lv; omega
    | cons v wv =>
      obtain ⟨hi, hx, hxd⟩ := hq (i, x) (by simp)
      have hj : (T ++ ((i, x) :: r).map (·.2))[T.length]? = some x := by
        have := get_app_right (l := T) (m := ((i, x) :: r).map (·.2)) (j := 0)
        simpa using this
      have hw : (tv ++ (v :: wv).map some)[T.length]? = some (some v) := by
        have := get_app_right (l := tv) (m := (v :: wv).map some) (j := 0)
        rw [hT] at this
        simpa using this
      obtain ⟨fz1, gs1, R1⟩ := R.put1 hB hn hi hj hw hx hxd
      have e : ((T ++ ((i, x) :: r).map (·.2)).map (unr env i)).set T.length .un = (T.map (unr env i) ++ [.un]) ++ (r.map fun q => (q.1, unr env i q.2)).map (·.2) := by
        simp only [List.map_append, List.map_cons, List.map_map, List.append_assoc, List.singleton_append]
        have := set_mid (S := T.map (unr env i)) (xs := r.map (unr env i ∘ fun x => x.2)) (x := unr env i x) (y := En.un)
        rw [List.length_map] at this
        rw [this]
        rfl
      rw [e, List.map_cons, show tv ++ some v :: wv.map some = (tv ++ [some v]) ++ wv.map some by simp] at R1
      have hnun : ∀ q ∈ r.map (fun q => (q.1, unr env i q.2)), q.1 < Φ.n ∧ q.2 ≠ .un ∧ ∀ d, q.2 ≠ .fd d := fun q hqm => by
        obtain ⟨q0, hq0, rfl⟩ := List.mem_map.mp hqm
        obtain ⟨a, b, c⟩ := hq q0 (List.mem_cons_of_mem _ hq0)
        refine ⟨a, fun z => ?_, fun d z => ?_⟩
        · -- its place among the entries
          obtain ⟨k, hk⟩ := List.getElem?_of_mem hq0
          have hk1 : ((env.map (unr env i)).set i (unr env i x) ++ ((T.map (unr env i) ++ [.un]) ++ (r.map fun q => (q.1, unr env i q.2)).map (·.2)))[env.length + (T.length + 1 + k)]? = some (unr env i q0.2) := by
            have h1 := get_app_right (l := (env.map (unr env i)).set i (unr env i x)) (m := (T.map (unr env i) ++ [.un]) ++ (r.map fun q => (q.1, unr env i q.2)).map (·.2)) (j := T.length + 1 + k)
            rw [List.length_set, List.length_map] at h1
            rw [h1]
            have h2 := get_app_right (l := T.map (unr env i) ++ [En.un]) (m := (r.map fun q => (q.1, unr env i q.2)).map (·.2)) (j := k)
            simp only [List.length_append, List.length_map, List.length_singleton] at h2
            rw [h2, List.getElem?_map, List.getElem?_map, hk]
            rfl
          have hk0 : (env ++ (T ++ ((i, x) :: r).map (·.2)))[env.length + (T.length + (1 + k))]? = some q0.2 := by
            rw [get_app_right, get_app_right, List.map_cons, Nat.add_comm 1 k, List.getElem?_cons_succ, List.getElem?_map, hk]
            rfl
          cases hz : q0.2 with
          | un => exact b hz
          | fr d => rw [hz] at z; cases z
          | fd d => rw [hz] at z; cases z
          | own t => rw [hz] at z; cases z
          | al s p =>
            rw [hz] at hk0 z
            obtain ⟨_, w, _, cc⟩ := R.ent _ _ hk0
            have hsn := R.als _ _ _ hk0
            have hse : s < env.length := by omega
            have z' : unr env i (.al s p) = .un := z
            simp only [unr] at z'
            split at z'
            · rename_i hs
              subst hs
              unfold AlOk at cc
              rw [get_app_left hse] at cc
              cases hy : env[s]? with
              | none => rw [hy] at cc; exact cc
              | some y =>
                rw [hy] at cc
                cases y with
                | own t =>
                  obtain ⟨g, a, cs, hg, hp, _⟩ := cc
                  obtain ⟨g', hg', _, ho⟩ := R.ent s _ ((get_app_left hse).trans hy)
                  rw [hg] at hg'; cases hg'
                  obtain ⟨u, hu, _⟩ := ho.at hp
                  have hu' : t.at p = some u := hu
                  simp only [peek, res, hy, hu'] at z'
                  cases z'
                | fd d =>
                  obtain ⟨e, he, _⟩ := cc
                  simp only [peek, res, hy, he] at z'
                  cases z'
                | un => exact cc
                | fr d => exact cc
                | al _ _ => exact cc
            · cases z'
        · cases hz : q0.2 with
          | un => exact b hz
          | fr d' => rw [hz] at z; cases z
          | fd d' => exact c d' hz
          | own t => rw [hz] at z; cases z
          | al s p =>
            rw [hz] at z
            have z' : unr env i (.al s p) = .fd d := z
            simp only [unr] at z'
            split at z'
            · split at z' <;> cases z'
            · cases z'
      obtain ⟨l1, R2⟩ := Rel.puts (l := r.map fun q => (q.1, unr env i q.2)) (T := T.map (unr env i) ++ [.un]) R1 (by simpa using hB) (by simp [hT]) (by simpa using hn) hnun
      rw [MP.puts]
      refine ⟨by rw [l1]; simp, ?_⟩
      have e3 : (r.map fun q => (q.1, unr env i q.2)).map (·.1) = r.map (·.1) := by rw [List.map_map]; rfl
      rw [e3] at R2
      exact R2
  termination_by l => l.length
end
end MP
set_option maxHeartbeats 1000000
set_option autoImplicit false
/-! mini: readings of expressions -/
namespace MP
open PySem PySem.Spec PyProof.Rows L2

/-- temporary values: with their entries -/
abbrev Tmp := List (Option V × En)
/-- entries and values stand as the heap has them -/
def Px (Φ : Fx) (B : List (Option V)) (env : Ev) (S : Tmp) (H : Hp) : Prop := B.length = env.length ∧ Φ.n ≤ env.length ∧ RelX Φ (B ++ S.map (·.1)) (env ++ S.map (·.2)) H

/-- what is fixed in a body: the frame, the callees, the classes, the wish about exceptions -/
structure Bx where
  Φ : Fx
  C : Cl
  cls : Nat → Value
  W : WX

def excW (b : Bx) (B : List (Option V)) (σ : L2.St) (c : Nat) (d : Dt) (env : Ev) : Prop :=
  ∀ (H' : Hp) (dx : Addr) (v : V) (fz : Addr → Prop) (gs : List G), H' dx = some (.xd [(("value" : Str), v)]) → ¬ fz dx → Rel b.Φ B env H' fz gs → IsD H' fz v d → b.W (b.cls c) (some dx) σ H'
def Sat {α : Type} (b : Bx) (σ : L2.St) (B : List (Option V)) (P : α → Prop) : Res α → Prop
  | .ok a => P a
  | .exc c d env => excW b B σ c d env
  | .stuck => False
abbrev SatE (b : Bx) (σ : L2.St) (B : List (Option V)) (S : Tmp) (Q : VK) (r : Res (Ev × En)) : Prop := Sat b σ B (fun q => ∀ v H', Px b.Φ B q.1 (S ++ [(some v, q.2)]) H' → Q v H') r
abbrev SatL (b : Bx) (σ : L2.St) (B : List (Option V)) (S : Tmp) (Q : List V → Hp → Prop) (r : Res (Ev × List En)) : Prop := Sat b σ B (fun q => ∀ vs H', vs.length = q.2.length → Px b.Φ B q.1 (S ++ (vs.map some).zip q.2) H' → Q vs H') r
/-- a test -/
abbrev SatT (b : Bx) (σ : L2.St) (B : List (Option V)) (S : Tmp) (Q : Bool → Hp → Prop) (r : Res (Ev × Bool)) : Prop := Sat b σ B (fun q => ∀ H', Px b.Φ B q.1 S H' → Q q.2 H') r
def evT (C : Cl) (e : Ex) (env : Ev) : Res (Ev × Bool) := (evE C e env).bind fun q => (ofO (truthE q.1 q.2)).bind fun t => .ok (q.1, t)
def tE (b : Bx) (e : Ex) : TE := fun σ H Q => ∃ R env S, Px b.Φ (σ ++ R) env S H ∧ SatE b σ (σ ++ R) S Q (evE b.C e env)
def tL (b : Bx) (e : Ex) : TA := fun σ H Q => ∃ R env S, Px b.Φ (σ ++ R) env S H ∧ SatL b σ (σ ++ R) S Q (evL b.C e env)

def tT (b : Bx) (e : Ex) : TT := fun σ H Q => ∃ R env S, Px b.Φ (σ ++ R) env S H ∧ SatT b σ (σ ++ R) S Q (evT b.C e env)

theorem Sat.bind {α β : Type} {b : Bx} {σ : L2.St} {B : List (Option V)} {r : Res α} {f : α → Res β} {P : β → Prop} {P' : α → Prop} (h : Sat b σ B P (r.bind f)) (k : ∀ q, r = .ok q → Sat b σ B P (f q) → P' q) : Sat b σ B P' r := by
  cases r with
  | ok q => exact k q rfl h
  | exc c d e => exact h
  | stuck => exact h
theorem Sat.mono {α : Type} {b : Bx} {σ : L2.St} {B : List (Option V)} {r : Res α} {P P' : α → Prop} (h : Sat b σ B P r) (k : ∀ q, r = .ok q → P q → P' q) : Sat b σ B P' r := by
  cases r with
  | ok q => exact k q rfl h
  | exc c d e => exact h
  | stuck => exact h
theorem Sat.ofO {α β : Type} {b : Bx} {σ : L2.St} {B : List (Option V)} {o : Option α} {f : α → Res β} {P : β → Prop} (h : Sat b σ B P ((ofO o).bind f)) : ∃ a, o = some a ∧ Sat b σ B P (f a) := by
  cases o with
  | none => exact h.elim
  | some a => exact ⟨a, rfl, h⟩

theorem peImp {X : Cx} {e : Expr} {t t' : TE} (h : PE X e t) (k : ∀ σ H Q, t' σ H Q → t σ H Q) : PE X e t' := ⟨fun pins s σ H Q I q => h.run pins s σ H Q I (k σ H Q q)⟩
theorem ptImp {X : Cx} {e : Expr} {t t' : TT} (h : PT X e t) (k : ∀ σ H Q, t' σ H Q → t σ H Q) : PT X e t' := ⟨fun pins s σ H Q I q => h.run pins s σ H Q I (k σ H Q q)⟩
theorem paImp {X : Cx} {e : List Expr} {t t' : TA} (h : PA X e t) (k : ∀ σ H Q, t' σ H Q → t σ H Q) : PA X e t' := ⟨fun pos pins s σ H Q I q => h.run pos pins s σ H Q I (k σ H Q q)⟩
theorem psImp {X : Cx} {e : Stmt} {t t' : TS} (h : PS X e t) (k : ∀ D σ H, t' D σ H → t D σ H) : PS X e t' := ⟨fun pins s σ H Q I q => h.run pins s σ H Q I (k Q σ H q)⟩
theorem pssImp {X : Cx} {e : List Stmt} {t t' : TS} (h : PSs X e t) (k : ∀ D σ H, t' D σ H → t D σ H) : PSs X e t' := ⟨fun pins s σ H Q I q => h.run pins s σ H Q I (k Q σ H q)⟩

/-! ### operations by values -/
/-- an operation on two values at the end -/
def rE2 (Φ : Fx) (f : Ev → En → En → Option En) : R2 := fun x y H Q => ∃ B env S ex ey z, Px Φ B env (S ++ [(some x, ex), (some y, ey)]) H ∧ f env ex ey = some z ∧ ∀ v H', Px Φ B env (S ++ [(some v, z)]) H' → Q v H'
theorem opImp {X : Cx} {f : Value → Value → Sem Value} {r r' : R2} (h : OpR X f r) (k : ∀ x y H Q, r' x y H Q → r x y H Q) : OpR X f r' := fun pins s σ H x y v u Q I rx ry q => h pins s σ H x y v u Q I rx ry (k x y H Q q)

theorem pe_bin2 {X : Cx} {b : Bx} {o : Operator} {ea eb : Ex} {a c : Expr} {pos : Pos} (ha : PE X a (tE b ea)) (hb : PE X c (tE b eb)) (ho : OpR X (binaryOp o) (rE2 b.Φ (binE o))) : PE X (.BinOp a o c pos) (tE b (.bin o ea eb)) := by
  refine peImp (pe_op ho ha hb) fun σ H Q ⟨R, env, S, p, q⟩ => ?_
  simp only [evE] at q
  refine ⟨R, env, S, p, q.bind fun q1 _ s1 v1 H1 p1 => ?_⟩
  refine ⟨R, q1.1, S ++ [(some v1, q1.2)], p1, s1.bind fun q2 _ s2 v2 H2 p2 => ?_⟩
  obtain ⟨z, hz, s3⟩ := s2.ofO
  exact ⟨σ ++ R, q2.1, S, q1.2, q2.2, z, by simpa using p2, hz, fun v H' p3 => s3 v H' p3⟩
end MP
set_option maxHeartbeats 1000000
set_option autoImplicit false
/-! mini: operators by values -/
namespace MP
open PySem PySem.Spec PyProof.Rows L2
theorem mulW_of {i j : Int} (h : (limB i && limB j) = true) : CMulW i j := by
  simp only [limB, Bool.and_eq_true, decide_eq_true_eq] at h
  exact wide_mul h.1 h.2 (by decide) (by decide) (by decide)
theorem divW_of {i j : Int} (h : 0 < j ∧ j < divN) : CDivW i j := wide_div h.1 (b := 100) (by
  have h2 : j < 1000000000000000000000000000000 := h.2
  have h1 := h.1
  have e : (2 : Nat) ^ 100 = 1267650600228229401496703205376 := by decide
  rw [e]
  omega) (by decide) (by decide)
theorem iop_mulW {X : Cx} : OpR X (inplaceOp .Mult) (rI CMulW fun i j => .int (i * j)) := opI fun _ _ _ _ _ _ _ hc q => imul_int q hc.ok
section
variable {Φ : Fx} {B : List (Option V)} {env : Ev} {S T : Tmp} {H H' : Hp} {fz : Addr → Prop} {gs : List G}

theorem Px.rel (p : Px Φ B env S H) : ∃ fz gs, Rel Φ (B ++ S.map (·.1)) (env ++ S.map (·.2)) H fz gs := p.2.2
theorem Rel.ofn (R : Rel Φ (B ++ S.map (·.1)) (env ++ S.map (·.2)) H fz gs) {j : Nat} {w : Option V} {e : En} (hj : S[j]? = some (w, e)) : ∀ s p, e = .al s p → s < Φ.n := fun s p q => by
  have : (env ++ S.map (·.2))[env.length + j]? = some (.al s p) := by rw [get_app_right, List.getElem?_map, hj, ← q]; rfl
  exact R.als _ _ _ this
theorem Rel.temp (R : Rel Φ (B ++ S.map (·.1)) (env ++ S.map (·.2)) H fz gs) (hB : B.length = env.length) (hn : Φ.n ≤ env.length) {j : Nat} {v : V} {e : En} {t : Tr} (hj : S[j]? = some (some v, e)) (hr : res env e = some t) :
    ∃ g, g.val = v ∧ OwnG H fz g t ∧ ∀ a ∈ g.fp, a ∈ G.fps gs := by
  have h1 : (env ++ S.map (·.2))[env.length + j]? = some e := by rw [get_app_right, List.getElem?_map, hj]; rfl
  have h2 : (B ++ S.map (·.1))[env.length + j]? = some (some v) := by rw [← hB, get_app_right, List.getElem?_map, hj]; rfl
  rw [← res_app (l := S.map (·.2)) hn (R.ofn hj)] at hr
  obtain ⟨g, hv, ho, hf⟩ := R.look h1 hr
  rw [h2] at hv
  cases hv
  exact ⟨g, rfl, ho, hf⟩
/-- its data, to be read now -/
theorem Rel.data (R : Rel Φ (B ++ S.map (·.1)) (env ++ S.map (·.2)) H fz gs) (hB : B.length = env.length) (hn : Φ.n ≤ env.length) {j : Nat} {v : V} {e : En} {d : Dt} (hj : S[j]? = some (some v, e)) (hr : peek env e = some d) :
    IsD H (fun a => fz a ∨ a ∈ G.fps gs) v d := by
  unfold peek at hr
  obtain ⟨t, ht, rfl⟩ := Option.map_eq_some_iff.mp hr
  obtain ⟨g, rfl, ho, hf⟩ := R.temp hB hn hj ht
  exact ho.freeze (fun a ha => .inl ha) fun a ha => .inr (hf a ha)

theorem tmp_last {S : Tmp} {a : Option V × En} {l : Tmp} : (S ++ a :: l)[S.length]? = some a := by
  have := get_app_right (l := S) (m := a :: l) (j := 0)
  simpa using this
theorem tmp_last1 {S : Tmp} {a c : Option V × En} {l : Tmp} : (S ++ a :: c :: l)[S.length + 1]? = some c := by
  have := get_app_right (l := S) (m := a :: c :: l) (j := 1)
  simpa using this

/-- the last values dropped, frozen data handed back -/
theorem Rel.retD (R : Rel Φ (B ++ (S ++ T).map (·.1)) (env ++ (S ++ T).map (·.2)) H fz gs) (hB : B.length = env.length) (hn : Φ.n ≤ env.length) (x : Hext H H') {v : V} {d : Dt} (h : IsD H' (fun a => fz a ∨ New H H' a) v d) :
    Px Φ B env (S ++ [(some v, .fr d)]) H' := by
  have R1 : Rel Φ (B ++ S.map (·.1)) (env ++ S.map (·.2)) H fz (gs.take (env ++ S.map (·.2)).length) := by
    refine Rel.drop (ws := T.map (·.1)) (xs := T.map (·.2)) ?_ (by simp [hB]) (by simp; omega)
    simpa using R
  refine ⟨hB, hn, ?_⟩
  have := R1.pushD x h
  simpa using this
theorem Rel.retF (R : Rel Φ (B ++ (S ++ T).map (·.1)) (env ++ (S ++ T).map (·.2)) H fz gs) (hB : B.length = env.length) (hn : Φ.n ≤ env.length) {v : V} {d : Dt} (h : IsD H fz v d) :
    Px Φ B env (S ++ [(some v, .fr d)]) H := R.retD hB hn Hext.refl (h.mono Keep.refl fun _ z => .inl z)
/-- a new list of frozen data -/
theorem Rel.retL (R : Rel Φ (B ++ (S ++ T).map (·.1)) (env ++ (S ++ T).map (·.2)) H fz gs) (hB : B.length = env.length) (hn : Φ.n ≤ env.length) {vs : List V} {ds : List Dt} (hl : vs.length = ds.length)
    (h : ∀ (i : Nat) (v : V) (d : Dt), vs[i]? = some v → ds[i]? = some d → IsD H fz v d) {p : Addr} (hp : H p = none) : Px Φ B env (S ++ [(some (.ref p), newList ds)]) (upd H p (.lst vs)) := by
  have R1 : Rel Φ (B ++ S.map (·.1)) (env ++ S.map (·.2)) H fz (gs.take (env ++ S.map (·.2)).length) := by
    refine Rel.drop (ws := T.map (·.1)) (xs := T.map (·.2)) ?_ (by simp [hB]) (by simp; omega)
    simpa using R
  refine ⟨hB, hn, ?_⟩
  have R2 := R1.ext (Hext.new (o := .lst vs) hp)
  have fps0 : G.fps (vs.map G.lf) = [] := by
    clear h hl R1 R2
    induction vs with
    | nil => rfl
    | cons v vs ih => simp [G.fps, G.fp, ih]
  have vals : (vs.map G.lf).map G.val = vs := by
    rw [List.map_map]
    have : (G.val ∘ G.lf) = id := rfl
    rw [this, List.map_id]
  have own : OwnG (upd H p (.lst vs)) fz (.nd p (vs.map .lf)) (.nd .ls (ds.map .fr)) := by
    refine .nd .ls (by rw [upd_same, vals]; rfl) trivial (by simpa using hl) (fun i c t hc ht => ?_) (by intro h; cases h)
    rw [List.getElem?_map] at hc ht
    obtain ⟨v, hv, rfl⟩ := Option.map_eq_some_iff.mp hc
    obtain ⟨d, hd, rfl⟩ := Option.map_eq_some_iff.mp ht
    exact .fr ((h i v d hv hd).mono (Hext.new hp).keep fun _ z => z)
  have fp1 : (G.nd p (vs.map .lf)).fp = [p] := by simp [G.fp, fps0]
  have R3 := R2.pushO own (by rw [fp1]; simp) (fun a ha => by rw [fp1] at ha; simp at ha; subst ha; exact R1.noFp hp) (fun a ha => by rw [fp1] at ha; simp at ha; subst ha; exact fun z => R.tr a z hp) fun a ha o ho => by
    rw [fp1] at ha; simp at ha; subst ha
    by_cases hs : a ∈ Φ.S0
    · exact hs
    · have := (R.frm a o ho hs).1
      rw [hp] at this; cases this
  have e1 : B ++ (S ++ [(some (V.ref p), newList ds)]).map (·.1) = B ++ S.map (·.1) ++ [some (V.ref p)] := by simp
  have e2 : env ++ (S ++ [(some (V.ref p), newList ds)]).map (·.2) = env ++ S.map (·.2) ++ [newList ds] := by simp
  rw [e1, e2]
  exact ⟨_, _, R3⟩

/-! ### what a tree's value is -/
theorem OwnG.frD {g : G} {d : Dt} (h : OwnG H fz g (.fr d)) : IsD H fz g.val d := by
  cases h with
  | fr h => exact h
theorem OwnG.int_ {g : G} {i : Int} (h : OwnG H fz g (.fr (.int i))) : g.val = .int i := by
  cases h with
  | fr h => cases h with
    | int => rfl
    | nd sh e _ _ _ _ _ => cases sh <;> cases e
theorem OwnG.str_ {g : G} {i : Str} (h : OwnG H fz g (.fr (.str i))) : g.val = .str i := by
  cases h with
  | fr h => cases h with
    | str => rfl
    | nd sh e _ _ _ _ _ => cases sh <;> cases e
theorem OwnG.bool_ {g : G} {i : Bool} (h : OwnG H fz g (.fr (.bool i))) : g.val = .bl i := by
  cases h with
  | fr h => cases h with
    | bl => rfl
    | nd sh e _ _ _ _ _ => cases sh <;> cases e
theorem OwnG.none_ {g : G} (h : OwnG H fz g (.fr .none)) : g.val = .non := by
  cases h with
  | fr h => cases h with
    | non => rfl
    | nd sh e _ _ _ _ _ => cases sh <;> cases e
theorem IsD.tup_ {v : V} {ds : List Dt} (h : IsD H fz v (.tuple ds)) : ∃ a vs, v = .ref a ∧ fz a ∧ H a = some (.tup vs) ∧ vs.length = ds.length ∧ ∀ (i : Nat) (v : V) (d : Dt), vs[i]? = some v → ds[i]? = some d → IsD H fz v d := by
  cases h with
  | nd sh e hf r ok hl ch =>
    rename_i a vs ds'
    cases sh with
    | tp => cases e; exact ⟨a, vs, rfl, hf, r.elim id fun z => (nomatch z.1), hl, ch⟩
    | ls => cases e
    | dk ks => cases e
    | dt ks => cases e
theorem IsD.lst_ {v : V} {ds : List Dt} (h : IsD H fz v (.list ds)) : ∃ a vs, v = .ref a ∧ fz a ∧ Rd H a (.lst vs) ∧ vs.length = ds.length ∧ ∀ (i : Nat) (v : V) (d : Dt), vs[i]? = some v → ds[i]? = some d → IsD H fz v d := by
  cases h with
  | nd sh e hf r ok hl ch =>
    rename_i a vs ds'
    cases sh with
    | ls => cases e; exact ⟨a, vs, rfl, hf, r.rd, hl, ch⟩
    | tp => cases e
    | dk ks => cases e
    | dt ks => cases e
theorem OwnG.tup_ {g : G} {ds : List Dt} (h : OwnG H fz g (.fr (.tuple ds))) : ∃ a vs, g.val = .ref a ∧ H a = some (.tup vs) ∧ vs.length = ds.length ∧ ∀ (i : Nat) (v : V) (d : Dt), vs[i]? = some v → ds[i]? = some d → IsD H fz v d := by
  cases h with
  | fr h => obtain ⟨a, vs, e, _, r, l, c⟩ := h.tup_; exact ⟨a, vs, e, r, l, c⟩
theorem allFr_get : ∀ {ts : List Tr} {ds : List Dt}, allFr ts = some ds → ts = ds.map .fr
  | [], ds, h => by simp only [allFr, Option.some.injEq] at h; subst h; rfl
  | .fr d :: ts, ds, h => by
    simp only [allFr] at h
    obtain ⟨l, hl, rfl⟩ := Option.map_eq_some_iff.mp h
    rw [allFr_get hl]; rfl
  | .nd sh us :: ts, ds, h => by simp [allFr] at h
theorem allFr_map (ds : List Dt) : allFr (ds.map .fr) = some ds := by
  induction ds with
  | nil => rfl
  | cons d ds ih => simp [allFr, ih]
theorem OwnG.nd_ {g : G} {sh : Sh} {ts : List Tr} (h : OwnG H fz g (.nd sh ts)) : ∃ a cs, g = .nd a cs ∧ H a = some (sh.ho (cs.map G.val)) ∧ sh.ok cs.length ∧ cs.length = ts.length ∧ ∀ (i : Nat) (c : G) (t : Tr), cs[i]? = some c → ts[i]? = some t → OwnG H fz c t := by
  cases h with
  | nd sh e ok hl ch => exact ⟨_, _, rfl, e, ok, hl, ch⟩
/-- a flat node -/
theorem OwnG.ndt {g : G} {sh : Sh} {ts : List Tr} (h : OwnG H fz g (.nd sh ts)) : sh ≠ .tp := by
  cases h
  assumption
theorem OwnG.flat {g : G} {sh : Sh} {ts : List Tr} {ds : List Dt} (h : OwnG H fz g (.nd sh ts)) (hd : allFr ts = some ds) : ∃ a vs, g.val = .ref a ∧ H a = some (sh.ho vs) ∧ sh.ok vs.length ∧ vs.length = ds.length ∧ ∀ (i : Nat) (v : V) (d : Dt), vs[i]? = some v → ds[i]? = some d → IsD H fz v d := by
  obtain ⟨a, cs, rfl, e, ok, hl, ch⟩ := h.nd_
  have ht := allFr_get hd
  subst ht
  refine ⟨a, cs.map G.val, rfl, e, by simpa using ok, by simpa using hl, fun i v d hv he => ?_⟩
  rw [List.getElem?_map] at hv
  obtain ⟨c, hc, rfl⟩ := Option.map_eq_some_iff.mp hv
  have := ch i c (.fr d) hc (by rw [List.getElem?_map, he]; rfl)
  cases this with
  | fr h => exact h
/-- a list whose items are frozen -/
theorem OwnG.lItems {g : G} {t : Tr} {ds : List Dt} (h : OwnG H fz g t) (hd : lstOf t = some ds) :
    ∃ a vs, g.val = .ref a ∧ Rd H a (.lst vs) ∧ vs.length = ds.length ∧ ∀ (i : Nat) (v : V) (d : Dt), vs[i]? = some v → ds[i]? = some d → IsD H fz v d := by
  cases t with
  | fr d =>
    cases d with
    | list es =>
      cases hd
      cases h with
      | fr h => obtain ⟨a, vs, e, _, r, l, c⟩ := h.lst_; exact ⟨a, vs, e, r, l, c⟩
    | _ => cases hd
  | nd sh ts =>
    cases sh with
    | ls =>
      obtain ⟨a, vs, e, r, _, l, c⟩ := h.flat (ds := ds) hd
      exact ⟨a, vs, e, .inl r, l, c⟩
    | _ => cases hd
theorem Rel.lst (R : Rel Φ (B ++ S.map (·.1)) (env ++ S.map (·.2)) H fz gs) (hB : B.length = env.length) (hn : Φ.n ≤ env.length) {j : Nat} {v : V} {e : En} {ds : List Dt} (hj : S[j]? = some (some v, e)) (hr : lItems env e = some ds) :
    ∃ a vs, v = .ref a ∧ Rd H a (.lst vs) ∧ vs.length = ds.length ∧ ∀ (i : Nat) (v : V) (d : Dt), vs[i]? = some v → ds[i]? = some d → IsD H fz v d := by
  unfold MP.lItems at hr
  obtain ⟨t, ht, hd⟩ := Option.bind_eq_some_iff.mp hr
  obtain ⟨g, rfl, ho, _⟩ := R.temp hB hn hj ht
  exact ho.lItems hd
/-- a list or a tuple whose items are frozen -/
theorem Rel.seq (R : Rel Φ (B ++ S.map (·.1)) (env ++ S.map (·.2)) H fz gs) (hB : B.length = env.length) (hn : Φ.n ≤ env.length) {j : Nat} {v : V} {e : En} {ds : List Dt} (hj : S[j]? = some (some v, e)) (hr : seqItems env e = some ds) :
    ∃ a vs, v = .ref a ∧ (Rd H a (.lst vs) ∨ Rd H a (.tup vs)) ∧ vs.length = ds.length ∧ ∀ (i : Nat) (v : V) (d : Dt), vs[i]? = some v → ds[i]? = some d → IsD H fz v d := by
  unfold MP.seqItems at hr
  obtain ⟨t, ht, hd⟩ := Option.bind_eq_some_iff.mp hr
  obtain ⟨g, rfl, ho, _⟩ := R.temp hB hn hj ht
  unfold seqOf at hd
  split at hd
  · cases hd
    obtain ⟨a, vs, e, r, l, c⟩ := ho.tup_
    exact ⟨a, vs, e, .inr (.inl r), l, c⟩
  · obtain ⟨a, vs, e, r, l, c⟩ := ho.lItems hd
    exact ⟨a, vs, e, .inl r, l, c⟩
end

/-! ### lists -/
section
variable {X : Cx} {pins : List (Addr × Obj)} {σ : L2.St} {H : Hp} {s : Shared} {l b : Addr} {xs zs : List V}
theorem rd_lst (I : Inv X pins σ H s) (r : Rd H l (.lst xs)) : xs.length ≤ sizeLine ∧ ∃ (its : List Value) (n : Nat), Vals xs its ∧ its.length = xs.length ∧ s.heap.get? l = some { cls := .type "list", data := .seq its.toArray n } := by
  obtain ⟨z, its, n, rv, e⟩ := r.ok I.hok
  exact ⟨z, its, n, rv, rv.length.symm, e⟩
def rCatR : R2 := fun x y H Q => ∃ l b xs zs, x = .ref l ∧ y = .ref b ∧ Rd H l (.lst xs) ∧ Rd H b (.lst zs) ∧ xs.length + zs.length ≤ sizeLine ∧ ∀ p, H p = none → Q (.ref p) (upd H p (.lst (xs ++ zs)))
theorem op_catR : OpR X (binaryOp .Add) rCatR := by
  rintro pins s σ H x y v u Q I rx ry ⟨l, b, xs, zs, rfl, rfl, hl, hb, hz, q⟩
  cases rx; cases ry
  obtain ⟨_, its, n, r1, e1, o1⟩ := rd_lst I hl
  obtain ⟨_, its2, m, r2, e2, o2⟩ := rd_lst I hb
  refine PySem.P.add_list o1 o2 ?_ (by simp only [List.size_toArray]; omega)
  rw [show its.toArray ++ its2.toArray = (its ++ its2).toArray by simp]
  refine ⟨.ref _, _, I.lnew (t' := s.toks) (r1.append r2) ?_, rfl, q _ I.fresh⟩
  simpa using hz
def rRepR : R2 := fun x y H Q => ∃ l k xs, x = .ref l ∧ y = .int k ∧ Rd H l (.lst xs) ∧ -(2 ^ 63) ≤ k ∧ k < 2 ^ 63 ∧ xs.length * k.toNat ≤ sizeLine ∧ ∀ p, H p = none → Q (.ref p) (upd H p (.lst (List.replicate k.toNat xs).flatten))
theorem rep_arr (its : List Value) (k : Nat) : List.foldl (fun a c => a ++ c) #[] (List.replicate (if its.toArray.isEmpty = true then 0 else k) its.toArray) = (List.replicate k its).flatten.toArray := by
  have base : ∀ m : Nat, List.foldl (fun a c => a ++ c) #[] (List.replicate m its.toArray) = (List.replicate m its).flatten.toArray := fun m => by
    simpa using foldl_rep its m []
  rw [base]
  cases its with
  | nil => simp
  | cons w ws => simp
theorem op_repR : OpR X (binaryOp .Mult) rRepR := by
  rintro pins s σ H x y v u Q I rx ry ⟨l, k, xs, rfl, rfl, hl, k1, k2, hz, q⟩
  cases rx
  obtain ⟨tk, rfl⟩ := ry
  obtain ⟨_, its, n, rv, el, ob⟩ := rd_lst I hl
  have sz : its.toArray.size * k.toNat ≤ sizeLine := by simpa [el] using hz
  have c1 : ¬ its.toArray.size * k.toNat > (2 ^ 63 - 1) / 8 := by
    have big : (sizeLine : Nat) ≤ (2 ^ 63 - 1) / 8 := by decide
    omega
  have c2 : ¬ (!Builtin.List.listFitsIndex k) = true := by simp [fitsIndex_both k1 k2]
  have c3 : ¬ Builtin.List.listTooLong (its.toArray.size * k.toNat) = true := fun z => by rw [notLongL sz] at z; cases z
  have inner := AutoListH.list___mul___list_int_3 l its.toArray n k tk c2 c1 c3
  have outer := int___rmul___int_list k tk l its.toArray n
  refine wpAny_binaryOp_repeat_ref (T := "list") (U := "int") (by decide) ⟨_, ob, rfl⟩ (fun s2 => typeIs_int s2 k tk) noFill_list_mul
    F.fills_int_mul F.slot_int_rmul repeat_list F.slot_int_index.lookup ?_
  refine call_meets F.slot_int_rmul (typeIs_int s k tk) F.entry_int_rmul (F.args_int_rmul_2 _ _) outer ⟨ob, rfl, ⟨_, ob, rfl⟩, ?_⟩
  refine call_meets F.slot_list_mul ⟨_, ob, rfl⟩ F.entry_list_mul (F.args_list_mul_2 _ _) inner ⟨ob, ?_⟩
  rw [rep_arr]
  refine ⟨.ref _, _, I.lnew (t' := s.toks) (rv.rep k.toNat) ?_, rfl, q _ I.fresh⟩
  rw [PyProof.Rows.lm_len_rep_flat, Nat.mul_comm]
  exact hz
end

/-! ### + - * // % ** -/
theorem IsD.rep {H : Hp} {fz : Addr → Prop} {vs : List V} {ds : List Dt} (hl : vs.length = ds.length) (h : ∀ (i : Nat) (v : V) (d : Dt), vs[i]? = some v → ds[i]? = some d → IsD H fz v d) : ∀ (k : Nat),
    (List.replicate k vs).flatten.length = (List.replicate k ds).flatten.length ∧ ∀ (i : Nat) (v : V) (d : Dt), (List.replicate k vs).flatten[i]? = some v → (List.replicate k ds).flatten[i]? = some d → IsD H fz v d
  | 0 => ⟨rfl, fun i v d hv => by simp at hv⟩
  | k + 1 => by
    obtain ⟨l, c⟩ := IsD.rep hl h k
    simp only [List.replicate_succ, List.flatten_cons, List.length_append]
    refine ⟨by omega, fun i v d hv hd => ?_⟩
    by_cases hi : i < vs.length
    · rw [List.getElem?_append_left hi] at hv
      rw [List.getElem?_append_left (by omega)] at hd
      exact h i v d hv hd
    · rw [List.getElem?_append_right (by omega)] at hv
      rw [List.getElem?_append_right (by omega), ← hl] at hd
      exact c _ v d hv hd
theorem IsD.cat {H : Hp} {fz : Addr → Prop} {vs ws : List V} {ds es : List Dt} (hl : vs.length = ds.length) (h : ∀ (i : Nat) (v : V) (d : Dt), vs[i]? = some v → ds[i]? = some d → IsD H fz v d)
    (h2 : ∀ (i : Nat) (v : V) (d : Dt), ws[i]? = some v → es[i]? = some d → IsD H fz v d) : ∀ (i : Nat) (v : V) (d : Dt), (vs ++ ws)[i]? = some v → (ds ++ es)[i]? = some d → IsD H fz v d := fun i v d hv hd => by
  by_cases hi : i < vs.length
  · rw [List.getElem?_append_left hi] at hv
    rw [List.getElem?_append_left (by omega)] at hd
    exact h i v d hv hd
  · rw [List.getElem?_append_right (by omega)] at hv
    rw [List.getElem?_append_right (by omega), ← hl] at hd
    exact h2 _ v d hv hd
/-- a new tuple -/
theorem isD_newT {H : Hp} {fz : Addr → Prop} {p : Addr} {vs : List V} {ds : List Dt} (hp : H p = none) (hl : vs.length = ds.length) (h : ∀ (i : Nat) (v : V) (d : Dt), vs[i]? = some v → ds[i]? = some d → IsD H fz v d) :
    IsD (upd H p (.tup vs)) (fun a => fz a ∨ New H (upd H p (.tup vs)) a) (.ref p) (.tuple ds) :=
  .nd .tp rfl (.inr ⟨hp, by rw [upd_same]; exact fun z => by cases z⟩) (.inl upd_same) trivial hl fun i v d hv hd => (h i v d hv hd).mono (Hext.new hp).keep fun _ z => .inl z

theorem op_binE {X : Cx} {Φ : Fx} (o : Operator) : OpR X (binaryOp o) (rE2 Φ (binE o)) := by
  rintro pins s σ H x y v u Q I rx ry ⟨B, env, S, ex, ey, z, ⟨hB, hn, fz, gs, R⟩, hz, q⟩
  have jx : (S ++ [(some x, ex), (some y, ey)])[S.length]? = some (some x, ex) := tmp_last
  have jy : (S ++ [(some x, ex), (some y, ey)])[S.length + 1]? = some (some y, ey) := tmp_last1
  unfold binE at hz
  split at hz
  · rename_i xs hxs
    obtain ⟨a, vs, rfl, ra, la, ca⟩ := R.lst hB hn jx hxs
    cases o <;> try cases hz
    · -- +
      cases hys : lItems env ey with
      | none => rw [hys] at hz; cases hz
      | some ys =>
        rw [hys] at hz
        obtain ⟨b, ws, rfl, rb, lb, cb⟩ := R.lst hB hn jy hys
        simp only at hz
        split at hz
        · rename_i hsz
          cases hz
          refine op_catR pins s σ H _ _ v u Q I rx ry ⟨a, b, vs, ws, rfl, rfl, ra, rb, by rw [la, lb]; exact hsz, fun p hp => q _ _ ?_⟩
          exact R.retL hB hn (by simp [la, lb]) (IsD.cat la ca cb) hp
        · cases hz
    · -- *
      simp only at hz
      split at hz
      · rename_i k hk
        split at hz
        · rename_i hsz
          cases hz
          obtain ⟨g, rfl, ho, _⟩ := R.temp hB hn jy hk
          obtain ⟨k1, k2, k3⟩ := hsz
          obtain ⟨l, c⟩ := IsD.rep la ca k.toNat
          refine op_repR pins s σ H _ _ v u Q I rx ry ⟨a, k, vs, rfl, ho.int_, ra, k1, k2, by rw [la]; exact k3, fun p hp => q _ _ ?_⟩
          exact R.retL hB hn l c hp
        · cases hz
      · cases hz
  · split at hz
    · rename_i da db hda hdb
      obtain ⟨d, hd, rfl⟩ := Option.map_eq_some_iff.mp hz
      obtain ⟨g, rfl, hog, _⟩ := R.temp hB hn jx hda
      obtain ⟨g', rfl, hog', _⟩ := R.temp hB hn jy hdb
      unfold binD at hd
      split at hd
      · cases hd
        exact op_add pins s σ H _ _ v u Q I rx ry ⟨_, _, hog.int_, hog'.int_, q _ _ (R.retF hB hn (.int _))⟩
      · cases hd
        exact op_sub pins s σ H _ _ v u Q I rx ry ⟨_, _, hog.int_, hog'.int_, q _ _ (R.retF hB hn (.int _))⟩
      · split at hd
        · rename_i i j hc
          cases hd
          rw [Bool.or_eq_true] at hc
          rcases hc with hc | hc
          · refine op_mul pins s σ H _ _ v u Q I rx ry ⟨i, j, hog.int_, hog'.int_, ?_, q _ _ (R.retF hB hn (.int _))⟩
            simp only [lim64, Bool.or_eq_true, Bool.and_eq_true, decide_eq_true_eq] at hc
            exact hc
          · exact op_mulW pins s σ H _ _ v u Q I rx ry ⟨i, j, hog.int_, hog'.int_, mulW_of hc, q _ _ (R.retF hB hn (.int _))⟩
        · cases hd
      · split at hd
        · rename_i hc
          cases hd
          exact op_fdivW pins s σ H _ _ v u Q I rx ry ⟨_, _, hog.int_, hog'.int_, divW_of hc, q _ _ (R.retF hB hn (.int _))⟩
        · cases hd
      · split at hd
        · rename_i hc
          cases hd
          exact op_mod pins s σ H _ _ v u Q I rx ry ⟨_, _, hog.int_, hog'.int_, hc, q _ _ (R.retF hB hn (.int _))⟩
        · cases hd
      · split at hd
        · rename_i hc
          cases hd
          exact op_pow pins s σ H _ _ v u Q I rx ry ⟨_, _, hog.int_, hog'.int_, hc, q _ _ (R.retF hB hn (.int _))⟩
        · cases hd
      · split at hd
        · rename_i hc
          cases hd
          exact op_add_str pins s σ H _ _ v u Q I rx ry ⟨_, _, hog.str_, hog'.str_, hc, q _ _ (R.retF hB hn (.str _))⟩
        · cases hd
      · split at hd
        · rename_i xs ys hc
          cases hd
          obtain ⟨a, vs, e1, r1, l1, c1⟩ := hog.tup_
          obtain ⟨b, ws, e2, r2, l2, c2⟩ := hog'.tup_
          have h1 := hog.frD
          have h2 := hog'.frD
          rw [e1] at h1
          rw [e2] at h2
          refine op_catA pins s σ H _ _ v u Q I rx ry ⟨a, b, vs, ws, e1, e2, SqT.of r1, SqT.of r2, by rw [l1, l2]; exact hc, fun z => ?_, fun _ z => ?_, fun z1 z2 p hp => ?_⟩
          · subst z
            have : xs = [] := List.eq_nil_of_length_eq_zero (by simpa using l1.symm)
            subst this
            exact q _ _ (R.retF hB hn (by simpa using h2))
          · subst z
            have : ys = [] := List.eq_nil_of_length_eq_zero (by simpa using l2.symm)
            subst this
            exact q _ _ (R.retF hB hn (by simpa using h1))
          · exact q _ _ (R.retD hB hn (Hext.new hp) (isD_newT hp (by simp [l1, l2]) (IsD.cat l1 c1 c2)))
        · cases hd
      · split at hd
        · rename_i xs k hc
          cases hd
          obtain ⟨a, vs, e1, r1, l1, c1⟩ := hog.tup_
          obtain ⟨k0, k1, k2, k3⟩ := hc
          obtain ⟨l, c⟩ := IsD.rep l1 c1 k.toNat
          refine op_repT pins s σ H _ _ v u Q I rx ry ⟨a, k, vs, e1, hog'.int_, SqT.of r1, fun z => k0 (List.eq_nil_of_length_eq_zero (by rw [← l1, z]; rfl)), k1, k2, by rw [l1]; exact k3, fun p hp => ?_⟩
          exact q _ _ (R.retD hB hn (Hext.new hp) (isD_newT hp l c))
        · cases hd
      · cases hd
    · cases hz
end MP
set_option maxHeartbeats 1000000
set_option autoImplicit false
/-! mini: comparisons by values -/
namespace MP
open PySem PySem.Spec PyProof.Rows L2
section
variable {Φ : Fx} {B : List (Option V)} {env : Ev} {S T : Tmp} {H H' : Hp} {fz : Addr → Prop} {gs : List G} {K : PySem.W.Frag}

theorem dpAll_of : ∀ {vs : List V} {ds : List Dt}, vs.length = ds.length → (∀ (i : Nat) (v : V) (d : Dt), vs[i]? = some v → ds[i]? = some d → Dp K H v d) → DpAll K H vs ds
  | [], [], _, _ => .nil
  | v :: vs, d :: ds, hl, h => .cons (h 0 v d rfl rfl) (dpAll_of (by simpa using hl) fun i v d hv hd => h (i + 1) v d (by simpa using hv) (by simpa using hd))
theorem noDict_get : ∀ {ds : List Dt} {i : Nat} {d : Dt}, PyData.hasDictAll ds = false → ds[i]? = some d → d.hasDict = false
  | [], _, _, _, h => by simp at h
  | e :: ds, 0, d, h, q => by
    simp only [List.getElem?_cons_zero, Option.some.injEq] at q
    subst q
    simp only [PyData.hasDictAll, Bool.or_eq_false_iff] at h
    exact h.1
  | e :: ds, i + 1, d, h, q => by
    simp only [PyData.hasDictAll, Bool.or_eq_false_iff] at h
    exact noDict_get h.2 (by simpa using q)
theorem IsD.dp {v : V} {d : Dt} (h : IsD H fz v d) : d.hasDict = false → Dp K H v d := by
  induction h with
  | non => exact fun _ => .non
  | bl b => exact fun _ => .bl b
  | int i => exact fun _ => .int i
  | str x => exact fun _ => .str x
  | @nd a vs ds d sh e hf r ok hl ch ih =>
    intro nd
    subst e
    cases sh with
    | ls => exact .lst (.inl r.rd) (dpAll_of hl fun i v d hv hd => ih i v d hv hd (noDict_get (by simpa [PyData.hasDict, Sh.dat] using nd) hd))
    | tp => exact .tup (.inl r.rd) (dpAll_of hl fun i v d hv hd => ih i v d hv hd (noDict_get (by simpa [PyData.hasDict, Sh.dat] using nd) hd))
    | dk ks => simp [PyData.hasDict, Sh.dat] at nd
    | dt ks => simp [PyData.hasDict, Sh.dat] at nd
theorem shaped_noDict {d : Dt} (h : SeqAt.shaped d = true) : d.hasDict = false := PyData.hasDict_of_canLay d (SeqAt.canLay_of_shaped h)

/-! flat items -/
def vD : Dt → V
  | .none => .non
  | .bool b => .bl b
  | .int i => .int i
  | .str s => .str s
  | _ => .non
theorem IsD.flat_ {v : V} {d : Dt} (h : IsD H fz v d) (f : flatD d = true) : v = vD d ∧ flatV v = true := by
  cases h with
  | non => exact ⟨rfl, rfl⟩
  | bl b => exact ⟨rfl, rfl⟩
  | int i => exact ⟨rfl, rfl⟩
  | str x => exact ⟨rfl, rfl⟩
  | nd sh e _ _ _ _ _ => subst e; cases sh <;> simp [flatD, Sh.dat] at f
theorem eqV_vD {d e : Dt} (f : flatD d = true) (g : flatD e = true) : eqV (vD d) (vD e) = PyData.eqv d e := by
  cases d <;> cases e <;> first | rfl | (simp [flatD] at f; done) | (simp [flatD] at g; done) | simp [vD, eqV, PyData.eqv]
theorem flats_of : ∀ {vs : List V} {ds : List Dt}, vs.length = ds.length → (∀ (i : Nat) (v : V) (d : Dt), vs[i]? = some v → ds[i]? = some d → IsD H fz v d) → ds.all flatD = true → vs = ds.map vD ∧ vs.all flatV = true
  | [], [], _, _, _ => ⟨rfl, rfl⟩
  | v :: vs, d :: ds, hl, h, f => by
    simp only [List.all_cons, Bool.and_eq_true] at f
    obtain ⟨e, fv⟩ := (h 0 v d rfl rfl).flat_ f.1
    obtain ⟨e2, fvs⟩ := flats_of (vs := vs) (ds := ds) (by simpa using hl) (fun i v d hv hd => h (i + 1) v d (by simpa using hv) (by simpa using hd)) f.2
    subst e e2
    exact ⟨rfl, by simp only [List.all_cons, Bool.and_eq_true]; exact ⟨fv, fvs⟩⟩
theorem inV_vD {d : Dt} {ds : List Dt} (f : flatD d = true) (g : ds.all flatD = true) : inV (vD d) (ds.map vD) = ds.any fun e => PyData.eqv e d := by
  unfold inV
  induction ds with
  | nil => rfl
  | cons e ds ih =>
    simp only [List.all_cons, Bool.and_eq_true] at g
    simp only [List.map_cons, List.any_cons, eqV_vD g.1 f, ih g.2]
/-- ints -/
theorem ints_of : ∀ {vs : List V} {ds : List Dt} {ns : List Int}, vs.length = ds.length → (∀ (i : Nat) (v : V) (d : Dt), vs[i]? = some v → ds[i]? = some d → IsD H fz v d) → intsOf ds = some ns → vs = ns.map V.int ∧ ns.length = ds.length
  | [], [], ns, _, _, h => by simp only [intsOf, Option.some.injEq] at h; subst h; exact ⟨rfl, rfl⟩
  | v :: vs, d :: ds, ns, hl, hc, h => by
    cases d with
    | int i =>
      simp only [intsOf] at h
      obtain ⟨l, hl2, rfl⟩ := Option.map_eq_some_iff.mp h
      obtain ⟨e, e2⟩ := ints_of (vs := vs) (ds := ds) (by simpa using hl) (fun i v d hv hd => hc (i + 1) v d (by simpa using hv) (by simpa using hd)) hl2
      obtain ⟨e3, _⟩ := (hc 0 v (.int i) rfl rfl).flat_ rfl
      subst e e3
      exact ⟨rfl, by simp [e2]⟩
    | _ => simp [intsOf] at h
theorem bools_of : ∀ {vs : List V} {ds : List Dt} {ns : List Bool}, vs.length = ds.length → (∀ (i : Nat) (v : V) (d : Dt), vs[i]? = some v → ds[i]? = some d → IsD H fz v d) → boolsOf ds = some ns → vs = ns.map V.bl
  | [], [], ns, _, _, h => by simp only [boolsOf, Option.some.injEq] at h; subst h; rfl
  | v :: vs, d :: ds, ns, hl, hc, h => by
    cases d with
    | bool i =>
      simp only [boolsOf] at h
      obtain ⟨l, hl2, rfl⟩ := Option.map_eq_some_iff.mp h
      have e := bools_of (vs := vs) (ds := ds) (by simpa using hl) (fun i v d hv hd => hc (i + 1) v d (by simpa using hv) (by simpa using hd)) hl2
      obtain ⟨e3, _⟩ := (hc 0 v (.bool i) rfl rfl).flat_ rfl
      subst e e3
      rfl
    | _ => simp [boolsOf] at h
/-- keys -/
theorem keys_of : ∀ {vs : List V} {ds : List Dt} {ks : List Key}, vs.length = ds.length → (∀ (i : Nat) (v : V) (d : Dt), vs[i]? = some v → ds[i]? = some d → IsD H fz v d) → keyOf.keysOf ds = some ks → vs = ks.map kV
  | [], [], ns, _, _, h => by simp only [keyOf.keysOf, Option.some.injEq] at h; subst h; rfl
  | v :: vs, d :: ds, ns, hl, hc, h => by
    have hc2 : ∀ (i : Nat) (v : V) (d : Dt), vs[i]? = some v → ds[i]? = some d → IsD H fz v d := fun i v d hv hd => hc (i + 1) v d (by simpa using hv) (by simpa using hd)
    cases d with
    | int i =>
      simp only [keyOf.keysOf] at h
      obtain ⟨l, hl2, rfl⟩ := Option.map_eq_some_iff.mp h
      have e := keys_of (vs := vs) (ds := ds) (by simpa using hl) hc2 hl2
      obtain ⟨e3, _⟩ := (hc 0 v (.int i) rfl rfl).flat_ rfl
      subst e e3
      rfl
    | str i =>
      simp only [keyOf.keysOf] at h
      obtain ⟨l, hl2, rfl⟩ := Option.map_eq_some_iff.mp h
      have e := keys_of (vs := vs) (ds := ds) (by simpa using hl) hc2 hl2
      obtain ⟨e3, _⟩ := (hc 0 v (.str i) rfl rfl).flat_ rfl
      subst e e3
      rfl
    | _ => simp [keyOf.keysOf] at h
theorem keyOf_k {v : V} {d : Dt} {k : Key} (h : IsD H fz v d) (e : keyOf d = some (.inl k)) : v = kV k := by
  cases d with
  | int i => simp only [keyOf, Option.some.injEq, Sum.inl.injEq] at e; subst e; exact (h.flat_ rfl).1
  | str i => simp only [keyOf, Option.some.injEq, Sum.inl.injEq] at e; subst e; exact (h.flat_ rfl).1
  | tuple ds => simp only [keyOf] at e; obtain ⟨l, _, z⟩ := Option.map_eq_some_iff.mp e; cases z
  | _ => cases e
theorem keyOf_t {v : V} {d : Dt} {k : List Key} (h : IsD H fz v d) (e : keyOf d = some (.inr k)) : ∃ b, v = .ref b ∧ H b = some (.tup (k.map kV)) := by
  cases d with
  | int i => simp [keyOf] at e
  | str i => simp [keyOf] at e
  | tuple ds =>
    simp only [keyOf] at e
    obtain ⟨l, hl, z⟩ := Option.map_eq_some_iff.mp e
    cases z
    obtain ⟨a, vs, rfl, _, r, l1, c⟩ := h.tup_
    rw [keys_of l1 c hl] at r
    exact ⟨a, rfl, r⟩
  | _ => cases e
theorem pos1_val {κ : Type} [DecidableEq κ] (k : κ) : ∀ (ks : List κ) (vs : List V), ks.length = vs.length → valV (ks.zip vs) k = (pos1 k ks).bind fun j => vs[j]?
  | [], [], _ => rfl
  | j :: ks, v :: vs, hl => by
    simp only [List.zip_cons_cons, pos1]
    by_cases e : j = k
    · rw [if_pos e, valV_pos (p := (j, v)) e]; rfl
    · rw [if_neg e, valV_neg (p := (j, v)) e, pos1_val k ks vs (by simpa using hl)]
      cases pos1 k ks <;> simp
theorem pos1_lt {κ : Type} [DecidableEq κ] {k : κ} : ∀ {ks : List κ} {j : Nat}, pos1 k ks = some j → j < ks.length ∧ ks[j]? = some k
  | [], _, h => by simp [pos1] at h
  | i :: ks, j, h => by
    simp only [pos1] at h
    split at h
    · rename_i e; cases h; subst e; exact ⟨by simp, rfl⟩
    · obtain ⟨m, hm, rfl⟩ := Option.map_eq_some_iff.mp h
      obtain ⟨a, b⟩ := pos1_lt hm
      exact ⟨by simp; omega, by simpa using b⟩
/-- what a dict node holds at a key -/
theorem dget_of {a : Addr} {sh : Sh} {vs : List V} {v : V} {d : Dt} {o : Option Nat} (r : H a = some (sh.ho vs)) (ok : sh.ok vs.length) (h : IsD H fz v d) (hf : sh.find d = some o) : DGet H a v (o.bind fun j => vs[j]?) := by
  cases sh with
  | ls => cases hf
  | tp => cases hf
  | dk ks =>
    simp only [Sh.find] at hf
    split at hf
    · rename_i k hk
      cases hf
      rw [keyOf_k h hk, ← pos1_val k ks vs ok.1]
      exact DGet.k r
    · cases hf
  | dt ks =>
    simp only [Sh.find] at hf
    split at hf
    · rename_i k hk
      cases hf
      obtain ⟨b, rfl, hb⟩ := keyOf_t h hk
      rw [← pos1_val k ks vs ok.1]
      exact DGet.t r hb
    · cases hf
end

/-! ### the rules -/
theorem op_din {X : Cx} (hu : X.A.units + 1 < cLine) : OpR X (compareOp .In) (fun x y H Q => ∃ a o, y = .ref a ∧ DGet H a x o ∧ Q (.bl o.isSome) H) := by
  rintro pins s σ H x y v u Q I rx ry ⟨a, o, rfl, g, q⟩
  cases ry
  exact d_in hu I g rx fun s' I' => ⟨.bl _, H, I', rfl, q⟩
theorem op_dnotin {X : Cx} (hu : X.A.units + 1 < cLine) : OpR X (compareOp .NotIn) (fun x y H Q => ∃ a o, y = .ref a ∧ DGet H a x o ∧ Q (.bl (!o.isSome)) H) := by
  rintro pins s σ H x y v u Q I rx ry ⟨a, o, rfl, g, q⟩
  cases ry
  exact d_notIn hu I g rx fun s' I' => ⟨.bl _, H, I', rfl, q⟩

def cmpF (o : CmpOp) (env : Ev) (x y : En) : Option En := (cmpE o env x y).map fun b => .fr (.bool b)
section
variable {Φ : Fx} {B : List (Option V)} {env : Ev} {S T : Tmp} {H H' : Hp} {fz : Addr → Prop} {gs : List G}
theorem isNon_iff {g : G} {t : Tr} (h : OwnG H fz g t) : decide (g.val = V.non) = (match t with | .fr .none => true | _ => false) := by
  cases h with
  | fr h => cases h with
    | non => rfl
    | bl b => rfl
    | int i => rfl
    | str x => rfl
    | nd sh e _ _ _ _ _ => subst e; cases sh <;> rfl
  | nd sh e ok hl ch => rfl
/-- in, not in: the answer z -/
theorem inn_ok {X : Cx} (hu : X.A.units + 1 < cLine) {pins : List (Addr × Obj)} {s : Shared} {σ : L2.St} {x y : V} {v u : Value} {Q : VK} (I : Inv X pins σ H s) (rx : RelV x v) (ry : RelV y u) (R : Rel Φ (B ++ S.map (·.1)) (env ++ S.map (·.2)) H fz gs) (hB : B.length = env.length) (hn : Φ.n ≤ env.length)
    {i j : Nat} {ex ey : En} (jx : S[i]? = some (some x, ex)) (jy : S[j]? = some (some y, ey)) {z : Bool} (hz : cmpE.inn env ex ey = some z) :
    (Q (.bl z) H → wpAny (model X.prog X.w) X.A (compareOp .In v u) (EP X pins σ Q) X.xe s) ∧ (Q (.bl (!z)) H → wpAny (model X.prog X.w) X.A (compareOp .NotIn v u) (EP X pins σ Q) X.xe s) := by
  have dict : ∀ (sh : Sh) (ts : List Tr), res env ey = some (.nd sh ts) → (match peek env ex with | some d => (sh.find d).map (·.isSome) | none => none) = some z →
      (Q (.bl z) H → wpAny (model X.prog X.w) X.A (compareOp .In v u) (EP X pins σ Q) X.xe s) ∧ (Q (.bl (!z)) H → wpAny (model X.prog X.w) X.A (compareOp .NotIn v u) (EP X pins σ Q) X.xe s) := fun sh ts hr hz => by
    cases hp : peek env ex with
    | none => rw [hp] at hz; cases hz
    | some d =>
      rw [hp] at hz
      obtain ⟨o, ho, e⟩ := Option.map_eq_some_iff.mp hz
      obtain ⟨g, rfl, hog, _⟩ := R.temp hB hn jy hr
      obtain ⟨a, cs, rfl, ha, ok, hl, _⟩ := hog.nd_
      have hd := R.data hB hn jx hp
      have g := dget_of (fz := fun a => fz a ∨ a ∈ G.fps gs) ha (by simpa using ok) hd ho
      have ez : z = (o.bind fun j => (cs.map G.val)[j]?).isSome := by
        subst e
        cases o with
        | none => rfl
        | some j =>
          have : j < cs.length := by
            cases sh with
            | ls => cases ho
            | tp => cases ho
            | dk ks =>
              simp only [Sh.find] at ho
              split at ho
              · simp only [Option.some.injEq] at ho; rw [← ok.1]; exact (pos1_lt ho).1
              · cases ho
            | dt ks =>
              simp only [Sh.find] at ho
              split at ho
              · simp only [Option.some.injEq] at ho; rw [← ok.1]; exact (pos1_lt ho).1
              · cases ho
          simp [this]
      subst ez
      exact ⟨fun q => op_din hu pins s σ H _ _ v u Q I rx ry ⟨a, _, rfl, g, q⟩, fun q => op_dnotin hu pins s σ H _ _ v u Q I rx ry ⟨a, _, rfl, g, q⟩⟩
  unfold cmpE.inn at hz
  split at hz
  · rename_i ks ts hr; exact dict _ _ hr hz
  · rename_i ks ts hr; exact dict _ _ hr hz
  · split at hz
    · rename_i d ds hd hds
      split at hz
      · rename_i hf
        simp only [Bool.and_eq_true] at hf
        cases hz
        obtain ⟨a, vs, rfl, ra, la, ca⟩ := R.seq hB hn jy hds
        obtain ⟨e1, f1⟩ := (R.data hB hn jx hd).flat_ hf.1
        obtain ⟨e2, f2⟩ := flats_of la ca hf.2
        have sq : SqL X.K H a vs ∨ SqT X.K H a vs := ra.imp .inl .inl
        have ez : inV x vs = ds.any fun e => PyData.eqv e d := by rw [e1, e2]; exact inV_vD hf.1 hf.2
        refine ⟨fun q => op_in_seq pins s σ H _ _ v u Q I rx ry ⟨a, vs, rfl, sq, f1, f2, ?_⟩, fun q => op_notIn_seq pins s σ H _ _ v u Q I rx ry ⟨a, vs, rfl, sq, f1, f2, ?_⟩⟩
        · rw [if_neg Bool.false_ne_true, ez]; exact q
        · rw [if_pos rfl, ez]; exact q
      · cases hz
    · cases hz
theorem eqq_ok {X : Cx} (hu : X.A.units + 64 < cLine) {pins : List (Addr × Obj)} {s : Shared} {σ : L2.St} {x y : V} {v u : Value} {Q : VK} (I : Inv X pins σ H s) (rx : RelV x v) (ry : RelV y u) (R : Rel Φ (B ++ S.map (·.1)) (env ++ S.map (·.2)) H fz gs) (hB : B.length = env.length) (hn : Φ.n ≤ env.length)
    {i j : Nat} {ex ey : En} (jx : S[i]? = some (some x, ex)) (jy : S[j]? = some (some y, ey)) {z : Bool} (hz : cmpE.eqq env ex ey = some z) :
    (Q (.bl z) H → wpAny (model X.prog X.w) X.A (compareOp .Eq v u) (EP X pins σ Q) X.xe s) ∧ (Q (.bl (!z)) H → wpAny (model X.prog X.w) X.A (compareOp .NotEq v u) (EP X pins σ Q) X.xe s) := by
  unfold cmpE.eqq at hz
  split at hz
  · rename_i a b ha hb
    cases hz
    obtain ⟨rfl, _⟩ := (R.data hB hn jx ha).flat_ rfl
    obtain ⟨rfl, _⟩ := (R.data hB hn jy hb).flat_ rfl
    refine ⟨fun q => op_eq pins s σ H _ _ v u Q I rx ry ⟨rfl, ?_⟩, fun q => op_ne pins s σ H _ _ v u Q I rx ry ⟨rfl, ?_⟩⟩
    · show Q (.bl (decide (V.str a = V.str b))) H; rw [dec_str]; exact q
    · show Q (.bl (!decide (V.str a = V.str b))) H; rw [dec_str]; exact q
  · rename_i a b _ ha hb
    split at hz
    · rename_i hs
      simp only [Bool.and_eq_true] at hs
      cases hz
      have h1 := (R.data hB hn jx ha).dp (K := X.K) (shaped_noDict hs.1)
      have h2 := (R.data hB hn jy hb).dp (K := X.K) (shaped_noDict hs.2)
      exact ⟨fun q => op_eqD hu pins s σ H _ _ v u Q I rx ry ⟨a, b, h1, h2, hs.1, hs.2, q⟩, fun q => op_neD hu pins s σ H _ _ v u Q I rx ry ⟨a, b, h1, h2, hs.1, hs.2, q⟩⟩
    · cases hz
  · cases hz
end
theorem op_cmpE {X : Cx} {Φ : Fx} (hu : X.A.units + 64 < cLine) (o : CmpOp) : OpR X (compareOp o) (rE2 Φ (cmpF o)) := by
  rintro pins s σ H x y v u Q I rx ry ⟨B, env, S, ex, ey, z, ⟨hB, hn, fz, gs, R⟩, hz, q⟩
  have jx : (S ++ [(some x, ex), (some y, ey)])[S.length]? = some (some x, ex) := tmp_last
  have jy : (S ++ [(some x, ex), (some y, ey)])[S.length + 1]? = some (some y, ey) := tmp_last1
  obtain ⟨b, hb, rfl⟩ := Option.map_eq_some_iff.mp hz
  have fin : Q (.bl b) H := q _ _ (R.retF hB hn (.bl b))
  have both : ∀ {i j : Int}, peek env ex = some (.int i) → peek env ey = some (.int j) → x = .int i ∧ y = .int j := fun h1 h2 => ⟨((R.data hB hn jx h1).flat_ rfl).1, ((R.data hB hn jy h2).flat_ rfl).1⟩
  cases o with
  | Is =>
    simp only [cmpE] at hb
    split at hb
    · rename_i h2
      obtain ⟨g', rfl, ho', _⟩ := R.temp hB hn jy h2
      split at hb
      · rename_i h1
        cases hb
        obtain ⟨g, rfl, ho, _⟩ := R.temp hB hn jx h1
        refine op_isN pins s σ H _ _ v u Q I rx ry ⟨ho'.none_, ?_⟩
        rw [isNon_iff ho]; exact fin
      · rename_i t hne h1
        cases hb
        obtain ⟨g, rfl, ho, _⟩ := R.temp hB hn jx h1
        refine op_isN pins s σ H _ _ v u Q I rx ry ⟨ho'.none_, ?_⟩
        rw [isNon_iff ho]
        split
        · exact absurd rfl (hne)
        · exact fin
      · cases hb
    · rename_i c h2
      split at hb
      · rename_i c' h1
        cases hb
        obtain ⟨g, rfl, ho, _⟩ := R.temp hB hn jx h1
        obtain ⟨g', rfl, ho', _⟩ := R.temp hB hn jy h2
        exact op_isBl pins s σ H _ _ v u Q I rx ry ⟨c', c, ho.bool_, ho'.bool_, fin⟩
      · cases hb
    · cases hb
  | IsNot =>
    simp only [cmpE] at hb
    split at hb
    · rename_i h2
      obtain ⟨g', rfl, ho', _⟩ := R.temp hB hn jy h2
      split at hb
      · rename_i h1
        cases hb
        obtain ⟨g, rfl, ho, _⟩ := R.temp hB hn jx h1
        refine op_notN pins s σ H _ _ v u Q I rx ry ⟨ho'.none_, ?_⟩
        rw [isNon_iff ho]; exact fin
      · rename_i t hne h1
        cases hb
        obtain ⟨g, rfl, ho, _⟩ := R.temp hB hn jx h1
        refine op_notN pins s σ H _ _ v u Q I rx ry ⟨ho'.none_, ?_⟩
        rw [isNon_iff ho]
        split
        · exact absurd rfl (hne)
        · exact fin
      · cases hb
    · rename_i c h2
      split at hb
      · rename_i c' h1
        cases hb
        obtain ⟨g, rfl, ho, _⟩ := R.temp hB hn jx h1
        obtain ⟨g', rfl, ho', _⟩ := R.temp hB hn jy h2
        exact op_notBl pins s σ H _ _ v u Q I rx ry ⟨c', c, ho.bool_, ho'.bool_, fin⟩
      · cases hb
    · cases hb
  | In => exact (inn_ok (by omega) I rx ry R hB hn jx jy hb).1 fin
  | NotIn =>
    obtain ⟨c, hc, rfl⟩ := Option.map_eq_some_iff.mp hb
    exact (inn_ok (by omega) I rx ry R hB hn jx jy hc).2 fin
  | Eq => exact (eqq_ok hu I rx ry R hB hn jx jy hb).1 fin
  | NotEq =>
    obtain ⟨c, hc, rfl⟩ := Option.map_eq_some_iff.mp hb
    exact (eqq_ok hu I rx ry R hB hn jx jy hc).2 fin
  | Lt =>
    simp only [cmpE] at hb
    split at hb
    · rename_i i j h1 h2
      cases hb
      obtain ⟨rfl, rfl⟩ := both h1 h2
      exact op_lt pins s σ H _ _ v u Q I rx ry ⟨i, j, rfl, rfl, fin⟩
    · rename_i a c h1 h2
      split at hb
      · rename_i na nc e1 e2
        cases hb
        obtain ⟨p, vs, rfl, _, r1, l1, c1⟩ := (R.data hB hn jx h1).tup_
        obtain ⟨p', ws, rfl, _, r2, l2, c2⟩ := (R.data hB hn jy h2).tup_
        obtain ⟨rfl, _⟩ := ints_of l1 c1 e1
        obtain ⟨rfl, _⟩ := ints_of l2 c2 e2
        exact op_ltT (by omega) pins s σ H _ _ v u Q I rx ry ⟨p, p', na, nc, rfl, rfl, SqT.of r1, SqT.of r2, fin⟩
      · cases hb
    · cases hb
  | LtE =>
    simp only [cmpE] at hb
    split at hb
    · rename_i i j h1 h2
      cases hb
      obtain ⟨rfl, rfl⟩ := both h1 h2
      exact op_le pins s σ H _ _ v u Q I rx ry ⟨i, j, rfl, rfl, fin⟩
    · cases hb
  | Gt =>
    simp only [cmpE] at hb
    split at hb
    · rename_i i j h1 h2
      cases hb
      obtain ⟨rfl, rfl⟩ := both h1 h2
      exact op_gt pins s σ H _ _ v u Q I rx ry ⟨i, j, rfl, rfl, fin⟩
    · cases hb
  | GtE =>
    simp only [cmpE] at hb
    split at hb
    · rename_i i j h1 h2
      cases hb
      obtain ⟨rfl, rfl⟩ := both h1 h2
      exact op_ge pins s σ H _ _ v u Q I rx ry ⟨i, j, rfl, rfl, fin⟩
    · cases hb
end MP
set_option maxHeartbeats 1000000
set_option autoImplicit false
/-! mini: the rules of expressions -/
namespace MP
open PySem PySem.Spec PyProof.Rows L2

section
variable {b : Bx} {σ : L2.St} {B : List (Option V)} {S : Tmp} {H : Hp} {env : Ev}
theorem Px.push (p : Px b.Φ B env S H) {v : V} {x : En} (h : RelX b.Φ (B ++ S.map (·.1) ++ [some v]) (env ++ S.map (·.2) ++ [x]) H) : Px b.Φ B env (S ++ [(some v, x)]) H := ⟨p.1, p.2.1, by simpa using h⟩
theorem Px.pop {T : Tmp} (p : Px b.Φ B env (S ++ T) H) : Px b.Φ B env S H := by
  obtain ⟨hB, hn, fz, gs, R⟩ := p
  refine ⟨hB, hn, fz, _, Rel.drop (ws := T.map (·.1)) (xs := T.map (·.2)) (gs := gs) ?_ (by simp [hB]) (by simp; omega)⟩
  simpa using R
theorem Px.con (p : Px b.Φ B env S H) {v : V} {d : Dt} (h : ∀ fz, IsD H fz v d) : Px b.Φ B env (S ++ [(some v, .fr d)]) H := by
  obtain ⟨hB, hn, fz, gs, R⟩ := p
  exact Px.push ⟨hB, hn, fz, gs, R⟩ ⟨_, _, R.pushF (h fz)⟩

/-- a value that is handed back at once -/
theorem tE_con {X : Cx} {e : Expr} {v : V} {x : Ex} {d : Dt} (h : PE X e (tC v)) (ev : ∀ env, evE b.C x env = .ok (env, .fr d)) (hd : ∀ H fz, IsD H fz v d) : PE X e (tE b x) :=
  peImp h fun σ H Q ⟨R, env, S, p, q⟩ => by
    rw [ev] at q
    exact q v H (p.con fun fz => hd H fz)

/-! ### names and constants -/
theorem var_imp {i : Nat} {σ : L2.St} {H : Hp} {Q : VK} (hiN : i < σ.length) (hin : i < b.Φ.n) (h : tE b (.var i) σ H Q) : tVar i σ H Q := by
  obtain ⟨R, env, S, p, q⟩ := h
  obtain ⟨hB, hn, fz, gs, Rl⟩ := id p
  simp only [List.length_append] at hB
  simp only [evE] at q
  have hie : i < env.length := by omega
  have he : env[i]? = some env[i] := by simp [hie]
  have hes : (env ++ S.map (·.2))[i]? = some env[i] := by rw [get_app_left hie]; exact he
  have hvs : ∀ {v : V}, (σ ++ R ++ S.map (·.1))[i]? = some (some v) → σ[i]? = some (some v) := fun {v} h => by
    rw [get_app_left (by simp; omega), get_app_left hiN] at h; exact h
  rw [he] at q
  have E := Rl.ent i _ hes
  cases hx : env[i] with
  | un => rw [hx] at q; exact q.elim
  | fr d =>
    rw [hx] at q E
    obtain ⟨_, v, hv, hd⟩ := E
    exact ⟨v, hvs hv, q v H (p.push ⟨_, _, Rl.pushF hd⟩)⟩
  | fd d =>
    rw [hx] at q E
    obtain ⟨_, v, hv, hd⟩ := E
    exact ⟨v, hvs hv, q v H (p.push ⟨_, _, Rl.pushF hd⟩)⟩
  | own t =>
    rw [hx] at q E hes
    cases t with
    | fr d => exact q.elim
    | nd sh ts =>
      obtain ⟨g, hg, hv, ho⟩ := E
      obtain ⟨a, cs, rfl, _⟩ := ho.nd_
      refine ⟨_, hvs hv, q _ H (p.push ⟨_, _, Rl.pushA hin ?_⟩)⟩
      unfold AlOk
      rw [hes]
      exact ⟨_, a, cs, hg, rfl, rfl⟩
  | al s p' =>
    rw [hx] at q E hes
    obtain ⟨_, v, hv, ha⟩ := E
    exact ⟨v, hvs hv, q v H (p.push ⟨_, _, Rl.pushA (Rl.als _ _ _ hes) ha⟩)⟩

theorem pE_var {X : Cx} {i : Nat} {x : Str} {pos : Pos} (hn0 : X.N.length ≤ b.Φ.n) (hN : X.N[i]? = some x) (hv : Vis X.env.scope x) (hd : (x == ("__debug__" : Str)) = false) (hcd : (x == ("__classdict__" : Str)) = false) : PE X (.Name x pos) (tE b (.var i)) := by
  refine ⟨fun pins s σ H Q I h => (pe_var hN hv hd hcd).run pins s σ H Q I ?_⟩
  have hlt := (List.getElem?_eq_some_iff.mp hN).1
  exact var_imp (by rw [I.len]; exact hlt) (by omega) h

theorem pE_non {X : Cx} {j pos} : PE X (.Constant .none j pos) (tE b .non) := tE_con pe_non (fun _ => rfl) fun _ _ => .non
theorem pE_bl {X : Cx} {c j pos} : PE X (.Constant (.bool c) j pos) (tE b (.bl c)) := tE_con pe_bl (fun _ => rfl) fun _ _ => .bl c
theorem pE_int {X : Cx} {i j pos} : PE X (.Constant (.int i) j pos) (tE b (.int i)) := tE_con pe_int (fun _ => rfl) fun _ _ => .int i
theorem pE_str {X : Cx} {i j pos} : PE X (.Constant (.str i) j pos) (tE b (.str i)) := tE_con pe_str (fun _ => rfl) fun _ _ => .str i
theorem pE_glob {X : Cx} {x : Str} {i : Int} {t : Tok} {pos : Pos} (hg : Gl X x) (hm : X.mg x = some (.int i t)) (hd : (x == ("__debug__" : Str)) = false) : PE X (.Name x pos) (tE b (.glob x i)) :=
  tE_con (pe_glob (v := .int i) hg hm ⟨t, rfl⟩ hd) (fun _ => rfl) fun _ _ => .int i

/-! ### operators -/
theorem cmp_imp {o : CmpOp} {ea eb : Ex} (σ : L2.St) (H : Hp) (Q : VK) (h : tE b (.cmp o ea eb) σ H Q) : tOp (rE2 b.Φ (cmpF o)) (tE b ea) (tE b eb) σ H Q := by
  obtain ⟨R, env, S, p, q⟩ := h
  simp only [evE] at q
  refine ⟨R, env, S, p, q.bind fun q1 _ s1 v1 H1 p1 => ?_⟩
  refine ⟨R, q1.1, S ++ [(some v1, q1.2)], p1, s1.bind fun q2 _ s2 v2 H2 p2 => ?_⟩
  obtain ⟨z, hz, s3⟩ := s2.ofO
  refine ⟨σ ++ R, q2.1, S, q1.2, q2.2, .fr (.bool z), by simpa using p2, ?_, fun v H' p3 => s3 v H' p3⟩
  unfold cmpF
  rw [hz]
  rfl
theorem pE_cmp {X : Cx} {o : CmpOp} {ea eb : Ex} {a c : Expr} {pos : Pos} (hu : X.A.units + 64 < cLine) (ha : PE X a (tE b ea)) (hb : PE X c (tE b eb)) (hm : behindInMarks o c = false) : PE X (.Compare a [o] [c] pos) (tE b (.cmp o ea eb)) :=
  peImp (pe_cmpR (op_cmpE (Φ := b.Φ) hu o) ha hb hm) cmp_imp
theorem Px.last {v : V} {x : En} {t : Tr} (p : Px b.Φ B env (S ++ [(some v, x)]) H) (h : res env x = some t) : ∃ fz gs g, Rel b.Φ (B ++ (S ++ [(some v, x)]).map (·.1)) (env ++ (S ++ [(some v, x)]).map (·.2)) H fz gs ∧ g.val = v ∧ OwnG H fz g t := by
  obtain ⟨hB, hn, fz, gs, R⟩ := p
  obtain ⟨g, hg, ho, _⟩ := R.temp hB hn tmp_last h
  exact ⟨fz, gs, g, R, hg, ho⟩
theorem Px.int_ {v : V} {x : En} {i : Int} (p : Px b.Φ B env (S ++ [(some v, x)]) H) (h : res env x = some (.fr (.int i))) : v = .int i := by
  obtain ⟨fz, gs, g, R, hg, ho⟩ := p.last h
  rw [← hg, ho.int_]
theorem Px.truth {v : V} {x : En} {c : Bool} (p : Px b.Φ B env (S ++ [(some v, x)]) H) (h : truthE env x = some c) : v = .bl c := by
  unfold truthE at h
  cases hr : res env x with
  | none => rw [hr] at h; cases h
  | some t =>
    rw [hr] at h
    obtain ⟨fz, gs, g, R, hg, ho⟩ := p.last hr
    cases t with
    | nd sh ts => cases h
    | fr d =>
      cases d <;> try (cases h; done)
      cases h
      rw [← hg, ho.bool_]
theorem pE_neg {X : Cx} {e : Ex} {a : Expr} {pos : Pos} (ha : PE X a (tE b e)) : PE X (.UnaryOp .USub a pos) (tE b (.neg e)) := by
  refine peImp (pe_un un_neg ha) fun σ H Q ⟨R, env, S, p, q⟩ => ?_
  simp only [evE] at q
  refine ⟨R, env, S, p, q.bind fun q1 _ s1 v1 H1 p1 => ?_⟩
  split at s1
  · rename_i i hi
    cases p1.int_ hi
    exact ⟨i, rfl, s1 _ _ (p1.pop.con fun _ => .int _)⟩
  · exact s1.elim
theorem chain_imp {o o' : CmpOp} {ea eb ec : Ex} (σ : L2.St) (H : Hp) (Q : VK) (h : tE b (.chain o o' ea eb ec) σ H Q) : tChain (rE2 b.Φ (cmpF o)) (rE2 b.Φ (cmpF o')) (tE b ea) (tE b eb) (tE b ec) σ H Q := by
  obtain ⟨R, env, S, p, q⟩ := h
  simp only [evE] at q
  refine ⟨R, env, S, p, q.bind fun q1 _ s1 v1 H1 p1 => ?_⟩
  refine ⟨R, q1.1, S ++ [(some v1, q1.2)], p1, s1.bind fun q2 _ s2 v2 H2 p2 => ?_⟩
  obtain ⟨k, hz, s3⟩ := s2.ofO
  refine ⟨σ ++ R, q2.1, S, q1.2, q2.2, .fr (.bool k), by simpa using p2, by unfold cmpF; rw [hz]; rfl, fun v H' p3 => ?_⟩
  split at s3
  · rename_i i hi
    have e1 : v = .bl k := p3.truth (c := k) rfl
    have e2 : v2 = .int i := Px.int_ (i := i) p2 (by rw [hi]; rfl)
    refine ⟨k, e1, ?_⟩
    cases k with
    | false => exact s3 _ _ (p3.pop.con fun _ => .bl false)
    | true =>
      refine ⟨R, q2.1, S ++ [(some v2, .fr (.int i))], by rw [e2]; exact p3.pop.con fun _ => .int i, Sat.bind s3 fun q3 _ s4 v3 H3 p4 => ?_⟩
      obtain ⟨k', hk', s5⟩ := s4.ofO
      exact ⟨σ ++ R, q3.1, S, .fr (.int i), q3.2, .fr (.bool k'), by simpa using p4, by unfold cmpF; rw [hk']; rfl, fun v H' p5 => s5 v H' p5⟩
  · exact s3.elim

theorem pE_chain {X : Cx} {o o' : CmpOp} {ea eb ec : Ex} {x y z : Expr} {pos : Pos} (hu : X.A.units + 64 < cLine) (ha : PE X x (tE b ea)) (hb : PE X y (tE b eb)) (hc : PE X z (tE b ec)) (hm : lastMarks [o, o'] [y, z] = false) : PE X (.Compare x [o, o'] [y, z] pos) (tE b (.chain o o' ea eb ec)) :=
  peImp (pe_chain (op_cmpE (Φ := b.Φ) hu o) (op_cmpE (Φ := b.Φ) hu o') ha hb hc hm) chain_imp

/-! ### tests -/
theorem tT_tE {x : Ex} {σ : L2.St} {H : Hp} {Q : Bool → Hp → Prop} (h : tT b x σ H Q) : tE b x σ H fun v H' => ∃ c, v = .bl c ∧ Q c H' := by
  obtain ⟨R, env, S, p, q⟩ := h
  exact ⟨R, env, S, p, Sat.bind q fun q1 _ s1 v1 H1 p1 => by
    obtain ⟨c, hc, s2⟩ := s1.ofO
    exact ⟨c, p1.truth hc, s2 _ p1.pop⟩⟩
theorem pT_val {X : Cx} {e : Expr} {x : Ex} (h : PE X e (tE b x)) (he : ∀ whole, isTrue e X.env whole = (do let v ← whole; standAt e.pos; holding [v] (truthy v))) : PT X e (tT b x) :=
  ptImp (pt_val h he) fun σ H Q h => tT_tE h
theorem pT_cmp {X : Cx} {o : CmpOp} {ea eb : Ex} {a c : Expr} {pos : Pos} (hu : X.A.units + 64 < cLine) (ha : PE X a (tE b ea)) (hb : PE X c (tE b eb)) (hm : behindInMarks o c = false) : PT X (.Compare a [o] [c] pos) (tT b (.cmp o ea eb)) :=
  ptImp (pt_cmpR (op_cmpE (Φ := b.Φ) hu o) ha hb hm) fun σ H Q h => cmp_imp σ H _ (tT_tE h)
theorem pT_chain {X : Cx} {o o' : CmpOp} {ea eb ec : Ex} {x y z : Expr} {pos : Pos} (hu : X.A.units + 64 < cLine) (ha : PE X x (tE b ea)) (hb : PE X y (tE b eb)) (hc : PE X z (tE b ec)) (hm : lastMarks [o, o'] [y, z] = false) : PT X (.Compare x [o, o'] [y, z] pos) (tT b (.chain o o' ea eb ec)) :=
  ptImp (pt_chain (op_cmpE (Φ := b.Φ) hu o) (op_cmpE (Φ := b.Φ) hu o') ha hb hc hm) fun σ H Q h => chain_imp σ H _ (tT_tE h)
theorem truthE_b {env : Ev} {c : Bool} : truthE env (.fr (.bool c)) = some c := rfl
theorem evT_not {C : Cl} {x : Ex} : evT C (.not x) env = (evT C x env).bind fun q => .ok (q.1, !q.2) := by
  simp only [evT, evE]
  cases evE C x env with
  | ok r => cases h : truthE r.1 r.2 with
    | none => simp [h]
    | some c => cases c <;> simp [h, truthE_b]
  | _ => rfl
theorem evT_and {C : Cl} {x y : Ex} : evT C (.and x y) env = (evT C x env).bind fun q => if q.2 then evT C y q.1 else .ok (q.1, false) := by
  simp only [evT, evE]
  cases evE C x env with
  | ok r => cases h : truthE r.1 r.2 with
    | none => simp [h]
    | some c => cases c <;> simp [h, truthE_b]
  | _ => rfl
theorem evT_or {C : Cl} {x y : Ex} : evT C (.or x y) env = (evT C x env).bind fun q => if q.2 then .ok (q.1, true) else evT C y q.1 := by
  simp only [evT, evE]
  cases evE C x env with
  | ok r => cases h : truthE r.1 r.2 with
    | none => simp [h]
    | some c => cases c <;> simp [h, truthE_b]
  | _ => rfl
theorem ev_ife {C : Cl} {c x y : Ex} : evE C (.ife c x y) env = (evT C c env).bind fun q => if q.2 then evE C x q.1 else evE C y q.1 := by
  simp only [evT, evE]
  cases evE C c env with
  | ok r => cases h : truthE r.1 r.2 <;> simp [h]
  | _ => rfl
theorem pT_not {X : Cx} {a : Expr} {x : Ex} {pos : Pos} (h : PT X a (tT b x)) : PT X (.UnaryOp .Not a pos) (tT b (.not x)) :=
  ptImp (pt_not h) fun σ H Q ⟨R, env, S, p, q⟩ => by
    rw [evT_not] at q
    exact ⟨R, env, S, p, q.bind fun q1 _ s1 H1 p1 => s1 H1 p1⟩
theorem pW_and1 {X : Cx} {a : Expr} {x : Ex} {pos : Pos} (h : PT X a (tT b x)) : PW X (.BoolOp .And [a] pos) (tT b x) := pw_and1 h
theorem pW_or1 {X : Cx} {a : Expr} {x : Ex} {pos : Pos} (h : PT X a (tT b x)) : PW X (.BoolOp .Or [a] pos) (tT b x) := pw_or1 h
theorem pwImp {X : Cx} {e : Expr} {t t' : TT} (h : PW X e t) (k : ∀ σ H Q, t' σ H Q → t σ H Q) : PW X e t' := ⟨fun w pins s σ H Q I q => h.run w pins s σ H Q I (k σ H Q q)⟩
theorem pW_and {X : Cx} {a c : Expr} {rest : List Expr} {x y : Ex} {pos : Pos} (h : PT X a (tT b x)) (h2 : PW X (.BoolOp .And (c :: rest) pos) (tT b y)) : PW X (.BoolOp .And (a :: c :: rest) pos) (tT b (.and x y)) :=
  pwImp (pw_and h h2) fun σ H Q ⟨R, env, S, p, q⟩ => by
    rw [evT_and] at q
    refine ⟨R, env, S, p, q.bind fun q1 _ s1 H1 p1 => ?_⟩
    dsimp only
    split
    · rename_i hc
      rw [if_pos hc] at s1
      exact ⟨R, _, S, p1, s1⟩
    · rename_i hc
      rw [if_neg hc] at s1
      exact s1 _ p1
theorem pW_or {X : Cx} {a c : Expr} {rest : List Expr} {x y : Ex} {pos : Pos} (h : PT X a (tT b x)) (h2 : PW X (.BoolOp .Or (c :: rest) pos) (tT b y)) : PW X (.BoolOp .Or (a :: c :: rest) pos) (tT b (.or x y)) :=
  pwImp (pw_or h h2) fun σ H Q ⟨R, env, S, p, q⟩ => by
    rw [evT_or] at q
    refine ⟨R, env, S, p, q.bind fun q1 _ s1 H1 p1 => ?_⟩
    dsimp only
    split
    · rename_i hc
      rw [if_pos hc] at s1
      exact s1 _ p1
    · rename_i hc
      rw [if_neg hc] at s1
      exact ⟨R, _, S, p1, s1⟩
/-! .. as values -/
theorem pE_not {X : Cx} {a : Expr} {x : Ex} {pos : Pos} (h : PE X a (tE b x)) : PE X (.UnaryOp .Not a pos) (tE b (.not x)) :=
  peImp (pe_not h) fun σ H Q ⟨R, env, S, p, q⟩ => by
    simp only [evE] at q
    refine ⟨R, env, S, p, q.bind fun q1 _ s1 v1 H1 p1 => ?_⟩
    obtain ⟨c, hc, s2⟩ := s1.ofO
    exact ⟨c, p1.truth hc, s2 _ _ (p1.pop.con fun _ => .bl _)⟩
theorem pE_one {X : Cx} {o : BoolOp} {a : Expr} {x : Ex} {pos : Pos} (h : PE X a (tE b x)) : PE X (.BoolOp o [a] pos) (tE b x) := pe_one h
theorem pE_and {X : Cx} {a c : Expr} {rest : List Expr} {x y : Ex} {pos : Pos} (h : PE X a (tE b x)) (h2 : PE X (.BoolOp .And (c :: rest) pos) (tE b y)) : PE X (.BoolOp .And (a :: c :: rest) pos) (tE b (.and x y)) :=
  peImp (pe_and h h2) fun σ H Q ⟨R, env, S, p, q⟩ => by
    simp only [evE] at q
    refine ⟨R, env, S, p, q.bind fun q1 _ s1 v1 H1 p1 => ?_⟩
    obtain ⟨c, hc, s2⟩ := s1.ofO
    refine ⟨c, p1.truth hc, ?_⟩
    cases c with
    | true => exact ⟨R, _, S, p1.pop, s2⟩
    | false => exact s2 _ _ (p1.pop.con fun _ => .bl _)
theorem pE_or {X : Cx} {a c : Expr} {rest : List Expr} {x y : Ex} {pos : Pos} (h : PE X a (tE b x)) (h2 : PE X (.BoolOp .Or (c :: rest) pos) (tE b y)) : PE X (.BoolOp .Or (a :: c :: rest) pos) (tE b (.or x y)) :=
  peImp (pe_or h h2) fun σ H Q ⟨R, env, S, p, q⟩ => by
    simp only [evE] at q
    refine ⟨R, env, S, p, q.bind fun q1 _ s1 v1 H1 p1 => ?_⟩
    obtain ⟨c, hc, s2⟩ := s1.ofO
    refine ⟨c, p1.truth hc, ?_⟩
    cases c with
    | false => exact ⟨R, _, S, p1.pop, s2⟩
    | true => exact s2 _ _ (p1.pop.con fun _ => .bl _)
theorem pE_ife {X : Cx} {c a d : Expr} {x y z : Ex} {pos : Pos} (hc : PT X c (tT b x)) (ha : PE X a (tE b y)) (hb : PE X d (tE b z)) : PE X (.IfExp c a d pos) (tE b (.ife x y z)) :=
  peImp (pe_ifExp hc ha hb) fun σ H Q ⟨R, env, S, p, q⟩ => by
    rw [ev_ife] at q
    refine ⟨R, env, S, p, q.bind fun q1 _ s1 H1 p1 => ?_⟩
    dsimp only
    split
    · rename_i hc
      rw [if_pos hc] at s1
      exact ⟨R, _, S, p1, s1⟩
    · rename_i hc
      rw [if_neg hc] at s1
      exact ⟨R, _, S, p1, s1⟩
end
end MP
set_option maxHeartbeats 1000000
set_option autoImplicit false
/-! mini: subscripts, slices, displays -/
namespace MP
open PySem PySem.Spec PyProof.Rows L2
section
variable {Φ : Fx} {B : List (Option V)} {env : Ev} {S T : Tmp} {H H' : Hp} {fz : Addr → Prop} {gs : List G}

/-- the last values dropped -/
theorem Rel.popT (R : Rel Φ (B ++ (S ++ T).map (·.1)) (env ++ (S ++ T).map (·.2)) H fz gs) (hB : B.length = env.length) (hn : Φ.n ≤ env.length) : Rel Φ (B ++ S.map (·.1)) (env ++ S.map (·.2)) H fz (gs.take (env ++ S.map (·.2)).length) := by
  refine Rel.drop (ws := T.map (·.1)) (xs := T.map (·.2)) ?_ (by simp [hB]) (by simp; omega)
  simpa using R
theorem IsD.int_ {v : V} {i : Int} (h : IsD H fz v (.int i)) : v = .int i := by
  cases h with
  | int => rfl
  | nd sh e _ _ _ _ _ => cases sh <;> cases e
/-- what stands at a path of what slot s owns -/
theorem Rel.path (R : Rel Φ (B ++ S.map (·.1)) (env ++ S.map (·.2)) H fz gs) (hn : Φ.n ≤ env.length) {s : Nat} {p : List Nat} {sh : Sh} {ts : List Tr} (hs : s < Φ.n) (hr : res env (.al s p) = some (.nd sh ts)) :
    ∃ (t : Tr) (g : G) (a : Addr) (cs : List G), env[s]? = some (.own t) ∧ gs[s]? = some g ∧ t.at p = some (.nd sh ts) ∧ OwnG H fz g t ∧ g.at p = some (.nd a cs) ∧ OwnG H fz (.nd a cs) (.nd sh ts) := by
  simp only [res] at hr
  have hse : s < env.length := by omega
  cases he : env[s]? with
  | none => rw [he] at hr; cases hr
  | some e =>
    rw [he] at hr
    cases e with
    | own t =>
      have h1 : (env ++ S.map (·.2))[s]? = some (.own t) := by rw [get_app_left hse]; exact he
      obtain ⟨g, hg, hv, ho⟩ := R.ent s _ h1
      obtain ⟨h, hh, hoh⟩ := ho.at' hr
      obtain ⟨a, cs, rfl, _⟩ := hoh.nd_
      exact ⟨t, g, a, cs, rfl, hg, hr, ho, hh, hoh⟩
    | fd d => obtain ⟨_, _, h⟩ := Option.map_eq_some_iff.mp hr; cases h
    | _ => cases hr

/-- what a value at the end owns -/
theorem Rel.ownT (R : Rel Φ (B ++ (S ++ T).map (·.1)) (env ++ (S ++ T).map (·.2)) H fz gs) (hB : B.length = env.length) {v : V} {t : Tr} (hj : (S ++ T)[S.length]? = some (some v, .own t)) :
    ∃ g, gs[env.length + S.length]? = some g ∧ g.val = v ∧ OwnG H fz g t ∧ g.fp.Nodup ∧ ∀ a ∈ g.fp, a ∉ G.fps (gs.take (env ++ S.map (·.2)).length) ∧ ¬ fz a ∧ ∀ o, Φ.H0 a = some o → a ∈ Φ.S0 := by
  have h1 : (env ++ (S ++ T).map (·.2))[env.length + S.length]? = some (.own t) := by rw [get_app_right, List.getElem?_map, hj]; rfl
  have h2 : (B ++ (S ++ T).map (·.1))[env.length + S.length]? = some (some v) := by rw [← hB, get_app_right, List.getElem?_map, hj]; rfl
  obtain ⟨g, hg, hv, ho⟩ := R.ent _ _ h1
  rw [h2] at hv
  cases hv
  obtain ⟨n1, n2⟩ := G.fps_get R.nod hg
  refine ⟨g, hg, rfl, ho, n1, fun a ha => ⟨fun hin => ?_, R.nfz a (R.own_in hg a ha), fun o ho => ?_⟩⟩
  · obtain ⟨c, hc, hac⟩ := G.mem_fps.mp hin
    obtain ⟨j, hj⟩ := List.getElem?_of_mem hc
    rw [List.getElem?_take] at hj
    split at hj
    · rename_i hlt
      simp only [List.length_append, List.length_map] at hlt
      exact n2 j c (by omega) hj a hac ha
    · cases hj
  · by_cases hs : a ∈ Φ.S0
    · exact hs
    · exact absurd (R.own_in hg a ha) (R.frm a o ho hs).2
theorem Sh.ho_inj {sh : Sh} {xs ys : List V} (hx : sh.ok xs.length) (hy : sh.ok ys.length) (h : sh.ho xs = sh.ho ys) : xs = ys := by
  cases sh with
  | ls => injection h
  | tp => injection h
  | dk ks =>
    injection h with e
    have := congrArg (List.map (·.2)) e
    rwa [List.map_snd_zip (by have := hx.1; omega), List.map_snd_zip (by have := hy.1; omega)] at this
  | dt ks =>
    injection h with e
    have := congrArg (List.map (·.2)) e
    rwa [List.map_snd_zip (by have := hx.1; omega), List.map_snd_zip (by have := hy.1; omega)] at this
/-- what x[y] is -/
def SubV (H : Hp) (x y w : V) : Prop :=
  (∃ a xs i, x = .ref a ∧ y = .int i ∧ Rd H a (.lst xs) ∧ atI xs i = some w) ∨ (∃ a xs i, x = .ref a ∧ y = .int i ∧ Rd H a (.tup xs) ∧ atI xs i = some w) ∨ ∃ a, x = .ref a ∧ DGet H a y (some w)
theorem atI_of {α : Type} {xs : List α} {n : Nat} {i : Int} {j : Nat} {w : α} (hl : xs.length = n) (h : ixN n i = some j) (hw : xs[j]? = some w) : atI xs i = some w := by
  unfold atI
  rw [hl, h]
  exact hw
theorem pick_val {x : V} {ex z : En} {sh : Sh} {ts : List Tr} {j : Nat} (R : Rel Φ (B ++ (S ++ (some x, ex) :: T).map (·.1)) (env ++ (S ++ (some x, ex) :: T).map (·.2)) H fz gs) (hB : B.length = env.length) (hn : Φ.n ≤ env.length) (hr : res env ex = some (.nd sh ts)) (hz : pickE ts ex j = some z) :
    ∃ a vs w, x = .ref a ∧ H a = some (sh.ho vs) ∧ sh.ok vs.length ∧ vs.length = ts.length ∧ vs[j]? = some w ∧ ∃ gs', Rel Φ (B ++ (S ++ [(some w, z)]).map (·.1)) (env ++ (S ++ [(some w, z)]).map (·.2)) H fz gs' := by
  obtain ⟨g, rfl, ho, _⟩ := R.temp hB hn (tmp_last (S := S)) hr
  obtain ⟨a, cs, rfl, hH, hok, hl, ch⟩ := ho.nd_
  unfold pickE at hz
  cases ht : ts[j]? with
  | none => rw [ht] at hz; cases hz
  | some u =>
  rw [ht] at hz
  have hjl : j < cs.length := by rw [hl]; exact (List.getElem?_eq_some_iff.mp ht).1
  have hc : cs[j]? = some cs[j] := by simp [hjl]
  have hw : (cs.map G.val)[j]? = some cs[j].val := by rw [List.getElem?_map, hc]; rfl
  have oc := ch j _ u hc ht
  refine ⟨_, _, _, rfl, hH, by rw [List.length_map]; exact hok, by rw [List.length_map]; exact hl, hw, ?_⟩
  cases u with
  | fr d => cases hz; exact ⟨_, by simpa using (R.popT hB hn).pushF oc.frD⟩
  | nd sh' us =>
    obtain ⟨a', cs', hcj, hH', _⟩ := oc.nd_
    cases ex with
    | al s p =>
      cases hz
      have hs := R.ofn (tmp_last (S := S)) s p rfl
      obtain ⟨t, g0, a0, cs0, he, hg, htp, ho0, hgp, hoc⟩ := R.path hn hs hr
      have R1 := R.popT hB hn
      have h1 : (env ++ (S ++ ((some (G.nd a cs).val, En.al s p) :: T)).map (·.2))[env.length + S.length]? = some (.al s p) := by rw [get_app_right, List.getElem?_map, tmp_last]; rfl
      obtain ⟨_, v, hv, ha⟩ := R.ent _ _ h1
      have h2 : (B ++ (S ++ ((some (G.nd a cs).val, En.al s p) :: T)).map (·.1))[env.length + S.length]? = some (some (G.nd a cs).val) := by rw [← hB, get_app_right, List.getElem?_map, tmp_last]; rfl
      rw [h2] at hv
      cases hv
      unfold AlOk at ha
      rw [get_app_left (by omega), he] at ha
      obtain ⟨g1, a1, cs1, hg1, hat1, e1⟩ := ha
      rw [hg] at hg1
      cases hg1
      rw [hgp] at hat1
      cases hat1
      cases e1
      -- the same node
      obtain ⟨_, csx, ex, hHx, _, hlx, chx⟩ := hoc.nd_
      cases ex
      have hlen : (env ++ S.map (·.2))[s]? = some (.own t) := by rw [get_app_left (by omega)]; exact he
      have hcx : cs0[j]? = some cs0[j] := by simp [show j < cs0.length by omega]
      have ocx := chx j _ _ hcx ht
      obtain ⟨a2, cs2, hc2, hH2, _⟩ := ocx.nd_
      have hval : cs[j].val = cs0[j].val := by
        have e : cs0.map G.val = cs.map G.val := Sh.ho_inj (by rw [List.length_map, hlx, ← hl]; exact hok) (by rw [List.length_map]; exact hok) (Option.some.inj (hHx.symm.trans hH))
        have e2 : (cs0.map G.val)[j]? = (cs.map G.val)[j]? := by rw [e]
        rw [List.getElem?_map, List.getElem?_map, hcx, hc] at e2
        exact (Option.some.inj e2).symm
      have := R1.pushA (v := cs[j].val) (s := s) (p := p ++ [j]) hs (by
        unfold AlOk
        rw [hlen]
        refine ⟨g0, a2, cs2, ?_, ?_, ?_⟩
        · rw [List.getElem?_take, if_pos (by simp; omega)]; exact hg
        · rw [G.at_append, hgp]
          show (match cs0[j]? with | some u => u.at [] | none => none) = _
          rw [hcx, hc2]; rfl
        · rw [hval, hc2]; rfl)
      exact ⟨_, by simpa using this⟩
    | own t' =>
      cases hz
      cases hr
      obtain ⟨g1, hg1, e1, ho1, n1, n2⟩ := R.ownT hB (tmp_last (S := S))
      have R1 := R.popT hB hn
      obtain ⟨a1, cs1, rfl, hH1, hok1, hl1, ch1⟩ := ho1.nd_
      cases e1
      have e : cs1.map G.val = cs.map G.val := Sh.ho_inj (by rw [List.length_map]; exact hok1) (by rw [List.length_map]; exact hok) (Option.some.inj (hH1.symm.trans hH))
      have hc1 : cs1[j]? = some cs1[j] := by simp [show j < cs1.length by omega]
      have e2 : (cs1.map G.val)[j]? = (cs.map G.val)[j]? := by rw [e]
      rw [List.getElem?_map, List.getElem?_map, hc1, hc] at e2
      have hval := Option.some.inj e2
      have sub : ∀ b ∈ cs1[j].fp, b ∈ (G.nd a cs1).fp := fun b hb => List.mem_cons_of_mem _ (G.mem_fps.mpr ⟨_, List.mem_of_getElem? hc1, hb⟩)
      have nd1 : cs1[j].fp.Nodup := (G.fps_get (List.nodup_cons.mp n1).2 hc1).1
      have := R1.pushO (ch1 j _ _ hc1 ht) nd1 (fun b hb => (n2 b (sub b hb)).1) (fun b hb => (n2 b (sub b hb)).2.1) fun b hb => (n2 b (sub b hb)).2.2
      rw [show cs1[j].val = cs[j].val from hval] at this
      exact ⟨_, by simpa using this⟩
    | fr d => cases hr
    | fd d => cases hr
    | un => cases hr
theorem sub_valR {x y : V} {ex ey z : En} (R : Rel Φ (B ++ (S ++ [(some x, ex), (some y, ey)]).map (·.1)) (env ++ (S ++ [(some x, ex), (some y, ey)]).map (·.2)) H fz gs) (hB : B.length = env.length) (hn : Φ.n ≤ env.length) (hz : subE env ex ey = some z) :
    ∃ w, SubV H x y w ∧ ∃ gs', Rel Φ (B ++ (S ++ [(some w, z)]).map (·.1)) (env ++ (S ++ [(some w, z)]).map (·.2)) H fz gs' := by
  unfold subE at hz
  cases hk : peek env ey with
  | none => rw [hk] at hz; cases hz
  | some k =>
  rw [hk] at hz
  have Dk := R.data hB hn (tmp_last1 (S := S)) hk
  cases hr : res env ex with
  | none => rw [hr] at hz; cases hz
  | some t =>
  rw [hr] at hz
  obtain ⟨g, rfl, ho, _⟩ := R.temp hB hn (tmp_last (S := S)) hr
  -- frozen
  have frz : ∀ {a : Addr} {vs : List V} {ds : List Dt} {i : Int} {z : En}, g.val = .ref a → vs.length = ds.length → (∀ (i : Nat) (v : V) (d : Dt), vs[i]? = some v → ds[i]? = some d → IsD H fz v d) → ((ixNat ds.length i).bind fun j => ds[j]?).map En.fr = some z →
      ∃ w, atI vs i = some w ∧ ∃ gs', Rel Φ (B ++ (S ++ [(some w, z)]).map (·.1)) (env ++ (S ++ [(some w, z)]).map (·.2)) H fz gs' := by
    intro a vs ds i z ha hl ch hz
    obtain ⟨d, hd, rfl⟩ := Option.map_eq_some_iff.mp hz
    obtain ⟨j, hj, hd⟩ := Option.bind_eq_some_iff.mp hd
    have hlt : j < vs.length := by rw [hl]; exact (List.getElem?_eq_some_iff.mp hd).1
    have hw : vs[j]? = some vs[j] := by simp [hlt]
    exact ⟨vs[j], atI_of hl hj hw, _, by simpa using (R.popT hB hn).pushF (ch j _ d hw hd)⟩
  cases t with
  | fr d =>
    cases d with
    | list ds =>
      cases k <;> try (cases hz; done)
      obtain ⟨a, vs, ha, _, hR, hl, ch⟩ : ∃ a vs, g.val = .ref a ∧ fz a ∧ Rd H a (.lst vs) ∧ vs.length = ds.length ∧ ∀ (i : Nat) (v : V) (d : Dt), vs[i]? = some v → ds[i]? = some d → IsD H fz v d := ho.frD.lst_
      obtain ⟨w, hw, pw⟩ := frz ha hl ch hz
      exact ⟨w, .inl ⟨a, vs, _, ha, Dk.int_, hR, hw⟩, pw⟩
    | tuple ds =>
      cases k <;> try (cases hz; done)
      obtain ⟨a, vs, ha, _, hR, hl, ch⟩ : ∃ a vs, g.val = .ref a ∧ fz a ∧ H a = some (.tup vs) ∧ vs.length = ds.length ∧ ∀ (i : Nat) (v : V) (d : Dt), vs[i]? = some v → ds[i]? = some d → IsD H fz v d := ho.frD.tup_
      obtain ⟨w, hw, pw⟩ := frz ha hl ch hz
      exact ⟨w, .inr (.inl ⟨a, vs, _, ha, Dk.int_, .of hR, hw⟩), pw⟩
    | _ => cases hz
  | nd sh ts =>
    cases sh with
    | ls =>
      cases k <;> try (cases hz; done)
      rename_i i
      cases hj : ixNat ts.length i with
      | none => simp only [hj] at hz; cases hz
      | some j =>
        simp only [hj] at hz
        obtain ⟨a, vs, w, ha, hH, _, hl, hw, pw⟩ := pick_val R hB hn hr hz
        exact ⟨w, .inl ⟨a, _, i, ha, Dk.int_, .of hH, atI_of hl hj hw⟩, pw⟩
    | tp =>
      cases k <;> try (cases hz; done)
      rename_i i
      cases hj : ixNat ts.length i with
      | none => simp only [hj] at hz; cases hz
      | some j =>
        simp only [hj] at hz
        obtain ⟨a, vs, w, ha, hH, _, hl, hw, pw⟩ := pick_val R hB hn hr hz
        exact ⟨w, .inr (.inl ⟨a, _, i, ha, Dk.int_, .of hH, atI_of hl hj hw⟩), pw⟩
    | dk ks =>
      cases hj : (Sh.dk ks).find k with
      | none => simp only [hj] at hz; cases hz
      | some o =>
        simp only [hj] at hz
        cases o with
        | none => cases hz
        | some j =>
          obtain ⟨a, vs, w, ha, hH, ok, hl, hw, pw⟩ := pick_val R hB hn hr hz
          have := dget_of hH ok Dk hj
          rw [Option.bind_some, hw] at this
          exact ⟨w, .inr (.inr ⟨a, ha, this⟩), pw⟩
    | dt ks =>
      cases hj : (Sh.dt ks).find k with
      | none => simp only [hj] at hz; cases hz
      | some o =>
        simp only [hj] at hz
        cases o with
        | none => cases hz
        | some j =>
          obtain ⟨a, vs, w, ha, hH, ok, hl, hw, pw⟩ := pick_val R hB hn hr hz
          have := dget_of hH ok Dk hj
          rw [Option.bind_some, hw] at this
          exact ⟨w, .inr (.inr ⟨a, ha, this⟩), pw⟩
theorem sub_val {x y : V} {ex ey z : En} (p : Px Φ B env (S ++ [(some x, ex), (some y, ey)]) H) (hz : subE env ex ey = some z) : ∃ w, SubV H x y w ∧ Px Φ B env (S ++ [(some w, z)]) H := by
  obtain ⟨hB, hn, fz, gs, R⟩ := p
  obtain ⟨w, h, gs', R'⟩ := sub_valR R hB hn hz
  exact ⟨w, h, hB, hn, fz, gs', R'⟩
/-- the reading of x[y] -/
theorem sub_get {X : Cx} (hu : X.A.units + 1 < cLine) {pins : List (Addr × Obj)} {s : Shared} {σ : L2.St} {x y w : V} {v u : Value} {Q : VK} (I : Inv X pins σ H s) (rx : RelV x v) (ry : RelV y u) (h : SubV H x y w) (q : Q w H) :
    ∃ T id, typeLookup (.type T) "__getitem__" = pure (some (.builtin id)) ∧ s.TypeIs v T ∧ wpAny (model X.prog X.w) X.A (getItem v u) (EP X pins σ Q) X.xe s := by
  have hn := line63
  rcases h with ⟨a, xs, i, rfl, rfl, hr, he⟩ | ⟨a, xs, i, rfl, rfl, hr, he⟩ | ⟨a, rfl, g⟩
  · cases rx
    obtain ⟨t, rfl⟩ := ry
    obtain ⟨its, r, pl, hz⟩ := I.list (.inl hr)
    obtain ⟨j, h1, h2, h3, h4, h5⟩ := atI_get he
    obtain ⟨w', ew, rw'⟩ := r.get h2
    have hl := r.length
    refine ⟨"list", _, slot_list_getitem.lookup, pl.isList.typeIs, ?_⟩
    by_cases h0 : 0 ≤ i
    · have hj : i.toNat = j := by
        rw [seqIndex_of h0 h5] at h1
        exact Option.some.inj h1
      exact wpAny_getItem_list pl.isList h0 (by omega) (by rw [hj]; simpa using ew) ⟨w, H, I, rw', q⟩
    · have hj : (i + (its.toArray.size : Int)).toNat = j := by
        rw [seqIndex_neg (by omega) h4] at h1
        rw [List.size_toArray, ← hl]
        exact Option.some.inj h1
      exact wpAny_getItem_list_neg pl.isList (by omega) (by rw [List.size_toArray]; omega) (by omega) (by rw [hj]; simpa using ew) ⟨w, H, I, rw', q⟩
  · cases rx
    obtain ⟨t, rfl⟩ := ry
    obtain ⟨its, r, pl, hz⟩ := I.tuple (.inl hr)
    obtain ⟨j, h1, h2, h3, h4, h5⟩ := atI_get he
    obtain ⟨w', ew, rw'⟩ := r.get h2
    have hl := r.length
    exact ⟨"tuple", _, slot_tuple_getitem.lookup, pl.typeIs, getItem_tuple (j := j) pl (by omega) (by omega) (by rw [List.size_toArray, ← hl]; exact h1) (by simpa using ew) ⟨w, H, I, rw', q⟩⟩
  · cases rx
    exact ⟨"dict", _, slot_dict_getitem.lookup, dict_typeIs I g, d_getItem hu I g ry fun w' s' I' r' => ⟨w, H, I', r', q⟩⟩
theorem ix_subE {X : Cx} (hu : X.A.units + 1 < cLine) : IxR X (rE2 Φ subE) := by
  intro value slice pins s σ H x y v u Q I rx ry ⟨B, env, S, ex, ey, z, p, hz, q⟩ hs
  obtain ⟨w, hw, pw⟩ := sub_val p hz
  obtain ⟨T, id, h1, h2, h3⟩ := sub_get hu I rx ry hw (q w H pw)
  exact tail_any h2 h1 h3 hs
theorem get_subE {X : Cx} (hu : X.A.units + 1 < cLine) : PGet X (rE2 Φ subE) := by
  intro pins s σ H x y v u Q I rx ry ⟨B, env, S, ex, ey, z, p, hz, q⟩
  obtain ⟨w, hw, pw⟩ := sub_val p hz
  obtain ⟨T, id, h1, h2, h3⟩ := sub_get hu I rx ry hw (q w H pw)
  exact h3
end
section
variable {b : Bx} {σ : L2.St} {B : List (Option V)} {S : Tmp} {H : Hp} {env : Ev}
theorem pE_sub {X : Cx} {ea eb : Ex} {a c : Expr} {pos : Pos} (hu : X.A.units + 1 < cLine) (ha : PE X a (tE b ea)) (hb : PE X c (tE b eb)) (hs : PlainIx c) : PE X (.Subscript a c pos) (tE b (.sub ea eb)) := by
  refine peImp (pe_ix (ix_subE (Φ := b.Φ) hu) ha hb hs) fun σ H Q ⟨R, env, S, p, q⟩ => ?_
  simp only [evE] at q
  refine ⟨R, env, S, p, q.bind fun q1 _ s1 v1 H1 p1 => ?_⟩
  refine ⟨R, q1.1, S ++ [(some v1, q1.2)], p1, s1.bind fun q2 _ s2 v2 H2 p2 => ?_⟩
  obtain ⟨z, hz, s3⟩ := s2.ofO
  exact ⟨σ ++ R, q2.1, S, q1.2, q2.2, z, by simpa using p2, hz, fun v H' p3 => s3 v H' p3⟩
end
end MP
/-! mini: x[::-1] of a list or a tuple -/
namespace MP
open PySem PySem.Spec PyProof.Rows L2 HT
section
variable {prog : Program} {w : World} {A : Around} {E : Value → Shared → Prop} {s : Shared}
theorem sliceApplied_rev {sl : Addr} {vl vu vs : Value} {n : Nat} {Q : Int × Int × Nat → Shared → Prop} (hs : s.heap.IsSliceOf sl vl vu vs) (pl : IsPart vl none) (pu : IsPart vu none) (ps : IsPart vs (some (-1)))
    (h : Q ((n : Int) - 1, -1, n) s) : wpAny (model prog w) A (Builtin.Slice.sliceApplied (.ref sl) (pure (n : Int))) Q E s := by
  obtain ⟨os, hos, hcs, hds⟩ := id hs
  unfold Builtin.Slice.sliceApplied Builtin.Slice.sliceFields
  refine wpAny_bind (wpAny_bind (wpAny_field hos hds (x := vl) rfl (wpAny_bind (wpAny_field hos hds (x := vu) rfl (wpAny_bind (wpAny_field hos hds (x := vs) rfl (wpAny_pure ?_)))))))
  refine wpAny_bind (slicePart_ ps ?_)
  show wpAny _ _ (if ((-1 : Int) == 0) = true then _ else _) _ _ s
  rw [if_neg (by decide)]
  refine wpAny_bind (slicePart_ pl (wpAny_bind (slicePart_ pu (wpAny_bind (wpAny_pure ?_)))))
  show wpAny _ _ (match Builtin.Slice.sliceAdjust none none (-1) (n : Int) with | (lo, hi) => pure (lo, (-1 : Int), Builtin.Slice.slicePlaces lo hi (-1))) _ _ s
  have e1 : Builtin.Slice.sliceAdjust none none (-1) (n : Int) = ((n : Int) - 1, -1) := by
    unfold Builtin.Slice.sliceAdjust
    rfl
  have e2 : Builtin.Slice.slicePlaces ((n : Int) - 1) (-1) (-1) = n := by
    unfold Builtin.Slice.slicePlaces
    rw [if_neg (by decide)]
    split
    · rw [show (- -1 : Int) = 1 by decide, Int.ediv_one]
      omega
    · omega
  rw [e1]
  show wpAny _ _ (pure ((n : Int) - 1, (-1 : Int), Builtin.Slice.slicePlaces ((n : Int) - 1) (-1) (-1))) _ _ s
  rw [e2]
  exact wpAny_pure h
theorem pick_rev (xs : Array Value) : ((List.range xs.size).filterMap fun (m : Nat) => xs[(((xs.size : Int) - 1) + (m : Int) * (-1)).toNat]?).toArray = xs.toList.reverse.toArray := by
  have e : (fun (m : Nat) => xs[(((xs.size : Int) - 1) + (m : Int) * (-1)).toNat]?) = (fun k => xs[k]?) ∘ fun m => xs.size - 1 - m := by
    funext m
    show xs[(((xs.size : Int) - 1) + (m : Int) * (-1)).toNat]? = xs[xs.size - 1 - m]?
    rw [show (((xs.size : Int) - 1) + (m : Int) * (-1)).toNat = xs.size - 1 - m by omega]
  rw [e, ← List.filterMap_map, PySem.W.krv_range, List.filterMap_reverse, PySem.W.krv_all]
theorem getItem_tuple_rev {t sl : Addr} {items : Array Value} {vl vu vs : Value} {Q : Value → Shared → Prop} (ht : IsTup s.heap t items) (hs : s.heap.IsSliceOf sl vl vu vs) (pl : IsPart vl none) (pu : IsPart vu none) (ps : IsPart vs (some (-1)))
    (h : Q (.ref s.heap.objs.size) { s with heap := s.heap.push { cls := .type "tuple", data := .seq items.toList.reverse.toArray } })
    (hsz : items.size ≤ sizeLine) : wpAny (model prog w) A (getItem (.ref t) (.ref sl)) Q E s := by
  have htake : sizeOk (.seq items.toList.reverse.toArray) := by
    show items.toList.reverse.toArray.size ≤ sizeLine
    rw [List.size_toArray, List.length_reverse, Array.length_toList]
    exact hsz
  obtain ⟨os, hos, hcs, hds⟩ := id hs
  have hTs : s.TypeIs (.ref sl) "slice" := ⟨os, hos, hcs⟩
  unfold getItem
  try with_reducible refine wpAny_holding ?_
  first | refine wpAny_bind (wpAny_pure ?_) | skip
  refine wpAny_bind (wpAny_sequenceKey ht.typeIs (by decide) ?_)
  refine wpAny_bind (wpAny_callSpecial?_slot (name := Str.ofString "__getitem__") ht.typeIs PyProof.Rows.slot_tuple_getitem
    (wpAny_call_entry PyProof.Rows.slot_tuple_getitem ht.typeIs entry_tuple_getitem ?_ (args_tuple_getitem _ _)))
  show wpAny _ _ (Builtin.Tuple.tupleItemsOf (.ref t) >>= _) _ _ s
  refine wpAny_bind (tupleItemsOf_ ht ?_)
  refine wpAny_bind (wpAny_typeOf hTs ?_)
  rw [if_pos (by decide)]
  refine wpAny_bind (sliceApplied_rev hs pl pu ps ?_)
  have hno : ¬ ((((items.size : Int) - 1) == 0 && (-1 : Int) == 1 && items.size == items.size) = true) := by
    rw [show ((-1 : Int) == 1) = false by decide]
    simp
  show wpAny _ _ (if (((items.size : Int) - 1) == 0 && (-1 : Int) == 1 && items.size == items.size) = true then _ else _) _ _ s
  rw [if_neg hno, pick_rev]
  first
    | exact wpAny_bind (m := Builtin.Tuple.tupleExact _) (wpAny_newObj_type (wpAny_pure ⟨_, rfl, wpAny_pure h⟩) htake)
    | exact wpAny_bind (m := Builtin.Tuple.tupleExact _) (wpAny_newObj_type (wpAny_bind (wpAny_pure (wpAny_pure ⟨_, rfl, wpAny_pure h⟩))) htake)
    | exact wpAny_bind (wpAny_bind (m := Builtin.Tuple.tupleExact _) (wpAny_newObj_type (wpAny_pure (wpAny_pure ⟨_, rfl, wpAny_pure h⟩)) htake))
    | exact wpAny_bind (wpAny_bind (m := Builtin.Tuple.tupleExact _) (wpAny_newObj_type (wpAny_pure ⟨_, rfl, wpAny_pure h⟩) htake))
end
section
variable {X : Cx}
def tRevA (K : PySem.W.Frag) (te : TE) : TE := fun σ H Q => te σ H fun x H1 => ∃ a xs, x = .ref a ∧ ((SqL K H1 a xs ∧ ∀ p, H1 p = none → Q (.ref p) (upd H1 p (.lst xs.reverse))) ∨ (SqT K H1 a xs ∧ ∀ p, H1 p = none → Q (.ref p) (upd H1 p (.tup xs.reverse))))
theorem pe_revA {e : Expr} {te : TE} {k : Nat} {p1 p2 p3 pos : Pos} (he : PE X e te) : PE X (.Subscript e (.Slice none none (some (.UnaryOp .USub (.Constant (.int 1) k p1) p2)) p3) pos) (tRevA X.K te) := by
  refine ⟨fun pins s σ H Q I h => ?_⟩
  refine Subscript_ (thn (he.run pins s σ H _ I h) fun v s1 ⟨x, H1, I1, r1, q1⟩ => ?_)
  obtain ⟨a, xs, ex, q⟩ := q1
  subst ex
  cases r1
  have hst : PO X (some (.UnaryOp .USub (.Constant (.int 1) k p1) p2)) (tPart (tUn (rU fun i => .int (-i)) (tC (.int 1)))) := po_some (pe_un un_neg pe_int)
  refine wpAny_Slice (thn (po_none.run pins s1 σ H1 (fun o H2 => o = none ∧ H2 = H1) I1 ⟨rfl, rfl⟩) fun vl s2 ⟨l, H2, I2, pl, el, e2⟩ => ?_)
  subst el e2
  refine thn (po_none.run pins s2 σ H2 (fun o H3 => o = none ∧ H3 = H2) I2 ⟨rfl, rfl⟩) fun vu s3 ⟨u, H3, I3, pu, eu, e3⟩ => ?_
  subst eu e3
  refine thn (hst.run pins s3 σ H3 (fun o H4 => o = some (-1) ∧ H4 = H3) I3 ⟨1, rfl, -1, rfl, rfl, rfl⟩) fun vs s4 ⟨o, H4, I4, ps, eo, e4⟩ => ?_
  subst eo e4
  have I5 : Inv X pins σ H4 { s4 with heap := s4.heap.push { cls := .type "slice", data := .fields #[vl, vu, vs] } } := I4.kept (t' := s4.toks) fun b ob q => Heap.get?_push_of_some _ q
  show wpAny (model X.prog X.w) X.A (subscriptTail e (.Slice none none (some (.UnaryOp .USub (.Constant (.int 1) k p1) p2)) p3) (.ref a) (.ref s4.heap.objs.size)) (EP X pins σ Q) X.xe { s4 with heap := s4.heap.push { cls := .type "slice", data := .fields #[vl, vu, vs] } }
  rcases q with ⟨hx, q⟩ | ⟨hx, q⟩
  · obtain ⟨its, r, ht, hz⟩ := I5.list hx
    have hlen := r.length
    refine tail_any (ops := [.ref a, .ref s4.heap.objs.size]) ht.isList.typeIs (PySem.slot_list_getitem.lookup) ?_ (by with_unfolding_all rfl)
    refine wpAny_getItem_list_slice ht.isList (Heap.IsSliceOf.new _ vl vu vs) pl pu ps (by decide) ?_ (by rw [List.size_toArray]; omega)
    rw [PySem.W.krv_pick]
    refine ⟨.ref _, _, I5.laid (t' := s4.toks) (o := .lst xs.reverse) (fun b ob q => Heap.get?_push_of_some _ q) (Nat.le_refl _) ?_, rfl, q _ (I5.hok.fresh (Nat.le_refl _))⟩
    exact ⟨by rw [List.length_reverse]; exact hz, _, 0, r.reverse, Heap.get?_push_size _ rfl⟩
  · obtain ⟨its, r, ht, hz⟩ := I5.tuple hx
    have hlen := r.length
    refine tail_any (ops := [.ref a, .ref s4.heap.objs.size]) ht.typeIs (PyProof.Rows.slot_tuple_getitem.lookup) ?_ (by with_unfolding_all rfl)
    refine getItem_tuple_rev ht (Heap.IsSliceOf.new _ vl vu vs) pl pu ps ?_ (by rw [List.size_toArray]; omega)
    refine ⟨.ref _, _, I5.laid (t' := s4.toks) (o := .tup xs.reverse) (fun b ob q => Heap.get?_push_of_some _ q) (Nat.le_refl _) ?_, rfl, q _ (I5.hok.fresh (Nat.le_refl _))⟩
    exact ⟨by rw [List.length_reverse]; exact hz, _, r.reverse, ⟨_, Heap.get?_push_size _ rfl, rfl, _, rfl⟩⟩
end
end MP
set_option maxHeartbeats 1000000
set_option autoImplicit false
/-! mini: argument lists, displays, slices -/
namespace MP
open PySem PySem.Spec PyProof.Rows L2
section
variable {b : Bx} {σ : L2.St} {B : List (Option V)} {S : Tmp} {H : Hp} {env : Ev}
/-- values with their entries -/
abbrev tz (vs : List V) (xs : List En) : Tmp := (vs.map some).zip xs
theorem tz_fst : ∀ {vs : List V} {xs : List En}, vs.length = xs.length → (tz vs xs).map (·.1) = vs.map some
  | [], [], _ => rfl
  | v :: vs, x :: xs, h => congrArg (some v :: ·) (tz_fst (vs := vs) (xs := xs) (Nat.succ.inj h))
theorem tz_snd : ∀ {vs : List V} {xs : List En}, vs.length = xs.length → (tz vs xs).map (·.2) = xs
  | [], [], _ => rfl
  | v :: vs, x :: xs, h => congrArg (x :: ·) (tz_snd (vs := vs) (xs := xs) (Nat.succ.inj h))
theorem Px.args {vs : List V} {xs : List En} (p : Px b.Φ B env (S ++ tz vs xs) H) (hl : vs.length = xs.length) : ∃ fz gs, Rel b.Φ ((B ++ S.map (·.1)) ++ vs.map some) (env ++ (S.map (·.2) ++ xs)) H fz gs := by
  obtain ⟨hB, hn, fz, gs, R⟩ := p
  refine ⟨fz, gs, ?_⟩
  have := R
  rw [List.map_append, List.map_append, tz_fst hl, tz_snd hl] at this
  simpa using this

theorem pA_nil {X : Cx} : PA X [] (tL b .nil) := paImp pa_nil fun σ H Q ⟨R, env, S, p, q⟩ => by
  simp only [evL] at q
  exact q [] H rfl (by simpa using p)
theorem pA_cons {X : Cx} {e : Expr} {es : List Expr} {x xs : Ex} (ha : PE X e (tE b x)) (hr : PA X es (tL b xs)) (hs : starEach (e :: es) X.env = (false, eval e X.env) :: starEach es X.env) : PA X (e :: es) (tL b (.cons x xs)) :=
  paImp (pa_cons ha hr hs) fun σ H Q ⟨R, env, S, p, q⟩ => by
    simp only [evL] at q
    refine ⟨R, env, S, p, q.bind fun q1 _ s1 v1 H1 p1 => ?_⟩
    refine ⟨R, q1.1, _, p1, s1.bind fun q2 _ s2 vs H2 hl p2 => ?_⟩
    refine s2 (v1 :: vs) H2 (by simp [hl]) ?_
    simpa using p2
/-- one value, no other -/
theorem pA_one {X : Cx} {e : Expr} {x : Ex} (ha : PE X e (tE b x)) (hs : starEach [e] X.env = (false, eval e X.env) :: starEach [] X.env) : PA X [e] (tL b (.cons x .nil)) := pA_cons ha pA_nil hs

theorem pE_tup {X : Cx} {es : List Expr} {xs : Ex} {k : Nat} {pos : Pos} (h : PA X es (tL b xs)) : PE X (.Tuple es k pos) (tE b (.tup xs)) :=
  peImp (pe_tup h) fun σ H Q ⟨R, env, S, p, q⟩ => by
    simp only [evE] at q
    refine ⟨R, env, S, p, q.bind fun q1 _ s1 vs H1 hl p1 => ?_⟩
    obtain ⟨r, hr, s2⟩ := s1.ofO
    split at s2
    · rename_i hz
      obtain ⟨fz, gs, R1⟩ := p1.args hl
      obtain ⟨hle, fz', gs', R2, _⟩ := R1.frzs p1.2.1 (show frzL q1.1 q1.2 = some (r.1, r.2) from hr)
      have hB : (σ ++ R).length = r.1.length := by rw [hle]; exact p1.1
      have hn : b.Φ.n ≤ r.1.length := by rw [hle]; exact p1.2.1
      have R3 : Rel b.Φ ((σ ++ R ++ S.map (·.1)) ++ vs.map some) ((r.1 ++ S.map (·.2)) ++ r.2.map .fr) H1 fz' gs' := by simpa using R2
      have hlB : (σ ++ R ++ S.map (·.1)).length = (r.1 ++ S.map (·.2)).length := by rw [List.length_append, hB]; simp
      have hds := (R3.frs hlB).1
      refine ⟨by rw [hds]; exact hz, fun a ha => s2 _ _ ⟨hB, hn, ?_⟩⟩
      have := R3.mkF hlB (by rw [List.length_append]; omega) .tp trivial ha
      obtain ⟨fz2, gs2, R4⟩ := this
      exact ⟨fz2, gs2, by simpa [Sh.dat, Sh.ho] using R4⟩
    · exact s2.elim
theorem pE_lst {X : Cx} {es : List Expr} {xs : Ex} {pos : Pos} (h : PA X es (tL b xs)) : PE X (.List es pos) (tE b (.lst xs)) :=
  peImp (pe_lst h) fun σ H Q ⟨R, env, S, p, q⟩ => by
    simp only [evE] at q
    refine ⟨R, env, S, p, q.bind fun q1 _ s1 vs H1 hl p1 => ?_⟩
    obtain ⟨r, hr, s2⟩ := s1.ofO
    split at s2
    · rename_i hz
      obtain ⟨fz, gs, R1⟩ := p1.args hl
      obtain ⟨hle, hul, fz', gs', R2, _⟩ := R1.toTrs p1.2.1 (show toTrL q1.1 q1.2 = some (r.1, r.2) from hr)
      have hB : (σ ++ R).length = r.1.length := by rw [hle]; exact p1.1
      have hn : b.Φ.n ≤ r.1.length := by rw [hle]; exact p1.2.1
      have R3 : Rel b.Φ ((σ ++ R ++ S.map (·.1)) ++ vs.map some) ((r.1 ++ S.map (·.2)) ++ r.2.map .own) H1 fz' gs' := by simpa using R2
      have hlB : (σ ++ R ++ S.map (·.1)).length = (r.1 ++ S.map (·.2)).length := by rw [List.length_append, hB]; simp
      refine ⟨by rw [hl, ← hul]; exact hz, fun a ha => s2 _ _ ⟨hB, hn, ?_⟩⟩
      obtain ⟨fz2, gs2, R4⟩ := R3.mkO hlB (by rw [List.length_append]; omega) .ls trivial ha
      exact ⟨fz2, gs2, by simpa [Sh.ho] using R4⟩
    · exact s2.elim
theorem Px.newD (p : Px b.Φ B env S H) (sh : Sh) (ok : sh.ok 0) {a : Addr} (ha : H a = none) (nt : sh ≠ .tp := by first | assumption | (intro h; cases h)) : Px b.Φ B env (S ++ [(some (.ref a), .own (.nd sh []))]) (upd H a (sh.ho [])) := by
  obtain ⟨hB, hn, fz, gs, R⟩ := p
  have R3 : Rel b.Φ ((B ++ S.map (·.1)) ++ ([] : List V).map some) ((env ++ S.map (·.2)) ++ ([] : List Tr).map .own) H fz gs := by simpa using R
  obtain ⟨fz2, gs2, R4⟩ := R3.mkO (by simp [hB]) (by simp; omega) sh ok ha
  exact ⟨hB, hn, fz2, gs2, by simpa using R4⟩
theorem pE_dnewK {X : Cx} {pos : Pos} : PE X (.Dict [] [] pos) (tE b (.dnew false)) :=
  peImp pe_dnewK fun σ H Q ⟨R, env, S, p, q⟩ a ha => q _ _ (p.newD (.dk []) ⟨rfl, List.nodup_nil⟩ ha)
theorem pE_dnewT {X : Cx} {pos : Pos} : PE X (.Dict [] [] pos) (tE b (.dnew true)) :=
  peImp pe_dnewT fun σ H Q ⟨R, env, S, p, q⟩ a ha => q _ _ (p.newD (.dt []) ⟨rfl, List.nodup_nil⟩ ha)
/-! ### slices -/
def evO (C : Cl) (e : Ex) (env : Ev) : Res (Ev × Option Int) := (evL C e env).bind fun q => (ofO (optInt q.1 q.2)).bind fun o => .ok (q.1, o)
def tO (b : Bx) (e : Ex) : TO := fun σ H Q => ∃ R env S, Px b.Φ (σ ++ R) env S H ∧ Sat b σ (σ ++ R) (fun q => ∀ H', Px b.Φ (σ ++ R) q.1 S H' → Q q.2 H') (evO b.C e env)
theorem poImp {X : Cx} {e : Option Expr} {t t' : TO} (h : PO X e t) (k : ∀ σ H Q, t' σ H Q → t σ H Q) : PO X e t' := ⟨fun pins s σ H Q I q => h.run pins s σ H Q I (k σ H Q q)⟩
theorem pO_none {X : Cx} : PO X none (tO b .nil) := poImp po_none fun σ H Q ⟨R, env, S, p, q⟩ => by
  simp only [evO, evL] at q
  exact q H p
theorem pO_some {X : Cx} {e : Expr} {x : Ex} (h : PE X e (tE b x)) : PO X (some e) (tO b (.cons x .nil)) := poImp (po_some h) fun σ H Q ⟨R, env, S, p, q⟩ => by
  simp only [evO, evL] at q
  refine ⟨R, env, S, p, ?_⟩
  cases he : evE b.C x env with
  | stuck => rw [he] at q; exact q.elim
  | exc c d e => rw [he] at q; exact q
  | ok r =>
    rw [he] at q
    intro v H' p'
    simp only [Res.bind_ok, optInt] at q
    split at q
    · rename_i i hi
      exact ⟨i, p'.int_ hi, q _ p'.pop⟩
    · exact q.elim
theorem cutV_get {H : Hp} {fz : Addr → Prop} {vs : List V} {ds : List Dt} (hl : vs.length = ds.length) (h : ∀ (i : Nat) (v : V) (d : Dt), vs[i]? = some v → ds[i]? = some d → IsD H fz v d) (lo hi : Option Int) :
    (cutV vs lo hi).length = (cutD ds lo hi).length ∧ ∀ (i : Nat) (v : V) (d : Dt), (cutV vs lo hi)[i]? = some v → (cutD ds lo hi)[i]? = some d → IsD H fz v d := by
  unfold cutV cutD
  rw [hl]
  refine ⟨by simp [hl], fun i v d hv hd => ?_⟩
  rw [List.getElem?_take] at hv hd
  split at hv
  · rename_i hlt
    rw [if_pos hlt] at hd
    rw [List.getElem?_drop] at hv hd
    exact h _ _ _ hv hd
  · cases hv
theorem cutD_whole {ds : List Dt} {lo hi : Option Int} (h : HT.sIx ds.length 0 lo = 0 ∧ HT.sIx ds.length ds.length hi = ds.length) : cutD ds lo hi = ds := by
  unfold cutD
  rw [h.1, h.2]
  simp
def rSlE (Φ : Fx) : V → Option Int → Option Int → Hp → VK → Prop := fun x lo hi H Q => ∃ B env S ex z, Px Φ B env (S ++ [(some x, ex)]) H ∧ slcE env ex lo hi = some z ∧ ∀ v H', Px Φ B env (S ++ [(some v, z)]) H' → Q v H'
theorem sl_E {X : Cx} {Φ : Fx} : SlR X (rSlE Φ) := by
  intro pins s σ H x v vl vu lo hi sl Q I rx hs pl pu ⟨B, env, S, ex, z, ⟨hB, hn, fz, gs, R⟩, hz, q⟩
  unfold slcE at hz
  cases hd : lItems env ex with
  | some ds =>
    rw [hd] at hz
    cases hz
    obtain ⟨a, vs, rfl, hr, hl, ch⟩ := R.lst hB hn (tmp_last (S := S)) hd
    obtain ⟨hl2, ch2⟩ := cutV_get hl ch lo hi
    exact sl_list pins s σ H _ v vl vu lo hi sl Q I rx hs pl pu ⟨a, vs, rfl, .inl hr, fun p hp => q _ _ (R.retL hB hn hl2 ch2 hp)⟩
  | none =>
    rw [hd] at hz
    dsimp only at hz
    split at hz
    · rename_i ds hr
      cases hz
      obtain ⟨g, hg, ho, _⟩ := R.temp hB hn (tmp_last (S := S)) hr
      have D := ho.frD
      rw [hg] at D
      obtain ⟨a, vs, rfl, hf, hH, hl, ch⟩ := D.tup_
      obtain ⟨hl2, ch2⟩ := cutV_get hl ch lo hi
      refine sl_tupA pins s σ H _ v vl vu lo hi sl Q I rx hs pl pu ⟨a, vs, rfl, .inl (.of hH), fun hw => ?_, fun _ p hp => ?_⟩
      · rw [hl] at hw
        rw [cutD_whole hw] at q
        exact q _ _ (R.retF hB hn D)
      · exact q _ _ (R.retD hB hn (Hext.new hp) (isD_newT hp hl2 ch2))
    · cases hz
theorem pE_slc {X : Cx} {e : Expr} {lo hi : Option Expr} {x l u : Ex} {p2 pos : Pos} (he : PE X e (tE b x)) (hl : PO X lo (tO b l)) (hu : PO X hi (tO b u)) : PE X (.Subscript e (.Slice lo hi none p2) pos) (tE b (.slc x l u)) :=
  peImp (pe_slice (sl_E (Φ := b.Φ)) he hl hu) fun σ H Q ⟨R, env, S, p, q⟩ => by
    simp only [evE] at q
    refine ⟨R, env, S, p, q.bind fun q1 _ s1 v1 H1 p1 => ?_⟩
    refine ⟨R, q1.1, _, p1, s1.bind fun q2 _ s2 H2 p2 => ?_⟩
    refine ⟨R, q2.1, _, p2, s2.bind fun q3 _ s3 H3 p3 => ?_⟩
    obtain ⟨z, hz, s4⟩ := s3.ofO
    exact ⟨σ ++ R, q3.1, S, q1.2, z, p3, hz, fun v H' p4 => s4 v H' p4⟩
theorem pE_rev {X : Cx} {e : Expr} {x : Ex} {k : Nat} {p1 p2 p3 pos : Pos} (he : PE X e (tE b x)) : PE X (.Subscript e (.Slice none none (some (.UnaryOp .USub (.Constant (.int 1) k p1) p2)) p3) pos) (tE b (.rev x)) :=
  peImp (pe_revA he) fun σ H Q ⟨R, env, S, p, q⟩ => by
    simp only [evE] at q
    refine ⟨R, env, S, p, q.bind fun q1 _ s1 v1 H1 p1 => ?_⟩
    obtain ⟨z, hz, s2⟩ := s1.ofO
    obtain ⟨hB, hn, fz, gs, Rl⟩ := p1
    unfold revE at hz
    cases hd : lItems q1.1 q1.2 with
    | some ds =>
      rw [hd] at hz
      cases hz
      obtain ⟨a, vs, rfl, hr, hl, ch⟩ := Rl.lst hB hn (tmp_last (S := S)) hd
      refine ⟨a, vs, rfl, .inl ⟨.inl hr, fun p hp => s2 _ _ (Rl.retL hB hn (by simp [hl]) (fun i v d hv hd => ?_) hp)⟩⟩
      have h1 : i < vs.length := by simpa using (List.getElem?_eq_some_iff.mp hv).1
      rw [List.getElem?_reverse h1] at hv
      rw [List.getElem?_reverse (by omega)] at hd
      rw [hl] at hv
      exact ch _ _ _ hv hd
    | none =>
      rw [hd] at hz
      dsimp only at hz
      split at hz
      · rename_i ds hr
        cases hz
        obtain ⟨g, hg, ho, _⟩ := Rl.temp hB hn (tmp_last (S := S)) hr
        have D := ho.frD
        rw [hg] at D
        obtain ⟨a, vs, rfl, hf, hH, hl, ch⟩ := D.tup_
        refine ⟨a, vs, rfl, .inr ⟨.inl (.of hH), fun p hp => s2 _ _ (Rl.retD hB hn (Hext.new hp) (isD_newT hp (by simp [hl]) (fun i v d hv hd => ?_)))⟩⟩
        have h1 : i < vs.length := by simpa using (List.getElem?_eq_some_iff.mp hv).1
        rw [List.getElem?_reverse h1] at hv
        rw [List.getElem?_reverse (by omega)] at hd
        rw [hl] at hv
        exact ch _ _ _ hv hd
      · cases hz
end
end MP
set_option maxHeartbeats 1000000
set_option autoImplicit false
/-! mini: built-in functions over sequences -/
namespace MP
open PySem PySem.Spec PyProof.Rows L2
/-- a built-in by values -/
def rBi (Φ : Fx) (f : BI) : List V → Hp → VK → Prop := fun vs H Q => ∃ B env S xs env' z, vs.length = xs.length ∧ Px Φ B env (S ++ tz vs xs) H ∧ biE f env xs = some (env', z) ∧ ∀ v H', Px Φ B env' (S ++ [(some v, z)]) H' → Q v H'
section
variable {b : Bx} {X : Cx}
theorem bi_imp {f : BI} {xs : Ex} (σ : L2.St) (H : Hp) (Q : VK) (h : tE b (.bi f xs) σ H Q) : tCB (rBi b.Φ f) (tL b xs) σ H Q := by
  obtain ⟨R, env, S, p, q⟩ := h
  simp only [evE] at q
  refine ⟨R, env, S, p, q.bind fun q1 _ s1 vs H1 hl p1 => ?_⟩
  cases hz : biE f q1.1 q1.2 with
  | none => rw [hz] at s1; exact s1.elim
  | some z =>
    rw [hz] at s1
    exact ⟨σ ++ R, q1.1, S, q1.2, z.1, z.2, hl, p1, hz, fun v H' p2 => s1 v H' p2⟩
theorem pE_biB {x : Str} {p pos : Pos} {e : Expr} {es : List Expr} {f : BI} {xs : Ex} {id : String} (hc : CallR X (.builtin id) (rBi b.Φ f)) (hg : Gl X x) (hm : X.mg x = none) (hv : bootBuiltins x = some (.builtin id)) (ha : PA X (e :: es) (tL b xs)) (hn : x ≠ "__name__") (hdb : (x == ("__debug__" : Str)) = false)
    (he : starEach (e :: es) X.env = (false, eval e X.env) :: starEach es X.env) (hpl : (backTo pos (starEach es X.env)).any (·.1) = false) : PE X (.Call (.Name x p) (e :: es) [] pos) (tE b (.bi f xs)) :=
  peImp (pe_callB hc hg hm hv ha hn hdb he hpl) bi_imp
theorem pE_biT {x : Str} {p pos : Pos} {e : Expr} {es : List Expr} {f : BI} {xs : Ex} {T : String} (hc : CallR X (.type T) (rBi b.Φ f)) (hg : Gl X x) (hm : X.mg x = none) (hv : bootBuiltins x = some (.type T)) (ha : PA X (e :: es) (tL b xs)) (hn : x ≠ "__name__") (hdb : (x == ("__debug__" : Str)) = false)
    (he : starEach (e :: es) X.env = (false, eval e X.env) :: starEach es X.env) (hpl : (backTo pos (starEach es X.env)).any (·.1) = false) : PE X (.Call (.Name x p) (e :: es) [] pos) (tE b (.bi f xs)) :=
  peImp (pe_callTy hc hg hm hv ha hn hdb he hpl) bi_imp
theorem pE_biF {x : Str} {p pos : Pos} {e : Expr} {es : List Expr} {f : BI} {xs : Ex} {id : String} (hc : CallR X (.builtin id) (rBi b.Φ f)) (hg : Gl X x) (hm : X.mg x = some (.builtin id)) (ha : PA X (e :: es) (tL b xs)) (hdb : (x == ("__debug__" : Str)) = false)
    (he : starEach (e :: es) X.env = (false, eval e X.env) :: starEach es X.env) (hpl : (backTo pos (starEach es X.env)).any (·.1) = false) : PE X (.Call (.Name x p) (e :: es) [] pos) (tE b (.bi f xs)) :=
  peImp (pe_callBfun hc hg hm ha hdb he hpl) bi_imp
end
section
variable {Φ : Fx} {B : List (Option V)} {env : Ev} {S T : Tmp} {H H' : Hp} {fz : Addr → Prop} {gs : List G}
/-- one argument -/
theorem one_arg {vs : List V} {x : En} (h : vs.length = [x].length) : ∃ v, vs = [v] := by
  match vs, h with
  | [v], _ => exact ⟨v, rfl⟩
theorem two_arg {vs : List V} {x y : En} (h : vs.length = [x, y].length) : ∃ v w, vs = [v, w] := by
  match vs, h with
  | [v, w], _ => exact ⟨v, w, rfl⟩
/-- data handed back for what stands at the end -/
theorem Px.give (p : Px Φ B env (S ++ T) H) {v : V} {d : Dt} (h : ∀ fz, IsD H fz v d) : Px Φ B env (S ++ [(some v, .fr d)]) H := by
  obtain ⟨hB, hn, fz, gs, R⟩ := p
  exact R.retF hB hn (h fz)
theorem Px.at_ (p : Px Φ B env (S ++ T) H) {j : Nat} {v : V} {x : En} {t : Tr} (hj : T[j]? = some (some v, x)) (h : res env x = some t) : ∃ fz g, g.val = v ∧ OwnG H fz g t := by
  obtain ⟨hB, hn, fz, gs, R⟩ := p
  have : (S ++ T)[S.length + j]? = some (some v, x) := by rw [get_app_right]; exact hj
  obtain ⟨g, hg, ho, _⟩ := R.temp hB hn this h
  exact ⟨fz, g, hg, ho⟩
theorem Px.intAt (p : Px Φ B env (S ++ T) H) {j : Nat} {v : V} {x : En} {i : Int} (hj : T[j]? = some (some v, x)) (h : res env x = some (.fr (.int i))) : v = .int i := by
  obtain ⟨fz, g, hg, ho⟩ := p.at_ hj h
  rw [← hg, ho.int_]
/-- ints of a list or a tuple -/
theorem Px.ints (p : Px Φ B env (S ++ T) H) {j : Nat} {v : V} {x : En} {l : List Int} (hj : T[j]? = some (some v, x)) (h : intsOfE env x = some l) : ∃ a, v = .ref a ∧ (Rd H a (.lst (l.map V.int)) ∨ Rd H a (.tup (l.map V.int))) := by
  obtain ⟨hB, hn, fz, gs, R⟩ := p
  have hj' : (S ++ T)[S.length + j]? = some (some v, x) := by rw [get_app_right]; exact hj
  unfold intsOfE at h
  obtain ⟨ds, hd, hi⟩ := Option.bind_eq_some_iff.mp h
  obtain ⟨a, vs, rfl, hr, hl, ch⟩ := R.seq hB hn hj' hd
  obtain ⟨rfl, _⟩ := ints_of hl ch hi
  exact ⟨a, rfl, hr⟩
theorem Px.bools (p : Px Φ B env (S ++ T) H) {j : Nat} {v : V} {x : En} {l : List Bool} (hj : T[j]? = some (some v, x)) (h : (lItems env x).bind boolsOf = some l) : ∃ a, v = .ref a ∧ Rd H a (.lst (l.map V.bl)) := by
  obtain ⟨hB, hn, fz, gs, R⟩ := p
  have hj' : (S ++ T)[S.length + j]? = some (some v, x) := by rw [get_app_right]; exact hj
  obtain ⟨ds, hd, hi⟩ := Option.bind_eq_some_iff.mp h
  obtain ⟨a, vs, rfl, hr, hl, ch⟩ := R.lst hB hn hj' hd
  have := bools_of hl ch hi
  subst this
  exact ⟨a, rfl, hr⟩
end
/-! ### the walk of a sequence -/
section
variable {X : Cx} {pins : List (Addr × Obj)} {σ : L2.St} {H : Hp} {s : Shared} {a : Addr} {vs : List V}
/-- what an iterator just made walks -/
structure Seqs (P : Program) (w : World) (A : Around) (s : Shared) (its : List Value) (It : Addr) (fp wr : List Addr) (St : Nat → Heap → Prop) (s₂ : Shared) : Prop where
  sh : s₂ = { s with heap := s₂.heap }
  walks : Walks P w A It fp wr its.length (fun i v => its[i]? = some v) St
  st : St 0 s₂.heap
  lt : ∀ b ∈ fp, b < s₂.heap.objs.size
  old : ∀ h' : Heap, (∀ b o, b ∉ wr → s₂.heap.get? b = some o → h'.get? b = some o) → ∀ b o, s.heap.get? b = some o → h'.get? b = some o
theorem seq_iter (I : Inv X pins σ H s) (r : Rd H a (.lst vs) ∨ Rd H a (.tup vs)) : ∃ its : List Value, Vals vs its ∧ ∀ (A : Around) (E : Value → Shared → Prop) (Q : Value → Shared → Prop), A.handled = none →
    (∀ s₂ It fp wr St, Seqs X.prog X.w A s its It fp wr St s₂ → Q (.ref It) s₂) → wpAny (model X.prog X.w) A (pyIter (.ref a)) Q E s := by
  have old : ∀ (o : Obj) (h' : Heap), (∀ b ob, b ∉ [s.heap.objs.size] → (s.heap.push o).get? b = some ob → h'.get? b = some ob) → ∀ b ob, s.heap.get? b = some ob → h'.get? b = some ob := fun o h' k b ob e =>
    k b ob (fun hm => by rw [List.mem_singleton.mp hm] at e; exact Nat.lt_irrefl _ (Heap.lt_size e)) (Heap.get?_push_of_some _ e)
  rcases r with r | r
  · obtain ⟨its, rv, pl, _⟩ := I.list (.inl r)
    refine ⟨its, rv, fun A E Q hh k => wpAny_pyIter_list pl.isList ?_⟩
    have hlt : a < s.heap.objs.size := by obtain ⟨_, e, _⟩ := pl.isList; exact Heap.lt_size e
    have W := Walks.list (prog := X.prog) (w := X.w) hh s.heap.objs.size a (Nat.ne_of_lt hlt) its.toArray
    simp only [List.size_toArray, List.getElem?_toArray] at W
    refine k _ _ _ _ _ ⟨rfl, W, ⟨⟨_, Heap.get?_push_size _ rfl, rfl, rfl⟩, pl.isList.push _⟩, fun b hb => ?_, old _⟩
    have e1 : b = s.heap.objs.size ∨ b = a := by simpa using hb
    have : (s.heap.push { cls := .type "list_iterator", data := .fields #[.ref a, .int 0 0] }).objs.size = s.heap.objs.size + 1 := by simp [Heap.push]
    rw [this]
    rcases e1 with e1 | e1
    · rw [e1]; exact Nat.lt_succ_self _
    · rw [e1]; exact Nat.lt_succ_of_lt hlt
  · obtain ⟨its, rv, pl, _⟩ := I.tuple (.inl r)
    have it : s.heap.IsTuple a its.toArray := pl
    refine ⟨its, rv, fun A E Q hh k => wpAny_pyIter_tuple it ?_⟩
    have hlt : a < s.heap.objs.size := by obtain ⟨_, e, _⟩ := it; exact Heap.lt_size e
    have W := Walks.tuple (prog := X.prog) (w := X.w) hh s.heap.objs.size a (Nat.ne_of_lt hlt) its.toArray
    simp only [List.size_toArray, List.getElem?_toArray] at W
    refine k _ _ _ _ _ ⟨rfl, W, ⟨⟨_, Heap.get?_push_size _ rfl, rfl, rfl⟩, it.push _⟩, fun b hb => ?_, old _⟩
    have e1 : b = s.heap.objs.size ∨ b = a := by simpa using hb
    have : (s.heap.push { cls := .type "tuple_iterator", data := .fields #[.ref a, .int 0 0] }).objs.size = s.heap.objs.size + 1 := by simp [Heap.push]
    rw [this]
    rcases e1 with e1 | e1
    · rw [e1]; exact Nat.lt_succ_self _
    · rw [e1]; exact Nat.lt_succ_of_lt hlt
/-! ### sum, max, min -/
variable {Φ : Fx}
theorem ints_val {its : List Value} {ns : List Int} (r : Vals (ns.map V.int) its) : ∀ i v, its[i]? = some v → ∃ t, v = Value.int (ns.getD i 0) t := fun i v h => by
  have hl := r.length
  simp only [List.length_map] at hl
  have hi : i < ns.length := by rw [hl]; exact (List.getElem?_eq_some_iff.mp h).1
  obtain ⟨u, hu, ru⟩ := r.get (i := i) (x := .int ns[i]) (by rw [List.getElem?_map]; simp [hi])
  rw [h] at hu
  cases hu
  have e : ns.getD i 0 = ns[i] := by rw [List.getD_eq_getElem?_getD]; simp [hi]
  rw [e]
  exact ru
theorem preSum_list (ns : List Int) : ∀ k, preSum (fun i => ns.getD i 0) k = (ns.take k).sum := by
  intro k
  induction k with
  | zero => simp [preSum]
  | succ k ih =>
    simp only [preSum, ih]
    by_cases hk : k < ns.length
    · rw [List.take_succ, List.sum_append, List.getD_eq_getElem?_getD]; simp [hk]
    · rw [List.take_of_length_le (by omega), List.take_of_length_le (by omega), List.getD_eq_getElem?_getD, List.getElem?_eq_none (by omega)]; simp
theorem one_of {f : BI} {env env' : Ev} {xs : List En} {z : En} (h : biE f env xs = some (env', z)) (hf : ∀ x y, biE f env (x :: y :: []) = none) (hf0 : biE f env [] = none) (hf3 : ∀ x y z l, biE f env (x :: y :: z :: l) = none) : ∃ x, xs = [x] := by
  match xs, h with
  | [], h => rw [hf0] at h; cases h
  | [x], _ => exact ⟨x, rfl⟩
  | [x, y], h => rw [hf] at h; cases h
  | x :: y :: z :: l, h => rw [hf3] at h; cases h
theorem two_of {f : BI} {env env' : Ev} {xs : List En} {z : En} (h : biE f env xs = some (env', z)) (hf : ∀ x, biE f env [x] = none) (hf0 : biE f env [] = none) (hf3 : ∀ x y z l, biE f env (x :: y :: z :: l) = none) : ∃ x y, xs = [x, y] := by
  match xs, h with
  | [], h => rw [hf0] at h; cases h
  | [x], h => rw [hf] at h; cases h
  | [x, y], _ => exact ⟨x, y, rfl⟩
  | x :: y :: z :: l, h => rw [hf3] at h; cases h
theorem bi_sum (hc : X.calm = true) : CallR X (.builtin "sum") (rBi Φ .sum) := by
  intro pins s σ H vs us Q I rv ⟨B, env, S, xs, env', z, hl, p, hz, q⟩
  obtain ⟨x, rfl⟩ := one_of hz (fun _ _ => rfl) rfl (fun _ _ _ _ => rfl)
  obtain ⟨v, rfl⟩ := one_arg hl
  obtain ⟨l, hi, e⟩ := Option.map_eq_some_iff.mp (show (intsOfE env x).map (fun l => (env, En.fr (.int l.sum))) = some (env', z) from hz)
  cases e
  obtain ⟨a, rfl, r⟩ := p.ints (j := 0) rfl hi
  obtain ⟨its, ri, hit⟩ := seq_iter I r
  rw [Vals.ref1 rv]
  refine call_sum_walkG (hit _ _ _ (I.ok.hd hc) fun s₂ It fp wr St W => ?_)
  refine ⟨It, fp, wr, _, _, St, fun i => l.getD i 0, rfl, W.walks, W.st, W.lt, fun i v h => ints_val ri i v h, fun h' tk t' hk => ?_⟩
  have e : preSum (fun i => l.getD i 0) its.length = l.sum := by
    rw [preSum_list, List.take_of_length_le]
    have := ri.length
    simp only [List.length_map] at this
    omega
  rw [e, W.sh]
  exact ⟨.int l.sum, H, I.kept (W.old h' hk), ⟨_, rfl⟩, q _ _ (p.give fun _ => .int _)⟩
end
end MP
set_option maxHeartbeats 1000000
set_option autoImplicit false
/-! mini: built-in functions, more -/
namespace MP
open PySem PySem.Spec PyProof.Rows L2
section
variable {X : Cx} {Φ : Fx} {pins : List (Addr × Obj)} {σ : L2.St} {H : Hp} {s : Shared} {a : Addr} {vs : List V}
theorem maxL_is (x : Int) : ∀ l : List Int, ((l.foldl max x) = x ∨ l.foldl max x ∈ l) ∧ x ≤ l.foldl max x ∧ ∀ y ∈ l, y ≤ l.foldl max x
  | [] => by simp
  | z :: l => by
    obtain ⟨h1, h2, h3⟩ := maxL_is (max x z) l
    simp only [List.foldl_cons]
    refine ⟨?_, by omega, fun y hy => ?_⟩
    · rcases h1 with h1 | h1
      · rcases Int.le_total x z with h | h
        · right; rw [h1, Int.max_eq_right h]; simp
        · left; rw [h1, Int.max_eq_left h]
      · right; simp [h1]
    · rcases List.mem_cons.mp hy with rfl | hy
      · omega
      · exact h3 y hy
theorem minL_is (x : Int) : ∀ l : List Int, ((l.foldl min x) = x ∨ l.foldl min x ∈ l) ∧ l.foldl min x ≤ x ∧ ∀ y ∈ l, l.foldl min x ≤ y
  | [] => by simp
  | z :: l => by
    obtain ⟨h1, h2, h3⟩ := minL_is (min x z) l
    simp only [List.foldl_cons]
    refine ⟨?_, by omega, fun y hy => ?_⟩
    · rcases h1 with h1 | h1
      · rcases Int.le_total x z with h | h
        · left; rw [h1, Int.min_eq_left h]
        · right; rw [h1, Int.min_eq_right h]; simp
      · right; simp [h1]
    · rcases List.mem_cons.mp hy with rfl | hy
      · omega
      · exact h3 y hy
theorem maxL_mem {x : Int} {l : List Int} : maxL (x :: l) ∈ x :: l ∧ ∀ y ∈ x :: l, y ≤ maxL (x :: l) := by
  obtain ⟨h1, h2, h3⟩ := maxL_is x l
  refine ⟨?_, fun y hy => ?_⟩
  · show l.foldl max x ∈ _
    rcases h1 with h1 | h1
    · rw [h1]; simp
    · simp [h1]
  · rcases List.mem_cons.mp hy with rfl | hy
    · exact h2
    · exact h3 y hy
theorem minL_mem {x : Int} {l : List Int} : minL (x :: l) ∈ x :: l ∧ ∀ y ∈ x :: l, minL (x :: l) ≤ y := by
  obtain ⟨h1, h2, h3⟩ := minL_is x l
  refine ⟨?_, fun y hy => ?_⟩
  · show l.foldl min x ∈ _
    rcases h1 with h1 | h1
    · rw [h1]; simp
    · simp [h1]
  · rcases List.mem_cons.mp hy with rfl | hy
    · exact h2
    · exact h3 y hy
theorem getD_mem' {ns : List Int} {i : Nat} (h : i < ns.length) : ns.getD i 0 ∈ ns := by
  rw [List.getD_eq_getElem?_getD]; simp [h]
theorem mem_getD' {ns : List Int} {y : Int} (h : y ∈ ns) : ∃ j, j < ns.length ∧ ns.getD j 0 = y := by
  obtain ⟨j, hj, e⟩ := List.getElem_of_mem h
  exact ⟨j, hj, by rw [List.getD_eq_getElem?_getD]; simp [hj, e]⟩

theorem bi_max (hc : X.calm = true) : CallR X (.builtin "max") (rBi Φ .max) := by
  intro pins s σ H vs us Q I rv ⟨B, env, S, xs, env', z, hl, p, hz, q⟩
  obtain ⟨x, rfl⟩ := one_of hz (fun _ _ => rfl) rfl (fun _ _ _ _ => rfl)
  obtain ⟨v, rfl⟩ := one_arg hl
  simp only [biE] at hz
  split at hz
  · rename_i i l hi
    cases hz
    obtain ⟨a, rfl, r⟩ := p.ints (j := 0) rfl hi
    obtain ⟨its, ri, hit⟩ := seq_iter I r
    have hlen : its.length = l.length + 1 := by have := ri.length; simp at this; omega
    rw [Vals.ref1 rv]
    refine call_max_walk (hit _ _ _ (I.ok.hd hc) fun s₂ It fp wr St W => ?_)
    refine ⟨It, fp, wr, _, _, St, _, rfl, W.walks, W.st, W.lt, by omega, CmpOf.ints_gt (fun j => (i :: l).getD j 0) (fun j v h => ints_val ri j v h), fun v h' tk hv hk => ?_⟩
    obtain ⟨t, rfl⟩ := ints_val ri _ v hv
    obtain ⟨h1, h2⟩ := argBest_gt (fun j => (i :: l).getD j 0) (its.length - 1)
    have e : (i :: l).getD (argBest (fun a b => decide ((i :: l).getD a 0 > (i :: l).getD b 0)) (its.length - 1)) 0 = maxL (i :: l) := by
      obtain ⟨m1, m2⟩ := maxL_mem (x := i) (l := l)
      obtain ⟨j, hj, ej⟩ := mem_getD' m1
      have a1 := h2 j (by rw [List.length_cons] at hj; omega)
      have a3 : argBest (fun a b => decide ((i :: l).getD a 0 > (i :: l).getD b 0)) (its.length - 1) < (i :: l).length := by rw [List.length_cons, ← hlen]; omega
      have a2 := m2 _ (getD_mem' a3)
      simp only [ej] at a1
      omega
    rw [e, W.sh]
    exact ⟨.int _, H, I.kept (W.old h' hk), ⟨_, rfl⟩, q _ _ (p.give fun _ => .int _)⟩
  · cases hz
theorem bi_min (hc : X.calm = true) : CallR X (.builtin "min") (rBi Φ .min) := by
  intro pins s σ H vs us Q I rv ⟨B, env, S, xs, env', z, hl, p, hz, q⟩
  obtain ⟨x, rfl⟩ := one_of hz (fun _ _ => rfl) rfl (fun _ _ _ _ => rfl)
  obtain ⟨v, rfl⟩ := one_arg hl
  simp only [biE] at hz
  split at hz
  · rename_i i l hi
    cases hz
    obtain ⟨a, rfl, r⟩ := p.ints (j := 0) rfl hi
    obtain ⟨its, ri, hit⟩ := seq_iter I r
    have hlen : its.length = l.length + 1 := by have := ri.length; simp at this; omega
    rw [Vals.ref1 rv]
    refine call_min_walk (hit _ _ _ (I.ok.hd hc) fun s₂ It fp wr St W => ?_)
    refine ⟨It, fp, wr, _, _, St, _, rfl, W.walks, W.st, W.lt, by omega, CmpOf.ints_lt (fun j => (i :: l).getD j 0) (fun j v h => ints_val ri j v h), fun v h' tk hv hk => ?_⟩
    obtain ⟨t, rfl⟩ := ints_val ri _ v hv
    obtain ⟨h1, h2⟩ := argBest_lt (fun j => (i :: l).getD j 0) (its.length - 1)
    have e : (i :: l).getD (argBest (fun a b => decide ((i :: l).getD a 0 < (i :: l).getD b 0)) (its.length - 1)) 0 = minL (i :: l) := by
      obtain ⟨m1, m2⟩ := minL_mem (x := i) (l := l)
      obtain ⟨j, hj, ej⟩ := mem_getD' m1
      have a1 := h2 j (by rw [List.length_cons] at hj; omega)
      have a3 : argBest (fun a b => decide ((i :: l).getD a 0 < (i :: l).getD b 0)) (its.length - 1) < (i :: l).length := by rw [List.length_cons, ← hlen]; omega
      have a2 := m2 _ (getD_mem' a3)
      simp only [ej] at a1
      omega
    rw [e, W.sh]
    exact ⟨.int _, H, I.kept (W.old h' hk), ⟨_, rfl⟩, q _ _ (p.give fun _ => .int _)⟩
  · cases hz
theorem bi_all (hc : X.calm = true) : CallR X (.builtin "all") (rBi Φ .all) := by
  intro pins s σ H vs us Q I rv ⟨B, env, S, xs, env', z, hl, p, hz, q⟩
  obtain ⟨x, rfl⟩ := one_of hz (fun _ _ => rfl) rfl (fun _ _ _ _ => rfl)
  obtain ⟨v, rfl⟩ := one_arg hl
  simp only [biE] at hz
  obtain ⟨l, hi, e⟩ := Option.map_eq_some_iff.mp hz
  cases e
  obtain ⟨a, rfl, r⟩ := p.bools (j := 0) rfl hi
  exact cr_all hc pins s σ H _ us Q I rv ⟨a, l, rfl, .inl r, q _ _ (p.give fun _ => .bl _)⟩
theorem bi_any (hc : X.calm = true) : CallR X (.builtin "any") (rBi Φ .any) := by
  intro pins s σ H vs us Q I rv ⟨B, env, S, xs, env', z, hl, p, hz, q⟩
  obtain ⟨x, rfl⟩ := one_of hz (fun _ _ => rfl) rfl (fun _ _ _ _ => rfl)
  obtain ⟨v, rfl⟩ := one_arg hl
  simp only [biE] at hz
  obtain ⟨l, hi, e⟩ := Option.map_eq_some_iff.mp hz
  cases e
  obtain ⟨a, rfl, r⟩ := p.bools (j := 0) rfl hi
  exact cr_any hc pins s σ H _ us Q I rv ⟨a, l, rfl, .inl r, q _ _ (p.give fun _ => .bl _)⟩
theorem bi_abs : CallR X (.builtin "abs") (rBi Φ .abs) := by
  intro pins s σ H vs us Q I rv ⟨B, env, S, xs, env', z, hl, p, hz, q⟩
  obtain ⟨x, rfl⟩ := one_of hz (fun _ _ => rfl) rfl (fun _ _ _ _ => rfl)
  obtain ⟨v, rfl⟩ := one_arg hl
  simp only [biE] at hz
  split at hz
  · rename_i i hi
    cases hz
    cases p.intAt (j := 0) rfl hi
    exact call_abs pins s σ H _ us Q I rv ⟨i, rfl, q _ _ (p.give fun _ => .int _)⟩
  · cases hz
theorem bi_int : CallR X (.type "int") (rBi Φ .int) := by
  intro pins s σ H vs us Q I rv ⟨B, env, S, xs, env', z, hl, p, hz, q⟩
  obtain ⟨x, rfl⟩ := one_of hz (fun _ _ => rfl) rfl (fun _ _ _ _ => rfl)
  obtain ⟨v, rfl⟩ := one_arg hl
  simp only [biE] at hz
  split at hz
  · rename_i i hi
    cases hz
    cases p.intAt (j := 0) rfl hi
    exact call_int1 pins s σ H _ us Q I rv (.inl ⟨i, rfl, q _ _ (p.give fun _ => .int _)⟩)
  · rename_i i hi
    cases hz
    obtain ⟨fz, g, hg, ho⟩ := p.at_ (j := 0) rfl hi
    have hv : v = .bl i := by rw [← hg, ho.bool_]
    subst hv
    exact call_int1 pins s σ H _ us Q I rv (.inr ⟨i, rfl, q _ _ (p.give fun _ => .int _)⟩)
  · cases hz
theorem bi_max2 (hc : X.calm = true) : CallR X (.builtin "max") (rBi Φ .max2) := by
  intro pins s σ H vs us Q I rv ⟨B, env, S, xs, env', z, hl, p, hz, q⟩
  obtain ⟨x, y, rfl⟩ := two_of hz (fun _ => rfl) rfl (fun _ _ _ _ => rfl)
  obtain ⟨v, w, rfl⟩ := two_arg hl
  simp only [biE] at hz
  split at hz
  · rename_i i j hi hj
    cases hz
    cases p.intAt (j := 0) rfl hi
    cases p.intAt (j := 1) rfl hj
    exact call_max2 hc pins s σ H _ us Q I rv ⟨i, j, rfl, q _ _ (p.give fun _ => .int _)⟩
  · cases hz
theorem bi_min2 (hc : X.calm = true) : CallR X (.builtin "min") (rBi Φ .min2) := by
  intro pins s σ H vs us Q I rv ⟨B, env, S, xs, env', z, hl, p, hz, q⟩
  obtain ⟨x, y, rfl⟩ := two_of hz (fun _ => rfl) rfl (fun _ _ _ _ => rfl)
  obtain ⟨v, w, rfl⟩ := two_arg hl
  simp only [biE] at hz
  split at hz
  · rename_i i j hi hj
    cases hz
    cases p.intAt (j := 0) rfl hi
    cases p.intAt (j := 1) rfl hj
    exact call_min2 hc pins s σ H _ us Q I rv ⟨i, j, rfl, q _ _ (p.give fun _ => .int _)⟩
  · cases hz
theorem bi_gcd : CallR X (.builtin "math.gcd") (rBi Φ .gcd) := by
  intro pins s σ H vs us Q I rv ⟨B, env, S, xs, env', z, hl, p, hz, q⟩
  obtain ⟨x, y, rfl⟩ := two_of hz (fun _ => rfl) rfl (fun _ _ _ _ => rfl)
  obtain ⟨v, w, rfl⟩ := two_arg hl
  simp only [biE] at hz
  split at hz
  · rename_i i j hi hj
    split at hz
    · cases hz
      cases p.intAt (j := 0) rfl hi
      cases p.intAt (j := 1) rfl hj
      exact cr_gcd pins s σ H _ us Q I rv ⟨i, j, rfl, q _ _ (p.give fun _ => .int _)⟩
    · cases hz
  · cases hz
end
end MP
set_option maxHeartbeats 1000000
set_option autoImplicit false
/-! mini: len, tuple, list, sorted, isinstance -/
namespace MP
open PySem PySem.Spec PyProof.Rows L2
section
variable {X : Cx} {Φ : Fx} {pins : List (Addr × Obj)} {σ : L2.St} {H : Hp} {s : Shared} {a : Addr} {vs : List V}
variable {B : List (Option V)} {env : Ev} {S T : Tmp} {fz : Addr → Prop} {gs : List G}
theorem bi_len : CallR X (.builtin "len") (rBi Φ .len) := by
  intro pins s σ H vs us Q I rv ⟨B, env, S, xs, env', z, hl, p, hz, q⟩
  obtain ⟨x, rfl⟩ := one_of hz (fun _ _ => rfl) rfl (fun _ _ _ _ => rfl)
  obtain ⟨v, rfl⟩ := one_arg hl
  simp only [biE] at hz
  cases hr : res env x with
  | none => rw [hr] at hz; cases hz
  | some t =>
  rw [hr] at hz
  obtain ⟨fz, g, rfl, ho⟩ := p.at_ (j := 0) rfl hr
  have fin : ∀ {n : Nat}, z = .fr (.int n) → env' = env → Q (.int n) H := fun e1 e2 => by
    subst e1; subst e2
    exact q _ _ (p.give fun _ => .int _)
  cases t with
  | fr d =>
    cases d with
    | list ds =>
      cases hz
      obtain ⟨a, vs, ha, _, hR, hl, _⟩ := ho.frD.lst_
      exact call_len pins s σ H _ us Q I rv ⟨_, ds.length, rfl, by rw [ha]; exact .inl ⟨vs, .inl hR, hl.symm⟩, fin rfl rfl⟩
    | tuple ds =>
      cases hz
      obtain ⟨a, vs, ha, _, hR, hl, _⟩ := ho.frD.tup_
      exact call_len pins s σ H _ us Q I rv ⟨_, ds.length, rfl, by rw [ha]; exact .inr ⟨vs, .inl (.of hR), hl.symm⟩, fin rfl rfl⟩
    | str x =>
      dsimp only at hz
      split at hz
      · rename_i hle
        cases hz
        exact call_len pins s σ H _ us Q I rv ⟨_, x.length, rfl, by rw [ho.str_]; exact ⟨hle, rfl⟩, fin rfl rfl⟩
      · cases hz
    | _ => cases hz
  | nd sh ts =>
    obtain ⟨a, cs, rfl, hH, hok, hl, _⟩ := ho.nd_
    cases sh with
    | ls =>
      cases hz
      exact call_len pins s σ H _ us Q I rv ⟨_, ts.length, rfl, .inl ⟨_, .inl (.of hH), by rw [List.length_map]; exact hl.symm⟩, fin rfl rfl⟩
    | dk ks =>
      cases hz
      rw [Vals.ref1 rv]
      have e : (ks.zip (cs.map G.val)).length = ks.length := by rw [List.length_zip, List.length_map]; have := hok.1; omega
      refine d_len I (.of hH) fun t s' I' => ?_
      rw [e]
      exact ⟨.int _, H, I', ⟨_, rfl⟩, fin rfl rfl⟩
    | _ => cases hz
theorem bi_tuple : CallR X (.type "tuple") (rBi Φ .tuple) := by
  intro pins s σ H vs us Q I rv ⟨B, env, S, xs, env', z, hl, p, hz, q⟩
  obtain ⟨x, rfl⟩ := one_of hz (fun _ _ => rfl) rfl (fun _ _ _ _ => rfl)
  obtain ⟨v, rfl⟩ := one_arg hl
  simp only [biE] at hz
  cases hd : lItems env x with
  | some ds =>
    rw [hd] at hz
    cases hz
    obtain ⟨hB, hn, fz, gs, R⟩ := p
    obtain ⟨a, vs, rfl, hr, hl2, ch⟩ := R.lst hB hn (tmp_last (S := S)) hd
    exact call_tuple_of pins s σ H _ us Q I rv ⟨a, vs, rfl, .inl ⟨.inl hr, fun l hp => q _ _ (R.retD hB hn (Hext.new hp) (isD_newT hp hl2 ch))⟩⟩
  | none =>
    rw [hd] at hz
    obtain ⟨hB, hn, fz, gs, R⟩ := p
    have hle : ∀ {e d}, frz env x = some (e, d) → e.length = env.length ∧ ∃ fz' gs', Rel Φ (B ++ (S ++ [(some v, En.fr d)]).map (·.1)) (e ++ (S ++ [(some v, En.fr d)]).map (·.2)) H fz' gs' ∧ IsD H fz' v d := by
      intro e d hf
      have hj : ((S ++ tz [v] [x]).map (·.2))[S.length]? = some x := by rw [List.getElem?_map]; simp [tz]
      obtain ⟨h1, fz', gs', R2, _⟩ := R.frz1 hn hj hf
      have e2 : ((S ++ tz [v] [x]).map (·.2)).set S.length (.fr d) = (S ++ [(some v, En.fr d)]).map (·.2) := by
        simp [tz]
      rw [e2] at R2
      refine ⟨h1, fz', gs', by simpa [tz] using R2, ?_⟩
      have hB2 : B.length = e.length := by rw [h1]; exact hB
      have R3 : Rel Φ (B ++ (S ++ [(some v, En.fr d)]).map (·.1)) (e ++ (S ++ [(some v, En.fr d)]).map (·.2)) H fz' gs' := by simpa [tz] using R2
      obtain ⟨g, hg, ho, _⟩ := R3.temp hB2 (by rw [h1]; exact hn) (tmp_last (S := S)) (t := .fr d) rfl
      rw [← hg]
      exact ho.frD
    dsimp only at hz
    split at hz
    · rename_i e ds hf
      cases hz
      obtain ⟨h1, fz', gs', R2, D⟩ := hle hf
      obtain ⟨a, vs, rfl, _, hr, hl2, ch⟩ := D.lst_
      exact call_tuple_of pins s σ H _ us Q I rv ⟨a, vs, rfl, .inl ⟨.inl hr, fun l hp => q _ _ (R2.retD (by rw [h1]; exact hB) (by rw [h1]; exact hn) (Hext.new hp) (isD_newT hp hl2 ch))⟩⟩
    · rename_i e ds hf
      cases hz
      obtain ⟨h1, fz', gs', R2, D⟩ := hle hf
      obtain ⟨a, vs, rfl, _, hr, hl2, ch⟩ := D.tup_
      exact call_tuple_of pins s σ H _ us Q I rv ⟨a, vs, rfl, .inr ⟨.inl (.of hr), q _ _ (R2.retF (by rw [h1]; exact hB) (by rw [h1]; exact hn) D)⟩⟩
    · cases hz
theorem bi_list : CallR X (.type "list") (rBi Φ .list) := by
  intro pins s σ H vs us Q I rv ⟨B, env, S, xs, env', z, hl, p, hz, q⟩
  obtain ⟨x, rfl⟩ := one_of hz (fun _ _ => rfl) rfl (fun _ _ _ _ => rfl)
  obtain ⟨v, rfl⟩ := one_arg hl
  simp only [biE] at hz
  obtain ⟨ds, hd, e⟩ := Option.map_eq_some_iff.mp hz
  cases e
  obtain ⟨hB, hn, fz, gs, R⟩ := p
  obtain ⟨a, vs, rfl, hr, hl2, ch⟩ := R.seq hB hn (tmp_last (S := S)) hd
  exact call_list_of pins s σ H _ us Q I rv ⟨a, vs, rfl, hr.imp (fun h => .inl h) (fun h => .inl h), fun l hp => q _ _ (R.retL hB hn hl2 ch hp)⟩
theorem sortI_uniq {ns l : List Int} (h : ns.Perm l) (hs : ns.Pairwise (· ≤ ·)) : ns = sortI l := by
  have h2 : (sortI l).Pairwise (fun a b => decide (a ≤ b) = true) := List.pairwise_mergeSort (le := fun a b : Int => decide (a ≤ b)) (fun a b c h1 h2 => by simp at *; omega) (fun a b => by simp; omega) l
  refine List.Perm.eq_of_pairwise (le := fun a b : Int => a ≤ b) (fun a b _ _ x y => Int.le_antisymm x y) hs (h2.imp fun h => by simpa using h) (h.trans (List.mergeSort_perm l _).symm)
theorem sortP_uniq {ns l : List (Int × Int)} (h : ns.Perm l) (hs : ns.Pairwise (fun a b => lexLe a b = true)) : ns = sortP l := by
  have h2 : (sortP l).Pairwise (fun a b => lexLe a b = true) := List.pairwise_mergeSort (fun a b c h1 h2 => by simp [lexLe] at *; omega) (fun a b => by simp [lexLe]; omega) l
  refine List.Perm.eq_of_pairwise (le := fun a b => lexLe a b = true) (fun a b _ _ x y => ?_) hs h2 (h.trans (List.mergeSort_perm l _).symm)
  simp [lexLe] at x y
  exact Prod.ext (by omega) (by omega)
/-- the pair of ints that stands at a value -/
def pairAt (H : Hp) : V → Int × Int
  | .ref t => match H t with
    | some (.tup [.int i, .int j]) => (i, j)
    | _ => (0, 0)
  | _ => (0, 0)
theorem pairs_of : ∀ {vs : List V} {ds : List Dt} {l : List (Int × Int)}, vs.length = ds.length → (∀ (i : Nat) (v : V) (d : Dt), vs[i]? = some v → ds[i]? = some d → IsD H fz v d) → pairsOf ds = some l →
    vs.map (pairAt H) = l ∧ ∀ x ∈ vs, ∃ t, x = V.ref t ∧ H t = some (.tup [.int (pairAt H x).1, .int (pairAt H x).2]) ∧ IsD H fz x (.tuple [.int (pairAt H x).1, .int (pairAt H x).2])
  | [], [], _, _, _, h => by cases h; simp
  | v :: vs, d :: ds, l, hl, ch, h => by
    have h0 := ch 0 v d rfl rfl
    unfold pairsOf at h
    split at h <;> try (cases h; done)
    · rename_i hd
      cases hd
    · rename_i i j r hd
      cases hd
      obtain ⟨m, hm, rfl⟩ := Option.map_eq_some_iff.mp h
      obtain ⟨e, hx⟩ := pairs_of (vs := vs) (by simpa using hl) (fun k v d hv hd => ch (k + 1) v d hv hd) hm
      obtain ⟨a, ws, rfl, hf, hH, hwl, hw⟩ := h0.tup_
      match ws, hwl, hw with
      | [w1, w2], _, hw =>
        have e1 := (hw 0 w1 _ rfl rfl).int_
        have e2 := (hw 1 w2 _ rfl rfl).int_
        subst e1; subst e2
        have ep : pairAt H (.ref a) = (i, j) := by simp [pairAt, hH]
        refine ⟨by simp [e, ep], fun x hx' => ?_⟩
        rcases List.mem_cons.mp hx' with rfl | hx'
        · rw [ep]
          exact ⟨a, rfl, hH, h0⟩
        · exact hx x hx'
end
end MP
set_option maxHeartbeats 1000000
set_option autoImplicit false
/-! mini: sorted(d), d a dict whose keys are pairs of ints -/
namespace MP
open PySem PySem.Spec PyProof.Rows L2
theorem keyP_inv {k : List Key} {p : Int × Int} (h : keyP k = some p) : k = [.inl p.1, .inl p.2] := by
  unfold keyP at h
  split at h
  · cases h; rfl
  · cases h
theorem keyPs_cons {k : List Key} {r : List (List Key)} {l : List (Int × Int)} (h : keyPs (k :: r) = some l) : ∃ p l', keyP k = some p ∧ keyPs r = some l' ∧ l = p :: l' := by
  unfold keyPs at h
  split at h
  · rename_i p l' h1 h2
    cases h
    exact ⟨p, l', h1, h2, rfl⟩
  · cases h
/-- the pair at an address that stands there as such -/
def PairTup (H : Hp) (a : Addr) (p : Int × Int) : Prop := H a = some (.tup [.int p.1, .int p.2])
theorem pairAt_of {H : Hp} {b : Addr} {p : Int × Int} (h : PairTup H b p) : pairAt H (.ref b) = p := by
  unfold PairTup at h
  simp [pairAt, h]
theorem keys_pairs {H : Hp} : ∀ {kvs : List (List Key × V)} {bs : List Addr} {l : List (Int × Int)}, IsKeys H kvs bs → keyPs (kvs.map (·.1)) = some l → bs.length = l.length ∧ ∀ (j : Nat) b p, bs[j]? = some b → l[j]? = some p → PairTup H b p
  | [], _, l, .nil, h => by cases h; exact ⟨rfl, fun j b p e => by simp at e⟩
  | (k, v) :: kvs, b :: bs, l, .cons h0 r, h => by
    obtain ⟨p, l', h1, h2, rfl⟩ := keyPs_cons h
    obtain ⟨e, q⟩ := keys_pairs r h2
    refine ⟨by simp [e], fun j b' p' e1 e2 => ?_⟩
    cases j with
    | zero =>
      cases e1; cases e2
      have : k = _ := keyP_inv h1
      unfold PairTup
      have h0' : H b = some (.tup (k.map kV)) := h0
      rw [h0', this]
      rfl
    | succ j => exact q j b' p' (by simpa using e1) (by simpa using e2)
section
variable {X : Cx}
theorem cr_sortedDT (hc : X.calm = true) : CallR X (.builtin "sorted") (fun vs H Q => ∃ d kvs l, vs = [V.ref d] ∧ Rd H d (.dT kvs) ∧ keyPs (kvs.map (·.1)) = some l ∧
    ∀ (bs : List Addr) (ys : List (Int × Int)) p, bs.length = ys.length → (∀ (j : Nat) b q, bs[j]? = some b → ys[j]? = some q → PairTup H b q) → ys.Perm l → ys.Pairwise (fun x y => ¬ (y.1 < x.1 ∨ y.1 = x.1 ∧ y.2 < x.2)) → H p = none → Q (.ref p) (upd H p (.lst (bs.map V.ref)))) := by
  intro pins s σ H xs us Q I r h
  obtain ⟨d, kvs, l, rfl, hd, hl, q⟩ := h
  obtain ⟨u, rfl, rx⟩ := r.one
  cases rx
  obtain ⟨z, hs, ks, pr, o, es, ep, ho, hx, hdt, he, hn⟩ := (show ObjOk X.prog X.w H s.heap d (.dT kvs) from hd.ok I.hok)
  have l1 : es.size = ks.length := size_of_entries he
  have l2 : kvs.length = ks.length := Paired.length pr
  obtain ⟨kl, kp⟩ := keys_pairs (isKeys_of pr) hl
  refine Calls.call_function_entry PyProof.Rows.kind_sorted PyProof.Rows.plain_sorted PyProof.Rows.entry_sorted (PyProof.Rows.args_sorted1 _) ?_
  unfold Builtin.«sorted»
  refine wpAny_bind (m := checkCount "sorted" 1 1 _) (wpAny_pure ?_)
  refine wpAny_bind (PySem.W.kdu_collect (A := X.A.in1) (kdl_raw hs hx hdt) (I.ok.hd hc) ho (by omega) fun h' tk acc hk it => ?_)
  have ea : acc.toList = (ks.map fun x => x.2.1).map Value.ref := by
    rw [List.map_map]
    have hl : acc.toList.length = ks.length := by rw [Array.length_toList, it.1]; exact l1
    apply List.ext_getElem?
    intro j
    rw [List.getElem?_map]
    cases hj : acc.toList[j]? with
    | none =>
      have h1 := List.getElem?_eq_none_iff.mp hj
      rw [List.getElem?_eq_none (by omega)]
      all_goals rfl
    | some v =>
      obtain ⟨en, hen, hv⟩ := it.2 j v (by rw [← Array.getElem?_toList]; exact hj)
      have qe := entry_at he j
      rw [hen] at qe
      cases hb : ks[j]? with
      | none =>
        rw [hb] at qe
        exact nomatch (show some en = none from qe)
      | some b =>
        rw [hb] at qe
        have e2 : en = entryOfKey (tupleKind (mixKind X.prog X.w)) b := Option.some.inj qe
        rw [hv, e2]
        all_goals rfl
  generalize hbs : (ks.map fun x => x.2.1) = bs at ea kl kp
  have hbl : bs.length ≤ sizeLine := by rw [← hbs, List.length_map]; omega
  have I1 : Inv X pins σ H { s with heap := h', toks := tk } := I.kept hk
  have hal : acc.toList.length = bs.length := by rw [ea, List.length_map]
  refine wpAny_bind (wpAny_newList ?_ (by rw [hal]; exact hbl))
  have hoL : (h'.push (seqObj "list" acc.toList.toArray 0)).get? h'.objs.size = some (seqObj "list" acc.toList.toArray 0) := Heap.get?_push_size _ rfl
  show wpAny _ _ _ _ _ { s with heap := h'.push (seqObj "list" acc.toList.toArray 0), toks := tk }
  have hpair : ∀ v ∈ acc.toList, Srt.IsPair h' v (pairAt H (backV v)).1 (pairAt H (backV v)).2 := fun v hv => by
    rw [ea] at hv
    obtain ⟨b, hb, rfl⟩ := List.mem_map.mp hv
    obtain ⟨j, hj⟩ := List.mem_iff_getElem?.mp hb
    have hjl : j < l.length := by rw [← kl]; exact (List.getElem?_eq_some_iff.mp hj).1
    have ht : H b = some (.tup [.int (l[j]).1, .int (l[j]).2]) := kp j b l[j] hj (List.getElem?_eq_getElem hjl)
    obtain ⟨_, its2, r2, o2, ho2, hc2, n2, hd2⟩ := I1.hok _ _ ht
    obtain ⟨u1, u2, rfl, ri, rj⟩ := vals2 r2
    obtain ⟨t1, rfl⟩ := ri
    obtain ⟨t2, rfl⟩ := rj
    have ep : pairAt H (backV (.ref b)) = l[j] := pairAt_of ht
    rw [ep]
    exact ⟨b, o2, t1, t2, n2, rfl, ho2, hc2, hd2⟩
  have hcls : ∀ b, b ≠ h'.objs.size → True := fun _ _ => trivial
  refine wpAny_bind (wpAny_holding (wpAny_call_entry PyProof.Rows.slot_list_sort ⟨_, hoL, rfl⟩ PyProof.Rows.entry_list_sort
    (SrtO.list_sort_ord (s := { s with heap := h'.push (seqObj "list" acc.toList.toArray 0), toks := tk }) (SrtO.swo_lex fun u => pairAt H (backV u)) hoL (by rw [hal]; exact hbl) (fun h2 => ?_) fun out hs' hb => ⟨_, rfl, ?_⟩) (PyProof.Rows.args_list_sort _)))
  · refine SrtO.pairs_sortableO (by omega) (fun v hm => (hpair v hm).keeps fun b o e _ => Heap.get?_push_of_some _ e) fun o e => ?_
    have e' : some o = some (seqObj "list" acc.toList.toArray 0) := e.symm.trans hoL
    cases e'
    intro c
    exact absurd (Value.type.inj c) (by decide)
  · obtain ⟨e', he'⟩ := PyProof.Rows.sortedHeap_at (vs := acc.toList) (out := out.toArray) hoL
    have hmem : ∀ u ∈ out, ∃ b ∈ bs, u = Value.ref b := fun u hu => by
      have := hb.perm.mem_iff.mp hu
      rw [ea] at this
      obtain ⟨b, hb, rfl⟩ := List.mem_map.mp this
      exact ⟨b, hb, rfl⟩
    have hout : out = (out.map fun u => match u with | .ref b => b | _ => 0).map Value.ref := by
      rw [List.map_map]
      conv => lhs; rw [← List.map_id out]
      refine List.map_congr_left fun u hu => ?_
      obtain ⟨b, _, rfl⟩ := hmem u hu
      rfl
    generalize hcs : (out.map fun u => match u with | .ref b => b | _ => 0) = cs at hout
    subst hout
    have hpm : cs.Perm bs := by
      have e1 := hb.perm
      rw [ea] at e1
      have e2 := e1.map (fun u => match u with | Value.ref b => b | _ => 0)
      rw [List.map_map, List.map_map] at e2
      have eid : ((fun u => match u with | Value.ref b => b | _ => 0) ∘ Value.ref) = (id : Addr → Addr) := rfl
      rw [eid, List.map_id, List.map_id] at e2
      exact e2
    have hlen : (cs.map V.ref).length ≤ sizeLine := by rw [List.length_map, hpm.length_eq]; exact hbl
    refine wpAny_pure ⟨_, rfl, .ref h'.objs.size, upd H h'.objs.size (.lst (cs.map V.ref)), I1.laid (t' := tk) (fun b u e => ?_) (Nat.le_refl _)
      (show ObjOk X.prog X.w _ _ _ (.lst (cs.map V.ref)) from ⟨hlen, cs.map Value.ref, e', vals_refs cs, he'⟩), rfl, q cs (cs.map fun b => pairAt H (.ref b)) _ (by simp) (fun j b p e1 e2 => ?_) ?_ ?_ (I1.hok.fresh (Nat.le_refl _))⟩
    · have hlt : b < h'.objs.size := Heap.lt_size e
      rw [PyProof.Rows.sortedHeap_old (Nat.ne_of_lt hlt) (by rw [size_push']; exact Nat.lt_succ_of_lt hlt)]
      exact Heap.get?_push_of_some _ e
    · rw [List.getElem?_map, e1] at e2
      cases e2
      obtain ⟨j', hj⟩ := List.mem_iff_getElem?.mp (hpm.mem_iff.mp (List.mem_of_getElem? e1))
      have hjl : j' < l.length := by rw [← kl]; exact (List.getElem?_eq_some_iff.mp hj).1
      have ht := kp j' b l[j'] hj (List.getElem?_eq_getElem hjl)
      have e3 : pairAt H (.ref b) = l[j'] := pairAt_of ht
      show PairTup H b (pairAt H (.ref b))
      rw [e3]
      exact ht
    · have e1 : bs.map (fun b => pairAt H (.ref b)) = l := by
        apply List.ext_getElem (by simp [kl])
        intro j h1 h2
        have h1' : j < bs.length := by simpa using h1
        have ht := kp j bs[j] l[j] (List.getElem?_eq_getElem h1') (List.getElem?_eq_getElem h2)
        rw [List.getElem_map]
        exact pairAt_of ht
      rw [← e1]
      exact hpm.map _
    · have h1 : SrtO.Srtd (fun v u => SrtO.lexB (pairAt H (backV v)) (pairAt H (backV u))) (cs.map Value.ref) := hs'
      unfold SrtO.Srtd at h1
      rw [List.pairwise_map] at h1 ⊢
      exact h1.imp fun {a b} h => SrtO.lexB_no.mp h
end
section
variable {X : Cx} {Φ : Fx}
theorem bi_sorted (hc : X.calm = true) : CallR X (.builtin "sorted") (rBi Φ .sorted) := by
  intro pins s σ H vs us Q I rv ⟨B, env, S, xs, env', z, hl, p, hz, q⟩
  obtain ⟨x, rfl⟩ := one_of hz (fun _ _ => rfl) rfl (fun _ _ _ _ => rfl)
  obtain ⟨v, rfl⟩ := one_arg hl
  simp only [biE] at hz
  obtain ⟨hB, hn, fz, gs, R⟩ := p
  split at hz
  · rename_i l hi
    cases hz
    obtain ⟨ds, hd, hi⟩ := Option.bind_eq_some_iff.mp hi
    obtain ⟨a, vs, rfl, hr, hl2, ch⟩ := R.lst hB hn (tmp_last (S := S)) hd
    obtain ⟨rfl, _⟩ := ints_of hl2 ch hi
    refine cr_sortedI pins s σ H _ us Q I rv ⟨a, l, rfl, .inl hr, fun ns' p hp hs hpn => ?_⟩
    rw [sortI_uniq hp hs]
    refine q _ _ (R.retL hB hn (by simp) (fun i v d hv hd => ?_) hpn)
    rw [List.getElem?_map] at hv hd
    obtain ⟨k, hk, rfl⟩ := Option.map_eq_some_iff.mp hv
    rw [hk] at hd
    cases hd
    exact .int k
  · split at hz
    · rename_i l hi
      cases hz
      obtain ⟨ds, hd, hi⟩ := Option.bind_eq_some_iff.mp hi
      obtain ⟨a, vs, rfl, hr, hl2, ch⟩ := R.lst hB hn (tmp_last (S := S)) hd
      obtain ⟨e, hx⟩ := pairs_of hl2 ch hi
      refine cr_sortedPO pins s σ H _ us Q I rv ⟨a, vs, pairAt H, rfl, .inl hr, fun x hm => ?_, fun ys p hs hb hpn => ?_⟩
      · obtain ⟨t, h1, h2, _⟩ := hx x hm
        exact ⟨t, h1, h2⟩
      · have e2 : ys.map (pairAt H) = sortP l := by
          refine sortP_uniq (by rw [← e]; exact hb.perm.map _) ?_
          rw [List.pairwise_map]
          refine hs.imp fun {a b} h => ?_
          have := SrtO.lexB_no.mp h
          simp only [lexLe, Bool.or_eq_true, decide_eq_true_eq, Bool.and_eq_true]
          omega
        rw [← e2] at q
        refine q _ _ (R.retL hB hn (by simp) (fun i v d hv hd => ?_) hpn)
        rw [List.map_map, List.getElem?_map, hv] at hd
        cases hd
        have hm : v ∈ vs := hb.perm.mem_iff.mp (List.mem_of_getElem? hv)
        obtain ⟨t, _, _, h3⟩ := hx v hm
        exact h3
    · rename_i hi2
      split at hz
      · rename_i ks ts hr
        obtain ⟨l, hk, e⟩ := Option.map_eq_some_iff.mp hz
        cases e
        obtain ⟨g, hgv, ho, _⟩ := R.temp hB hn (tmp_last (S := S)) hr
        obtain ⟨a, cs, rfl, hH, hok, hcl, _⟩ := ho.nd_
        have e1 : (ks.zip (cs.map G.val)).map (·.1) = ks := List.map_fst_zip (by rw [List.length_map]; exact Nat.le_of_eq hok.1)
        subst hgv
        refine cr_sortedDT hc pins s σ H _ us Q I rv ⟨a, _, l, rfl, .inl hH, by rw [e1]; exact hk, fun bs ys p hbl hpr hpm hpw hpn => ?_⟩
        have e2 : ys = sortP l := by
          refine sortP_uniq hpm (hpw.imp fun {a b} h => ?_)
          simp only [lexLe, Bool.or_eq_true, decide_eq_true_eq, Bool.and_eq_true]
          omega
        subst e2
        refine q _ _ ((R.tupF (P := fun b => b ∈ bs) fun b hb => ?_).retL hB hn (by simp [hbl]) (fun i v d hv hd => ?_) hpn)
        · obtain ⟨j, hj⟩ := List.mem_iff_getElem?.mp hb
          have hjl : j < (sortP l).length := by rw [← hbl]; exact (List.getElem?_eq_some_iff.mp hj).1
          exact ⟨_, hpr j b _ hj (List.getElem?_eq_getElem hjl)⟩
        · rw [List.getElem?_map] at hv hd
          obtain ⟨b, hb, rfl⟩ := Option.map_eq_some_iff.mp hv
          obtain ⟨y, hy, rfl⟩ := Option.map_eq_some_iff.mp hd
          refine .nd .tp rfl (.inr (List.mem_of_getElem? hb)) (.inl (show H b = some (.tup [.int y.1, .int y.2]) from hpr i b y hb hy)) trivial rfl fun k v d h1 h2 => ?_
          match k, h1, h2 with
          | 0, h1, h2 => cases h1; cases h2; exact .int _
          | 1, h1, h2 => cases h1; cases h2; exact .int _
          | k + 2, h1, h2 => cases h1
      · cases hz
end
end MP
set_option maxHeartbeats 1000000
set_option autoImplicit false
/-! mini: isinstance, repr -/
namespace MP
open PySem PySem.Spec PyProof.Rows L2
section
variable {b : Bx} {X : Cx} {Φ : Fx} {H : Hp} {fz : Addr → Prop}
theorem tyX_of {K : PySem.W.Frag} {g : G} {t : Tr} (h : OwnG H fz g t) : TyX K H g.val (.type (tyS t)) := by
  cases h with
  | fr h =>
    cases h with
    | non => exact .base .non
    | bl c => exact .base (.bl c)
    | int i => exact .base (.int i)
    | str x => exact .base (.str x)
    | nd sh e hf r ok hl ch =>
      cases sh with
      | ls =>
        subst e
        rcases r with r | ⟨_, o, r⟩
        · exact .base (.lst r)
        · exact .base (.frz r)
      | tp => subst e; exact r.elim (fun r => .base (.tup r)) fun z => nomatch z.1
      | dk ks => subst e; exact r.elim (fun r => .base (.dK r)) fun z => nomatch z.1
      | dt ks => subst e; exact r.elim (fun r => .base (.dT r)) fun z => nomatch z.1
  | nd sh hH ok hl ch =>
    cases sh with
    | ls => exact .base (.lst hH)
    | tp => exact .base (.tup hH)
    | dk ks => exact .base (.dK hH)
    | dt ks => exact .base (.dT hH)
def isTy : BI → Option String
  | .isInt => some "int"
  | .isBool => some "bool"
  | .isTuple => some "tuple"
  | .isStr => some "str"
  | .isList => some "list"
  | _ => none
theorem kit_all {f : BI} {T : String} (h : isTy f = some T) (t : Tr) : kitB (tyS t) T = some (isA T (tyS t)) := by
  have fin : ∀ s : String, s ∈ ["NoneType", "bool", "int", "str", "list", "tuple", "dict"] → ∀ T : String, T ∈ ["int", "bool", "tuple", "str", "list"] → kitB s T = some (isA T s) := by decide +kernel
  refine fin _ ?_ _ ?_
  · cases t with
    | fr d => cases d <;> simp [tyS]
    | nd sh ts => cases sh <;> simp [tyS]
  · cases f <;> simp [isTy] at h <;> subst h <;> simp
theorem isi_bi {f : BI} {T : String} (h : isTy f = some T) (env : Ev) (x : En) : biE f env [x] = (res env x).map fun t => (env, .fr (.bool (isA T (tyS t)))) := by
  cases f <;> simp [isTy] at h <;> subst h <;> rfl
/-- isinstance(e, T) -/
theorem pE_isi {f : BI} {T : String} {x y : Str} {e : Expr} {xe : Ex} {p p2 pos : Pos} (hT : isTy f = some T) (hg : Gl X x) (hm : X.mg x = none) (hv : bootBuiltins x = some (.builtin "isinstance")) (hn : x ≠ "__name__") (hdb : (x == ("__debug__" : Str)) = false)
    (hgy : Gl X y) (hmy : X.mg y = none) (hvy : bootBuiltins y = some (.type T)) (hny : y ≠ "__name__") (hdy : (y == ("__debug__" : Str)) = false) (ha : PE X e (tE b xe))
    (he : starEach [e, .Name y p2] X.env = (false, eval e X.env) :: starEach [.Name y p2] X.env) (he2 : starEach [.Name y p2] X.env = (false, eval (.Name y p2) X.env) :: starEach [] X.env) (hpl : (backTo pos (starEach [.Name y p2] X.env)).any (·.1) = false) :
    PE X (.Call (.Name x p) [e, .Name y p2] [] pos) (tE b (.bi f (.cons xe .nil))) :=
  peImp (pe_callB call_isi hg hm hv (pa_cons ha (pa_cons (pe_bltn (v := .ty T) hgy hmy hvy rfl hny hdy) pa_nil he2) he) hn hdb he hpl) fun σ H Q ⟨R, env, S, p, q⟩ => by
    have q2 : SatE b σ (σ ++ R) S Q ((evE b.C xe env).bind fun q => ofO (biE f q.1 [q.2])) := by
      have e1 : evE b.C (.bi f (.cons xe .nil)) env = (evE b.C xe env).bind fun q => ofO (biE f q.1 [q.2]) := by
        simp only [evE, evL]
        cases evE b.C xe env <;> rfl
      rw [← e1]
      exact q
    refine ⟨R, env, S, p, q2.bind fun q1 _ s1 v1 H1 p1 => ?_⟩
    rw [isi_bi hT] at s1
    cases hr : res q1.1 q1.2 with
    | none => rw [hr] at s1; exact s1.elim
    | some t =>
      rw [hr] at s1
      obtain ⟨fz, gs, g, R, rfl, ho⟩ := p1.last hr
      exact ⟨_, _, _, _, _, rfl, .ty T, tyX_of ho, kit_ty (kit_all hT t), s1 _ _ (p1.pop.con fun _ => .bl _)⟩
theorem bi_repr (hg : X.A.guards = some []) (hu : X.A.units + 64 < cLine) : CallR X (.builtin "repr") (rBi Φ .repr) := by
  intro pins s σ H vs us Q I rv ⟨B, env, S, xs, env', z, hl, p, hz, q⟩
  obtain ⟨x, rfl⟩ := one_of hz (fun _ _ => rfl) rfl (fun _ _ _ _ => rfl)
  obtain ⟨v, rfl⟩ := one_arg hl
  obtain ⟨u, rfl, ru⟩ := vals1 rv
  simp only [biE] at hz
  cases hp : peek env x with
  | none => rw [hp] at hz; cases hz
  | some d =>
  rw [hp] at hz
  obtain ⟨hB, hn, fz, gs, R⟩ := id p
  have D := R.data hB hn (tmp_last (S := S)) hp
  have fin : ∀ {y : Str} {s' : Shared} {t : Tok}, z = .fr (.str y) → env' = env → Inv X pins σ H s' → EP X pins σ Q (.str y t) s' := fun e1 e2 I' => by
    subst e1; subst e2
    exact ⟨.str _, H, I', ⟨_, rfl⟩, q _ _ (p.give fun _ => .str _)⟩
  have big : ∀ {d : Dt} {a : Addr}, IsD H (fun a => fz a ∨ a ∈ G.fps gs) (.ref a) d → u = .ref a → d.showable = true ∧ d.hasDict = false ∧ d.depth ≤ 40 ∧ d.shown.length ≤ lineN → z = .fr (.str d.shown) → env' = env → wpAny (model X.prog X.w) X.A (call (.builtin "repr") [u]) (EP X pins σ Q) X.xe s := by
    intro d a D e h e1 e2
    obtain ⟨h1, h2, h3, h4⟩ := h
    obtain ⟨as, rd⟩ := Dp.reads I d _ u (D.dp h2) (by subst e; exact rfl)
    subst e
    exact PySem.repr_of_reads' rd h1 (fun h => by rw [h2] at h; cases h) hg (by omega) (fun _ _ e => e) (fun h' u tk k => fin e1 e2 (I.kept k)) h4
  cases d with
  | int i =>
    dsimp only at hz
    split at hz
    · rename_i h
      cases hz
      cases D.int_
      obtain ⟨t, rfl⟩ := ru
      exact PySem.P.repr_of_int h (fin rfl rfl (I.tok _))
    · cases hz
  | bool c =>
    cases hz
    have : v = .bl c := by
      cases D with
      | bl => rfl
      | nd sh e _ _ _ _ _ => cases sh <;> cases e
    subst this
    cases ru
    exact PySem.P.repr_of_bool (fin rfl rfl (I.tok _))
  | none =>
    cases hz
    have : v = .non := by
      cases D with
      | non => rfl
      | nd sh e _ _ _ _ _ => cases sh <;> cases e
    subst this
    cases ru
    exact PySem.P.repr_of_none (fin rfl rfl (I.tok _))
  | list ds =>
    dsimp only at hz
    split at hz
    · rename_i h
      cases hz
      obtain ⟨a, vs, rfl, _⟩ := D.lst_
      exact big D ru h rfl rfl
    · cases hz
  | tuple ds =>
    dsimp only at hz
    split at hz
    · rename_i h
      cases hz
      obtain ⟨a, vs, rfl, _⟩ := D.tup_
      exact big D ru h rfl rfl
    · cases hz
  | _ => cases hz
end
end MP
set_option maxHeartbeats 1000000
set_option autoImplicit false
/-! mini: methods -/
namespace MP
open PySem PySem.Spec PyProof.Rows L2
section
variable {Φ : Fx} {B : List (Option V)} {env : Ev} {S T : Tmp} {H H' : Hp} {fz : Addr → Prop} {gs : List G}
/-- the node that a value at the end is an alias of -/
theorem Rel.node (R : Rel Φ (B ++ S.map (·.1)) (env ++ S.map (·.2)) H fz gs) (hB : B.length = env.length) (hn : Φ.n ≤ env.length) {j : Nat} {v : V} {s : Nat} {p : List Nat} {t : Tr} {sh : Sh} {ts : List Tr}
    (hj : S[j]? = some (some v, .al s p)) (he : env[s]? = some (.own t)) (hp : t.at p = some (.nd sh ts)) :
    ∃ g a cs, gs[s]? = some g ∧ g.at p = some (.nd a cs) ∧ v = .ref a ∧ OwnG H fz g t ∧ OwnG H fz (.nd a cs) (.nd sh ts) ∧ s < Φ.n := by
  have hs := R.ofn hj s p rfl
  have hr : res env (.al s p) = some (.nd sh ts) := by simp only [res, he]; exact hp
  obtain ⟨t', g, a, cs, he', hg, _, ho, hgp, hoc⟩ := R.path hn hs hr
  rw [he] at he'
  cases he'
  refine ⟨g, a, cs, hg, hgp, ?_, ho, hoc, hs⟩
  have h1 : (env ++ S.map (·.2))[env.length + j]? = some (.al s p) := by rw [get_app_right, List.getElem?_map, hj]; rfl
  have h2 : (B ++ S.map (·.1))[env.length + j]? = some (some v) := by rw [← hB, get_app_right, List.getElem?_map, hj]; rfl
  obtain ⟨_, w, hw, ha⟩ := R.ent _ _ h1
  rw [h2] at hw
  cases hw
  unfold AlOk at ha
  rw [get_app_left (by omega), he] at ha
  obtain ⟨g1, a1, cs1, hg1, hat1, e1⟩ := ha
  rw [hg] at hg1
  cases hg1
  rw [hgp] at hat1
  cases hat1
  exact e1
/-- the values at the end dropped, a node changed -/
theorem Rel.mutS (R : Rel Φ (B ++ (S ++ T).map (·.1)) (env ++ (S ++ T).map (·.2)) H fz gs) (hB : B.length = env.length) (hn : Φ.n ≤ env.length) {s : Nat} {t : Tr} {g : G} {p : List Nat} {a : Addr} {cs cs' : List G} {ts' : List Tr} (sh' : Sh)
    (he : env[s]? = some (.own t)) (hg : gs[s]? = some g) (hp : g.at p = some (.nd a cs)) (ok : sh'.ok cs'.length) (hl : cs'.length = ts'.length)
    (ch : ∀ (i : Nat) (c : G) (u : Tr), cs'[i]? = some c → ts'[i]? = some u → OwnG H fz c u) (n1 : (G.fps cs').Nodup)
    (n2 : ∀ b ∈ G.fps cs', b ∈ G.fps cs ∨ (b ∉ G.fps (gs.take (env ++ S.map (·.2)).length) ∧ ¬ fz b ∧ ∀ o, Φ.H0 b = some o → b ∈ Φ.S0))
    (al : ∀ (i : Nat) (r : List Nat) (b : Addr) (ds : List G), (env ++ S.map (·.2))[i]? = some (.al s (p ++ r)) → (G.nd a cs).at r = some (.nd b ds) → ∃ ds', (G.nd a cs').at r = some (.nd b ds')) (nt : sh' ≠ .tp := by first | assumption | (intro h; cases h; done) | (apply OwnG.ndt; assumption)) :
    B.length = (chgE env s t p sh' ts').length ∧ Φ.n ≤ (chgE env s t p sh' ts').length ∧ ∃ gs', Rel Φ (B ++ S.map (·.1)) (chgE env s t p sh' ts' ++ S.map (·.2)) (upd H a (sh'.ho (cs'.map G.val))) fz gs' := by
  have hse : s < env.length := (List.getElem?_eq_some_iff.mp he).1
  have R1 := R.popT hB hn
  have h1 : (env ++ S.map (·.2))[s]? = some (.own t) := by rw [get_app_left hse]; exact he
  have h2 : (gs.take (env ++ S.map (·.2)).length)[s]? = some g := by rw [List.getElem?_take, if_pos (by simp; omega)]; exact hg
  have R2 := R1.mut sh' h1 h2 hp ok hl ch n1 n2 al
  rw [set_app_left hse] at R2
  exact ⟨by unfold chgE; rw [List.length_set]; exact hB, by unfold chgE; rw [List.length_set]; exact hn, _, R2⟩
theorem Px.conF (p : Px Φ B env S H) {v : V} {d : Dt} (h : ∀ fz, IsD H fz v d) : Px Φ B env (S ++ [(some v, .fr d)]) H := Px.give (T := []) (by simpa using p) h
theorem keep_upd {a : Addr} {o : HO} (h : ¬ fz a) : Keep H (upd H a o) fz := fun b o' hb e => by
  have hne : b ≠ a := fun e => h (e ▸ hb)
  rw [upd_ne hne]; exact e
/-- places beyond a change -/
theorem al_grow {a : Addr} {cs ds : List G} (r : List Nat) (b : Addr) (es : List G) (h : (G.nd a cs).at r = some (.nd b es)) : ∃ es', (G.nd a (cs ++ ds)).at r = some (.nd b es') := by
  cases r with
  | nil => cases h; exact ⟨_, rfl⟩
  | cons j r =>
    simp only [G.at, G.kids] at h ⊢
    cases hc : cs[j]? with
    | none => rw [hc] at h; cases h
    | some c =>
      rw [hc] at h
      have hlt := (List.getElem?_eq_some_iff.mp hc).1
      rw [List.getElem?_append_left hlt, hc]
      exact ⟨_, h⟩
theorem fps_lf : ∀ vs : List V, G.fps (vs.map G.lf) = []
  | [] => rfl
  | v :: vs => by simp [G.fps, G.fp, fps_lf vs]
/-- what a value at the end owns, at any place -/
theorem Rel.ownJ (R : Rel Φ (B ++ (S ++ T).map (·.1)) (env ++ (S ++ T).map (·.2)) H fz gs) (hB : B.length = env.length) {j : Nat} {v : V} {t : Tr} (hj : T[j]? = some (some v, .own t)) :
    ∃ g, g.val = v ∧ OwnG H fz g t ∧ g.fp.Nodup ∧ ∀ a ∈ g.fp, a ∉ G.fps (gs.take (env ++ S.map (·.2)).length) ∧ ¬ fz a ∧ ∀ o, Φ.H0 a = some o → a ∈ Φ.S0 := by
  have hj' : (S ++ T)[S.length + j]? = some (some v, .own t) := by rw [get_app_right]; exact hj
  have h1 : (env ++ (S ++ T).map (·.2))[env.length + (S.length + j)]? = some (.own t) := by rw [get_app_right, List.getElem?_map, hj']; rfl
  have h2 : (B ++ (S ++ T).map (·.1))[env.length + (S.length + j)]? = some (some v) := by rw [← hB, get_app_right, List.getElem?_map, hj']; rfl
  obtain ⟨g, hg, hv, ho⟩ := R.ent _ _ h1
  rw [h2] at hv
  cases hv
  obtain ⟨n1, n2⟩ := G.fps_get R.nod hg
  refine ⟨g, rfl, ho, n1, fun a ha => ⟨fun hin => ?_, R.nfz a (R.own_in hg a ha), fun o ho => ?_⟩⟩
  · obtain ⟨c, hc, hac⟩ := G.mem_fps.mp hin
    obtain ⟨k, hk⟩ := List.getElem?_of_mem hc
    rw [List.getElem?_take] at hk
    split at hk
    · rename_i hlt
      simp only [List.length_append, List.length_map] at hlt
      exact n2 k c (by omega) hk a hac ha
    · cases hk
  · by_cases hs : a ∈ Φ.S0
    · exact hs
    · exact absurd (R.own_in hg a ha) (R.frm a o ho hs).2
/-- a value at the end as a tree -/
theorem Px.tree {j : Nat} {v : V} {x : En} {u : Tr} {env' : Ev} (p : Px Φ B env (S ++ T) H) (hj : T[j]? = some (some v, x)) (h : toTr env x = some (env', u)) :
    B.length = env'.length ∧ Φ.n ≤ env'.length ∧ ∃ fz gs, Rel Φ (B ++ (S ++ T.set j (some v, .own u)).map (·.1)) (env' ++ (S ++ T.set j (some v, .own u)).map (·.2)) H fz gs := by
  obtain ⟨hB, hn, fz, gs, R⟩ := p
  have hjl : j < T.length := (List.getElem?_eq_some_iff.mp hj).1
  have e0 : ((S ++ T).map (·.2))[S.length + j]? = some x := by rw [List.getElem?_map, get_app_right, hj]; rfl
  obtain ⟨hle, fz', gs', R', _⟩ := R.toTr1 hn e0 h
  refine ⟨by rw [hle]; exact hB, by rw [hle]; exact hn, fz', gs', ?_⟩
  have e1 : ((S ++ T).map (·.2)).set (S.length + j) (.own u) = (S ++ T.set j (some v, .own u)).map (·.2) := by
    rw [List.map_append, List.map_append, List.map_set]
    have := set_app_right (l := S.map (·.2)) (m := T.map (·.2)) (j := j) (x := En.own u)
    rw [List.length_map] at this
    exact this
  have e2 : (S ++ T).map (·.1) = (S ++ T.set j (some v, En.own u)).map (·.1) := by
    rw [List.map_append, List.map_append, List.map_set]
    congr 1
    refine List.ext_getElem? fun i => ?_
    rw [List.getElem?_set]
    split
    · rename_i h
      subst h
      rw [List.getElem?_map, hj]
      simp [hjl]
    · rfl
  rw [e1, e2] at R'
  exact R'
end
/-- a method by values -/
def rMt (Φ : Fx) (m : MI) : V → List V → Hp → VK → Prop := fun x vs H Q => ∃ B env S xo xs env' z, vs.length = xs.length ∧ Px Φ B env (S ++ (some x, xo) :: tz vs xs) H ∧ mtE m env xo xs = some (env', z) ∧ ∀ v H', Px Φ B env' (S ++ [(some v, z)]) H' → Q v H'
section
variable {X : Cx} {Φ : Fx}
theorem mt1 {m : MI} {env env' : Ev} {a z : En} {xs : List En} (h : mtE m env a xs = some (env', z)) (h0 : mtE m env a [] = none) (h2 : ∀ x y l, mtE m env a (x :: y :: l) = none) : ∃ x, xs = [x] := by
  match xs, h with
  | [], h => rw [h0] at h; cases h
  | [x], _ => exact ⟨x, rfl⟩
  | x :: y :: l, h => rw [h2] at h; cases h
theorem mt0 {m : MI} {env env' : Ev} {a z : En} {xs : List En} (h : mtE m env a xs = some (env', z)) (h2 : ∀ x l, mtE m env a (x :: l) = none) : xs = [] := by
  match xs, h with
  | [], _ => rfl
  | x :: l, h => rw [h2] at h; cases h
theorem mt2 {m : MI} {env env' : Ev} {a z : En} {xs : List En} (h : mtE m env a xs = some (env', z)) (h0 : mtE m env a [] = none) (h1 : ∀ x, mtE m env a [x] = none) (h3 : ∀ x y w l, mtE m env a (x :: y :: w :: l) = none) : ∃ x y, xs = [x, y] := by
  match xs, h with
  | [], h => rw [h0] at h; cases h
  | [x], h => rw [h1] at h; cases h
  | [x, y], _ => exact ⟨x, y, rfl⟩
  | x :: y :: w :: l, h => rw [h3] at h; cases h
theorem mtr_append : MtR X "list.append" (rMt Φ .append) := by
  intro pins s σ H x vs v us Q I rx rv ⟨B, env, S, xo, xs, env', z, hl, p, hz, q⟩
  obtain ⟨y, rfl⟩ := mt1 hz rfl (fun _ _ _ => rfl)
  obtain ⟨w, rfl⟩ := one_arg hl
  simp only [mtE] at hz
  cases ht : toTr env y with
  | none => rw [ht] at hz; cases hz
  | some r =>
  obtain ⟨env1, u⟩ := r
  rw [ht] at hz
  dsimp only at hz
  split at hz <;> try (cases hz; done)
  rename_i s0 p0
  split at hz <;> try (cases hz; done)
  rename_i t he
  split at hz <;> try (cases hz; done)
  rename_i ts hp
  split at hz <;> try (cases hz; done)
  rename_i hlt
  cases hz
  obtain ⟨hB, hn, fz, gs, R⟩ := p.tree (j := 1) rfl ht
  obtain ⟨g, a, cs, hg, hgp, rfl, ho, hoc, hs⟩ := R.node (v := x) hB hn (j := S.length) (by simp) he hp
  obtain ⟨a', cs', e, hH, _, hcl, ch⟩ := hoc.nd_
  cases e
  obtain ⟨gx, hgx, hox, nx1, nx2⟩ := R.ownJ hB (j := 1) rfl
  subst hgx
  refine mt_append pins s σ H _ _ v us Q I rx rv ⟨a, cs.map G.val, gx.val, rfl, rfl, hH, by rw [List.length_map, hcl]; exact hlt, ?_⟩
  have nc := (List.nodup_cons.mp (G.at_nodup (G.fps_get R.nod hg).1 hgp))
  have hin : ∀ b ∈ G.fps cs, b ∈ G.fps (gs.take (env1 ++ S.map (·.2)).length) := fun b hb => by
    refine G.mem_fps.mpr ⟨g, ?_, G.at_fp hgp b (List.mem_cons_of_mem _ hb)⟩
    have : (gs.take (env1 ++ S.map (·.2)).length)[s0]? = some g := by rw [List.getElem?_take, if_pos (by simp; omega)]; exact hg
    exact List.mem_of_getElem? this
  have fpa : G.fps (cs ++ [gx]) = G.fps cs ++ gx.fp := by rw [G.fps_append]; simp [G.fps]
  have P := R.mutS (cs' := cs ++ [gx]) (ts' := ts ++ [u]) hB hn .ls he hg hgp trivial (by simp [hcl]) (fun i c k hc hk => by
      by_cases hi : i < cs.length
      · rw [List.getElem?_append_left hi] at hc
        rw [List.getElem?_append_left (by omega)] at hk
        exact ch i c k hc hk
      · rw [List.getElem?_append_right (by omega)] at hc hk
        rw [hcl] at hc
        match hd : i - ts.length, hc, hk with
        | 0, hc, hk => cases hc; cases hk; exact hox
        | k' + 1, hc, hk => cases hc)
    (by rw [fpa]; exact List.nodup_append.mpr ⟨nc.2, nx1, fun b hb c hc e => by subst e; exact (nx2 b hc).1 (hin b hb)⟩)
    (fun b hb => by
      rw [fpa] at hb
      rcases List.mem_append.mp hb with hb | hb
      · exact .inl hb
      · exact .inr (nx2 b hb))
    (fun i r b ds _ h => al_grow r b ds h)
  have : (cs ++ [gx]).map G.val = cs.map G.val ++ [gx.val] := by simp
  rw [this] at P
  exact q _ _ (Px.conF ⟨P.1, P.2.1, fz, P.2.2⟩ fun _ => .non)
/-- the node at the receiver -/
theorem recv {B : List (Option V)} {env : Ev} {S T : Tmp} {H : Hp} {fz : Addr → Prop} {gs : List G} {x : V} {s0 : Nat} {p0 : List Nat} {t : Tr} {sh : Sh} {ts : List Tr} (R : Rel Φ (B ++ (S ++ (some x, En.al s0 p0) :: T).map (·.1)) (env ++ (S ++ (some x, En.al s0 p0) :: T).map (·.2)) H fz gs) (hB : B.length = env.length) (hn : Φ.n ≤ env.length)
    (he : env[s0]? = some (.own t)) (hp : t.at p0 = some (.nd sh ts)) : ∃ g a cs, x = .ref a ∧ gs[s0]? = some g ∧ g.at p0 = some (.nd a cs) ∧ H a = some (sh.ho (cs.map G.val)) ∧ sh.ok cs.length ∧ cs.length = ts.length ∧ (∀ (i : Nat) (c : G) (u : Tr), cs[i]? = some c → ts[i]? = some u → OwnG H fz c u) ∧ (G.fps cs).Nodup ∧ ¬ fz a := by
  obtain ⟨g, a, cs, hg, hgp, rfl, ho, hoc, hs⟩ := R.node (v := x) hB hn (j := S.length) (by simp) he hp
  obtain ⟨a', cs', e, hH, hok, hcl, ch⟩ := hoc.nd_
  cases e
  exact ⟨g, a, cs, rfl, hg, hgp, hH, hok, hcl, ch, (List.nodup_cons.mp (G.at_nodup (G.fps_get R.nod hg).1 hgp)).2, R.nfz a (R.own_in hg a (G.at_fp hgp a List.mem_cons_self))⟩
theorem mtr_pop : MtR X "list.pop" (rMt Φ .pop) := by
  intro pins s σ H x vs v us Q I rx rv ⟨B, env, S, xo, xs, env', z, hl, p, hz, q⟩
  obtain rfl := mt0 hz (fun _ _ => rfl)
  have hvs : vs = [] := List.length_eq_zero_iff.mp hl
  subst hvs
  simp only [mtE] at hz
  split at hz <;> try (cases hz; done)
  rename_i s0 p0
  split at hz <;> try (cases hz; done)
  rename_i t he
  split at hz <;> try (cases hz; done)
  rename_i ts hp
  split at hz <;> try (cases hz; done)
  rename_i d hd
  cases hz
  obtain ⟨hB, hn, fz, gs, R⟩ := p
  obtain ⟨g, a, cs, rfl, hg, hgp, hH, _, hcl, ch, nc, nfa⟩ := recv R hB hn he hp
  have hlt : ts.length - 1 < ts.length := (List.getElem?_eq_some_iff.mp hd).1
  have hc : cs[cs.length - 1]? = some cs[cs.length - 1] := by simp [show cs.length - 1 < cs.length by omega]
  have oc := ch _ _ (.fr d) hc (by rw [hcl]; exact hd)
  have hlf : ∃ w, cs[cs.length - 1] = .lf w := by
    cases h : cs[cs.length - 1] with
    | lf w => exact ⟨w, rfl⟩
    | nd a' l => rw [h] at oc; cases oc
  obtain ⟨w, hw⟩ := hlf
  have hcs : cs = cs.dropLast ++ [.lf w] := by
    have hne : cs ≠ [] := fun h => by rw [h] at hcl; simp at hcl; omega
    rw [← hw, ← List.getLast_eq_getElem hne]
    exact (List.dropLast_concat_getLast hne).symm
  have fpa : G.fps cs = G.fps cs.dropLast := by
    rw [show G.fps cs = G.fps (cs.dropLast ++ [.lf w]) from congrArg _ hcs, G.fps_append]; simp [G.fps, G.fp]
  refine mt_pop pins s σ H _ _ v us Q I rx rv ⟨a, cs.map G.val, w, rfl, rfl, hH, ?_, ?_⟩
  · rw [List.length_map, List.getElem?_map, hc, hw]; rfl
  have P := R.mutS (cs' := cs.dropLast) (ts' := ts.dropLast) hB hn .ls he hg hgp trivial (by simp [hcl]) (fun i c k hc hk => by
      rw [List.getElem?_dropLast] at hc hk
      split at hc
      · rename_i h1
        rw [if_pos (by omega)] at hk
        exact ch i c k hc hk
      · cases hc)
    (by rw [← fpa]; exact nc) (fun b hb => .inl (by rw [fpa]; exact hb))
    (fun i r b ds _ h => by
      cases r with
      | nil => cases h; exact ⟨_, rfl⟩
      | cons j r =>
        simp only [G.at, G.kids] at h ⊢
        rw [List.getElem?_dropLast]
        by_cases hj : j < cs.length - 1
        · rw [if_pos hj]; exact ⟨_, h⟩
        · rcases Nat.lt_or_ge j cs.length with hj2 | hj2
          · have : j = cs.length - 1 := by omega
            rw [this, hc, hw] at h
            cases r <;> cases h
          · rw [List.getElem?_eq_none hj2] at h; cases h)
  have e1 : cs.dropLast.map G.val = (cs.map G.val).dropLast := by rw [List.map_dropLast]
  rw [e1] at P
  obtain ⟨hB2, hn2, gs2, R2⟩ := P
  rw [hw] at oc
  have D := oc.frD.mono (H' := upd H a (Sh.ls.ho (cs.map G.val).dropLast)) (fz' := fz) (keep_upd nfa) fun _ h => h
  have D2 : IsD (upd H a (Sh.ls.ho (cs.map G.val).dropLast)) fz w d := D
  exact q _ _ ⟨hB2, hn2, _, _, by simpa [Sh.ho] using R2.pushF D2⟩
/-- xs.extend(ys), ys to be read -/
theorem mt_extR {pins : List (Addr × Obj)} {s : Shared} {σ : L2.St} {H : Hp} {l c : Addr} {xs zs : List V} {u : Value} {Q : VK} (I : Inv X pins σ H s) (ru : RelV (.ref c) u) (hH : H l = some (.lst xs)) (hB : Rd H c (.lst zs)) (hz : xs.length + zs.length ≤ sizeLine) (q : Q .non (upd H l (.lst (xs ++ zs)))) :
    wpAny (model X.prog X.w) X.A (call (.builtin "list.extend") [.ref l, u]) (EP X pins σ Q) X.xe s := by
  cases ru
  obtain ⟨z1, its, n, r, hl, e⟩ := I.lstM hH
  obtain ⟨z2, its2, n2, r2, hl2, e2⟩ := rd_lst I hB
  have sz : its.toArray.size + its2.toArray.size ≤ sizeLine := by simp only [List.size_toArray]; omega
  have hlong : ¬ (!its.toArray.isEmpty && Builtin.List.listTooLong (its.toArray.size + its2.toArray.size)) = true := by
    rw [notLongL sz]; simp
  refine call_meets PySem.F.slot_list_extend ⟨_, e, rfl⟩ PySem.F.entry_list_extend (PySem.F.args_list_extend_2 _ _) (AutoSeq1.list_extend_list_list_0 l its.toArray n c its2.toArray n2 hlong (by simp only [List.size_toArray]; omega) (by have := line63; omega)) ⟨e, e2, ?_⟩
  exact ⟨.non, _, I.lset (its' := its ++ its2) hH e (by simp) (r.append r2) (by rw [List.length_append]; exact hz), rfl, q⟩
theorem mtr_extend : MtR X "list.extend" (rMt Φ .extend) := by
  intro pins s σ H x vs v us Q I rx rv ⟨B, env, S, xo, xs, env', z, hl, p, hz, q⟩
  obtain ⟨y, rfl⟩ := mt1 hz rfl (fun _ _ _ => rfl)
  obtain ⟨w, rfl⟩ := one_arg hl
  simp only [mtE] at hz
  split at hz <;> try (cases hz; done)
  rename_i s0 p0 ds hd
  split at hz <;> try (cases hz; done)
  rename_i t he
  split at hz <;> try (cases hz; done)
  rename_i ts hp
  split at hz <;> try (cases hz; done)
  rename_i hlt
  cases hz
  obtain ⟨hB, hn, fz, gs, R⟩ := p
  obtain ⟨g, a, cs, rfl, hg, hgp, hH, _, hcl, ch, nc, nfa⟩ := recv R hB hn he hp
  have hj : (S ++ (some (V.ref a), En.al s0 p0) :: tz [w] [y])[S.length + 1]? = some (some w, y) := by
    have := get_app_right (l := S) (m := (some (V.ref a), En.al s0 p0) :: tz [w] [y]) (j := 1)
    rw [this]; rfl
  obtain ⟨l, ws, rfl, hr, hwl, hw⟩ := R.lst hB hn hj hd
  obtain ⟨u, rfl, ru⟩ := rv.one
  cases rx
  refine mt_extR I ru hH hr (by rw [List.length_map, hcl, hwl]; exact hlt) ?_
  have fpa : G.fps (cs ++ ws.map .lf) = G.fps cs := by rw [G.fps_append, fps_lf, List.append_nil]
  have P := R.mutS (cs' := cs ++ ws.map .lf) (ts' := ts ++ ds.map .fr) hB hn .ls he hg hgp trivial (by simp [hcl, hwl]) (fun i c k hc hk => by
      by_cases hi : i < cs.length
      · rw [List.getElem?_append_left hi] at hc
        rw [List.getElem?_append_left (by omega)] at hk
        exact ch i c k hc hk
      · rw [List.getElem?_append_right (by omega), List.getElem?_map] at hc hk
        rw [hcl] at hc
        obtain ⟨w, hw1, rfl⟩ := Option.map_eq_some_iff.mp hc
        obtain ⟨d, hd1, rfl⟩ := Option.map_eq_some_iff.mp hk
        exact .fr (hw _ w d hw1 hd1))
    (by rw [fpa]; exact nc) (fun b hb => .inl (by rw [fpa] at hb; exact hb)) (fun i r b ds _ h => al_grow r b ds h)
  have e1 : (cs ++ ws.map G.lf).map G.val = cs.map G.val ++ ws := by
    rw [List.map_append, List.map_map]
    have : (G.val ∘ G.lf) = id := rfl
    rw [this, List.map_id]
  rw [e1] at P
  exact q _ _ (Px.conF ⟨P.1, P.2.1, fz, P.2.2⟩ fun _ => .non)
theorem mtr_index : MtR X "list.index" (rMt Φ .index) := by
  intro pins s σ H x vs v us Q I rx rv ⟨B, env, S, xo, xs, env', z, hl, p, hz, q⟩
  obtain ⟨y, rfl⟩ := mt1 hz rfl (fun _ _ _ => rfl)
  obtain ⟨w, rfl⟩ := one_arg hl
  simp only [mtE] at hz
  split at hz <;> try (cases hz; done)
  rename_i d ds hd hds
  split at hz <;> try (cases hz; done)
  rename_i hf
  obtain ⟨j, hj, e⟩ := Option.map_eq_some_iff.mp hz
  cases e
  obtain ⟨hB, hn, fz, gs, R⟩ := id p
  have hj1 : (S ++ (some x, xo) :: tz [w] [y])[S.length + 1]? = some (some w, y) := by
    have := get_app_right (l := S) (m := (some x, xo) :: tz [w] [y]) (j := 1)
    rw [this]; rfl
  obtain ⟨l, ws, rfl, hr, hwl, hw⟩ := R.lst hB hn (tmp_last (S := S)) hds
  rw [Bool.and_eq_true] at hf
  obtain ⟨hv, hfv⟩ := (R.data hB hn hj1 hd).flat_ hf.1
  subst hv
  obtain ⟨rfl, hfs⟩ := flats_of hwl hw hf.2
  obtain ⟨hjl, h1, h2⟩ := List.findIdx?_eq_some_iff_getElem.mp hj
  refine mt_index pins s σ H _ _ v us Q I rx rv ⟨l, ds.map vD, vD d, j, vD ds[j], rfl, rfl, .inl hr, hfv, hfs, by simp [hjl], ?_, fun m z' hm hz' => ?_, q _ _ (p.give fun _ => .int _)⟩
  · rw [eqV_vD (List.all_eq_true.mp hf.2 _ (List.getElem_mem hjl)) hf.1]; exact h1
  · rw [List.getElem?_map] at hz'
    have hml : m < ds.length := by omega
    simp only [List.getElem?_eq_getElem hml, Option.map_some, Option.some.injEq] at hz'
    subst hz'
    rw [eqV_vD (List.all_eq_true.mp hf.2 _ (List.getElem_mem hml)) hf.1]
    simpa using h2 m hm
theorem mtr_count : MtR X "list.count" (rMt Φ .count) := by
  intro pins s σ H x vs v us Q I rx rv ⟨B, env, S, xo, xs, env', z, hl, p, hz, q⟩
  obtain ⟨y, rfl⟩ := mt1 hz rfl (fun _ _ _ => rfl)
  obtain ⟨w, rfl⟩ := one_arg hl
  simp only [mtE] at hz
  split at hz <;> try (cases hz; done)
  rename_i k ns hd hds
  cases hz
  obtain ⟨hB, hn, fz, gs, R⟩ := id p
  have hj1 : (S ++ (some x, xo) :: tz [w] [y])[S.length + 1]? = some (some w, y) := by
    have := get_app_right (l := S) (m := (some x, xo) :: tz [w] [y]) (j := 1)
    rw [this]; rfl
  obtain ⟨ds, hl1, hl2⟩ := Option.bind_eq_some_iff.mp hds
  obtain ⟨l, ws, rfl, hr, hwl, hw⟩ := R.lst hB hn (tmp_last (S := S)) hl1
  obtain ⟨rfl, _⟩ := ints_of hwl hw hl2
  have := (R.data hB hn hj1 hd).int_
  subst this
  exact mt_lcount pins s σ H _ _ v us Q I rx rv ⟨l, ns, k, rfl, rfl, .inl hr, q _ _ (p.give fun _ => .int _)⟩
theorem mtr_remove : MtR X "list.remove" (rMt Φ .remove) := by
  intro pins s σ H x vs v us Q I rx rv ⟨B, env, S, xo, xs, env', z, hl, p, hz, q⟩
  obtain ⟨y, rfl⟩ := mt1 hz rfl (fun _ _ _ => rfl)
  obtain ⟨w, rfl⟩ := one_arg hl
  simp only [mtE] at hz
  split at hz <;> try (cases hz; done)
  rename_i k hd
  split at hz <;> try (cases hz; done)
  rename_i s0 p0
  split at hz <;> try (cases hz; done)
  rename_i t he
  split at hz <;> try (cases hz; done)
  rename_i ts hp
  split at hz <;> try (cases hz; done)
  rename_i l hli
  split at hz <;> try (cases hz; done)
  rename_i hk
  cases hz
  obtain ⟨hB, hn, fz, gs, R⟩ := p
  obtain ⟨g, a, cs, rfl, hg, hgp, hH, _, hcl, ch, nc, nfa⟩ := recv R hB hn he hp
  have hj1 : (S ++ (some (V.ref a), En.al s0 p0) :: tz [w] [y])[S.length + 1]? = some (some w, y) := by
    have := get_app_right (l := S) (m := (some (V.ref a), En.al s0 p0) :: tz [w] [y]) (j := 1)
    rw [this]; rfl
  have := (R.data hB hn hj1 hd).int_
  subst this
  obtain ⟨ds, hds, hdi⟩ := Option.bind_eq_some_iff.mp hli
  have hts := allFr_get hds
  subst hts
  have hvl : (cs.map G.val).length = ds.length := by rw [List.length_map, hcl, List.length_map]
  have hlf : ∀ c ∈ cs, ∃ w, c = .lf w := fun c hc => by
    obtain ⟨i, hi⟩ := List.getElem?_of_mem hc
    have hlt := (List.getElem?_eq_some_iff.mp hi).1
    rw [hcl, List.length_map] at hlt
    have := ch i c (.fr ds[i]) hi (by simp [hlt])
    cases this with
    | fr _ => exact ⟨_, rfl⟩
  obtain ⟨hev, _⟩ := ints_of hvl (fun i v d hv hd => by
    rw [List.getElem?_map] at hv
    obtain ⟨c, hc, rfl⟩ := Option.map_eq_some_iff.mp hv
    exact (ch i c (.fr d) hc (by rw [List.getElem?_map, hd]; rfl)).frD) hdi
  obtain ⟨j, j1, j2, j3, j4⟩ := first_at hk
  rw [hev] at hH
  refine mt_remove pins s σ H _ _ v us Q I rx rv ⟨a, l, k, j, rfl, rfl, hH, j2, fun m hm => j3 m hm, ?_⟩
  rw [j4]
  have noat : ∀ (r : List Nat) (b : Addr) (ds : List G), (G.nd a cs).at r = some (.nd b ds) → r = [] ∧ b = a := fun r b ds h => by
    cases r with
    | nil => cases h; exact ⟨rfl, rfl⟩
    | cons i r =>
      simp only [G.at, G.kids] at h
      cases hc : cs[i]? with
      | none => rw [hc] at h; cases h
      | some c =>
        rw [hc] at h
        obtain ⟨w, rfl⟩ := hlf c (List.mem_of_getElem? hc)
        cases r <;> cases h
  have P := R.mutS (cs' := (l.erase k).map fun i => .lf (.int i)) (ts' := (l.erase k).map fun i => .fr (.int i)) hB hn .ls he hg hgp trivial (by simp) (fun i c u hc hu => by
      rw [List.getElem?_map] at hc hu
      obtain ⟨n, hn, rfl⟩ := Option.map_eq_some_iff.mp hc
      rw [hn] at hu
      cases hu
      exact .fr (.int n))
    (by have := fps_lf ((l.erase k).map V.int); rw [List.map_map] at this; rw [show G.fps ((l.erase k).map fun i => G.lf (.int i)) = [] from this]; exact List.nodup_nil)
    (fun b hb => by have := fps_lf ((l.erase k).map V.int); rw [List.map_map] at this; rw [show G.fps ((l.erase k).map fun i => G.lf (.int i)) = [] from this] at hb; cases hb)
    (fun i r b ds _ h => by obtain ⟨rfl, rfl⟩ := noat r b ds h; exact ⟨_, rfl⟩)
  have e1 : ((l.erase k).map fun i => G.lf (.int i)).map G.val = (l.erase k).map V.int := by rw [List.map_map]; rfl
  rw [e1] at P
  exact q _ _ (Px.conF ⟨P.1, P.2.1, fz, P.2.2⟩ fun _ => .non)
/-- the last value alone -/
theorem Rel.keepL {B : List (Option V)} {env : Ev} {S T : Tmp} {H : Hp} {fz : Addr → Prop} {gs : List G} (R : Rel Φ (B ++ (S ++ T).map (·.1)) (env ++ (S ++ T).map (·.2)) H fz gs) (hB : B.length = env.length) (hn : Φ.n ≤ env.length) {j : Nat} {v : V} {x : En} (hj : T[j]? = some (some v, x)) (h1 : x ≠ .un) (h2 : ∀ d, x ≠ .fd d) : Px Φ B env (S ++ [(some v, x)]) H := by
  have R1 := R.popT hB hn
  have hj' : (S ++ T)[S.length + j]? = some (some v, x) := by rw [get_app_right]; exact hj
  have q1 : (env ++ (S ++ T).map (·.2))[env.length + (S.length + j)]? = some x := by rw [get_app_right, List.getElem?_map, hj']; rfl
  have q2 : (B ++ (S ++ T).map (·.1))[env.length + (S.length + j)]? = some (some v) := by rw [← hB, get_app_right, List.getElem?_map, hj']; rfl
  have E := R.ent _ _ q1
  cases x with
  | un => exact absurd rfl h1
  | fd d => exact absurd rfl (h2 d)
  | fr d =>
    obtain ⟨_, w, hw, hd⟩ := E
    rw [q2] at hw
    cases hw
    exact ⟨hB, hn, _, _, by simpa using R1.pushF hd⟩
  | al s p =>
    obtain ⟨_, w, hw, ha⟩ := E
    rw [q2] at hw
    cases hw
    have hs := R.als _ _ _ q1
    have ea : env ++ (S ++ T).map (·.2) = (env ++ S.map (·.2)) ++ T.map (·.2) := by simp
    have hg : gs = gs.take (env ++ S.map (·.2)).length ++ gs.drop (env ++ S.map (·.2)).length := (List.take_append_drop _ _).symm
    have hgl : (gs.take (env ++ S.map (·.2)).length).length = (env ++ S.map (·.2)).length := by
      have := R.leng
      rw [List.length_take, this]; simp
    have ha' : AlOk H fz (env ++ S.map (·.2)) (gs.take (env ++ S.map (·.2)).length) s p v := by
      refine AlOk.unapp (l := T.map (·.2)) (gl := gs.drop (env ++ S.map (·.2)).length) (by simp; omega) hgl ?_
      rw [← ea, ← hg]
      exact ha
    have := R1.pushA (v := v) (s := s) (p := p) hs ha'
    exact ⟨hB, hn, _, _, by simpa using this⟩
  | own t =>
    obtain ⟨g, hg, ho, n1, n2⟩ := R.ownJ hB hj
    subst hg
    exact ⟨hB, hn, _, _, by simpa using R1.pushO ho n1 (fun a ha => (n2 a ha).1) (fun a ha => (n2 a ha).2.1) fun a ha => (n2 a ha).2.2⟩
theorem mtr_get (hu : X.A.units + 1 < cLine) : MtR X "dict.get" (rMt Φ .get) := by
  intro pins s σ H x vs v us Q I rx rv ⟨B, env, S, xo, xs, env', z, hl, p, hz, q⟩
  obtain ⟨k, y, rfl⟩ := mt2 hz rfl (fun _ => rfl) (fun _ _ _ _ => rfl)
  obtain ⟨w1, w2, rfl⟩ := two_arg hl
  simp only [mtE] at hz
  cases hk : peek env k with
  | none => rw [hk] at hz; cases hz
  | some kd =>
  rw [hk] at hz
  dsimp only at hz
  split at hz <;> try (cases hz; done)
  rename_i sh ts hr
  obtain ⟨hB, hn, fz, gs, R⟩ := id p
  have hj1 : (S ++ (some x, xo) :: tz [w1, w2] [k, y])[S.length + 1]? = some (some w1, k) := by
    have := get_app_right (l := S) (m := (some x, xo) :: tz [w1, w2] [k, y]) (j := 1)
    rw [this]; rfl
  have Dk := R.data hB hn hj1 hk
  obtain ⟨u1, u2, rfl, r1, r2⟩ := vals2 rv
  obtain ⟨g, rfl, ho, _⟩ := R.temp hB hn (tmp_last (S := S)) hr
  obtain ⟨a, cs, rfl, hH, hok, hcl, ch⟩ := ho.nd_
  have ok' : sh.ok (cs.map G.val).length := by rw [List.length_map]; exact hok
  cases rx
  split at hz <;> try (cases hz; done)
  · rename_i hf
    have D := dget_of hH ok' Dk hf
    have key : env' = env → z = y → y ≠ .un → (∀ d, y ≠ .fd d) → wpAny (model X.prog X.w) X.A (call (.builtin "dict.get") [.ref a, u1, u2]) (EP X pins σ Q) X.xe s := fun e1 e2 h1 h2 => by
      subst e1; subst e2
      exact d_get2 hu I D r1 r2 fun w' s' I' r' => ⟨w2, H, I', r', q _ _ (R.keepL hB hn (j := 2) rfl h1 h2)⟩
    cases y with
    | un => cases hz
    | fd d => cases hz
    | fr d => cases hz; exact key rfl rfl (by simp) (by simp)
    | own t => cases hz; exact key rfl rfl (by simp) (by simp)
    | al s p => cases hz; exact key rfl rfl (by simp) (by simp)
  · rename_i j hf
    obtain ⟨z', hz', e⟩ := Option.map_eq_some_iff.mp hz
    cases e
    obtain ⟨a', vs', w, e1, hH', hok', hl', hw, gs', R'⟩ := pick_val R hB hn hr hz'
    cases e1
    have D := dget_of hH' hok' Dk hf
    rw [Option.bind_some, hw] at D
    exact d_get2 hu I D r1 r2 fun w' s' I' r' => ⟨w, H, I', r', q _ _ ⟨hB, hn, fz, gs', R'⟩⟩
/-! ### the rule -/
variable {b : Bx}
theorem tyV_of {K : PySem.W.Frag} {fz : Addr → Prop} {H : Hp} {g : G} {t : Tr} {m : MI} (h : OwnG H fz g t) (ht : tyS t = tyM m) : tyV K (tyM m) g.val H := by
  have two : tyM m = "list" ∨ tyM m = "dict" := by cases m <;> simp [tyM]
  cases h with
  | fr h =>
    cases h with
    | non => rcases two with e | e <;> rw [e] at ht <;> simp [tyS] at ht
    | bl c => rcases two with e | e <;> rw [e] at ht <;> simp [tyS] at ht
    | int i => rcases two with e | e <;> rw [e] at ht <;> simp [tyS] at ht
    | str x => rcases two with e | e <;> rw [e] at ht <;> simp [tyS] at ht
    | nd sh e hf r ok hl ch =>
      cases sh with
      | ls => subst e; exact .inl ⟨ht.symm, _, .inl r.rd⟩
      | tp => subst e; rcases two with e | e <;> rw [e] at ht <;> simp [tyS, Sh.dat] at ht
      | dk ks => subst e; exact .inr (.inr (.inl ⟨ht.symm, .inl (r.elim (fun r => ⟨_, r⟩) fun z => nomatch z.1)⟩))
      | dt ks => subst e; exact .inr (.inr (.inl ⟨ht.symm, .inr (r.elim (fun r => ⟨_, r⟩) fun z => nomatch z.1)⟩))
  | nd sh hH ok hl ch =>
    cases sh with
    | ls => exact .inl ⟨ht.symm, _, .inl (.of hH)⟩
    | tp => rcases two with e | e <;> rw [e] at ht <;> simp [tyS] at ht
    | dk ks => exact .inr (.inr (.inl ⟨ht.symm, .inl ⟨_, hH⟩⟩))
    | dt ks => exact .inr (.inr (.inl ⟨ht.symm, .inr ⟨_, hH⟩⟩))
theorem mth_imp {m : MI} {o xs : Ex} (σ : L2.St) (H : Hp) (Q : VK) (h : tE b (.mth m o xs) σ H Q) : tBM X.K (tyM m) (rMt b.Φ m) (tE b o) (tL b xs) σ H Q := by
  obtain ⟨R, env, S, p, q⟩ := h
  simp only [evE] at q
  refine ⟨R, env, S, p, q.bind fun q1 _ s1 v1 H1 p1 => ?_⟩
  split at s1
  · rename_i ht
    obtain ⟨t, hr, ht⟩ := Option.map_eq_some_iff.mp ht
    obtain ⟨fz, gs, g, Rl, rfl, ho⟩ := p1.last hr
    refine ⟨tyV_of ho ht, R, q1.1, _, p1, s1.bind fun q2 _ s2 vs H2 hl p2 => ?_⟩
    cases hz : mtE m q2.1 q1.2 q2.2 with
    | none => rw [hz] at s2; exact s2.elim
    | some z =>
      rw [hz] at s2
      exact ⟨_, _, S, _, _, z.1, z.2, hl, by simpa using p2, hz, fun v H' p3 => s2 v H' p3⟩
  · exact s1.elim
theorem pE_mth {m : MI} {o e : Expr} {es : List Expr} {xo xs : Ex} {name : Str} {apos cpos : Pos} {id : String} (pa : PlainAttrs (tyM m)) (slot : Slot (tyM m) name id) (hty : typeOf (.builtin id) = pure (.type "method_descriptor")) (hm : MtR X id (rMt b.Φ m)) (ho : PE X o (tE b xo)) (ha : PA X (e :: es) (tL b xs))
    (hbase : attributeBase o name X.env (eval o X.env) = eval o X.env)
    (hfew : ((backTo cpos (starEach (e :: es) X.env)).all (fun x => !x.1) && (backToKw cpos (keywordEach [] X.env)).all (fun x => x.1.isSome) && decide ((e :: es).length + ([] : List Keyword).length + (if ([] : List Keyword).isEmpty then 0 else 1) < 30)) = true)
    (hline : (apos.endLine == cpos.line) = true) (hs : starEach (e :: es) X.env = (false, eval e X.env) :: starEach es X.env) (hplain : (backTo cpos (starEach es X.env)).any (·.1) = false) :
    PE X (.Call (.Attribute o name apos) (e :: es) [] cpos) (tE b (.mth m xo xs)) :=
  peImp (pe_bm pa slot hty hm ho ha hbase hfew hline hs hplain) mth_imp
theorem pE_mth0 {m : MI} {o : Expr} {xo : Ex} {name : Str} {apos cpos : Pos} {id : String} (pa : PlainAttrs (tyM m)) (slot : Slot (tyM m) name id) (hty : typeOf (.builtin id) = pure (.type "method_descriptor")) (hm : MtR X id (rMt b.Φ m)) (ho : PE X o (tE b xo))
    (hbase : attributeBase o name X.env (eval o X.env) = eval o X.env) (hline : (apos.endLine == cpos.line) = true) : PE X (.Call (.Attribute o name apos) [] [] cpos) (tE b (.mth m xo .nil)) :=
  peImp (pe_bm0 pa slot hty hm ho hbase hline) fun σ H Q h => by
    obtain ⟨R, env, S, p, q⟩ := mth_imp (X := X) σ H Q h
    refine ⟨R, env, S, p, Sat.mono q fun q1 _ s1 v1 H1 p1 => ?_⟩
    obtain ⟨ty, R2, env2, S2, p2, q2⟩ := s1 v1 H1 p1
    exact ⟨ty, by simp only [evL] at q2; exact q2 [] H1 rfl (by simpa using p2)⟩
end
end MP
set_option maxHeartbeats 1000000
set_option autoImplicit false
/-! mini: statements -/
namespace MP
open PySem PySem.Spec PyProof.Rows L2
/-- what a flow is to be worth; R: the values of the slots beyond the names, n: how many names -/
def FlOk (b : Bx) (R : List (Option V)) (n : Nat) (D : Ends) : Fl → Prop
  | .nx env => ∀ σ' H', σ'.length = n → Px b.Φ (σ' ++ R) env [] H' → D.nx σ' H'
  | .bk env => ∀ σ' H', σ'.length = n → Px b.Φ (σ' ++ R) env [] H' → D.bk σ' H'
  | .ct env => ∀ σ' H', σ'.length = n → Px b.Φ (σ' ++ R) env [] H' → D.ct σ' H'
  | .rt env x => ∀ v σ' H', σ'.length = n → Px b.Φ (σ' ++ R) env [(some v, x)] H' → D.rt v H'
def SatS {α : Type} (b : Bx) (R : List (Option V)) (n : Nat) (P : α → Prop) : Res α → Prop
  | .ok a => P a
  | .exc c d env => ∀ σ' : L2.St, σ'.length = n → excW b (σ' ++ R) σ' c d env
  | .stuck => False
def tS (b : Bx) (s : Sm) : TS := fun D σ H => ∃ R env, Px b.Φ (σ ++ R) env [] H ∧ SatS b R σ.length (FlOk b R σ.length D) (evS b.C s env)
section
variable {b : Bx} {X : Cx} {R : List (Option V)} {n : Nat}
theorem SatS.bindE {α β : Type} {σ : L2.St} {r : Res α} {f : α → Res β} {P : β → Prop} {P' : α → Prop} (h : SatS b R n P (r.bind f)) (hn : σ.length = n) (k : ∀ q, r = .ok q → SatS b R n P (f q) → P' q) : Sat b σ (σ ++ R) P' r := by
  cases r with
  | ok q => exact k q rfl h
  | exc c d e => exact h σ hn
  | stuck => exact h
theorem SatS.bind {α β : Type} {r : Res α} {f : α → Res β} {P : β → Prop} {P' : α → Prop} (h : SatS b R n P (r.bind f)) (k : ∀ q, r = .ok q → SatS b R n P (f q) → P' q) : SatS b R n P' r := by
  cases r with
  | ok q => exact k q rfl h
  | exc c d e => exact h
  | stuck => exact h
theorem SatS.mono {α : Type} {r : Res α} {P P' : α → Prop} (h : SatS b R n P r) (k : ∀ q, r = .ok q → P q → P' q) : SatS b R n P' r := by
  cases r with
  | ok q => exact k q rfl h
  | exc c d e => exact h
  | stuck => exact h
theorem SatS.ofO {α β : Type} {o : Option α} {f : α → Res β} {P : β → Prop} (h : SatS b R n P ((ofO o).bind f)) : ∃ a, o = some a ∧ SatS b R n P (f a) := by
  cases o with
  | none => exact h.elim
  | some a => exact ⟨a, rfl, h⟩
/-! ### small ones -/
theorem pS_pass {pos : Pos} : PS X (.Pass pos) (tS b .pass) := psImp ps_pass fun D σ H ⟨R, env, p, q⟩ => q σ H rfl p
theorem pS_break {pos : Pos} : PS X (.Break pos) (tS b .brk) := psImp ps_break fun D σ H ⟨R, env, p, q⟩ => q σ H rfl p
theorem pS_cont {pos : Pos} : PS X (.Continue pos) (tS b .cnt) := psImp ps_continue fun D σ H ⟨R, env, p, q⟩ => q σ H rfl p
theorem pS_doc {x : Str} {j pos pos'} : PS X (.Expr (.Constant (.str x) j pos) pos') (tS b .pass) := psImp ps_doc fun D σ H ⟨R, env, p, q⟩ => q σ H rfl p
theorem pS_nev {st : Stmt} : PS X st (tS b .nev) := psImp ps_never fun D σ H ⟨R, env, p, q⟩ => q.elim
theorem pS_expr {e : Expr} {x : Ex} {pos : Pos} (he : PE X e (tE b x)) (hs : swapsWith e none pos.line X.env = pure false) : PS X (.Expr e pos) (tS b (.ex x)) :=
  psImp (ps_expr he hs) fun D σ H ⟨R, env, p, q⟩ => by
    simp only [evS] at q
    exact ⟨R, env, [], p, q.bindE rfl fun q1 _ s1 v H' p1 => s1 σ H' rfl p1.pop⟩
theorem pS_ret {e : Expr} {x : Ex} {pos : Pos} (he : PE X e (tE b x)) : PS X (.Return (some e) pos) (tS b (.ret x)) :=
  psImp (ps_ret he) fun D σ H ⟨R, env, p, q⟩ => by
    simp only [evS] at q
    exact ⟨R, env, [], p, q.bindE rfl fun q1 _ s1 v H' p1 => s1 v σ H' rfl p1⟩
theorem pS_retn {pos : Pos} : PS X (.Return none pos) (tS b .retn) :=
  psImp ps_retN fun D σ H ⟨R, env, p, q⟩ => q .non σ H rfl (p.con fun _ => .non)
theorem pS_if {c : Expr} {s1 s2 : List Stmt} {x : Ex} {a d : Sm} {pos : Pos} (hc : PT X c (tT b x)) (ha : PSs X s1 (tS b a)) (hb : PSs X s2 (tS b d)) : PS X (.If c s1 s2 pos) (tS b (.ite x a d)) :=
  psImp (ps_if hc ha hb) fun D σ H ⟨R, env, p, q⟩ => by
    have e : evS b.C (.ite x a d) env = (evT b.C x env).bind fun q => if q.2 then evS b.C a q.1 else evS b.C d q.1 := by
      simp only [evT, evS]
      cases evE b.C x env with
      | ok r => cases h : truthE r.1 r.2 <;> simp [h]
      | _ => rfl
    rw [e] at q
    refine ⟨R, env, [], p, q.bindE rfl fun q1 _ s1 H' p1 => ?_⟩
    dsimp only
    split
    · rename_i h
      rw [if_pos h] at s1
      exact ⟨R, q1.1, p1, s1⟩
    · rename_i h
      rw [if_neg h] at s1
      exact ⟨R, q1.1, p1, s1⟩
theorem pSs_nil : PSs X [] (tS b .skip) := pssImp pss_nil fun D σ H ⟨R, env, p, q⟩ => q σ H rfl p
theorem pSs_one {st : Stmt} {s : Sm} (h : PS X st (tS b s)) : PSs X [st] (tS b s) := pss_one h
theorem pSs_cons {st : Stmt} {rest : List Stmt} {s t : Sm} (h : PS X st (tS b s)) (h2 : PSs X rest (tS b t)) : PSs X (st :: rest) (tS b (.seq s t)) :=
  pssImp (pss_cons h h2) fun D σ H ⟨R, env, p, q⟩ => by
    simp only [evS] at q
    refine ⟨R, env, p, q.bind fun fl _ s1 => ?_⟩
    cases fl with
    | nx env' =>
      intro σ' H' hl p'
      exact ⟨R, env', p', by rw [hl]; exact s1⟩
    | bk env' => exact s1
    | ct env' => exact s1
    | rt env' x => exact s1
/-! ### names -/
theorem okE_ne {x : En} (h : okE x = true) : x ≠ .un ∧ ∀ d, x ≠ .fd d := by
  cases x <;> simp [okE] at h ⊢
/-- values at the end given to names, one after another -/
theorem Px.puts {σ : L2.St} {env : Ev} {vs : List V} {l : List (Nat × En)} {H : Hp} (p : Px b.Φ (σ ++ R) env (tz vs (l.map (·.2))) H) (hl : vs.length = l.length) (hb : ∀ q ∈ l, q.1 < σ.length ∧ q.1 < b.Φ.n) (ho : l.all (fun q => okE q.2) = true) :
    Px b.Φ (putV σ (l.map (·.1)) vs ++ R) (MP.puts env l) [] H := by
  obtain ⟨hB, hn, fz, gs, Rl⟩ := p
  have hl2 : vs.length = (l.map (·.2)).length := by rw [List.length_map]; exact hl
  rw [tz_fst hl2, tz_snd hl2] at Rl
  obtain ⟨h1, h2⟩ := Rel.puts (T := []) (tv := []) (l := l) (wv := vs) (by simpa using Rl) hB rfl hn fun q hq => ⟨(hb q hq).2, okE_ne (List.all_eq_true.mp ho q hq)⟩
  have e : ∀ (is : List Nat) (vs : List V) (σ : L2.St), (∀ i ∈ is, i < σ.length) → putV (σ ++ R) is vs = putV σ is vs ++ R := by
    intro is
    induction is with
    | nil => intro vs σ _; cases vs <;> rfl
    | cons i is ih =>
      intro vs σ h
      cases vs with
      | nil => rfl
      | cons v vs =>
        simp only [putV]
        rw [set_app_left (h i List.mem_cons_self)]
        exact ih vs _ fun j hj => by rw [List.length_set]; exact h j (List.mem_cons_of_mem _ hj)
  rw [e _ _ _ (fun i hi => by obtain ⟨q, hq, rfl⟩ := List.mem_map.mp hi; exact (hb q hq).1)] at h2
  refine ⟨?_, by rw [h1]; exact hn, ?_⟩
  · rw [h1, List.length_append, putV_len, ← List.length_append]; exact hB
  · simpa using h2
theorem asg_nm {env env' : Ev} {i : Nat} {x : En} (h : asgT env (.nm i) (.one x) = some env') : okE x = true ∧ env' = MP.puts env [(i, x)] := by
  have e : asgT env (.nm i) (.one x) = if okE x && true then some (MP.puts env [(i, x)]) else none := rfl
  rw [e] at h
  split at h
  · rename_i hh
    rw [Bool.and_true] at hh
    cases h
    exact ⟨hh, rfl⟩
  · cases h
theorem Px.put1 {σ : L2.St} {env env' : Ev} {v : V} {x : En} {i : Nat} {H : Hp} (p : Px b.Φ (σ ++ R) env [(some v, x)] H) (hi : i < σ.length) (hn : i < b.Φ.n) (h : asgT env (.nm i) (.one x) = some env') : Px b.Φ (σ.set i (some v) ++ R) env' [] H := by
  obtain ⟨ho, rfl⟩ := asg_nm h
  exact Px.puts (l := [(i, x)]) (vs := [v]) p rfl (fun q hq => by simp at hq; subst hq; exact ⟨hi, hn⟩) (by simpa using ho)
/-- name = value -/
theorem pS_set {i : Nat} {y : Str} {e : Expr} {x : Ex} {pos' pos : Pos} (hn0 : X.N.length ≤ b.Φ.n) (hN : X.N.Nodup) (hi : X.N[i]? = some y) (hx : Loc X.env.scope y) (he : PE X e (tE b x)) (hs : swapsWith e (some (.Name y pos')) pos.line X.env = pure false) (hf : X.fn y = true ∨ X.env.scope.names.lookup y = some .local) :
    PS X (.Assign [.Name y pos'] e pos) (tS b (.asg (.nm i) x)) := by
  refine ⟨fun pins s σ H D I ⟨R, env, p, q⟩ => (ps_set hN hi hx he hs hf).run pins s σ H D I ?_⟩
  have hil : i < σ.length := by rw [I.len]; exact (List.getElem?_eq_some_iff.mp hi).1
  have hin : i < b.Φ.n := by have := (List.getElem?_eq_some_iff.mp hi).1; omega
  simp only [evS] at q
  refine ⟨R, env, [], p, q.bindE rfl fun q1 _ s1 v H' p1 => ?_⟩
  obtain ⟨env', h, s2⟩ := s1.ofO
  exact s2 (σ.set i (some v)) H' (by rw [List.length_set]) (p1.put1 hil hin h)
/-- name op= value -/
theorem op_aug {o : Operator} {Φ : Fx} : PIp X o (rE2 Φ (augE o)) := by
  intro pins s σ H x y v u Q I rx ry ⟨B, env, S, ex, ey, z, p, hz, q⟩
  unfold augE at hz
  split at hz
  · rename_i i j hi hj
    cases p.intAt (j := 0) rfl hi
    cases p.intAt (j := 1) rfl hj
    have fin : ∀ {d : Int}, z = .fr (.int d) → Q (.int d) H := fun e => by subst e; exact q _ _ (p.give fun _ => .int _)
    cases o with
    | Add => cases hz; exact iop_add pins s σ H _ _ v u Q I rx ry ⟨i, j, rfl, rfl, fin rfl⟩
    | Sub => cases hz; exact iop_sub pins s σ H _ _ v u Q I rx ry ⟨i, j, rfl, rfl, fin rfl⟩
    | Mult =>
      dsimp only at hz
      split at hz
      · rename_i h
        cases hz
        rw [Bool.or_eq_true] at h
        rcases h with h | h
        · refine iop_mul pins s σ H _ _ v u Q I rx ry ⟨i, j, rfl, rfl, ?_, fin rfl⟩
          simpa [lim64, CMul] using h
        · exact iop_mulW pins s σ H _ _ v u Q I rx ry ⟨i, j, rfl, rfl, mulW_of h, fin rfl⟩
      · cases hz
    | FloorDiv =>
      dsimp only at hz
      split at hz
      · rename_i h; cases hz; exact iop_fdivW pins s σ H _ _ v u Q I rx ry ⟨i, j, rfl, rfl, divW_of h, fin rfl⟩
      · cases hz
    | Mod =>
      dsimp only at hz
      split at hz
      · rename_i h; cases hz; exact iop_mod pins s σ H _ _ v u Q I rx ry ⟨i, j, rfl, rfl, h, fin rfl⟩
      · cases hz
    | _ => cases hz
  · rename_i a c ha hc
    cases o with
    | Add =>
      dsimp only at hz
      split at hz
      · rename_i h
        cases hz
        obtain ⟨_, g1, hg1, ho1⟩ := p.at_ (j := 0) rfl ha
        obtain ⟨_, g2, hg2, ho2⟩ := p.at_ (j := 1) rfl hc
        rw [ho1.str_] at hg1
        rw [ho2.str_] at hg2
        subst hg1; subst hg2
        exact iop_add_str pins s σ H _ _ v u Q I rx ry ⟨a, c, rfl, rfl, h, q _ _ (p.give fun _ => .str _)⟩
      · cases hz
    | _ => cases hz
  · cases hz
theorem pS_aug {i : Nat} {y : Str} {e : Expr} {x : Ex} {o : Operator} {pos' pos : Pos} (hn0 : X.N.length ≤ b.Φ.n) (hN : X.N.Nodup) (hi : X.N[i]? = some y) (hx : Loc X.env.scope y) (he : PE X e (tE b x)) (hf : X.fn y = true ∨ X.env.scope.names.lookup y = some .local) :
    PS X (.AugAssign (.Name y pos') o e pos) (tS b (.aug i o x)) := by
  refine ⟨fun pins s σ H D I ⟨R, env, p, q⟩ => (ps_aug hN hi hx he (op_aug (Φ := b.Φ)) hf).run pins s σ H D I ?_⟩
  have hil : i < σ.length := by rw [I.len]; exact (List.getElem?_eq_some_iff.mp hi).1
  have hin : i < b.Φ.n := by have := (List.getElem?_eq_some_iff.mp hi).1; omega
  simp only [evS] at q
  have q0 : SatE b σ (σ ++ R) [] (fun v H1 => tE b x σ H1 fun y H2 => rE2 b.Φ (augE o) v y H2 fun z H3 => D.nx (σ.set i (some z)) H3) (evE b.C (.var i) env) := q.bindE rfl fun q1 _ s1 v1 H1 p1 => by
    refine ⟨R, q1.1, _, p1, s1.bindE rfl fun q2 _ s2 v2 H2 p2 => ?_⟩
    obtain ⟨z, hz, s3⟩ := s2.ofO
    refine ⟨σ ++ R, q2.1, [], q1.2, q2.2, z, by simpa using p2, hz, fun v H' p3 => ?_⟩
    obtain ⟨env', h, s4⟩ := s3.ofO
    exact s4 (σ.set i (some v)) H' (by rw [List.length_set]) (p3.put1 hil hin h)
  obtain ⟨v, hv, hq⟩ := var_imp hil hin ⟨R, env, [], p, q0⟩
  exact ⟨v, hv, hq⟩
end
end MP
set_option maxHeartbeats 1000000
set_option autoImplicit false
/-! mini: stores into places; while -/
namespace MP
open PySem PySem.Spec PyProof.Rows L2
section
variable {κ : Type} [DecidableEq κ]
theorem pos1_none {k : κ} : ∀ {ks : List κ}, pos1 k ks = none → k ∉ ks
  | [], _ => by simp
  | j :: r, h => by
    unfold pos1 at h
    split at h
    · cases h
    · rename_i hne
      have := pos1_none (ks := r) (by cases hp : pos1 k r with | none => rfl | some x => rw [hp] at h; cases h)
      simp [this]
      exact fun e => hne e.symm
theorem map_keep {k : κ} {v : V} : ∀ {ks : List κ} {vs : List V}, k ∉ ks → (ks.zip vs).map (fun kv => if kv.1 = k then (kv.1, v) else kv) = ks.zip vs
  | [], _, _ => by simp
  | _ :: _, [], _ => by simp
  | j :: r, w :: vs, h => by
    simp only [List.mem_cons, not_or] at h
    have hne : ¬ j = k := fun e => h.1 e.symm
    simp [List.zip_cons_cons, hne, map_keep (vs := vs) h.2]
theorem any_zip {k : κ} : ∀ {ks : List κ} {vs : List V}, ks.length = vs.length → ((ks.zip vs).any fun kv => decide (kv.1 = k)) = (pos1 k ks).isSome
  | [], _, _ => by simp [pos1]
  | _ :: _, [], h => by simp at h
  | j :: r, w :: vs, h => by
    have := any_zip (k := k) (ks := r) (vs := vs) (by simpa using h)
    simp only [List.zip_cons_cons, List.any_cons, this, pos1]
    by_cases e : j = k <;> simp [e]
theorem putK_at {k : κ} {v : V} : ∀ {ks : List κ} {vs : List V} {j : Nat}, ks.length = vs.length → ks.Nodup → pos1 k ks = some j → (ks.zip vs).map (fun kv => if kv.1 = k then (kv.1, v) else kv) = ks.zip (vs.set j v)
  | [], _, _, _, _, h => by simp [pos1] at h
  | _ :: _, [], _, h, _, _ => by simp at h
  | i :: r, w :: vs, j, hl, nd, h => by
    have nd' := List.nodup_cons.mp nd
    unfold pos1 at h
    split at h
    · rename_i e
      cases h
      subst e
      simp [map_keep nd'.1]
    · rename_i hne
      obtain ⟨j', hj, rfl⟩ := Option.map_eq_some_iff.mp h
      simp [hne, putK_at (vs := vs) (by simpa using hl) nd'.2 hj]
theorem putK_zip {k : κ} {v : V} {ks : List κ} {vs : List V} (hl : ks.length = vs.length) (nd : ks.Nodup) :
    (∀ j, pos1 k ks = some j → putK (ks.zip vs) k v = ks.zip (vs.set j v)) ∧ (pos1 k ks = none → putK (ks.zip vs) k v = (ks ++ [k]).zip (vs ++ [v])) := by
  refine ⟨fun j h => ?_, fun h => ?_⟩
  · unfold putK
    rw [any_zip hl, h]
    simp [putK_at hl nd h]
  · unfold putK
    rw [any_zip hl, h]
    simp [List.zip_append hl]
end
section
variable {X : Cx} {Φ : Fx}
def rSetE (Φ : Fx) : TSet := fun o i v H Q => ∃ (B : List (Option V)) (env : Ev) (T : Tmp) (xo xi xv : En) (j1 j2 j3 : Nat) (env' : Ev), Px Φ B env T H ∧ T[j1]? = some (some o, xo) ∧ T[j2]? = some (some i, xi) ∧ T[j3]? = some (some v, xv) ∧ j1 ≠ j3 ∧ setE env xo xi xv = some env' ∧ ∀ H', Px Φ B env' [] H' → Q H'
theorem isPre_app (p r : List Nat) : isPre p (p ++ r) = true := by
  induction p with
  | nil => rfl
  | cons a p ih => simp [isPre, ih]
theorem not_under {env : Ev} {s : Nat} {p : List Nat} {j : Nat} (h : env.any (under s (p ++ [j])) = false) {i : Nat} {r : List Nat} (hi : env[i]? = some (.al s (p ++ j :: r))) : False := by
  have := List.any_eq_false.mp h _ (List.mem_of_getElem? hi)
  apply this
  have e : p ++ j :: r = (p ++ [j]) ++ r := by simp
  show (s == s && isPre (p ++ [j]) (p ++ j :: r)) = true
  rw [e, isPre_app, beq_self_eq_true]
  rfl
theorem set_E (hu : X.A.units + 1 < cLine) : PSet X (rSetE Φ) := by
  intro pins s σ H o i v ov iv u Q I ro ri ru ⟨B, env, T, xo, xi, xv, j1, j2, j3, env', p, h1, h2, h3, hne, hz, q⟩
  unfold setE at hz
  cases hk : peek env xi with
  | none => rw [hk] at hz; cases hz
  | some k =>
  rw [hk] at hz
  cases ht : toTr env xv with
  | none => rw [ht] at hz; cases hz
  | some r =>
  obtain ⟨env1, w⟩ := r
  rw [ht] at hz
  dsimp only at hz
  split at hz <;> try (cases hz; done)
  rename_i s0 p0
  split at hz <;> try (cases hz; done)
  rename_i t he
  split at hz <;> try (cases hz; done)
  rename_i sh ts hp
  obtain ⟨hB0, hn0, fz0, gs0, R0⟩ := id p
  have Dk := R0.data hB0 hn0 h2 hk
  obtain ⟨hB, hn, fz, gs, R⟩ := Px.tree (S := []) (T := T) (by simpa using p) h3 ht
  simp only [List.nil_append] at R
  have h1' : (T.set j3 (some v, En.own w))[j1]? = some (some o, .al s0 p0) := by rw [List.getElem?_set, if_neg (fun e => hne e.symm)]; exact h1
  have h3' : (T.set j3 (some v, En.own w))[j3]? = some (some v, .own w) := by
    rw [List.getElem?_set, if_pos rfl, if_pos (List.getElem?_eq_some_iff.mp h3).1]
  obtain ⟨g, a, cs, hg, hgp, rfl, ho, hoc, hs⟩ := R.node hB hn h1' he hp
  obtain ⟨a', cs', e, hH, hok, hcl, ch⟩ := hoc.nd_
  cases e
  obtain ⟨gx, hgx, hox, nx1, nx2⟩ := Rel.ownJ (S := []) (by simpa using R) hB h3'
  subst hgx
  have nc := (List.nodup_cons.mp (G.at_nodup (G.fps_get R.nod hg).1 hgp)).2
  have hin : ∀ b ∈ G.fps cs, b ∈ G.fps (gs.take (env1 ++ ([] : Tmp).map (·.2)).length) := fun b hb => by
    refine G.mem_fps.mpr ⟨g, ?_, G.at_fp hgp b (List.mem_cons_of_mem _ hb)⟩
    have : (gs.take (env1 ++ ([] : Tmp).map (·.2)).length)[s0]? = some g := by rw [List.getElem?_take, if_pos (by simp; omega)]; exact hg
    exact List.mem_of_getElem? this
  have okm : sh.ok (cs.map G.val).length := by rw [List.length_map]; exact hok
  cases ro
  -- a place
  have place : ∀ {j : Nat} {ks : Sh}, sh = ks → env1.any (under s0 (p0 ++ [j])) = false → j < cs.length → env' = chgE env1 s0 t p0 sh (ts.set j w) → Q (upd H a (sh.ho ((cs.map G.val).set j gx.val))) := by
    intro j ks _ hun hj e
    subst e
    have hcj : cs[j]? = some cs[j] := by simp [hj]
    obtain ⟨f1, f2⟩ := G.fps_set (g' := gx) nc hcj nx1 (fun b hb => .inr fun hc => (nx2 b hb).1 (hin b hc))
    have P := Rel.mutS (S := []) (T := T.set j3 (some gx.val, En.own w)) R hB hn (cs' := cs.set j gx) (ts' := ts.set j w) sh he hg hgp (by rw [List.length_set]; exact hok) (by simp [hcl]) (fun i c u hc hu => by
        rw [List.getElem?_set] at hc hu
        by_cases e : j = i
        · rw [if_pos e, if_pos hj] at hc
          rw [if_pos e, if_pos (by omega)] at hu
          cases hc; cases hu; exact hox
        · rw [if_neg e] at hc hu
          exact ch i c u hc hu)
      f1 (fun b hb => (f2 b hb).elim (fun h => .inl h.1) fun h => .inr (nx2 b h)) (fun i r b ds hi h => by
        cases r with
        | nil => cases h; exact ⟨_, rfl⟩
        | cons j' r =>
          simp only [G.at, G.kids] at h ⊢
          by_cases e : j = j'
          · subst e
            exact (not_under hun (by simpa using hi)).elim
          · rw [List.getElem?_set, if_neg e]
            exact ⟨_, h⟩)
    have e1 : (cs.set j gx).map G.val = (cs.map G.val).set j gx.val := by rw [List.map_set]
    rw [e1] at P
    exact q _ ⟨P.1, P.2.1, fz, P.2.2⟩
  have last : ∀ {sh' : Sh}, sh' ≠ .tp → sh'.ok (cs.length + 1) → env' = chgE env1 s0 t p0 sh' (ts ++ [w]) → Q (upd H a (sh'.ho (cs.map G.val ++ [gx.val]))) := by
    intro sh' nt ok' e
    subst e
    have fpa : G.fps (cs ++ [gx]) = G.fps cs ++ gx.fp := by rw [G.fps_append]; simp [G.fps]
    have P := Rel.mutS (S := []) (T := T.set j3 (some gx.val, En.own w)) R hB hn (cs' := cs ++ [gx]) (ts' := ts ++ [w]) sh' he hg hgp (by simpa using ok') (by simp [hcl]) (fun i c u hc hu => by
        by_cases hi : i < cs.length
        · rw [List.getElem?_append_left hi] at hc
          rw [List.getElem?_append_left (by omega)] at hu
          exact ch i c u hc hu
        · rw [List.getElem?_append_right (by omega)] at hc hu
          rw [hcl] at hc
          match hd : i - ts.length, hc, hu with
          | 0, hc, hu => cases hc; cases hu; exact hox
          | k' + 1, hc, hu => cases hc)
      (by rw [fpa]; exact List.nodup_append.mpr ⟨nc, nx1, fun b hb c hc e => by subst e; exact (nx2 b hc).1 (hin b hb)⟩)
      (fun b hb => by
        rw [fpa] at hb
        rcases List.mem_append.mp hb with hb | hb
        · exact .inl hb
        · exact .inr (nx2 b hb))
      (fun i r b ds _ h => al_grow r b ds h)
    have e1 : (cs ++ [gx]).map G.val = cs.map G.val ++ [gx.val] := by simp
    rw [e1] at P
    exact q _ ⟨P.1, P.2.1, fz, P.2.2⟩
  have zl : ∀ {κ : Type} (ks : List κ), ks.length = cs.length → ks.length = (cs.map G.val).length := fun ks h => by rw [List.length_map]; exact h
  cases sh with
  | ls =>
    cases k <;> try (cases hz; done)
    rename_i i'
    have := Dk.int_
    subst this
    dsimp only [setSh] at hz
    cases hj : ixNat ts.length i' with
    | none => rw [hj] at hz; cases hz
    | some j =>
      rw [hj] at hz
      dsimp only [Option.map_some] at hz
      split at hz <;> try (cases hz; done)
      rename_i hun
      cases hz
      simp only [Bool.or_eq_true, decide_eq_true_eq, not_or, Bool.not_eq_true] at hun
      have hlen : (cs.map G.val).length = ts.length := by rw [List.length_map]; exact hcl
      have hjj : ixN (cs.map G.val).length i' = some j := by rw [hlen]; exact hj
      have hjl := (ixN_seq hjj).2.1
      rw [List.length_map] at hjl
      exact set_list pins s σ H (.ref a) _ _ (.ref a) iv u Q I rfl ri ru ⟨a, _, i', j, rfl, rfl, hH, hjj, place rfl hun.1 hjl rfl⟩
  | tp => cases hz
  | dk ks =>
    dsimp only [setSh] at hz
    cases hkk : keyOf k with
    | none => rw [hkk] at hz; cases hz
    | some kk =>
    rw [hkk] at hz
    cases kk with
    | inr _ => cases hz
    | inl kk =>
    have e := keyOf_k Dk hkk
    subst e
    have hzl : (ks.zip (cs.map G.val)).length = ts.length := by rw [List.length_zip, List.length_map, hok.1]; omega
    cases hpos : pos1 kk ks with
    | some j =>
      simp only [hpos] at hz
      split at hz <;> try (cases hz; done)
      rename_i hun
      cases hz
      simp only [Bool.or_eq_true, decide_eq_true_eq, not_or, Bool.not_eq_true, Nat.not_le] at hun
      have hjl := (pos1_lt hpos).1
      have D := DPut.k (k := kk) (v := gx.val) hH (by rw [hzl]; exact hun.2)
      rw [(putK_zip (zl ks hok.1) hok.2).1 _ hpos] at D
      exact d_setItem hu I D ri ru fun s' I' => ⟨_, I', place rfl hun.1 (by have := hok.1; omega) rfl⟩
    | none =>
      simp only [hpos] at hz
      split at hz <;> try (cases hz; done)
      rename_i hlt
      cases hz
      have D := DPut.k (k := kk) (v := gx.val) hH (by rw [hzl]; exact hlt)
      rw [(putK_zip (zl ks hok.1) hok.2).2 hpos] at D
      refine d_setItem hu I D ri ru fun s' I' => ⟨_, I', last (sh' := .dk (ks ++ [kk])) (by intro h; cases h) ⟨by simp [hok.1], ?_⟩ rfl⟩
      exact List.nodup_append.mpr ⟨hok.2, by simp, fun a ha b hb e => pos1_none hpos (by simp at hb; rw [← hb, ← e]; exact ha)⟩
  | dt ks =>
    dsimp only [setSh] at hz
    cases hkk : keyOf k with
    | none => rw [hkk] at hz; cases hz
    | some kk =>
    rw [hkk] at hz
    cases kk with
    | inl _ => cases hz
    | inr kk =>
    obtain ⟨bk, e, hb⟩ := keyOf_t Dk hkk
    subst e
    have hzl : (ks.zip (cs.map G.val)).length = ts.length := by rw [List.length_zip, List.length_map, hok.1]; omega
    cases hpos : pos1 kk ks with
    | some j =>
      simp only [hpos] at hz
      split at hz <;> try (cases hz; done)
      rename_i hun
      cases hz
      simp only [Bool.or_eq_true, decide_eq_true_eq, not_or, Bool.not_eq_true, Nat.not_le] at hun
      have hjl := (pos1_lt hpos).1
      have D := DPut.t (k := kk) (v := gx.val) hH hb (by rw [hzl]; exact hun.2)
      rw [(putK_zip (zl ks hok.1) hok.2).1 _ hpos] at D
      exact d_setItem hu I D ri ru fun s' I' => ⟨_, I', place rfl hun.1 (by have := hok.1; omega) rfl⟩
    | none =>
      simp only [hpos] at hz
      split at hz <;> try (cases hz; done)
      rename_i hlt
      cases hz
      have D := DPut.t (k := kk) (v := gx.val) hH hb (by rw [hzl]; exact hlt)
      rw [(putK_zip (zl ks hok.1) hok.2).2 hpos] at D
      refine d_setItem hu I D ri ru fun s' I' => ⟨_, I', last (sh' := .dt (ks ++ [kk])) (by intro h; cases h) ⟨by simp [hok.1], ?_⟩ rfl⟩
      exact List.nodup_append.mpr ⟨hok.2, by simp, fun a ha b hb e => pos1_none hpos (by simp at hb; rw [← hb, ← e]; exact ha)⟩
end
section
variable {b : Bx} {X : Cx} {R : List (Option V)} {n : Nat}
/-- a[i] = e -/
theorem pS_sets {a i e : Expr} {xa xi xe : Ex} {p1 pos : Pos} (hu : X.A.units + 1 < cLine) (ha : PE X a (tE b xa)) (hi : PE X i (tE b xi)) (he : PE X e (tE b xe))
    (has : ∀ v, assign (.Subscript a i p1) X.env v = (do let ov ← holding [v] (eval a X.env); let iv ← holding [v, ov] (eval i X.env); standAt p1; holding [v, ov, iv] (setItem ov iv v); release [v, ov, iv] []))
    (hs : swapsWithSole [.Subscript a i p1] e pos.line X.env = pure false) (hw : swappedStores [.Subscript a i p1] e X.env = pure none) (h1 : (assignEach [.Subscript a i p1] X.env).map (·.2) = [assign (.Subscript a i p1) X.env]) :
    PS X (.Assign [.Subscript a i p1] e pos) (tS b (.sets xa xi xe)) :=
  psImp (ps_asg he (pg_sub ha hi (set_E (Φ := b.Φ) hu) has) hs hw h1) fun D σ H ⟨R, env, p, q⟩ => by
    simp only [evS] at q
    refine ⟨R, env, [], p, q.bindE rfl fun q1 _ s1 v1 H1 p1 => ?_⟩
    refine ⟨R, q1.1, _, p1, s1.bindE rfl fun q2 _ s2 v2 H2 p2 => ?_⟩
    refine ⟨R, q2.1, _, p2, s2.bindE rfl fun q3 _ s3 v3 H3 p3 => ?_⟩
    obtain ⟨env', hz, s4⟩ := s3.ofO
    exact ⟨σ ++ R, q3.1, _, q2.2, q3.2, q1.2, 1, 2, 0, env', p3, rfl, rfl, rfl, by decide, hz, fun H' p4 => s4 σ H' rfl p4⟩
def rGetF (Φ : Fx) : V → V → Hp → VK → Prop := fun x y H Q => ∃ B env S ex ey d, Px Φ B env (S ++ [(some x, ex), (some y, ey)]) H ∧ subF env ex ey = some d ∧ ∀ v H', Px Φ B env (S ++ [(some x, ex), (some y, ey), (some v, .fr d)]) H' → Q v H'
theorem get_F {Φ : Fx} (hu : X.A.units + 1 < cLine) : PGet X (rGetF Φ) := by
  intro pins s σ H x y v u Q I rx ry ⟨B, env, S, ex, ey, d, ⟨hB, hn, fz, gs, R⟩, hz, q⟩
  unfold subF at hz
  split at hz
  · rename_i d' hs
    cases hz
    obtain ⟨w, hw, gs', R'⟩ := sub_valR R hB hn hs
    obtain ⟨g, hg, ho, _⟩ := R'.temp hB hn (tmp_last (S := S)) (t := .fr d) rfl
    have D := ho.frD
    rw [hg] at D
    obtain ⟨T, id, h1, h2, h3⟩ := sub_get hu I rx ry hw (q w H ⟨hB, hn, fz, _, by simpa using R.pushF D⟩)
    exact h3
  · cases hz
/-- a[i] op= e -/
theorem pS_augs {a i e : Expr} {xa xi xe : Ex} {o : Operator} {p1 pos : Pos} (hu : X.A.units + 1 < cLine) (ha : PE X a (tE b xa)) (hi : PE X i (tE b xi)) (he : PE X e (tE b xe))
    (has : ∀ ov iv new, augStore i ov iv new = (do holding [new, ov, iv] (setItem ov iv new); release [new, ov, iv] []; pure .next)) :
    PS X (.AugAssign (.Subscript a i p1) o e pos) (tS b (.augs o xa xi xe)) :=
  psImp (ps_augS ha hi (get_F (Φ := b.Φ) hu) he (op_aug (Φ := b.Φ)) (set_E (Φ := b.Φ) hu) has) fun D σ H ⟨R, env, p, q⟩ => by
    simp only [evS] at q
    refine ⟨R, env, [], p, q.bindE rfl fun q1 _ s1 v1 H1 p1 => ?_⟩
    refine ⟨R, q1.1, _, p1, s1.bindE rfl fun q2 _ s2 v2 H2 p2 => ?_⟩
    obtain ⟨d, hd, s3⟩ := s2.ofO
    refine ⟨σ ++ R, q2.1, [], q1.2, q2.2, d, p2, hd, fun v3 H3 p3 => ?_⟩
    refine ⟨R, q2.1, _, p3, s3.bindE rfl fun q3 _ s4 v4 H4 p4 => ?_⟩
    obtain ⟨w, hw, s5⟩ := s4.ofO
    refine ⟨σ ++ R, q3.1, [(some v1, q1.2), (some v2, q2.2)], .fr d, q3.2, w, by simpa using p4, hw, fun v5 H5 p5 => ?_⟩
    obtain ⟨env', hz, s6⟩ := s5.ofO
    exact ⟨σ ++ R, q3.1, _, q1.2, q2.2, w, 0, 1, 2, env', p5, rfl, rfl, rfl, by decide, hz, fun H' p6 => s6 σ H' rfl p6⟩
/-! ### while -/
theorem pS_while {c : Expr} {body : List Stmt} {x : Ex} {s : Sm} {pos : Pos} (hp : PassesOwn (model X.prog X.w) X.A X.env X.xe) (hc : PT X c (tT b x)) (hb : PSs X body (tS b s)) : PS X (.While c body [] pos) (tS b (.whl x s)) :=
  psImp (ps_while hp hc hb) fun D σ H ⟨R, env, p, q⟩ => by
    have e : evS b.C (.whl x s) env = whGo (evT b.C x) (fun env => evS b.C s env) bigW env := rfl
    rw [e] at q
    refine ⟨fun m σ1 H1 => ∃ env1, Px b.Φ (σ1 ++ R) env1 [] H1 ∧ σ1.length = σ.length ∧ SatS b R σ.length (FlOk b R σ.length D) (whGo (evT b.C x) (fun env => evS b.C s env) m env1), ⟨bigW, env, p, rfl, q⟩, fun m σ1 H1 ⟨env1, p1, hl1, q1⟩ => ?_⟩
    cases m with
    | zero => exact q1.elim
    | succ m =>
      simp only [whGo] at q1
      refine ⟨R, env1, [], p1, q1.bindE hl1 fun r _ s1 H2 p2 => ?_⟩
      dsimp only
      split
      · rename_i h
        rw [if_pos h] at s1
        refine ⟨fun σ' H' => ∃ env', Px b.Φ (σ' ++ R) env' [] H' ∧ σ'.length = σ.length ∧ SatS b R σ.length (FlOk b R σ.length D) (whGo (evT b.C x) (fun env => evS b.C s env) m env'), fun σ' H' hN => ⟨m, Nat.lt_succ_self m, hN⟩, R, r.1, p2, ?_⟩
        rw [hl1]
        refine s1.bind fun fl _ s2 => ?_
        cases fl with
        | nx env' => exact fun σ' H' hl' p' => ⟨env', p', hl', s2⟩
        | ct env' => exact fun σ' H' hl' p' => ⟨env', p', hl', s2⟩
        | bk env' => exact s2
        | rt env' x => exact s2
      · rename_i h
        rw [if_neg h] at s1
        exact s1 σ1 H2 hl1 p2
end
end MP
set_option maxHeartbeats 1000000
set_option autoImplicit false
/-! mini: targets, sources of loops, for -/
namespace MP
open PySem PySem.Spec PyProof.Rows L2
section
variable {Φ : Fx} {B : List (Option V)} {vs w1 w2 : List (Option V)} {es l1 l2 env : Ev} {S T : Tmp} {H H' : Hp} {fz : Addr → Prop} {gs g1 g2 : List G}
/-- a value that an entry is, the entry owning nothing -/
def Seen (Φ : Fx) (H : Hp) (fz : Addr → Prop) (es : Ev) (gs : List G) (v : V) : En → Prop
  | .fr d => IsD H fz v d
  | .al s p => s < Φ.n ∧ AlOk H fz es gs s p v
  | .un => True
  | _ => False
theorem AlOk.shift {es' : Ev} {gs' : List G} {s : Nat} {p : List Nat} {v : V} (he : es'[s]? = es[s]?) (hg : gs'[s]? = gs[s]?) (h : AlOk H fz es gs s p v) : AlOk H fz es' gs' s p v := by
  unfold AlOk at h ⊢
  rw [he]
  split at h
  · obtain ⟨g, a, cs, h1, h2⟩ := h
    exact ⟨g, a, cs, by rw [hg]; exact h1, h2⟩
  · exact h
  · exact h.elim
theorem Seen.shift {es' : Ev} {gs' : List G} {v : V} {x : En} (he : ∀ s, s < Φ.n → es'[s]? = es[s]?) (hg : ∀ s, s < Φ.n → gs'[s]? = gs[s]?) (h : Seen Φ H fz es gs v x) : Seen Φ H fz es' gs' v x := by
  cases x with
  | fr d => exact h
  | al s p => exact ⟨h.1, AlOk.shift (he s h.1) (hg s h.1) h.2⟩
  | un => trivial
  | _ => exact False.elim h
theorem Seen.ext {v : V} {x : En} (e : Hext H H') (h : Seen Φ H fz es gs v x) : Seen Φ H' fz es gs v x := by
  cases x with
  | fr d => exact IsD.mono e.keep (fun _ h => h) h
  | al s p => exact ⟨h.1, AlOk.mono e.keep (fun _ h => h) h.2⟩
  | un => trivial
  | _ => exact False.elim h
def isVw : En → Prop
  | .fr _ => True
  | .al _ _ => True
  | _ => False
/-- the same, where there may be no value -/
def SeenO (Φ : Fx) (H : Hp) (fz : Addr → Prop) (es : Ev) (gs : List G) (v : Option V) (x : En) : Prop := x = .un ∨ ∃ w, v = some w ∧ Seen Φ H fz es gs w x
theorem SeenO.of {v : V} {x : En} (h : Seen Φ H fz es gs v x) : SeenO Φ H fz es gs (some v) x := .inr ⟨v, rfl, h⟩
theorem SeenO.shift {es' : Ev} {gs' : List G} {v : Option V} {x : En} (he : ∀ s, s < Φ.n → es'[s]? = es[s]?) (hg : ∀ s, s < Φ.n → gs'[s]? = gs[s]?) (h : SeenO Φ H fz es gs v x) : SeenO Φ H fz es' gs' v x :=
  h.imp id fun ⟨w, e, h⟩ => ⟨w, e, h.shift he hg⟩
theorem SeenO.nal {v : Option V} {x : En} (h : SeenO Φ H fz es gs v x) : ∀ s p, x = .al s p → s < Φ.n := by
  rintro s p rfl
  rcases h with h | ⟨w, _, h⟩
  · cases h
  · exact h.1
theorem SeenO.ent {v : Option V} {x : En} {i : Nat} (h : SeenO Φ H fz es gs v x) (hg : gs[i]? = some (.lf .non)) (hv : vs[i]? = some v) : EntOk H fz es gs vs i x := by
  rcases h with rfl | ⟨w, rfl, h⟩
  · exact hg
  · cases x with
    | fr d => exact ⟨hg, w, hv, h⟩
    | al s p => exact ⟨hg, w, hv, h.2⟩
    | un => exact hg
    | _ => exact False.elim h
theorem Rel.seen (R : Rel Φ vs es H fz gs) {i : Nat} {x : En} {v : V} (h : es[i]? = some x) (hv : vs[i]? = some (some v)) (hx : isVw x) : Seen Φ H fz es gs v x := by
  have E := R.ent i x h
  cases x with
  | fr d =>
    obtain ⟨_, w, hw, hd⟩ := E
    rw [hv] at hw
    cases hw
    exact hd
  | al s p =>
    obtain ⟨_, w, hw, ha⟩ := E
    rw [hv] at hw
    cases hw
    exact ⟨R.als _ _ _ h, ha⟩
  | _ => exact hx.elim
theorem EntOk.shift {vs' : List (Option V)} {es' : Ev} {gs' : List G} {i i' : Nat} {e : En} (n : Nat) (hg : gs'[i']? = gs[i]?) (hv : vs'[i']? = vs[i]?) (he : ∀ s, s < n → es'[s]? = es[s]?) (hgs : ∀ s, s < n → gs'[s]? = gs[s]?) (ha : ∀ s p, e = .al s p → s < n) (h : EntOk H fz es gs vs i e) : EntOk H fz es' gs' vs' i' e := by
  cases e with
  | un => exact hg.trans h
  | fr d => obtain ⟨h1, v, h2, h3⟩ := h; exact ⟨hg.trans h1, v, hv.trans h2, h3⟩
  | fd d => obtain ⟨h1, v, h2, h3⟩ := h; exact ⟨hg.trans h1, v, hv.trans h2, h3⟩
  | own t => obtain ⟨g, h1, h2, h3⟩ := h; exact ⟨g, hg.trans h1, hv.trans h2, h3⟩
  | al s p =>
    obtain ⟨h1, v, h2, h3⟩ := h
    exact ⟨hg.trans h1, v, hv.trans h2, AlOk.shift (he s (ha s p rfl)) (hgs s (ha s p rfl)) h3⟩
theorem get_ins {α : Type} {a b : List α} {x : α} {i : Nat} : (a ++ x :: b)[i]? = if i < a.length then (a ++ b)[i]? else if i = a.length then some x else (a ++ b)[i - 1]? := by
  split
  · rename_i h; rw [List.getElem?_append_left h, List.getElem?_append_left h]
  · rename_i h
    split
    · rename_i h2; subst h2; simp
    · rename_i h2
      rw [List.getElem?_append_right (by omega), List.getElem?_append_right (by omega)]
      have : i - a.length = (i - 1 - a.length) + 1 := by omega
      rw [this, List.getElem?_cons_succ]
/-- an entry that owns nothing put in -/
theorem Rel.ins (R : Rel Φ (w1 ++ w2) (l1 ++ l2) H fz (g1 ++ g2)) (hw : w1.length = l1.length) (hg : g1.length = l1.length) (hn : Φ.n ≤ l1.length) {v : Option V} {x : En} (h : SeenO Φ H fz (l1 ++ l2) (g1 ++ g2) v x) : Rel Φ (w1 ++ v :: w2) (l1 ++ x :: l2) H fz (g1 ++ .lf .non :: g2) := by
  have lv := R.lenv
  have lg := R.leng
  simp only [List.length_append] at lv lg
  have hE : ∀ s, s < Φ.n → (l1 ++ x :: l2)[s]? = (l1 ++ l2)[s]? := fun s hs => by rw [get_ins, if_pos (by omega)]
  have hG : ∀ s, s < Φ.n → (g1 ++ .lf .non :: g2)[s]? = (g1 ++ g2)[s]? := fun s hs => by rw [get_ins, if_pos (by omega)]
  have fe : G.fps (g1 ++ .lf .non :: g2) = G.fps (g1 ++ g2) := by simp [G.fps_append, G.fps, G.fp]
  have hx : ∀ s p, x = .al s p → s < Φ.n := h.nal
  refine ⟨by simp; omega, by simp; omega, by have := R.big; simp at this ⊢; omega, fun i s p hi => ?_, fun i e hi => ?_, by rw [fe]; exact R.nod, by rw [fe]; exact R.nfz, R.tr, fun a o h1 h2 => by rw [fe]; exact R.frm a o h1 h2, R.fzi, R.fzo⟩
  · rw [get_ins] at hi
    split at hi
    · exact R.als _ _ _ hi
    · split at hi
      · cases hi; exact hx s p rfl
      · exact R.als _ _ _ hi
  · rw [get_ins] at hi
    split at hi
    · rename_i hlt
      refine EntOk.shift Φ.n ?_ ?_ hE hG (fun s p e' => R.als i s p (e' ▸ hi)) (R.ent i e hi)
      · rw [get_ins, if_pos (by omega)]
      · rw [get_ins, if_pos (by omega)]
    · rename_i hnl
      split at hi
      · rename_i hie
        cases hi
        have q1 : (g1 ++ .lf .non :: g2)[i]? = some (.lf .non) := by rw [get_ins, if_neg (by omega), if_pos (by omega)]
        have q2 : (w1 ++ v :: w2)[i]? = some v := by rw [get_ins, if_neg (by omega), if_pos (by omega)]
        exact (h.shift hE hG).ent q1 q2
      · rename_i hie
        refine EntOk.shift Φ.n ?_ ?_ hE hG (fun s p e' => R.als (i - 1) s p (e' ▸ hi)) (R.ent (i - 1) e hi)
        · rw [get_ins, if_neg (by omega), if_neg (by omega)]
        · rw [get_ins, if_neg (by omega), if_neg (by omega)]
/-- an entry taken out -/
theorem Rel.del {v : Option V} {x : En} {g : G} (R : Rel Φ (w1 ++ v :: w2) (l1 ++ x :: l2) H fz (g1 ++ g :: g2)) (hw : w1.length = l1.length) (hg : g1.length = l1.length) (hn : Φ.n ≤ l1.length) : Rel Φ (w1 ++ w2) (l1 ++ l2) H fz (g1 ++ g2) := by
  have lv := R.lenv
  have lg := R.leng
  simp only [List.length_append, List.length_cons] at lv lg
  have hE : ∀ s, s < Φ.n → (l1 ++ l2)[s]? = (l1 ++ x :: l2)[s]? := fun s hs => by rw [get_ins, if_pos (by omega)]
  have hG : ∀ s, s < Φ.n → (g1 ++ g2)[s]? = (g1 ++ g :: g2)[s]? := fun s hs => by rw [get_ins, if_pos (by omega)]
  have fe : ∀ a, a ∈ G.fps (g1 ++ g2) → a ∈ G.fps (g1 ++ g :: g2) := fun a ha => by
    simp only [G.fps_append, G.fps, List.mem_append] at ha ⊢
    rcases ha with h | h
    · exact .inl h
    · exact .inr (.inr h)
  have nod : (G.fps (g1 ++ g2)).Nodup := by
    have := R.nod
    simp only [G.fps_append, G.fps] at this ⊢
    obtain ⟨n1, n2, n3⟩ := List.nodup_append.mp this
    obtain ⟨n4, n5, n6⟩ := List.nodup_append.mp n2
    exact List.nodup_append.mpr ⟨n1, n5, fun a ha b hb => n3 a ha b (List.mem_append_right _ hb)⟩
  have ix : ∀ i e, (l1 ++ l2)[i]? = some e → ∃ j, (l1 ++ x :: l2)[j]? = some e ∧ (w1 ++ w2)[i]? = (w1 ++ v :: w2)[j]? ∧ (g1 ++ g2)[i]? = (g1 ++ g :: g2)[j]? := fun i e hi => by
    by_cases h : i < l1.length
    · exact ⟨i, by rw [get_ins, if_pos h]; exact hi, by rw [get_ins (a := w1), if_pos (by omega)], by rw [get_ins (a := g1), if_pos (by omega)]⟩
    · refine ⟨i + 1, ?_, ?_, ?_⟩
      · rw [get_ins, if_neg (by omega), if_neg (by omega)]; exact hi
      · rw [get_ins (a := w1), if_neg (by omega), if_neg (by omega)]; rfl
      · rw [get_ins (a := g1), if_neg (by omega), if_neg (by omega)]; rfl
  refine ⟨by simp; omega, by simp; omega, by simp; omega, fun i s p hi => ?_, fun i e hi => ?_, nod, fun a ha => R.nfz a (fe a ha), R.tr, fun a o h1 h2 => ⟨(R.frm a o h1 h2).1, fun h => (R.frm a o h1 h2).2 (fe a h)⟩, R.fzi, R.fzo⟩
  · obtain ⟨j, hj, _⟩ := ix i _ hi
    exact R.als _ _ _ hj
  · obtain ⟨j, hj, h1, h2⟩ := ix i e hi
    exact EntOk.shift Φ.n h2 h1 hE hG (fun s p e' => R.als j s p (e' ▸ hj)) (R.ent j e hj)
/-- several put in, at the end of the slots -/
theorem Rel.insO (R : Rel Φ (B ++ S.map (·.1)) (env ++ S.map (·.2)) H fz gs) (hB : B.length = env.length) (hn : Φ.n ≤ env.length) : ∀ {sv : List (Option V)} {xs : List En}, sv.length = xs.length → (∀ (k : Nat) (v : Option V) (x : En), sv[k]? = some v → xs[k]? = some x → SeenO Φ H fz (env ++ S.map (·.2)) gs v x) →
    ∃ gs', Rel Φ (B ++ sv ++ S.map (·.1)) (env ++ xs ++ S.map (·.2)) H fz gs' ∧ ∀ s, s < Φ.n → gs'[s]? = gs[s]? := by
  intro sv xs
  induction sv generalizing B env gs xs with
  | nil =>
    intro hl h
    have : xs = [] := by simpa using hl.symm
    subst this
    exact ⟨gs, by simpa using R, fun _ _ => rfl⟩
  | cons v sv ih =>
    intro hl h
    cases xs with
    | nil => cases hl
    | cons x xs =>
      have lg := R.leng
      have hg : gs = gs.take env.length ++ gs.drop env.length := (List.take_append_drop _ _).symm
      have R1 := R
      rw [hg] at R1
      have hgl : (gs.take env.length).length = env.length := by rw [List.length_take, lg]; simp
      have h0 := h 0 v x rfl rfl
      rw [hg] at h0
      have R2 := R1.ins hB hgl hn h0
      have R3 : Rel Φ ((B ++ [v]) ++ S.map (·.1)) ((env ++ [x]) ++ S.map (·.2)) H fz (gs.take env.length ++ .lf .non :: gs.drop env.length) := by simpa using R2
      have hgs : ∀ s, s < Φ.n → (gs.take env.length ++ .lf .non :: gs.drop env.length)[s]? = gs[s]? := fun s hs => by
        rw [List.getElem?_append_left (by omega), List.getElem?_take, if_pos (by omega)]
      obtain ⟨gs', R4, hg4⟩ := ih R3 (by simp [hB]) (by simp; omega) (by simpa using hl) fun k w y hw hy => by
        refine SeenO.shift (fun s hs => ?_) hgs (h (k + 1) w y hw hy)
        rw [List.append_assoc, List.getElem?_append_left (by omega), List.getElem?_append_left (by omega)]
      exact ⟨gs', by simpa using R4, fun s hs => (hg4 s hs).trans (hgs s hs)⟩
theorem Rel.insL (R : Rel Φ (B ++ S.map (·.1)) (env ++ S.map (·.2)) H fz gs) (hB : B.length = env.length) (hn : Φ.n ≤ env.length) {sv : List V} {xs : List En} (hl : sv.length = xs.length) (h : ∀ (k : Nat) (v : V) (x : En), sv[k]? = some v → xs[k]? = some x → Seen Φ H fz (env ++ S.map (·.2)) gs v x) :
    ∃ gs', Rel Φ (B ++ sv.map some ++ S.map (·.1)) (env ++ xs ++ S.map (·.2)) H fz gs' := by
  obtain ⟨gs', R', _⟩ := R.insO hB hn (sv := sv.map some) (xs := xs) (by simpa using hl) fun k v x hv hx => by
    rw [List.getElem?_map] at hv
    obtain ⟨w, hw, rfl⟩ := Option.map_eq_some_iff.mp hv
    exact .of (h k w x hw hx)
  exact ⟨gs', R'⟩
/-- several taken out -/
theorem Rel.delL (hB : B.length = env.length) (hn : Φ.n ≤ env.length) : ∀ {sv : List (Option V)} {xs : List En} {gs : List G}, sv.length = xs.length → Rel Φ (B ++ sv ++ w2) (env ++ xs ++ l2) H fz gs → ∃ gs', Rel Φ (B ++ w2) (env ++ l2) H fz gs' := by
  intro sv
  induction sv with
  | nil =>
    intro xs gs hl R
    have : xs = [] := by simpa using hl.symm
    subst this
    exact ⟨gs, by simpa using R⟩
  | cons v sv ih =>
    intro xs gs hl R
    cases xs with
    | nil => cases hl
    | cons x xs =>
      have lg := R.leng
      simp only [List.length_append, List.length_cons] at lg
      have hg : gs = gs.take env.length ++ (gs.drop env.length) := (List.take_append_drop _ _).symm
      have hd : ∃ g g2, gs.drop env.length = g :: g2 := by
        cases h : gs.drop env.length with
        | nil => have := congrArg List.length h; simp at this; omega
        | cons g g2 => exact ⟨g, g2, rfl⟩
      obtain ⟨g, g2, hd⟩ := hd
      rw [hd] at hg
      rw [hg] at R
      have R1 : Rel Φ (B ++ v :: (sv ++ w2)) (env ++ x :: (xs ++ l2)) H fz (gs.take env.length ++ g :: g2) := by simpa using R
      have R2 := R1.del hB (by rw [List.length_take]; omega) hn
      exact ih (by simpa using hl) (by simpa using R2)
end
/-! ### targets -/
mutual
def gT : Tg → TG
  | .nm i => gName i
  | .tup ts => fun v σ H Q => ∃ a vs, v = .ref a ∧ H a = some (.tup vs) ∧ gTs ts vs σ H Q
  | _ => fun _ _ _ _ => False
def gTs : Tg → TGs
  | .nil => fun vs σ H Q => vs = [] ∧ Q σ H
  | .cons a r => fun vs σ H Q => ∃ v l, vs = v :: l ∧ gT a v σ H fun σ' H' => gTs r l σ' H' Q
  | _ => fun _ _ _ _ => False
end
def tgLen : Tg → Nat
  | .cons _ r => tgLen r + 1
  | _ => 0
mutual
/-- all its slots are below n -/
def tgLt (n : Nat) : Tg → Bool
  | .nm i => decide (i < n)
  | .tup ts => tgLts n ts
  | _ => false
def tgLts (n : Nat) : Tg → Bool
  | .nil => true
  | .cons a r => tgLt n a && tgLts n r
  | _ => false
end
mutual
theorem gT_some : ∀ (t : Tg) {v : V} {σ : L2.St} {H : Hp} {Q : L2.St → Hp → Prop}, gT t v σ H Q → ∃ σ' H', Q σ' H'
  | .nm i, v, σ, H, Q, h => ⟨_, _, by simp only [gT] at h; exact h⟩
  | .tup ts, v, σ, H, Q, h => by
    simp only [gT] at h
    obtain ⟨a, vs, _, _, h⟩ := h
    exact (gTs_some ts h).2
  | .nil, v, σ, H, Q, h => by simp [gT] at h
  | .cons a r, v, σ, H, Q, h => by simp [gT] at h
theorem gTs_some : ∀ (t : Tg) {vs : List V} {σ : L2.St} {H : Hp} {Q : L2.St → Hp → Prop}, gTs t vs σ H Q → vs.length = tgLen t ∧ ∃ σ' H', Q σ' H'
  | .nil, vs, σ, H, Q, h => by
    simp only [gTs] at h
    obtain ⟨rfl, h⟩ := h
    exact ⟨rfl, _, _, h⟩
  | .cons a r, vs, σ, H, Q, h => by
    simp only [gTs] at h
    obtain ⟨v, l, rfl, h⟩ := h
    obtain ⟨σ', H', h'⟩ := gT_some a h
    obtain ⟨h1, h2⟩ := gTs_some r h'
    exact ⟨by simp [tgLen, h1], h2⟩
  | .nm i, vs, σ, H, Q, h => by simp [gTs] at h
  | .tup ts, vs, σ, H, Q, h => by simp [gTs] at h
end
section
variable {X : Cx}
theorem pgImp {e : Expr} {t t' : TG} (h : PG X e t) (k : ∀ v σ H Q, t' v σ H Q → t v σ H Q) : PG X e t' := ⟨fun pins s σ H v u Q I r q => h.run pins s σ H v u Q I r (k v σ H Q q)⟩
theorem pgsImp {e : List Expr} {t t' : TGs} (h : PGs X e t) (k : ∀ v σ H Q, t' v σ H Q → t v σ H Q) : PGs X e t' := ⟨fun pins s σ H v u Q I r q => h.run pins s σ H v u Q I r (k v σ H Q q)⟩
theorem pG_nm {i : Nat} {x : Str} {pos : Pos} (hN : X.N.Nodup) (hi : X.N[i]? = some x) (hx : Loc X.env.scope x) (hf : X.fn x = true ∨ X.env.scope.names.lookup x = some .local) : PG X (.Name x pos) (gT (.nm i)) :=
  pgImp (pg_name hN hi hx hf) fun v σ H Q h => by simp only [gT] at h; exact h
theorem pG_tup {es : List Expr} {k : Nat} {ts : Tg} {pos : Pos} (hc : X.calm = true) (h : PGs X es (gTs ts)) (hn : (assignEach es X.env).length = tgLen ts) (hst : (assignEach es X.env).findIdx? (·.1) = none) : PG X (.Tuple es k pos) (gT (.tup ts)) :=
  pgImp (pg_tup hc h hn hst) fun v σ H Q h => by
    simp only [gT] at h
    obtain ⟨a, vs, rfl, hH, h⟩ := h
    exact ⟨a, vs, rfl, .inl (.of hH), (gTs_some ts h).1, h⟩
theorem pGs_nil : PGs X [] (gTs .nil) := pgsImp pgs_nil fun v σ H Q h => by simp only [gTs] at h; exact h
theorem pGs_cons {e : Expr} {es : List Expr} {t ts : Tg} (h1 : PG X e (gT t)) (h2 : PGs X es (gTs ts)) (hs : (assignEach (e :: es) X.env).map (·.2) = assign e X.env :: (assignEach es X.env).map (·.2)) : PGs X (e :: es) (gTs (.cons t ts)) :=
  pgsImp (pgs_cons h1 h2 hs) fun v σ H Q h => by simp only [gTs] at h; exact h
end
section
variable {Φ : Fx} {B : List (Option V)} {env : Ev} {H : Hp} {fz : Addr → Prop} {gs : List G}
/-- an item that a walk hands out -/
def ItOk (Φ : Fx) (H : Hp) (fz : Addr → Prop) (env : Ev) (gs : List G) : Itm → V → Prop
  | .one e, x => Seen Φ H fz env gs x e
  | .many es, x => ∃ T vs, x = .ref T ∧ H T = some (.tup vs) ∧ vs.length = es.length ∧ ∀ (k : Nat) (v : V) (e : En), vs[k]? = some v → es[k]? = some e → Seen Φ H fz env gs v e
/-- what a target gives to its names -/
def Gives (Φ : Fx) (H : Hp) (fz : Addr → Prop) (env : Ev) (gs : List G) (n : Nat) (l : List (Nat × En)) (wv : List V) : Prop :=
  wv.length = l.length ∧ (∀ (k : Nat) (v : V) (q : Nat × En), wv[k]? = some v → l[k]? = some q → Seen Φ H fz env gs v q.2) ∧ ∀ q ∈ l, q.1 < n
theorem putV_app (σ : L2.St) : ∀ (is js : List Nat) (vs ws : List V), is.length = vs.length → putV (putV σ is vs) js ws = putV σ (is ++ js) (vs ++ ws) := by
  intro is
  induction is generalizing σ with
  | nil => intro js vs ws h; have : vs = [] := by simpa using h.symm
           subst this; cases js <;> rfl
  | cons i is ih =>
    intro js vs ws h
    cases vs with
    | nil => cases h
    | cons v vs => exact ih _ js vs ws (by simpa using h)
theorem Gives.app {n : Nat} {l m : List (Nat × En)} {wv zv : List V} (a : Gives Φ H fz env gs n l wv) (b : Gives Φ H fz env gs n m zv) : Gives Φ H fz env gs n (l ++ m) (wv ++ zv) := by
  refine ⟨by simp [a.1, b.1], fun k v q hv hq => ?_, fun q hq => ?_⟩
  · by_cases h : k < wv.length
    · rw [List.getElem?_append_left h] at hv
      rw [List.getElem?_append_left (by have := a.1; omega)] at hq
      exact a.2.1 k v q hv hq
    · rw [List.getElem?_append_right (by omega)] at hv
      rw [List.getElem?_append_right (by have := a.1; omega)] at hq
      rw [← a.1] at hq
      exact b.2.1 _ v q hv hq
  · rcases List.mem_append.mp hq with h | h
    · exact a.2.2 q h
    · exact b.2.2 q h
mutual
theorem bindT_gives : ∀ (t : Tg) {n : Nat} {x : En} {v : V} {l : List (Nat × En)}, tgLt n t = true → Seen Φ H fz env gs v x → bindT t x = some l →
    ∃ wv, Gives Φ H fz env gs n l wv ∧ ∀ (σ : L2.St) (Q : L2.St → Hp → Prop), Q (putV σ (l.map (·.1)) wv) H → gT t v σ H Q
  | .nm i, n, x, v, l, ht, hs, hb => by
    simp only [bindT] at hb
    cases hb
    refine ⟨[v], ⟨rfl, fun k w q hw hq => ?_, fun q hq => ?_⟩, fun σ Q h => by simp only [gT]; exact h⟩
    · cases k with
      | zero => cases hw; cases hq; exact hs
      | succ k => cases hw
    · simp at hq; subst hq; simpa [tgLt] using ht
  | .tup ts, n, x, v, l, ht, hs, hb => by
    unfold bindT at hb
    split at hb <;> try (cases hb; done)
    · rename_i h; cases h
    · rename_i ts' ds h
      cases h
      obtain ⟨a, vs, rfl, _, hH, hl, ch⟩ := IsD.tup_ hs
      obtain ⟨wv, h1, h2⟩ := bindL_gives ts (by simpa [tgLt] using ht) (vs := vs) (xs := ds.map .fr) (by simpa using hl) (fun k w e hw he => by
        rw [List.getElem?_map] at he
        obtain ⟨d, hd, rfl⟩ := Option.map_eq_some_iff.mp he
        exact ch k w d hw hd) hb
      exact ⟨wv, h1, fun σ Q h => by simp only [gT]; exact ⟨a, vs, rfl, hH, h2 σ Q h⟩⟩
  | .nil, n, x, v, l, ht, hs, hb => by simp [tgLt] at ht
  | .cons a r, n, x, v, l, ht, hs, hb => by simp [tgLt] at ht
theorem bindL_gives : ∀ (t : Tg) {n : Nat} (_ : tgLts n t = true) {vs : List V} {xs : List En} {l : List (Nat × En)}, vs.length = xs.length → (∀ (k : Nat) (v : V) (e : En), vs[k]? = some v → xs[k]? = some e → Seen Φ H fz env gs v e) → bindL t xs = some l →
    ∃ wv, Gives Φ H fz env gs n l wv ∧ ∀ (σ : L2.St) (Q : L2.St → Hp → Prop), Q (putV σ (l.map (·.1)) wv) H → gTs t vs σ H Q
  | .nil, n, ht, vs, xs, l, hl, hs, hb => by
    cases xs with
    | cons _ _ => simp [bindL] at hb
    | nil =>
      simp only [bindL] at hb
      cases hb
      have : vs = [] := by simpa using hl
      subst this
      exact ⟨[], ⟨rfl, fun k w q hw _ => by simp at hw, fun q hq => by simp at hq⟩, fun σ Q h => by rw [gTs]; exact ⟨rfl, h⟩⟩
  | .cons a r, n, ht, vs, xs, l, hl, hs, hb => by
    cases xs with
    | nil => simp [bindL] at hb
    | cons x xs =>
      cases vs with
      | nil => cases hl
      | cons v vs =>
        simp only [bindL] at hb
        split at hb <;> try (cases hb; done)
        rename_i p q h1 h2
        cases hb
        simp only [tgLts, Bool.and_eq_true] at ht
        obtain ⟨wv, g1, k1⟩ := bindT_gives a ht.1 (hs 0 v x rfl rfl) h1
        obtain ⟨zv, g2, k2⟩ := bindL_gives r ht.2 (vs := vs) (by simpa using hl) (fun k w e hw he => hs (k + 1) w e hw he) h2
        refine ⟨wv ++ zv, g1.app g2, fun σ Q h => ?_⟩
        simp only [gTs]
        refine ⟨v, vs, rfl, k1 _ _ (k2 _ _ ?_)⟩
        rw [putV_app _ _ _ _ _ (by rw [List.length_map]; exact g1.1.symm), ← List.map_append]
        exact h
  | .nm i, n, ht, vs, xs, l, hl, hs, hb => by simp [tgLts] at ht
  | .tup ts, n, ht, vs, xs, l, hl, hs, hb => by simp [tgLts] at ht
end
theorem bindI_gives {t : Tg} {n : Nat} {it : Itm} {v : V} {l : List (Nat × En)} (ht : tgLt n t = true) (hs : ItOk Φ H fz env gs it v) (hb : bindI t it = some l) :
    ∃ wv, Gives Φ H fz env gs n l wv ∧ ∀ (σ : L2.St) (Q : L2.St → Hp → Prop), Q (putV σ (l.map (·.1)) wv) H → gT t v σ H Q := by
  cases it with
  | one e => exact bindT_gives t ht hs hb
  | many es =>
    simp only [bindI] at hb
    split at hb <;> try (cases hb; done)
    rename_i ts
    obtain ⟨T, vs, rfl, hH, hl, ch⟩ := hs
    obtain ⟨wv, h1, h2⟩ := bindL_gives ts (by simpa [tgLt] using ht) hl ch hb
    exact ⟨wv, h1, fun σ Q h => by rw [gT]; exact ⟨T, vs, rfl, hH, h2 σ Q h⟩⟩
end
end MP
set_option maxHeartbeats 1000000
set_option autoImplicit false
/-! mini: for, assignments to several names -/
namespace MP
open PySem PySem.Spec PyProof.Rows L2
section
variable {b : Bx} {X : Cx} {R : List (Option V)} {n : Nat}
theorem give_asg {σ : L2.St} {env env' : Ev} {H : Hp} {fz : Addr → Prop} {gs : List G} {t : Tg} {it : Itm} {v : V} {Q : L2.St → Hp → Prop} (Rl : Rel b.Φ (σ ++ R) env H fz gs) (hB : (σ ++ R).length = env.length) (hn : b.Φ.n ≤ env.length) (hs : σ.length = n) (hnn : n ≤ b.Φ.n) (ht : tgLt n t = true) (hi : ItOk b.Φ H fz env gs it v) (ha : asgT env t it = some env')
    (q : ∀ σ' : L2.St, σ'.length = n → Px b.Φ (σ' ++ R) env' [] H → Q σ' H) : gT t v σ H Q := by
  unfold asgT at ha
  split at ha <;> try (cases ha; done)
  rename_i l hb
  split at ha <;> try (cases ha; done)
  rename_i ho
  cases ha
  obtain ⟨wv, hg, hk⟩ := bindI_gives ht hi hb
  refine hk σ Q ?_
  obtain ⟨gs', R1⟩ := Rel.insL (S := []) (by simpa using Rl) hB hn (sv := wv) (xs := l.map (·.2)) (by rw [List.length_map]; exact hg.1) (fun k w e hw he => by
    rw [List.getElem?_map] at he
    obtain ⟨q, hq, rfl⟩ := Option.map_eq_some_iff.mp he
    have := hg.2.1 k w q hw hq
    simpa using this)
  have P : Px b.Φ (σ ++ R) env (tz wv (l.map (·.2))) H := by
    refine ⟨hB, hn, fz, gs', ?_⟩
    have hl : wv.length = (l.map (·.2)).length := by rw [List.length_map]; exact hg.1
    rw [tz_fst hl, tz_snd hl]
    simpa using R1
  have P2 := P.puts hg.1 (fun q hq => ⟨by rw [hs]; exact hg.2.2 q hq, Nat.lt_of_lt_of_le (hg.2.2 q hq) hnn⟩) ho
  exact q _ (by rw [putV_len]; exact hs) P2
/-- a, b = e, e a value -/
theorem pS_asg {tg e : Expr} {x : Ex} {t : Tg} {pos : Pos} (hn0 : X.N.length ≤ b.Φ.n) (he : PE X e (tE b x)) (hg : PG X tg (gT t)) (ht : tgLt X.N.length t = true) (hnt : ∀ i, t ≠ .nm i) (hs : swapsWithSole [tg] e pos.line X.env = pure false) (hw : swappedStores [tg] e X.env = pure none) (h1 : (assignEach [tg] X.env).map (·.2) = [assign tg X.env]) :
    PS X (.Assign [tg] e pos) (tS b (.asg t x)) := by
  refine ⟨fun pins s σ H D I ⟨R, env, p, q⟩ => (ps_asg he hg hs hw h1).run pins s σ H D I ?_⟩
  simp only [evS] at q
  refine ⟨R, env, [], p, q.bindE rfl fun q1 _ s1 v H' p1 => ?_⟩
  obtain ⟨env', ha, s2⟩ := s1.ofO
  have hx : ∃ ds, q1.2 = .fr (.tuple ds) := by
    unfold asgT at ha
    split at ha <;> try (cases ha; done)
    rename_i l hb
    simp only [bindI] at hb
    cases t with
    | nm i => exact absurd rfl (hnt i)
    | tup ts =>
      unfold bindT at hb
      split at hb <;> try (cases hb; done)
      · rename_i h; cases h
      · rename_i _ _ ds h1 h2; exact ⟨ds, h2⟩
    | nil => simp [bindT] at hb
    | cons a r => simp [bindT] at hb
  obtain ⟨ds, hx⟩ := hx
  obtain ⟨hB, hn, fz, gs, Rl⟩ := p1
  have hj : ([] ++ [(some v, q1.2)] : Tmp)[0]? = some (some v, .fr (.tuple ds)) := by rw [hx]; rfl
  obtain ⟨g, hg', ho, _⟩ := Rl.temp hB hn hj (t := .fr (.tuple ds)) rfl
  have D1 := ho.frD
  rw [hg'] at D1
  have Rb := Rel.popT (S := []) (T := [(some v, q1.2)]) Rl hB hn
  refine give_asg (env := q1.1) (it := .one q1.2) (by simpa using Rb) hB hn I.len hn0 ht ?_ ha fun σ' hl p' => s2 σ' _ (by rw [hl, I.len]) p'
  rw [hx]
  exact D1
/-- a, b = e, f (plain names) -/
theorem pS_par {i j : Nat} {x y : Str} {a c : Expr} {xs : Ex} {px py pt : Pos} {kt k2 : Nat} {pt2 pos : Pos} (hn0 : X.N.length ≤ b.Φ.n) (hc : X.calm = true) (hN : X.N.Nodup) (hi : X.N[i]? = some x) (hj : X.N[j]? = some y) (hij : i ≠ j) (hx : X.env.scope.names.lookup x = some .local) (hy : X.env.scope.names.lookup y = some .local) (ha : PA X [a, c] (tL b xs))
    (hw : swappedStores [.Tuple [.Name x px, .Name y py] kt pt] (.Tuple [a, c] k2 pt2) X.env = pure (some [x, y])) (hs : swapsWithSole [.Tuple [.Name x px, .Name y py] kt pt] (.Tuple [a, c] k2 pt2) pos.line X.env = pure false) :
    PS X (.Assign [.Tuple [.Name x px, .Name y py] kt pt] (.Tuple [a, c] k2 pt2) pos) (tS b (.asgp (.tup (.cons (.nm i) (.cons (.nm j) .nil))) xs)) := by
  refine ⟨fun pins s σ H D I ⟨R, env, p, q⟩ => (ps_par hc hN hi hj hij hx hy ha hw hs).run pins s σ H D I ?_⟩
  have li := (List.getElem?_eq_some_iff.mp hi).1
  have lj := (List.getElem?_eq_some_iff.mp hj).1
  simp only [evS] at q
  refine ⟨R, env, [], p, q.bindE rfl fun q1 _ s1 vs H' hl p1 => ?_⟩
  obtain ⟨env', ha', s2⟩ := s1.ofO
  unfold asgT at ha'
  split at ha' <;> try (cases ha'; done)
  rename_i l hb
  split at ha' <;> try (cases ha'; done)
  rename_i ho
  cases ha'
  have hl2 : ∃ e f, q1.2 = [e, f] ∧ l = [(i, e), (j, f)] := by
    generalize q1.2 = z at hb
    match z, hb with
    | [], hb => simp [bindI, bindL] at hb
    | [e], hb => simp [bindI, bindL, bindT] at hb
    | [e, f], hb => simp [bindI, bindL, bindT] at hb; exact ⟨e, f, rfl, hb.symm⟩
    | e :: f :: g :: r, hb => simp [bindI, bindL, bindT] at hb
  obtain ⟨e, f, he, rfl⟩ := hl2
  rw [he] at p1 hl
  match vs, hl with
  | [v, w], _ =>
    have P := Px.puts (l := [(i, e), (j, f)]) (vs := [v, w]) p1 rfl (fun q hq => by
      simp at hq
      rcases hq with rfl | rfl
      · exact ⟨by rw [I.len]; exact li, by show i < _; omega⟩
      · exact ⟨by rw [I.len]; exact lj, by show j < _; omega⟩) ho
    exact ⟨v, w, rfl, s2 _ _ (by simp) P⟩
/-! ### the source of a loop -/
/-- the walk J hands out what the source says; the source's values sv stand from slot b0 on -/
def JOk (Φ : Fx) (J : It) (sk : SK) (b0 : Nat) (sv : List V) : Prop :=
  ∀ (B : List (Option V)) (env : Ev) (fz : Addr → Prop) (gs : List G) (H : Hp) (i : Nat), Rel Φ B env H fz gs → (∀ (k : Nat) (v : V), sv[k]? = some v → B[b0 + k]? = some (some v)) → Φ.n ≤ b0 →
    (srcAt sk b0 env i = some none → J.stop i H) ∧ ∀ it, srcAt sk b0 env i = some (some it) → J.go i H ∧ ∀ x H', J.yld i H x H' → Hext H H' ∧ ItOk Φ H' fz env gs it x
def evI (C : Cl) (k : IK) (src : Ex) (env : Ev) : Res (Ev × SK × List En) := (evL C src env).bind fun q => (ofO (mkSrc k q.1 q.2)).bind fun r => .ok (q.1, r)
def tI (b : Bx) (k : IK) (src : Ex) : TI := fun σ H Rr => ∃ R env S, Px b.Φ (σ ++ R) env S H ∧
  Sat b σ (σ ++ R) (fun q => ∀ J (sv : List V) H', sv.length = q.2.2.length → JOk b.Φ J q.2.1 q.1.length sv → Px b.Φ (σ ++ R ++ sv.map some) (q.1 ++ q.2.2) S H' → Rr J H') (evI b.C k src env)
theorem ev_for {C : Cl} {tg : Tg} {k : IK} {src : Ex} {s : Sm} {env : Ev} : evS C (.for_ tg k src s) env = (evI C k src env).bind fun q => (forGo (fun env it => (ofO (asgT env tg it)).bind fun env => evS C s env) q.2.1 q.1.length bigW 0 (q.1 ++ q.2.2)).cut q.1.length := by
  simp only [evI, evS]
  cases evL C src env with
  | ok q => cases h : mkSrc k q.1 q.2 <;> simp [h]
  | _ => rfl
theorem Px.cut {σ' : L2.St} {sv : List (Option V)} {env : Ev} {S : Tmp} {H : Hp} {n0 : Nat} (p : Px b.Φ (σ' ++ (R ++ sv)) env S H) (h0 : (σ' ++ R).length = n0) (hn : b.Φ.n ≤ n0) : Px b.Φ (σ' ++ R) (env.take n0) S H := by
  obtain ⟨hB, _, fz, gs, Rl⟩ := p
  have hle : n0 ≤ env.length := by rw [← hB, ← List.append_assoc, List.length_append, h0]; omega
  have hl : (env.take n0).length = n0 := by rw [List.length_take]; omega
  have he : env = env.take n0 ++ env.drop n0 := (List.take_append_drop _ _).symm
  have Rl2 : Rel b.Φ ((σ' ++ R) ++ sv ++ S.map (·.1)) (env.take n0 ++ env.drop n0 ++ S.map (·.2)) H fz gs := by
    rw [← he]; simpa using Rl
  have hsv : sv.length = (env.drop n0).length := by
    rw [List.length_drop, ← hB, ← List.append_assoc, List.length_append, h0]; omega
  obtain ⟨gs', R2⟩ := Rel.delL (by rw [h0, hl]) (by rw [hl]; exact hn) hsv Rl2
  exact ⟨by rw [h0, hl], by rw [hl]; exact hn, fz, gs', R2⟩
/-- behind a loop its own slots go -/
theorem SatS.cut {D : Ends} {sv : List (Option V)} {n0 : Nat} {r : Res Fl} (h : SatS b R n (FlOk b R n D) (r.cut n0)) (h0 : n + R.length = n0) (hn : b.Φ.n ≤ n0) : SatS b (R ++ sv) n (FlOk b (R ++ sv) n D) r := by
  have key : ∀ σ' : L2.St, σ'.length = n → (σ' ++ R).length = n0 := fun σ' h => by rw [List.length_append, h]; exact h0
  cases r with
  | stuck => exact h
  | exc c d env =>
    intro σ' hl H' dx v fz gs hd hf Rl hv
    have he : env = env.take n0 ++ env.drop n0 := (List.take_append_drop _ _).symm
    have hlen := Rl.lenv
    have hle : n0 ≤ env.length := by rw [← hlen, ← List.append_assoc, List.length_append, key σ' hl]; omega
    rw [he, ← List.append_assoc] at Rl
    have R1 := Rel.drop Rl (by rw [key σ' hl, List.length_take]; omega) (by rw [List.length_take]; omega)
    exact h σ' hl H' dx v fz _ hd hf R1 hv
  | ok fl =>
    cases fl with
    | nx env => exact fun σ' H' hl p => h σ' H' hl (p.cut (key σ' hl) hn)
    | bk env => exact fun σ' H' hl p => h σ' H' hl (p.cut (key σ' hl) hn)
    | ct env => exact fun σ' H' hl p => h σ' H' hl (p.cut (key σ' hl) hn)
    | rt env x => exact fun v σ' H' hl p => h v σ' H' hl (p.cut (key σ' hl) hn)
theorem pS_for {tg iter : Expr} {body : List Stmt} {t : Tg} {k : IK} {src : Ex} {sm : Sm} {pos : Pos} (hn0 : X.N.length ≤ b.Φ.n) (hp : PassesOwn (model X.prog X.w) X.A X.env X.xe) (hc : X.calm = true) (hi : PI X tg iter (tI b k src)) (hg : PG X tg (gT t)) (ht : tgLt X.N.length t = true) (hb : PSs X body (tS b sm)) (hs : ∀ x, foldedSetIterable iter X.env x = pure x) :
    PS X (.For tg iter body [] pos) (tS b (.for_ t k src sm)) := by
  refine ⟨fun pins s σ H D I ⟨R, env, p, q⟩ => (ps_for hp hc hi hg hb hs).run pins s σ H D I ?_⟩
  have hlen := I.len
  rw [ev_for] at q
  refine ⟨R, env, [], p, q.bindE rfl fun q1 _ s1 J sv H1 hsv hJ p1 => ?_⟩
  have hn1 : σ.length + R.length = q1.1.length := by
    have := p1.1
    simp only [List.length_append, List.length_map] at this
    omega
  have hphi : b.Φ.n ≤ q1.1.length := by
    have h1 := p.1
    have h2 := p.2.1
    rw [List.length_append] at h1
    omega
  have s2 := s1.cut (sv := sv.map some) hn1 hphi
  refine ⟨fun i m σ1 H1 => ∃ env1, Px b.Φ (σ1 ++ (R ++ sv.map some)) env1 [] H1 ∧ σ1.length = σ.length ∧ SatS b (R ++ sv.map some) σ.length (FlOk b (R ++ sv.map some) σ.length D) (forGo (fun env it => (ofO (asgT env t it)).bind fun env => evS b.C sm env) q1.2.1 q1.1.length m i env1), ⟨bigW, _, by simpa using p1, rfl, s2⟩, fun i m σ1 H1 ⟨env1, p2, hl1, q2⟩ => ?_⟩
  cases m with
  | zero => exact q2.elim
  | succ m =>
    simp only [forGo] at q2
    obtain ⟨hB, hn, fz, gs, Rl⟩ := id p2
    have Rl' : Rel b.Φ (σ1 ++ (R ++ sv.map some)) env1 H1 fz gs := by simpa using Rl
    have hat : ∀ (k : Nat) (v : V), sv[k]? = some v → (σ1 ++ (R ++ sv.map some))[q1.1.length + k]? = some (some v) := fun k v hv => by
      rw [← List.append_assoc, ← hn1, ← hl1, ← List.length_append, get_app_right, List.getElem?_map, hv]; rfl
    obtain ⟨j1, j2⟩ := hJ _ _ _ _ _ i Rl' hat hphi
    cases hsrc : srcAt q1.2.1 q1.1.length env1 i with
    | none => rw [hsrc] at q2; exact q2.elim
    | some o =>
      rw [hsrc] at q2
      cases o with
      | none => exact .inl ⟨j1 hsrc, q2 σ1 H1 hl1 p2⟩
      | some it =>
        obtain ⟨hgo, hy⟩ := j2 it hsrc
        refine .inr ⟨hgo, fun σ' H' => ∃ env', Px b.Φ (σ' ++ (R ++ sv.map some)) env' [] H' ∧ σ'.length = σ.length ∧ SatS b (R ++ sv.map some) σ.length (FlOk b (R ++ sv.map some) σ.length D) (forGo (fun env it => (ofO (asgT env t it)).bind fun env => evS b.C sm env) q1.2.1 q1.1.length m (i + 1) env'), fun σ' H' h => ⟨m, Nat.lt_succ_self m, h⟩, fun x H' hx => ?_⟩
        obtain ⟨he, hit⟩ := hy x H' hx
        dsimp only at q2
        have q3 : SatS b (R ++ sv.map some) σ.length (fun fl => SatS b (R ++ sv.map some) σ.length (FlOk b (R ++ sv.map some) σ.length D) (match fl with
          | .nx env' => forGo (fun env it => (ofO (asgT env t it)).bind fun env => evS b.C sm env) q1.2.1 q1.1.length m (i + 1) env'
          | .ct env' => forGo (fun env it => (ofO (asgT env t it)).bind fun env => evS b.C sm env) q1.2.1 q1.1.length m (i + 1) env'
          | .bk env' => .ok (.nx env')
          | .rt env' x => .ok (.rt env' x))) ((ofO (asgT env1 t it)).bind fun env => evS b.C sm env) := q2.bind fun fl _ h => h
        obtain ⟨env', ha, q4⟩ := q3.ofO
        have Rx := Rl'.ext he
        refine give_asg Rx hB hn (by rw [hl1]; exact hlen) hn0 ht hit ha fun σ' hl' p' => ⟨_, env', p', ?_⟩
        have hl2 : σ'.length = σ.length := by rw [hl', hlen]
        rw [hl2]
        refine q4.mono fun fl _ h => ?_
        cases fl with
        | nx env2 => exact fun σ2 H2 hl3 p3 => ⟨env2, p3, hl3, h⟩
        | ct env2 => exact fun σ2 H2 hl3 p3 => ⟨env2, p3, hl3, h⟩
        | bk env2 => exact h
        | rt env2 x2 => exact h
end
end MP
set_option maxHeartbeats 1000000
set_option autoImplicit false
/-! mini: what loops walk -/
namespace MP
open PySem PySem.Spec PyProof.Rows L2
/-- a list (true) or a tuple -/
def SeqK (l : Bool) (H : Hp) (a : Addr) (ws : List V) : Prop := if l = true then Rd H a (.lst ws) else Rd H a (.tup ws)
section
variable {Φ : Fx} {B : List (Option V)} {W : List (Option V)} {env : Ev} {S : Tmp} {H : Hp} {fz : Addr → Prop} {gs : List G}
theorem walkE_cases {x y : En} {l : Bool} (h : walkE env x = some (y, l)) : (∃ t, x = .own t ∧ y = .fr t.data) ∨ (y = x ∧ isVw x) := by
  unfold walkE at h
  split at h <;> try (cases h; done)
  cases x with
  | own t => cases h; exact .inl ⟨t, rfl, rfl⟩
  | fr d => cases h; exact .inr ⟨rfl, trivial⟩
  | al s p => cases h; exact .inr ⟨rfl, trivial⟩
  | un => cases h
  | fd d => cases h
theorem walkE_kind {x y : En} {l : Bool} {g : G} {t : Tr} (h : walkE env x = some (y, l)) (hr : res env x = some t) (ho : OwnG H fz g t) : ∃ a ws, g.val = .ref a ∧ SeqK l H a ws := by
  unfold walkE at h
  rw [hr] at h
  split at h <;> try (cases h; done)
  rename_i l' hl
  have el : l' = l := by
    cases x <;> first | (cases h; rfl) | cases h
  subst el
  split at hl <;> try (cases hl; done)
  · rename_i ds e
    cases hl; cases e
    obtain ⟨a, vs, h1, _, h2, _⟩ := ho.frD.lst_
    exact ⟨a, vs, h1, h2⟩
  · rename_i ts e
    cases hl; cases e
    obtain ⟨a, cs, rfl, hH, _⟩ := ho.nd_
    exact ⟨a, _, rfl, .of hH⟩
  · rename_i ds e
    cases hl; cases e
    obtain ⟨a, vs, h1, _, h2, _⟩ := ho.frD.tup_
    exact ⟨a, vs, h1, .of h2⟩
theorem walkE_res {x y : En} {l : Bool} (h : walkE env x = some (y, l)) : ∃ t, res env x = some t := by
  unfold walkE at h
  cases hr : res env x with
  | none => rw [hr] at h; cases h
  | some t => exact ⟨t, rfl⟩
theorem Rel.walk : ∀ {xs ys : List En} {ls : List Bool} {S : Ev} {fz : Addr → Prop} {gs : List G}, Rel Φ W (env ++ (S ++ xs)) H fz gs → Φ.n ≤ env.length → walkL env xs = some (ys, ls) → ys.length = xs.length ∧ ls.length = xs.length ∧ (∀ y ∈ ys, isVw y) ∧ ∃ fz' gs', Rel Φ W (env ++ (S ++ ys)) H fz' gs'
  | [], ys, ls, S, fz, gs, R, hn, h => by
    simp only [walkL] at h
    cases h
    exact ⟨rfl, rfl, by simp, fz, gs, R⟩
  | x :: xs, ys, ls, S, fz, gs, R, hn, h => by
    simp only [walkL] at h
    split at h <;> try (cases h; done)
    rename_i y l ys' ls' h1 h2
    cases h
    have R1 : ∃ fz' gs', Rel Φ W (env ++ ((S ++ [y]) ++ xs)) H fz' gs' := by
      rcases walkE_cases h1 with ⟨t, rfl, rfl⟩ | ⟨rfl, _⟩
      · have hj : (S ++ En.own t :: xs)[S.length]? = some (.own t) := by simp
        obtain ⟨_, fz', gs', R', _⟩ := R.frz1 hn hj (show frz env (.own t) = some (env, t.data) from rfl)
        rw [set_mid] at R'
        exact ⟨fz', gs', by simpa using R'⟩
      · exact ⟨fz, gs, by simpa using R⟩
    obtain ⟨fz', gs', R1⟩ := R1
    obtain ⟨e1, e2, e3, fz2, gs2, R2⟩ := Rel.walk R1 hn h2
    refine ⟨by simp [e1], by simp [e2], fun z hz => ?_, fz2, gs2, by simpa using R2⟩
    rcases List.mem_cons.mp hz with rfl | hz
    · rcases walkE_cases h1 with ⟨t, rfl, rfl⟩ | ⟨rfl, h⟩
      · trivial
      · exact h
    · exact e3 z hz
theorem Px.walk {vs : List V} {xs ys : List En} {ls : List Bool} (p : Px Φ B env (S ++ tz vs xs) H) (hl : vs.length = xs.length) (h : walkL env xs = some (ys, ls)) : ys.length = xs.length ∧ ls.length = xs.length ∧ Px Φ (B ++ vs.map some) (env ++ ys) S H := by
  obtain ⟨hB, hn, fz, gs, R⟩ := p
  rw [List.map_append, List.map_append, tz_fst hl, tz_snd hl] at R
  obtain ⟨e1, e2, e3, fz', gs', R1⟩ := Rel.walk (S := S.map (·.2)) R hn h
  refine ⟨e1, e2, ?_⟩
  have hl2 : vs.length = ys.length := by rw [e1]; exact hl
  have R2 : Rel Φ (B ++ (S ++ tz vs ys).map (·.1)) (env ++ (S ++ tz vs ys).map (·.2)) H fz' gs' := by
    rw [List.map_append, List.map_append, tz_fst hl2, tz_snd hl2]; exact R1
  have R3 := R2.popT hB hn
  obtain ⟨gs2, R4⟩ := R3.insL hB hn (sv := vs) (xs := ys) hl2 fun k v y hv hy => by
    have h1 : (env ++ (S ++ tz vs ys).map (·.2))[env.length + (S.length + k)]? = some y := by
      rw [get_app_right, List.map_append, tz_snd hl2]
      have := get_app_right (l := S.map (·.2)) (m := ys) (j := k)
      rw [List.length_map] at this
      rw [this]; exact hy
    have h2 : (B ++ (S ++ tz vs ys).map (·.1))[env.length + (S.length + k)]? = some (some v) := by
      rw [← hB, get_app_right, List.map_append, tz_fst hl2]
      have := get_app_right (l := S.map (·.1)) (m := vs.map some) (j := k)
      rw [List.length_map] at this
      rw [this, List.getElem?_map, hv]; rfl
    have sn := R2.seen h1 h2 (e3 y (List.mem_of_getElem? hy))
    refine Seen.shift (fun s hs => ?_) (fun s hs => ?_) sn
    · rw [List.getElem?_append_left (by omega), List.getElem?_append_left (by omega)]
    · rw [List.getElem?_take, if_pos (by simp; omega)]
  refine ⟨by simp [hB, hl2], by simp; omega, fz', gs2, ?_⟩
  exact R4
/-- a walked sequence's item -/
theorem seqAt_ok {l : Bool} {b0 i : Nat} {v : V} {o : Option En} (R : Rel Φ B env H fz gs) (hv : B[b0]? = some (some v)) (hb : Φ.n ≤ b0) (h : seqAt l env b0 i = some o) :
    ∃ a ws, v = .ref a ∧ SeqK l H a ws ∧ i ≤ ws.length ∧ (o = none → ws.length = i) ∧ ∀ e, o = some e → ∃ w, ws[i]? = some w ∧ Seen Φ H fz env gs w e := by
  unfold seqAt at h
  cases he : env[b0]? with
  | none => rw [he] at h; cases h
  | some x =>
  rw [he] at h
  dsimp only at h
  cases hr : res env x with
  | none => rw [hr] at h; cases h
  | some t =>
  rw [hr] at h
  obtain ⟨g, hg, ho, _⟩ := R.look he hr
  rw [hv] at hg
  cases hg
  have frz : ∀ {a : Addr} {vs : List V} {ds : List Dt}, g.val = .ref a → SeqK l H a vs → vs.length = ds.length → (∀ (i : Nat) (v : V) (d : Dt), vs[i]? = some v → ds[i]? = some d → IsD H fz v d) → i ≤ ds.length → o = ds[i]?.map .fr →
      ∃ a ws, g.val = .ref a ∧ SeqK l H a ws ∧ i ≤ ws.length ∧ (o = none → ws.length = i) ∧ ∀ e, o = some e → ∃ w, ws[i]? = some w ∧ Seen Φ H fz env gs w e := by
    intro a vs ds ha hq hl ch hle ho
    refine ⟨a, vs, ha, hq, by rw [hl]; exact hle, fun e => ?_, fun e he => ?_⟩
    · rw [ho] at e
      have : ds[i]? = none := by cases hd : ds[i]? with | none => rfl | some d => rw [hd] at e; cases e
      have := List.getElem?_eq_none_iff.mp this
      omega
    · rw [ho] at he
      obtain ⟨d, hd, rfl⟩ := Option.map_eq_some_iff.mp he
      have hlt : i < vs.length := by rw [hl]; exact (List.getElem?_eq_some_iff.mp hd).1
      exact ⟨vs[i], by simp [hlt], ch i _ d (by simp [hlt]) hd⟩
  cases t with
  | fr d =>
    cases d with
    | list ds =>
      dsimp only at h
      split at h
      · rename_i hc
        simp only [Bool.and_eq_true, decide_eq_true_eq] at hc
        obtain ⟨rfl, hc⟩ := hc
        cases h
        obtain ⟨a, vs, h1, _, h2, h3, h4⟩ := ho.frD.lst_
        exact frz h1 h2 h3 h4 hc rfl
      · cases h
    | tuple ds =>
      dsimp only at h
      split at h
      · rename_i hc
        simp only [Bool.and_eq_true, decide_eq_true_eq, Bool.not_eq_true'] at hc
        obtain ⟨rfl, hc⟩ := hc
        cases h
        obtain ⟨a, vs, h1, _, h2, h3, h4⟩ := ho.frD.tup_
        exact frz h1 (.of h2) h3 h4 hc rfl
      · cases h
    | _ => cases h
  | nd sh ts =>
    cases sh with
    | ls =>
      dsimp only at h
      split at h
      · rename_i hcc
        simp only [Bool.and_eq_true, decide_eq_true_eq] at hcc
        obtain ⟨rfl, hcc⟩ := hcc
        obtain ⟨a, cs, rfl, hH, _, hl, ch⟩ := ho.nd_
        have hle : i ≤ (cs.map G.val).length := by rw [List.length_map, hl]; exact hcc
        have hq : SeqK true H a (cs.map G.val) := (show Rd H a (.lst _) from .of hH)
        cases ht : ts[i]? with
        | none =>
          rw [ht] at h
          cases h
          refine ⟨a, _, rfl, hq, hle, fun _ => ?_, fun e he => by cases he⟩
          have := List.getElem?_eq_none_iff.mp ht
          rw [List.length_map, hl]; omega
        | some u =>
          rw [ht] at h
          have hlt : i < cs.length := by rw [hl]; exact (List.getElem?_eq_some_iff.mp ht).1
          have hc : cs[i]? = some cs[i] := by simp [hlt]
          have hw : (cs.map G.val)[i]? = some cs[i].val := by rw [List.getElem?_map, hc]; rfl
          have oc := ch i _ u hc ht
          cases u with
          | fr d =>
            cases h
            exact ⟨a, _, rfl, hq, hle, (fun e => nomatch e), fun e he => by cases he; exact ⟨_, hw, oc.frD⟩⟩
          | nd sh' us =>
            cases x with
            | al s p =>
              cases h
              refine ⟨a, _, rfl, hq, hle, (fun e => nomatch e), fun e hee => ?_⟩
              cases hee
              have hs := R.als _ _ _ he
              refine ⟨_, hw, hs, ?_⟩
              obtain ⟨t, g0, a0, cs0, he0, hg, htp, ho0, hgp, hoc⟩ := Rel.path (S := []) (by simpa using R) R.big hs hr
              obtain ⟨_, v, hv2, ha⟩ := R.ent _ _ he
              rw [hv] at hv2
              cases hv2
              unfold AlOk at ha ⊢
              rw [he0] at ha ⊢
              obtain ⟨g1, a1, cs1, hg1, hat1, e1⟩ := ha
              rw [hg] at hg1
              cases hg1
              rw [hgp] at hat1
              cases hat1
              cases e1
              obtain ⟨_, csx, ex, hHx, okx, hlx, chx⟩ := hoc.nd_
              cases ex
              have hcx : cs0[i]? = some cs0[i] := by simp [show i < cs0.length by omega]
              obtain ⟨a2, cs2, hc2, hH2, _⟩ := (chx i _ _ hcx ht).nd_
              have hval : cs[i].val = cs0[i].val := by
                have e : cs0.map G.val = cs.map G.val := Sh.ho_inj (sh := .ls) trivial trivial (Option.some.inj (hHx.symm.trans hH))
                have e2 : (cs0.map G.val)[i]? = (cs.map G.val)[i]? := by rw [e]
                rw [List.getElem?_map, List.getElem?_map, hcx, hc] at e2
                exact (Option.some.inj e2).symm
              refine ⟨g0, a2, cs2, hg, ?_, by rw [hval, hc2]; rfl⟩
              rw [G.at_append, hgp]
              show (match cs0[i]? with | some u => u.at [] | none => none) = _
              rw [hcx, hc2]; rfl
            | own t => cases h
            | fr d => cases h
            | fd d => cases h
            | un => cases h
      · cases h
    | _ => cases h
end
end MP
set_option maxHeartbeats 1000000
set_option autoImplicit false
/-! mini: enumerate, zip over lists and tuples -/
namespace MP
open PySem PySem.Spec PyProof.Rows L2
/-- an iterator over a list (true) or a tuple, at place i -/
def IterK (l : Bool) (h : Heap) (it a : Addr) (i : Nat) : Prop := if l = true then h.IsListIter it a i else h.IsTupleIter it a i
def HasK (l : Bool) (h : Heap) (a : Addr) (its : Array Value) : Prop := if l = true then h.IsList a its else h.IsTuple a its
theorem IterK.at {l : Bool} {h h' : Heap} {it a : Addr} {i : Nat} (x : IterK l h it a i) (k : ∀ o, h.get? it = some o → h'.get? it = some o) : IterK l h' it a i := by
  cases l with
  | true => exact Heap.IsListIter.at x k
  | false => exact Heap.IsTupleIter.at x k
theorem IterK.live {l : Bool} {h : Heap} {it a : Addr} {i : Nat} (x : IterK l h it a i) : ∃ o, h.get? it = some o ∧ ∀ v, o.data ≠ .cell v := by
  cases l with
  | true => obtain ⟨o, e, _, d⟩ := x; exact ⟨o, e, fun v q => by rw [d] at q; cases q⟩
  | false => obtain ⟨o, e, _, d⟩ := x; exact ⟨o, e, fun v q => by rw [d] at q; cases q⟩
theorem draws_K {prog : Program} {w : World} {A : Around} (l : Bool) (hh : A.handled = none) {it a : Addr} (hne : a ≠ it) (its : List Value) :
    Draws prog w A it [it, a] its.length (fun i v => its[i]? = some v) (fun i h => IterK l h it a i ∧ HasK l h a its.toArray) := by
  cases l with
  | true => have := Draws.list (prog := prog) (w := w) hh it a hne its.toArray; simpa [IterK, HasK] using this
  | false => have := Draws.tuple (prog := prog) (w := w) hh it a hne its.toArray; simpa [IterK, HasK] using this
def itObj (l : Bool) (a : Addr) : Obj := if l = true then { cls := .type "list_iterator", data := .fields #[.ref a, .int 0 0] } else { cls := .type "tuple_iterator", data := .fields #[.ref a, .int 0 0] }
theorem begins_K (l : Bool) (a : Addr) (its : Array Value) : Begins (.ref a) (itObj l a) fun h => HasK l h a its := by
  cases l with
  | true => exact begins_list a its
  | false => exact begins_tuple a its
theorem iterK_new {l : Bool} {h : Heap} {it a : Addr} (e : h.get? it = some (itObj l a)) : IterK l h it a 0 := by
  cases l with
  | true => exact ⟨_, e, rfl, rfl⟩
  | false => exact ⟨_, e, rfl, rfl⟩
section
variable {X : Cx} {pins : List (Addr × Obj)} {σ : L2.St} {H : Hp} {s : Shared} {a : Addr} {xs ys : List V} {l : Bool}
theorem seqK_has (I : Inv X pins σ H s) (q : SeqK l H a xs) : ∃ its : List Value, Vals xs its ∧ HasK l s.heap a its.toArray ∧ a < s.heap.objs.size := by
  cases l with
  | true =>
    obtain ⟨its, rv, p, _⟩ := I.list (.inl q)
    exact ⟨its, rv, p.isList, p.lt⟩
  | false =>
    obtain ⟨its, rv, p, _⟩ := I.tuple (.inl q)
    have it : s.heap.IsTuple a its.toArray := p
    exact ⟨its, rv, it, by obtain ⟨_, e, _⟩ := it; exact Heap.lt_size e⟩
theorem rd_inj {u w : HO} (hu : ∀ o z, u ≠ .frz o z) (hw : ∀ o z, w ≠ .frz o z) (r : Rd H a u) (q : Rd H a w) : u = w := by
  rcases r with r | ⟨o, r⟩ <;> rcases q with q | ⟨o', q⟩
  · rw [r] at q; exact Option.some.inj q
  · rw [r] at q; exact absurd (Option.some.inj q) (hu _ _)
  · rw [r] at q; exact absurd (Option.some.inj q).symm (hw _ _)
  · rw [r] at q; injection q with q; injection q
theorem seqK_inj (q : SeqK l H a xs) (q' : SeqK l H a ys) : xs = ys := by
  cases l with
  | true => have := rd_inj (by intro _ _ e; cases e) (by intro _ _ e; cases e) (show Rd H a (.lst xs) from q) (show Rd H a (.lst ys) from q'); injection this
  | false => have := rd_inj (by intro _ _ e; cases e) (by intro _ _ e; cases e) (show Rd H a (.tup xs) from q) (show Rd H a (.tup ys) from q'); injection this
end
/-! ### enumerate -/
def ItE (l : Bool) (st : Int) (a : Addr) : It :=
  ⟨fun i H => ∃ xs x, SeqK l H a xs ∧ xs[i]? = some x, fun i H v H' => ∃ T x, v = .ref T ∧ H T = none ∧ H' = upd H T (.tup [.int (st + (i : Nat)), x]) ∧ ∃ xs, SeqK l H a xs ∧ xs[i]? = some x, fun i H => ∃ xs : List V, SeqK l H a xs ∧ xs.length = i⟩
theorem turn_enumK {P : Program} {w : World} {K : PySem.W.Frag} {elts : List Expr} {kk : Nat} {tpos : Pos} (l : Bool) (st : Int) (a e it : Addr) :
    Turn P w K (.Tuple elts kk tpos) (ItE l st a) [e, it] e (fun i h => (∃ old, IsEnum h e it (st + (i : Nat)) old) ∧ IterK l h it a i ∧ e ≠ it ∧ a ≠ it ∧ a ≠ e) where
  mem := List.mem_cons_self
  obj := fun i h ⟨⟨old, he⟩, hit, _⟩ b hb => by
    rcases List.mem_cons.mp hb with rfl | hb
    · exact ⟨_, he, fun v q => nomatch q⟩
    · rw [List.mem_singleton.mp hb]; exact hit.live
  keep := fun i h h' ⟨⟨old, he⟩, hit, hne⟩ k => ⟨⟨old, k e (by simp) _ he⟩, hit.at fun o q => k it (by simp) o q, hne⟩
  item := by
    rintro X rfl rfl rfl hc i pins s σ H E I hf ⟨⟨old, he⟩, hit, hne, h1, h2⟩ ⟨xs, x, hq, hx⟩
    obtain ⟨its, rv, hh, hal⟩ := seqK_has I hq
    obtain ⟨u, hu, ru⟩ := rv.get hx
    have hel : e < s.heap.objs.size := Heap.lt_size he
    have hil : it < s.heap.objs.size := by obtain ⟨_, q, _⟩ := hit.live; exact Heap.lt_size q
    refine wpAny_pyNext_enum_itemC (draws_K (A := X.A.in1) l (I.ok.hd hc) h1 its) he ⟨hit, hh⟩ (List.getElem?_eq_some_iff.mp hu).1 hne (by simp [hne, Ne.symm h2]) fun y h' tk hy ho hst hT hz hk => ?_
    rw [hu] at hy
    cases hy
    refine ⟨_, rfl, wpAny_letOwnedTupleGo_enum (s := { s with heap := h', toks := tk + 1 }) ho fun h'' he' sb => ?_⟩
    have hT2 : h''.get? s.heap.objs.size = some { cls := .type "tuple", data := .seq #[.int (st + (i : Nat)) tk, u] } := (sb.2 _ (Nat.ne_of_gt hel)).trans hT
    have new : ObjOk X.prog X.w (upd H s.heap.objs.size (.tup [.int (st + (i : Nat)), x])) h'' s.heap.objs.size (.tup [.int (st + (i : Nat)), x]) :=
      ⟨by show 2 ≤ sizeLine; decide, [.int _ tk, u], .cons ⟨_, rfl⟩ (.cons ru .nil), ⟨_, hT2, rfl, _, rfl⟩⟩
    have I1 : Inv X pins σ (upd H s.heap.objs.size (.tup [.int (st + (i : Nat)), x])) { s with heap := h'', toks := tk + 1 } :=
      I.turnedNew (ch := [e, it]) (fun b ob hb q => by
        have b1 : b ≠ e := fun z => hb (by simp [z])
        have b2 : b ≠ it := fun z => hb (by simp [z])
        exact (sb.2 b b1).trans (hk b ob b1 b2 q)) hf (Nat.le_refl _) new
    refine ⟨.ref s.heap.objs.size, _, I1, rfl, ⟨_, x, rfl, I.hok.fresh (Nat.le_refl _), rfl, xs, hq, hx⟩, ⟨⟨u, ?_⟩, hst.1.at fun o q => (sb.2 it (Ne.symm hne)).trans q, hne, h1, h2⟩, fun b hb => ?_⟩
    · rw [show st + ((i + 1 : Nat) : Int) = st + (i : Nat) + 1 by omega]; exact he'
    · have hb' : b < s.heap.objs.size := by
        rcases List.mem_cons.mp hb with rfl | hb
        · exact hel
        · rw [List.mem_singleton.mp hb]; exact hil
      rw [upd_ne (Nat.ne_of_lt hb')]
      exact (hf b hb).1
  done := by
    rintro X rfl rfl rfl hc i pins s σ H E I hf ⟨⟨old, he⟩, hit, hne, h1, h2⟩ ⟨xs, hq, hx⟩
    obtain ⟨its, rv, hh, hal⟩ := seqK_has I hq
    obtain ⟨f0, f1, f2, f3, f4, f5⟩ := hf it (by simp)
    have hl := rv.length
    exact wpAny_pyNext_enum_endD (draws_K (A := X.A.in1) l (I.ok.hd hc) h1 its) he ⟨by rw [← hl, hx]; exact hit, hh⟩ fun h' eb => ⟨rfl, I.turned (t' := s.toks) (fun b o hb q => eb b o hb q) f0 f1 f3 f4 f5⟩
  self := fun A i s Q E ⟨⟨_, he⟩, _⟩ h => wpAny_pyIter_enum he h
set_option maxHeartbeats 2000000 in
theorem meets_enum0 {v : Value} {o : Obj} {H : Heap → Prop} (B : Begins v o H) :
    Meets (Builtin.«enumerate.__new__» ⟨[.type "enumerate", v], []⟩) (fun _ R s => H s.heap ∧
      R (.ok (.ret (.ref (s.heap.push o).objs.size))) { s with heap := (s.heap.push o).push { cls := .type "enumerate", data := .fields #[.none, .bool false, .ref s.heap.objs.size, rawInt 0, .none, .none] } }) :=
  .of_wp fun prog w A R s h => by
    obtain ⟨hp, g, d, tk, os⟩ := s
    obtain ⟨hH, h⟩ := h
    have hs0 := sub_enumerate
    have it0 : ∀ {A' : Around} {E Q}, Q (.ref hp.objs.size) ⟨hp.push o, g, d, tk, os⟩ → wpAny (model prog w) A' (pyIter v) Q E ⟨hp, g, d, tk, os⟩ := fun q => B.iter _ _ _ _ ⟨hp, g, d, tk, os⟩ _ hH q
    wp_walk using it0
    refine wpAny_stack_any fun st => wpAny_pure ?_
    split
    · rename_i c _ _ _ _ _
      cases (c == Value.type "enumerate") <;>
      · wp_walk using it0
        exact ⟨_, rfl, h⟩
    · wp_walk using it0
      exact ⟨_, rfl, h⟩
section
variable {prog : Program} {w : World} {A : Around} {E : Value → Shared → Prop} {s : Shared}
/-- enumerate(v): its two new cells -/
theorem enum_begins0 {v : Value} {o : Obj} {H : Heap → Prop} {Q : Value → Shared → Prop} (B : Begins v o H) (hH : H s.heap)
    (h : ∀ h', IsEnum h' (s.heap.objs.size + 1) s.heap.objs.size 0 .none → h'.get? s.heap.objs.size = some o → (∀ b o, s.heap.get? b = some o → h'.get? b = some o) → Q (.ref (s.heap.objs.size + 1)) { s with heap := h' }) :
    wpAny (model prog w) A (call (.type "enumerate") [v]) Q E s := by
  have hz : (s.heap.push o).objs.size = s.heap.objs.size + 1 := Heap.size_push ..
  have he : IsEnum ((s.heap.push o).push { cls := .type "enumerate", data := .fields #[.none, .bool false, .ref s.heap.objs.size, rawInt 0, .none, .none] }) (s.heap.objs.size + 1) s.heap.objs.size 0 .none := by
    rw [← hz]; exact Heap.get?_push_size _ rfl
  refine callType_new F.called_enumerate (by decide) (F.typeCall_enumerate_1 _) (F.newCall_enumerate_1 _) (fun obj => F.args_object_init_2 obj _) F.entry_enumerate_new (meets_enum0 B) ⟨hH, ?_⟩
  show _ ∧ _
  rw [hz]
  exact ⟨⟨_, he, rfl⟩, h _ he (Heap.get?_push_of_some _ (Heap.get?_push_size _ B.free)) fun b o x => Heap.get?_push_of_some _ (Heap.get?_push_of_some _ x)⟩
end
/-! ### zip of two -/
def ItZ (l m : Bool) (a c : Addr) : It :=
  ⟨fun i H => ∃ xs ys x y, SeqK l H a xs ∧ SeqK m H c ys ∧ xs[i]? = some x ∧ ys[i]? = some y,
    fun i H v H' => ∃ T x y, v = .ref T ∧ H T = none ∧ H' = upd H T (.tup [x, y]) ∧ ∃ xs ys, SeqK l H a xs ∧ SeqK m H c ys ∧ xs[i]? = some x ∧ ys[i]? = some y,
    fun i H => ∃ xs ys : List V, SeqK l H a xs ∧ SeqK m H c ys ∧ i ≤ xs.length ∧ i ≤ ys.length ∧ (i = xs.length ∨ i = ys.length)⟩
theorem turn_zipK {P : Program} {w : World} {K : PySem.W.Frag} {elts : List Expr} {kk : Nat} {tpos : Pos} (l m : Bool) {a c z TI TO i1 i2 : Addr} (S : ZipSep2 z TI TO i1 i2 [i1, a] [i2, c]) :
    Turn P w K (.Tuple elts kk tpos) (ItZ l m a c) [z, TI, TO, i1, i2] z (fun i h => IsZip h z TI TO .none ∧ IsTupOf2 h TI (.ref i1) (.ref i2) ∧ (∃ x y, IsTupOf2 h TO x y) ∧ IterK l h i1 a i ∧ IterK m h i2 c i ∧ a ≠ i1 ∧ c ≠ i2) where
  mem := List.mem_cons_self
  obj := fun i h ⟨hz, hTI, ⟨x, y, hTO⟩, h1, h2, _⟩ b hb => by
    simp only [List.mem_cons, List.not_mem_nil, or_false] at hb
    rcases hb with rfl | rfl | rfl | rfl | rfl
    · exact ⟨_, hz, fun v q => nomatch q⟩
    · exact ⟨_, hTI, fun v q => nomatch q⟩
    · exact ⟨_, hTO, fun v q => nomatch q⟩
    · exact h1.live
    · exact h2.live
  keep := fun i h h' ⟨hz, hTI, ⟨x, y, hTO⟩, h1, h2, hne⟩ k =>
    ⟨k z (by simp) _ hz, k TI (by simp) _ hTI, ⟨x, y, k TO (by simp) _ hTO⟩, h1.at fun o q => k i1 (by simp) o q, h2.at fun o q => k i2 (by simp) o q, hne⟩
  item := by
    rintro X rfl rfl rfl hc i pins s σ H E I hf ⟨hz, hTI, ⟨x0, y0, hTO⟩, h1, h2, n1, n2⟩ ⟨xs, ys, x, y, hqx, hqy, hx, hy⟩
    obtain ⟨its, rv, p, _⟩ := seqK_has I hqx
    obtain ⟨its2, rv2, p2, _⟩ := seqK_has I hqy
    obtain ⟨u, hu, ru⟩ := rv.get hx
    obtain ⟨u2, hu2, ru2⟩ := rv2.get hy
    have hzl : z < s.heap.objs.size := Heap.lt_size hz
    have nz1 : i1 ≠ z := fun e => S.zf1 (by rw [← e]; exact S.mem1)
    have nz2 : i2 ≠ z := fun e => S.zf2 (by rw [← e]; exact S.mem2)
    refine wpAny_pyNext_zipD2_item S (draws_K (A := X.A.in1) l (I.ok.hd hc) n1 its) (draws_K (A := X.A.in1) m (I.ok.hd hc) n2 its2) hz hTI hTO ⟨h1, p⟩ ⟨h2, p2⟩ (List.getElem?_eq_some_iff.mp hu).1 (List.getElem?_eq_some_iff.mp hu2).1 fun x1 x2 h' tk e1 e2 z' TO' st1 st2 hT hsz hk => ?_
    rw [hu] at e1
    rw [hu2] at e2
    cases e1; cases e2
    refine ⟨_, rfl, wpAny_letOwnedTupleGo_zip (s := { s with heap := h', toks := tk }) z' fun h'' z'' sb => ?_⟩
    have hT2 : h''.get? s.heap.objs.size = some { cls := .type "tuple", data := .seq #[u, u2] } := (sb.2 _ (Nat.ne_of_gt hzl)).trans hT
    have new : ObjOk X.prog X.w (upd H s.heap.objs.size (.tup [x, y])) h'' s.heap.objs.size (.tup [x, y]) :=
      ⟨by show 2 ≤ sizeLine; decide, [u, u2], .cons ru (.cons ru2 .nil), ⟨_, hT2, rfl, _, rfl⟩⟩
    have I1 : Inv X pins σ (upd H s.heap.objs.size (.tup [x, y])) { s with heap := h'', toks := tk } :=
      I.turnedNew (ch := [z, TI, TO, i1, i2]) (fun b ob hb q => by
        simp only [List.mem_cons, List.not_mem_nil, or_false, not_or] at hb
        exact (sb.2 b hb.1).trans (hk b ob hb.1 hb.2.2.1 hb.2.2.2.1 hb.2.2.2.2 q)) hf (Nat.le_refl _) new
    have tz : TI ≠ i1 := S.TIi1
    refine ⟨.ref s.heap.objs.size, _, I1, rfl, ⟨_, x, y, rfl, I.hok.fresh (Nat.le_refl _), rfl, xs, ys, hqx, hqy, hx, hy⟩, ⟨z'', ?_, ⟨u, u2, ?_⟩, ?_, ?_, n1, n2⟩, fun b hb => ?_⟩
    · exact (sb.2 _ S.TIz).trans (hk _ _ S.TIz S.TITO S.TIi1 S.TIi2 hTI)
    · exact (sb.2 _ S.TOz).trans TO'
    · exact st1.1.at fun o q => (sb.2 _ nz1).trans q
    · exact st2.1.at fun o q => (sb.2 _ nz2).trans q
    · have hlt : b < s.heap.objs.size := by
        simp only [List.mem_cons, List.not_mem_nil, or_false] at hb
        rcases hb with rfl | rfl | rfl | rfl | rfl
        · exact hzl
        · exact Heap.lt_size hTI
        · exact Heap.lt_size hTO
        · obtain ⟨_, e1, _⟩ := h1.live; exact Heap.lt_size e1
        · obtain ⟨_, e2, _⟩ := h2.live; exact Heap.lt_size e2
      rw [upd_ne (Nat.ne_of_lt hlt)]
      exact (hf b hb).1
  done := by
    rintro X rfl rfl rfl hc i pins s σ H E I hf ⟨hz, hTI, ⟨x0, y0, hTO⟩, h1, h2, n1, n2⟩ ⟨xs, ys, hqx, hqy, le1, le2, hend⟩
    obtain ⟨its, rv, p, _⟩ := seqK_has I hqx
    obtain ⟨its2, rv2, p2, _⟩ := seqK_has I hqy
    have l1 := rv.length
    have l2 := rv2.length
    exact wpAny_pyNext_zipD2_end S (draws_K (A := X.A.in1) l (I.ok.hd hc) n1 its) (draws_K (A := X.A.in1) m (I.ok.hd hc) n2 its2) hz hTI hTO ⟨h1, p⟩ ⟨h2, p2⟩ (by omega) (by omega) (by omega) fun h' tk hk => ⟨rfl, I.turnedL (t' := tk) (ch := [z, TI, TO, i1, i2]) (fun b ob hb q => by
      simp only [List.mem_cons, List.not_mem_nil, or_false, not_or] at hb
      exact hk b ob hb.1 hb.2.2.1 hb.2.2.2.1 hb.2.2.2.2 q) hf⟩
  self := fun A i s Q E st h => wpAny_pyIter_zip st.1 h
end MP
set_option maxHeartbeats 1000000
set_option autoImplicit false
/-! mini: the sources' rules -/
namespace MP
open PySem PySem.Spec PyProof.Rows L2
section
variable {b : Bx} {X : Cx} {Φ : Fx}
theorem jok_rng {lo st : Int} {n b0 : Nat} {J : It} (h1 : ∀ i H, n ≤ i → J.stop i H) (h2 : ∀ i H, i < n → J.go i H) (h3 : ∀ i H x H', J.yld i H x H' → H' = H ∧ x = .int (lo + st * (i : Nat))) : JOk Φ J (.rng lo st n) b0 [] := by
  intro B env fz gs H i R _ _
  simp only [srcAt]
  refine ⟨fun h => h1 i H ?_, fun it h => ?_⟩
  · split at h
    · cases h
    · omega
  · split at h
    · rename_i hi
      cases h
      refine ⟨h2 i H hi, fun x H' hy => ?_⟩
      obtain ⟨rfl, rfl⟩ := h3 i H x H' hy
      exact ⟨Hext.refl, IsD.int _⟩
    · cases h
theorem jok_seq (l : Bool) {J : It} {a : Addr} {b0 : Nat} (h1 : ∀ i H xs, SeqK l H a xs → xs.length = i → J.stop i H) (h2 : ∀ i H xs x, SeqK l H a xs → xs[i]? = some x → J.go i H) (h3 : ∀ i H x H', J.yld i H x H' → H' = H ∧ ∀ xs, SeqK l H a xs → xs[i]? = some x) : JOk Φ J (.seq l) b0 [.ref a] := by
  intro B env fz gs H i R hv hb
  simp only [srcAt]
  have hat := hv 0 (.ref a) rfl
  rw [Nat.add_zero] at hat
  refine ⟨fun h => ?_, fun it h => ?_⟩
  · obtain ⟨o, ho, e⟩ := Option.map_eq_some_iff.mp h
    obtain ⟨a', ws, ea, hq, _, hn, _⟩ := seqAt_ok R hat hb ho
    cases ea
    cases o with
    | none => exact h1 i H ws hq (hn rfl)
    | some x => cases e
  · obtain ⟨o, ho, e⟩ := Option.map_eq_some_iff.mp h
    obtain ⟨a', ws, ea, hq, _, _, hs⟩ := seqAt_ok R hat hb ho
    cases ea
    cases o with
    | none => cases e
    | some x =>
      cases e
      obtain ⟨w, hw, sn⟩ := hs x rfl
      refine ⟨h2 i H ws w hq hw, fun y H' hy => ?_⟩
      obtain ⟨rfl, hx⟩ := h3 i H y H' hy
      have := hx ws hq
      rw [hw] at this
      cases this
      exact ⟨Hext.refl, sn⟩
theorem jok_enm (l : Bool) (st : Int) {a : Addr} {b0 : Nat} : JOk Φ (ItE l st a) (.enm l st) b0 [.ref a] := by
  intro B env fz gs H i R hv hb
  simp only [srcAt]
  have hat := hv 0 (.ref a) rfl
  rw [Nat.add_zero] at hat
  refine ⟨fun h => ?_, fun it h => ?_⟩
  · obtain ⟨o, ho, e⟩ := Option.map_eq_some_iff.mp h
    obtain ⟨a', ws, ea, hq, _, hn, _⟩ := seqAt_ok R hat hb ho
    cases ea
    cases o with
    | none => exact ⟨ws, hq, hn rfl⟩
    | some x => cases e
  · obtain ⟨o, ho, e⟩ := Option.map_eq_some_iff.mp h
    obtain ⟨a', ws, ea, hq, _, _, hs⟩ := seqAt_ok R hat hb ho
    cases ea
    cases o with
    | none => cases e
    | some x =>
      cases e
      obtain ⟨w, hw, sn⟩ := hs x rfl
      refine ⟨⟨ws, w, hq, hw⟩, fun y H' ⟨T, x', ey, hT, eH, xs, hx1, hx2⟩ => ?_⟩
      subst ey; subst eH
      have := seqK_inj hx1 hq
      subst this
      rw [hw] at hx2
      cases hx2
      refine ⟨Hext.new hT, T, _, rfl, upd_same, rfl, fun k v e hk1 hk2 => ?_⟩
      match k, hk1, hk2 with
      | 0, hk1, hk2 => cases hk1; cases hk2; exact IsD.int _
      | 1, hk1, hk2 => cases hk1; cases hk2; exact sn.ext (Hext.new hT)
      | k + 2, hk1, hk2 => cases hk1
theorem jok_zip (l m : Bool) {a c : Addr} {b0 : Nat} : JOk Φ (ItZ l m a c) (.zip [l, m]) b0 [.ref a, .ref c] := by
  intro B env fz gs H i R hv hb
  simp only [srcAt]
  have hat := hv 0 (.ref a) rfl
  have hat2 := hv 1 (.ref c) rfl
  rw [Nat.add_zero] at hat
  have key : ∀ {o}, seqsAt env i b0 [l, m] = some o → ∃ o1 o2, seqAt l env b0 i = some o1 ∧ seqAt m env (b0 + 1) i = some o2 ∧ o = (match o1, o2 with | some x, some y => some [x, y] | _, _ => none) := by
    intro o h
    simp only [seqsAt] at h
    cases h1 : seqAt l env b0 i with
    | none => rw [h1] at h; cases h
    | some o1 =>
      rw [h1] at h
      cases h2 : seqAt m env (b0 + 1) i with
      | none => rw [h2] at h; cases o1 <;> cases h
      | some o2 =>
        rw [h2] at h
        refine ⟨o1, o2, rfl, rfl, ?_⟩
        cases o1 <;> cases o2 <;> cases h <;> rfl
  refine ⟨fun h => ?_, fun it h => ?_⟩
  · obtain ⟨o, ho, e⟩ := Option.map_eq_some_iff.mp h
    obtain ⟨o1, o2, e1, e2, eo⟩ := key ho
    obtain ⟨a', ws, ea, hq, le1, hn1, _⟩ := seqAt_ok R hat hb e1
    obtain ⟨c', zs, ec, hq2, le2, hn2, _⟩ := seqAt_ok R hat2 (by omega) e2
    cases ea; cases ec
    refine ⟨ws, zs, hq, hq2, le1, le2, ?_⟩
    cases o1 with
    | none => exact .inl (hn1 rfl).symm
    | some x =>
      cases o2 with
      | none => exact .inr (hn2 rfl).symm
      | some y => subst eo; cases e
  · obtain ⟨o, ho, e⟩ := Option.map_eq_some_iff.mp h
    obtain ⟨o1, o2, e1, e2, eo⟩ := key ho
    obtain ⟨a', ws, ea, hq, _, _, hs⟩ := seqAt_ok R hat hb e1
    obtain ⟨c', zs, ec, hq2, _, _, hs2⟩ := seqAt_ok R hat2 (by omega) e2
    cases ea; cases ec
    cases o1 with
    | none => subst eo; cases e
    | some x =>
      cases o2 with
      | none => subst eo; cases e
      | some y =>
        subst eo
        cases e
        obtain ⟨w, hw, sn⟩ := hs x rfl
        obtain ⟨w2, hw2, sn2⟩ := hs2 y rfl
        refine ⟨⟨ws, zs, w, w2, hq, hq2, hw, hw2⟩, fun v H' ⟨T, x', y', ey, hT, eH, xs, ys, hx1, hx2, hx3, hx4⟩ => ?_⟩
        subst ey; subst eH
        have := seqK_inj hx1 hq
        subst this
        have := seqK_inj hx2 hq2
        subst this
        rw [hw] at hx3
        rw [hw2] at hx4
        cases hx3; cases hx4
        refine ⟨Hext.new hT, T, _, rfl, upd_same, rfl, fun k v e hk1 hk2 => ?_⟩
        match k, hk1, hk2 with
        | 0, hk1, hk2 => cases hk1; cases hk2; exact sn.ext (Hext.new hT)
        | 1, hk1, hk2 => cases hk1; cases hk2; exact sn2.ext (Hext.new hT)
        | k + 2, hk1, hk2 => cases hk1
/-! ### the rules -/
theorem walkL_one {env : Ev} {x : En} {r : List En × List Bool} (h : walkL env [x] = some r) : ∃ y l, walkE env x = some (y, l) ∧ r = ([y], [l]) := by
  simp only [walkL] at h
  cases hw : walkE env x with
  | none => rw [hw] at h; cases h
  | some q => rw [hw] at h; cases h; exact ⟨q.1, q.2, rfl, rfl⟩
/-- a value's kind, where it may be walked -/
theorem Px.kind {B : List (Option V)} {env : Ev} {S T : Tmp} {H : Hp} (p : Px Φ B env (S ++ T) H) {j : Nat} {v : V} {x y : En} {l : Bool} (hj : T[j]? = some (some v, x)) (h : walkE env x = some (y, l)) : ∃ a ws, v = .ref a ∧ SeqK l H a ws := by
  obtain ⟨t, hr⟩ := walkE_res h
  obtain ⟨fz, g, rfl, ho⟩ := p.at_ hj hr
  exact walkE_kind h hr ho
theorem pI_seq {tg e : Expr} {x : Ex} (he : PE X e (tE b x)) : PI X tg e (tI b .seq (.cons x .nil)) := by
  refine ⟨fun pins s σ H Rr I ⟨R, env, S, p, q⟩ => ?_⟩
  simp only [evI, evL] at q
  cases hx : evE b.C x env with
  | stuck => rw [hx] at q; exact q.elim
  | exc c d en =>
    rw [hx] at q
    exact (pi_list he).run pins s σ H Rr I ⟨R, env, S, p, by rw [hx]; exact q⟩
  | ok q1 =>
    rw [hx] at q
    simp only [Res.bind_ok] at q
    obtain ⟨r, hr, q2⟩ := Sat.ofO q
    simp only [mkSrc] at hr
    split at hr <;> try (cases hr; done)
    rename_i y l hw
    cases hr
    obtain ⟨y', l', hw1, e1⟩ := walkL_one hw
    cases e1
    have fin : ∀ {v H1}, Px b.Φ (σ ++ R) q1.1 (S ++ [(some v, q1.2)]) H1 → ∃ a ws, v = .ref a ∧ SeqK l H1 a ws ∧ ∀ J, JOk b.Φ J (.seq l) q1.1.length [.ref a] → Rr J H1 := fun {v H1} p1 => by
      obtain ⟨a, ws, rfl, hq⟩ := p1.kind (j := 0) rfl hw1
      refine ⟨a, ws, rfl, hq, fun J hJ => ?_⟩
      obtain ⟨_, _, p2⟩ := Px.walk (vs := [.ref a]) (xs := [q1.2]) p1 rfl hw
      exact q2 J [.ref a] H1 rfl hJ p2
    cases l with
    | true =>
      refine (pi_list he).run pins s σ H Rr I ⟨R, env, S, p, ?_⟩
      rw [hx]
      intro v H1 p1
      obtain ⟨a, ws, rfl, hq, k⟩ := fin p1
      exact ⟨a, rfl, ⟨ws, .inl hq⟩, k _ (jok_seq true (fun i H xs h1 h2 => ⟨xs, .inl h1, by omega⟩) (fun i H xs x h1 h2 => ⟨xs, x, .inl h1, h2⟩) fun i H x H' h => ⟨h.1, fun xs h1 => h.2 xs (.inl h1)⟩)⟩
    | false =>
      refine (pi_tup he).run pins s σ H Rr I ⟨R, env, S, p, ?_⟩
      rw [hx]
      intro v H1 p1
      obtain ⟨a, ws, rfl, hq, k⟩ := fin p1
      exact ⟨a, rfl, ⟨ws, .inl hq⟩, k _ (jok_seq false (fun i H xs h1 h2 => ⟨xs, .inl h1, by omega⟩) (fun i H xs x h1 h2 => ⟨xs, x, .inl h1, h2⟩) fun i H x H' h => ⟨h.1, fun xs h1 => h.2 xs (.inl h1)⟩)⟩
theorem piImp {tg e : Expr} {t t' : TI} (h : PI X tg e t) (k : ∀ σ H R, t' σ H R → t σ H R) : PI X tg e t' := ⟨fun pins s σ H R I q => h.run pins s σ H R I (k σ H R q)⟩
theorem pI_rng1 {tg a : Expr} {xs : Ex} {p pos : Pos} (hg : Gl X "range") (hm : X.mg "range" = none) (ha : PA X [a] (tL b xs)) (hs : starEach [a] X.env = [(false, eval a X.env)]) (h1 : ∃ x, xs = .cons x .nil) : PI X tg (.Call (.Name "range" p) [a] [] pos) (tI b .rng xs) :=
  piImp (pi_range1 hg hm ha hs) fun σ H Rr ⟨R, env, S, p, q⟩ => by
    obtain ⟨x, rfl⟩ := h1
    refine ⟨R, env, S, p, q.bind fun q1 e1 s1 vs H1 hl p1 => ?_⟩
    obtain ⟨r, hr, s2⟩ := s1.ofO
    obtain ⟨z, hz⟩ : ∃ z, q1.2 = [z] := by
      simp only [evL] at e1
      cases hx : evE b.C x env with
      | ok r => rw [hx] at e1; cases e1; exact ⟨_, rfl⟩
      | stuck => rw [hx] at e1; cases e1
      | exc _ _ _ => rw [hx] at e1; cases e1
    rw [hz] at hr hl p1
    obtain ⟨v, rfl⟩ := one_arg hl
    simp only [mkSrc] at hr
    split at hr <;> try (cases hr; done)
    rename_i n hn
    split at hr <;> try (cases hr; done)
    rename_i hlim
    cases hr
    cases p1.intAt (j := 0) rfl hn
    simp only [lim62, Bool.and_eq_true, decide_eq_true_eq] at hlim
    refine ⟨n, rfl, hlim.1, hlim.2, s2 _ [] H1 rfl (jok_rng (fun i H h => h) (fun i H h => h) fun i H x H' h => ⟨h.1, by rw [h.2]; congr 1; omega⟩) ?_⟩
    simpa using p1.pop
theorem pI_rng2 {tg a c : Expr} {x y : Ex} {p pos : Pos} (hg : Gl X "range") (hm : X.mg "range" = none) (ha : PA X [a, c] (tL b (.cons x (.cons y .nil)))) (hs : starEach [a, c] X.env = [(false, eval a X.env), (false, eval c X.env)]) (hs2 : starEach [c] X.env = [(false, eval c X.env)]) : PI X tg (.Call (.Name "range" p) [a, c] [] pos) (tI b .rng (.cons x (.cons y .nil))) :=
  piImp (pi_range2 hg hm ha hs hs2) fun σ H Rr ⟨R, env, S, p, q⟩ => by
    refine ⟨R, env, S, p, q.bind fun q1 e1 s1 vs H1 hl p1 => ?_⟩
    obtain ⟨r, hr, s2⟩ := s1.ofO
    obtain ⟨z, w, hz⟩ : ∃ z w, q1.2 = [z, w] := by
      simp only [evL] at e1
      cases hx : evE b.C x env with
      | ok r =>
        rw [hx] at e1
        simp only [Res.bind_ok] at e1
        cases hy : evE b.C y r.1 with
        | ok r2 => rw [hy] at e1; cases e1; exact ⟨_, _, rfl⟩
        | stuck => rw [hy] at e1; cases e1
        | exc _ _ _ => rw [hy] at e1; cases e1
      | stuck => rw [hx] at e1; cases e1
      | exc _ _ _ => rw [hx] at e1; cases e1
    rw [hz] at hr hl p1
    obtain ⟨v, v2, rfl⟩ := two_arg hl
    simp only [mkSrc] at hr
    split at hr <;> try (cases hr; done)
    rename_i n m hn hm2
    split at hr <;> try (cases hr; done)
    rename_i hlim
    cases hr
    cases p1.intAt (j := 0) rfl hn
    cases p1.intAt (j := 1) rfl hm2
    simp only [lim62, Bool.and_eq_true, decide_eq_true_eq] at hlim
    refine ⟨n, m, rfl, ⟨hlim.1.1, hlim.1.2, hlim.2.1, hlim.2.2⟩, s2 _ [] H1 rfl (jok_rng (fun i H h => h) (fun i H h => h) fun i H x H' h => ⟨h.1, by rw [h.2]; congr 1; omega⟩) ?_⟩
    simpa using p1.pop
theorem evL_one {C : Cl} {x : Ex} {env : Ev} {q : Ev × List En} (h : evL C (.cons x .nil) env = .ok q) : ∃ z, q.2 = [z] := by
  simp only [evL] at h
  cases hx : evE C x env with
  | ok r => rw [hx] at h; cases h; exact ⟨_, rfl⟩
  | stuck => rw [hx] at h; cases h
  | exc _ _ _ => rw [hx] at h; cases h
theorem evL_two {C : Cl} {x y : Ex} {env : Ev} {q : Ev × List En} (h : evL C (.cons x (.cons y .nil)) env = .ok q) : ∃ z w, q.2 = [z, w] := by
  simp only [evL] at h
  cases hx : evE C x env with
  | stuck => rw [hx] at h; cases h
  | exc _ _ _ => rw [hx] at h; cases h
  | ok r =>
    rw [hx] at h
    simp only [Res.bind_ok] at h
    cases hy : evE C y r.1 with
    | ok r2 => rw [hy] at h; cases h; exact ⟨_, _, rfl⟩
    | stuck => rw [hy] at h; cases h
    | exc _ _ _ => rw [hy] at h; cases h
theorem enum_pie {pins : List (Addr × Obj)} {s1 : Shared} {σ : L2.St} {H1 : Hp} {Rr : It → Hp → Prop} {elts : List Expr} {kk : Nat} {tpos : Pos} {l : Bool} {st : Int} {a : Addr} {h' : Heap} (I1 : Inv X pins σ H1 s1) (hal : a < s1.heap.objs.size) (he : IsEnum h' (s1.heap.objs.size + 1) s1.heap.objs.size st .none) (ho : h'.get? s1.heap.objs.size = some (itObj l a)) (hk : ∀ b o, s1.heap.get? b = some o → h'.get? b = some o) (q : Rr (ItE l st a) H1) :
    wpAny (model X.prog X.w) X.A (pyIter (.ref (s1.heap.objs.size + 1))) (PIE X pins σ (.Tuple elts kk tpos) Rr) X.xe { s1 with heap := h' } := by
  refine wpAny_pyIter_enum he ?_
  have I2 : Inv X pins σ H1 { s1 with heap := h' } := I1.kept (t' := s1.toks) hk
  refine ⟨s1.heap.objs.size + 1, [s1.heap.objs.size + 1, s1.heap.objs.size], _, _, H1, rfl, I2, turn_enumK l st a (s1.heap.objs.size + 1) s1.heap.objs.size, ⟨⟨.none, ?_⟩, iterK_new ho, Nat.succ_ne_self _, Nat.ne_of_lt hal, Nat.ne_of_lt (Nat.lt_succ_of_lt hal)⟩, fun c hc => ?_, q⟩
  · rw [show st + ((0 : Nat) : Int) = st by omega]; exact he
  · have hle : s1.heap.objs.size ≤ c := by
      rcases List.mem_cons.mp hc with rfl | hc
      · exact Nat.le_succ _
      · rw [List.mem_singleton.mp hc]; exact Nat.le_refl _
    exact I1.fpOk hle (I1.hok.fresh hle)
theorem pI_enm {e : Expr} {x : Ex} {p pos tpos : Pos} {elts : List Expr} {kk : Nat} (hg : Gl X "enumerate") (hm : X.mg "enumerate" = none) (ha : PA X [e] (tL b (.cons x .nil))) (hs : starEach [e] X.env = [(false, eval e X.env)]) : PI X (.Tuple elts kk tpos) (.Call (.Name "enumerate" p) [e] [] pos) (tI b .enm (.cons x .nil)) := by
  refine ⟨fun pins s σ H Rr I ⟨R, env, S, p, q⟩ => ?_⟩
  refine Call_ (ld_blt I hg hm boot_enumerate (PyProof.Rows.callWith_type1 (thn (ha.run pos pins s σ H (fun vs H1 => ∃ a ws l, vs = [V.ref a] ∧ SeqK l H1 a ws ∧ Rr (ItE l 0 a) H1) I ⟨R, env, S, p, q.bind fun q1 e1 s1 vs H1 hl p1 => ?_⟩) fun us s1 ⟨vs, H1, I1, r1, a, ws, l, e, hq, hr⟩ => ?_) hs rfl))
  · obtain ⟨r, hr, s2⟩ := s1.ofO
    obtain ⟨z, hz⟩ := evL_one e1
    simp only [mkSrc] at hr
    rw [hz] at hr hl p1
    obtain ⟨v, rfl⟩ := one_arg hl
    split at hr <;> try (cases hr; done)
    rename_i y l hw
    cases hr
    obtain ⟨y', l', hw1, e2⟩ := walkL_one hw
    cases e2
    obtain ⟨a, ws, rfl, hq⟩ := p1.kind (j := 0) rfl hw1
    obtain ⟨_, _, p2⟩ := Px.walk (vs := [.ref a]) (xs := [z]) p1 rfl hw
    exact ⟨a, ws, l, rfl, hq, s2 _ [.ref a] H1 rfl (jok_enm l 0) p2⟩
  · subst e
    rw [Vals.ref1 r1]
    obtain ⟨its, rv, hh, hal⟩ := seqK_has I1 hq
    exact enum_begins0 (begins_K l a its.toArray) hh fun h' he ho hk => enum_pie I1 hal he ho hk hr
theorem pI_zip {e e2 : Expr} {x y : Ex} {p pos tpos : Pos} {elts : List Expr} {kk : Nat} (hg : Gl X "zip") (hm : X.mg "zip" = none) (ha : PA X [e, e2] (tL b (.cons x (.cons y .nil)))) (hs : starEach [e, e2] X.env = (false, eval e X.env) :: starEach [e2] X.env) (hpl : (backTo pos (starEach [e2] X.env)).any (·.1) = false) :
    PI X (.Tuple elts kk tpos) (.Call (.Name "zip" p) [e, e2] [] pos) (tI b .zip (.cons x (.cons y .nil))) := by
  refine ⟨fun pins s σ H Rr I ⟨R, env, S, p, q⟩ => ?_⟩
  refine Call_ (ld_blt I hg hm PyProof.Rows.boot_zip (PyProof.Rows.callWith_type1 (thn (ha.run pos pins s σ H (fun vs H1 => ∃ a c ws zs l m, vs = [V.ref a, V.ref c] ∧ SeqK l H1 a ws ∧ SeqK m H1 c zs ∧ Rr (ItZ l m a c) H1) I ⟨R, env, S, p, q.bind fun q1 e1 s1 vs H1 hl p1 => ?_⟩) fun us s1 ⟨vs, H1, I1, r1, a, c, ws, zs, l, m, e, hq, hq2, hr⟩ => ?_) hs hpl))
  · obtain ⟨r, hr, s2⟩ := s1.ofO
    obtain ⟨z, w, hz⟩ := evL_two e1
    simp only [mkSrc] at hr
    rw [hz] at hr hl p1
    obtain ⟨v, v2, rfl⟩ := two_arg hl
    split at hr <;> try (cases hr; done)
    rename_i y1 y2 l m hw
    cases hr
    obtain ⟨hw1, hw2⟩ : walkE q1.1 z = some (y1, l) ∧ walkE q1.1 w = some (y2, m) := by
      simp only [walkL] at hw
      cases h1 : walkE q1.1 z with
      | none => rw [h1] at hw; cases hw
      | some r1 =>
        cases h2 : walkE q1.1 w with
        | none => rw [h1, h2] at hw; cases hw
        | some r2 => rw [h1, h2] at hw; cases hw; exact ⟨rfl, rfl⟩
    obtain ⟨a, ws, rfl, hq⟩ := p1.kind (j := 0) rfl hw1
    obtain ⟨c, zs, rfl, hq2⟩ := p1.kind (j := 1) rfl hw2
    obtain ⟨_, _, p2⟩ := Px.walk (vs := [.ref a, .ref c]) (xs := [z, w]) p1 rfl hw
    exact ⟨a, c, ws, zs, l, m, rfl, hq, hq2, s2 _ [.ref a, .ref c] H1 rfl (jok_zip l m) p2⟩
  · subst e
    obtain ⟨u1, u2, rfl, ra, rc⟩ := vals2 r1
    cases ra; cases rc
    obtain ⟨its, rv, hh, hal⟩ := seqK_has I1 hq
    obtain ⟨its2, rv2, hh2, hcl⟩ := seqK_has I1 hq2
    refine zip_begins2 (begins_K l a its.toArray) (begins_K m c its2.toArray) hh hh2 fun h' hz hTI hTO h1 h2 _ hk => wpAny_pyIter_zip hz ?_
    have I2 : Inv X pins σ H1 { s1 with heap := h' } := I1.kept (t' := s1.toks) hk
    refine ⟨_, [s1.heap.objs.size + 4, s1.heap.objs.size + 2, s1.heap.objs.size + 3, s1.heap.objs.size, s1.heap.objs.size + 1], _, _, H1, rfl, I2, turn_zipK l m (zip_sep2 (N := s1.heap.objs.size) (fp1 := [a]) (fp2 := [c]) (by simpa using hal) (by simpa using hcl)), ⟨hz, hTI, ⟨_, _, hTO⟩, iterK_new h1, iterK_new h2, Nat.ne_of_lt hal, Nat.ne_of_lt (Nat.lt_succ_of_lt hcl)⟩, fun d hd => ?_, hr⟩
    have hle : s1.heap.objs.size ≤ d := by
      simp only [List.mem_cons, List.not_mem_nil, or_false] at hd
      rcases hd with rfl | rfl | rfl | rfl | rfl
      · exact Nat.le_add_right _ _
      · exact Nat.le_add_right _ _
      · exact Nat.le_add_right _ _
      · exact Nat.le_refl _
      · exact Nat.le_add_right _ _
    exact I1.fpOk hle (I1.hok.fresh hle)
end
end MP
set_option maxHeartbeats 1000000
set_option autoImplicit false
/-! mini: list comprehensions -/
namespace MP
open PySem PySem.Spec PyProof.Rows L2
section
variable {Φ : Fx} {B : List (Option V)} {vs : List (Option V)} {es env : Ev} {S T : Tmp} {H H' : Hp} {fz : Addr → Prop} {gs : List G}
/-- an entry that is no root is another one -/
theorem Rel.setN (R : Rel Φ vs es H fz gs) {i : Nat} {e x : En} {v : Option V} (hi : es[i]? = some e) (he : isRoot e = false) (h : SeenO Φ H fz es gs v x) : Rel Φ (vs.set i v) (es.set i x) H fz gs := by
  have lv := R.lenv
  have hlt : i < es.length := (List.getElem?_eq_some_iff.mp hi).1
  have hgi : gs[i]? = some (.lf .non) := by
    have E := R.ent i e hi
    cases e with
    | un => exact E
    | fr d => exact E.1
    | al s p => exact E.1
    | own t => cases he
    | fd d => cases he
  have keep : ∀ {s p v'}, AlOk H fz es gs s p v' → AlOk H fz (es.set i x) gs s p v' := fun {s p v'} ha => by
    refine AlOk.shift ?_ rfl ha
    rw [List.getElem?_set]
    split
    · rename_i e1
      subst e1
      unfold AlOk at ha
      rw [hi] at ha
      cases e <;> simp_all [isRoot]
    · rfl
  refine ⟨by simp [lv], by rw [R.leng]; simp, by rw [List.length_set]; exact R.big, fun j s p hj => ?_, fun j e' hj => ?_, R.nod, R.nfz, R.tr, R.frm, R.fzi, R.fzo⟩
  · rw [List.getElem?_set] at hj
    by_cases hij : i = j
    · rw [if_pos hij, if_pos hlt] at hj
      cases hj; exact h.nal s p rfl
    · rw [if_neg hij] at hj
      exact R.als _ _ _ hj
  · rw [List.getElem?_set] at hj
    by_cases e1 : i = j
    · subst e1
      rw [if_pos rfl, if_pos hlt] at hj
      cases hj
      have hv : (vs.set i v)[i]? = some v := by rw [List.getElem?_set, if_pos rfl, if_pos (by omega)]
      rcases h with rfl | ⟨w, rfl, h⟩
      · exact hgi
      · cases x with
        | fr d => exact ⟨hgi, w, hv, h⟩
        | al s p => exact ⟨hgi, w, hv, keep h.2⟩
        | un => exact hgi
        | _ => exact False.elim h
    · have hne := e1
      rw [if_neg e1] at hj
      have E := R.ent j e' hj
      have hvj : (vs.set i v)[j]? = vs[j]? := by rw [List.getElem?_set, if_neg hne]
      cases e' with
      | un => exact E
      | fr d => obtain ⟨h1, w, h2, h3⟩ := E; exact ⟨h1, w, hvj.trans h2, h3⟩
      | fd d => obtain ⟨h1, w, h2, h3⟩ := E; exact ⟨h1, w, hvj.trans h2, h3⟩
      | own t => obtain ⟨g, h1, h2, h3⟩ := E; exact ⟨g, h1, hvj.trans h2, h3⟩
      | al s p => obtain ⟨h1, w, h2, h3⟩ := E; exact ⟨h1, w, hvj.trans h2, keep h3⟩
/-- nobody sees through a slot that is no root -/
theorem unr_id (R : Rel Φ vs es H fz gs) {i : Nat} {e : En} (hi : es[i]? = some e) (he : isRoot e = false) {j : Nat} {x : En} (hj : es[j]? = some x) : unr env i x = x := by
  cases x with
  | al s p =>
    simp only [unr]
    split
    · rename_i e1
      subst e1
      obtain ⟨_, w, _, ha⟩ := R.ent _ _ hj
      unfold AlOk at ha
      rw [hi] at ha
      cases e <;> simp_all [isRoot]
    · rfl
  | _ => rfl
theorem unr_id' {i : Nat} {e : En} (hi : es[i]? = some e) (he : isRoot e = false) {v : V} {x : En} (h : Seen Φ H fz es gs v x) : unr env i x = x := by
  cases x with
  | al s p =>
    simp only [unr]
    split
    · rename_i e1
      subst e1
      have ha := h.2
      unfold AlOk at ha
      rw [hi] at ha
      cases e <;> simp_all [isRoot]
    · rfl
  | _ => rfl
/-- names that are no roots get values that own nothing -/
theorem puts_set : ∀ {l : List (Nat × En)} {B : List (Option V)} {env : Ev} {gs : List G} {wv : List V}, Rel Φ (B ++ T.map (·.1)) (env ++ T.map (·.2)) H fz gs → B.length = env.length → Φ.n ≤ env.length → (∀ q ∈ l, q.1 < env.length ∧ ∀ e, env[q.1]? = some e → isRoot e = false) → wv.length = l.length →
    (∀ (k : Nat) (v : V) (q : Nat × En), wv[k]? = some v → l[k]? = some q → Seen Φ H fz (env ++ T.map (·.2)) gs v q.2) →
    (MP.puts env l).length = env.length ∧ Rel Φ (putV B (l.map (·.1)) wv ++ T.map (·.1)) (MP.puts env l ++ T.map (·.2)) H fz gs
  | [], B, env, gs, wv, R, hB, hn, hr, hl, hs => by
    rw [MP.puts]
    have : wv = [] := by simpa using hl
    subst this
    exact ⟨rfl, R⟩
  | (i, x) :: r, B, env, gs, wv, R, hB, hn, hr, hl, hs => by
    cases wv with
    | nil => cases hl
    | cons v wv =>
      obtain ⟨hlt, hroot⟩ := hr (i, x) List.mem_cons_self
      have hei : env[i]? = some env[i] := by simp [hlt]
      have hnr := hroot _ hei
      have hes : (env ++ T.map (·.2))[i]? = some env[i] := by rw [List.getElem?_append_left hlt]; exact hei
      have hsx := hs 0 v (i, x) rfl rfl
      have e1 : env.map (unr env i) = env := by
        refine List.ext_getElem? fun j => ?_
        rw [List.getElem?_map]
        cases hj : env[j]? with
        | none => rfl
        | some y =>
          have hjl := (List.getElem?_eq_some_iff.mp hj).1
          simp only [Option.map_some]
          rw [unr_id R hes hnr (j := j) (x := y) (by rw [List.getElem?_append_left hjl]; exact hj)]
      have e2 : unr env i x = x := unr_id' hes hnr hsx
      have e3 : r.map (fun q => (q.1, unr env i q.2)) = r := by
        refine List.ext_getElem? fun j => ?_
        rw [List.getElem?_map]
        cases hj : r[j]? with
        | none => rfl
        | some q =>
          have hjl : j < wv.length := by have := (List.getElem?_eq_some_iff.mp hj).1; simp at hl; omega
          have := hs (j + 1) wv[j] q (by simp [hjl]) hj
          simp only [Option.map_some]
          rw [unr_id' hes hnr this]
      rw [MP.puts, e1, e2, e3]
      have R1 := R.setN hes hnr (SeenO.of hsx)
      have eB : (B ++ T.map (·.1)).set i (some v) = B.set i (some v) ++ T.map (·.1) := set_app_left (by omega)
      have eE : (env ++ T.map (·.2)).set i x = env.set i x ++ T.map (·.2) := set_app_left hlt
      rw [eB, eE] at R1
      have hxr : isRoot x = false := by cases x <;> first | rfl | exact False.elim hsx
      have shf : ∀ {v' : V} {y : En}, Seen Φ H fz (env ++ T.map (·.2)) gs v' y → Seen Φ H fz (env.set i x ++ T.map (·.2)) gs v' y := fun {v' y} h => by
        cases y with
        | al s p =>
          refine ⟨h.1, AlOk.shift ?_ rfl h.2⟩
          rw [← eE, List.getElem?_set]
          split
          · rename_i e4
            subst e4
            have ha := h.2
            unfold AlOk at ha
            rw [hes] at ha
            revert ha
            cases hz : env[i] <;> simp_all [isRoot]
          · rfl
        | fr d => exact h
        | un => trivial
        | _ => exact False.elim h
      obtain ⟨h1, h2⟩ := puts_set (l := r) (wv := wv) R1 (by simp [hB]) (by rw [List.length_set]; exact hn) (fun q hq => by
          obtain ⟨a1, a2⟩ := hr q (List.mem_cons_of_mem _ hq)
          refine ⟨by rw [List.length_set]; exact a1, fun e he => ?_⟩
          rw [List.getElem?_set] at he
          by_cases e5 : i = q.1
          · rw [if_pos e5, if_pos hlt] at he; cases he; exact hxr
          · rw [if_neg e5] at he; exact a2 e he) (by simpa using hl) (fun k v' q hv hq => shf (hs (k + 1) v' q hv hq))
      refine ⟨by rw [h1, List.length_set], ?_⟩
      simpa [putV] using h2
theorem rooted_no {env : Ev} {l : List Nat} (h : rooted env l = false) : ∀ i ∈ l, ∀ e, env[i]? = some e → isRoot e = false := fun i hi e he => by
  have := List.any_eq_false.mp h i hi
  rw [List.getD_eq_getElem?_getD, he] at this
  simpa using this
/-- the slots of a block's own names forgotten -/
theorem Rel.wipe : ∀ {l : List Nat} {B : List (Option V)} {env : Ev}, Rel Φ (B ++ T.map (·.1)) (env ++ T.map (·.2)) H fz gs → B.length = env.length → (∀ i ∈ l, i < env.length ∧ ∀ e, env[i]? = some e → isRoot e = false) →
    (wipeE env l).length = env.length ∧ Rel Φ (l.foldl (fun B i => B.set i none) B ++ T.map (·.1)) (wipeE env l ++ T.map (·.2)) H fz gs
  | [], B, env, R, hB, h => ⟨rfl, R⟩
  | i :: l, B, env, R, hB, h => by
    obtain ⟨hlt, hr⟩ := h i List.mem_cons_self
    have hei : env[i]? = some env[i] := by simp [hlt]
    have hes : (env ++ T.map (·.2))[i]? = some env[i] := by rw [List.getElem?_append_left hlt]; exact hei
    have R1 := R.setN (v := none) (x := .un) hes (hr _ hei) (.inl rfl)
    rw [set_app_left (by omega), set_app_left hlt] at R1
    obtain ⟨h1, h2⟩ := Rel.wipe (l := l) R1 (by simp [hB]) fun j hj => by
      obtain ⟨a1, a2⟩ := h j (List.mem_cons_of_mem _ hj)
      refine ⟨by rw [List.length_set]; exact a1, fun e he => ?_⟩
      rw [List.getElem?_set] at he
      by_cases e5 : i = j
      · rw [if_pos e5, if_pos hlt] at he; cases he; rfl
      · rw [if_neg e5] at he; exact a2 e he
    exact ⟨by simp only [wipeE, List.foldl_cons] at h1 ⊢; rw [h1, List.length_set], h2⟩
/-- handed back -/
theorem Rel.rest : ∀ {l : List Nat} {xs : List En} {sv : List (Option V)} {B : List (Option V)} {env : Ev}, Rel Φ (B ++ T.map (·.1)) (env ++ T.map (·.2)) H fz gs → B.length = env.length → (∀ i ∈ l, i < env.length ∧ ∀ e, env[i]? = some e → isRoot e = false) → sv.length = xs.length → l.length = xs.length →
    (∀ (k : Nat) (v : Option V) (x : En), sv[k]? = some v → xs[k]? = some x → SeenO Φ H fz (env ++ T.map (·.2)) gs v (vwE x)) →
    (restE env l xs).length = env.length ∧ Rel Φ ((l.zip sv).foldl (fun B q => B.set q.1 q.2) B ++ T.map (·.1)) (restE env l xs ++ T.map (·.2)) H fz gs
  | [], xs, sv, B, env, R, hB, h, hl, hl2, hs => by
    have e : restE env [] xs = env := by cases xs <;> rfl
    rw [e]
    exact ⟨rfl, by simpa using R⟩
  | i :: l, [], sv, B, env, R, hB, h, hl, hl2, hs => by cases hl2
  | i :: l, x :: xs, [], B, env, R, hB, h, hl, hl2, hs => by cases hl
  | i :: l, x :: xs, v :: sv, B, env, R, hB, h, hl, hl2, hs => by
    obtain ⟨hlt, hr⟩ := h i List.mem_cons_self
    have hei : env[i]? = some env[i] := by simp [hlt]
    have hes : (env ++ T.map (·.2))[i]? = some env[i] := by rw [List.getElem?_append_left hlt]; exact hei
    have hnr := hr _ hei
    have h0 := hs 0 v x rfl rfl
    have R1 := R.setN hes hnr h0
    rw [set_app_left (by omega), set_app_left hlt] at R1
    have hxr : isRoot (vwE x) = false := by cases x <;> rfl
    obtain ⟨h1, h2⟩ := Rel.rest (l := l) (xs := xs) (sv := sv) R1 (by simp [hB]) (fun j hj => by
      obtain ⟨a1, a2⟩ := h j (List.mem_cons_of_mem _ hj)
      refine ⟨by rw [List.length_set]; exact a1, fun e he => ?_⟩
      rw [List.getElem?_set] at he
      by_cases e5 : i = j
      · rw [if_pos e5, if_pos hlt] at he; cases he; exact hxr
      · rw [if_neg e5] at he; exact a2 e he) (by simpa using hl) (by simpa using hl2) (fun k v' y hv hy => by
        have := hs (k + 1) v' y hv hy
        rcases this with e | ⟨w, e, h⟩
        · exact .inl e
        · refine .inr ⟨w, e, ?_⟩
          revert h
          cases hz : vwE y with
          | al s p =>
            intro h
            refine ⟨h.1, AlOk.shift ?_ rfl h.2⟩
            rw [← set_app_left hlt, List.getElem?_set]
            split
            · rename_i e4
              subst e4
              have ha := h.2
              unfold AlOk at ha
              rw [hes] at ha
              revert ha
              cases hq : env[i] <;> simp_all [isRoot]
            · rfl
          | fr d => exact fun h => h
          | un => exact fun _ => trivial
          | own t => exact fun h => False.elim h
          | fd d => exact fun h => False.elim h)
    refine ⟨by simp only [restE]; rw [h1, List.length_set], ?_⟩
    simpa [restE] using h2
end
end MP
set_option maxHeartbeats 1000000
set_option autoImplicit false
/-! mini: list comprehensions, the rules -/
namespace MP
open PySem PySem.Spec PyProof.Rows L2
/-- no exception leaves -/
abbrev Bx.nox (b : Bx) : Bx := { b with W := fun _ _ _ _ => False }
section
variable {b : Bx} {X : Cx}
theorem ptsImp {ifs : List Expr} {t t' : TT} (h : PTs X ifs t) (k : ∀ σ H Q, t' σ H Q → t σ H Q) : PTs X ifs t' := ⟨fun pins s σ H Q I q => h.run pins s σ H Q I (k σ H Q q)⟩
theorem pTs_nil : PTs X [] (tT b (.bl true)) := ptsImp pts_nil fun σ H Q ⟨R, env, S, p, q⟩ => by
  have e : evT b.C (.bl true) env = .ok (env, true) := rfl
  rw [e] at q
  exact q H p
theorem pTs_one {c : Expr} {x : Ex} (h : PT X c (tT b x)) : PTs X [c] (tT b x) := pts_one h
/-- the slots of a target -/
def tgIn (l : List Nat) : Tg → Bool
  | .nm i => l.contains i
  | .tup t => tgIn l t
  | .nil => true
  | .cons a r => tgIn l a && tgIn l r
mutual
theorem bindT_in : ∀ (t : Tg) {l : List Nat} {x : En} {m : List (Nat × En)}, tgIn l t = true → bindT t x = some m → ∀ q ∈ m, q.1 ∈ l
  | .nm i, l, x, m, ht, hb => by
    simp only [bindT] at hb
    cases hb
    intro q hq
    simp at hq; subst hq
    simpa [tgIn] using ht
  | .tup ts, l, x, m, ht, hb => by
    unfold bindT at hb
    split at hb <;> try (cases hb; done)
    · rename_i h; cases h
    · rename_i ts' ds h
      cases h
      exact bindL_in ts (by simpa [tgIn] using ht) hb
  | .nil, l, x, m, ht, hb => by unfold bindT at hb; cases hb
  | .cons a r, l, x, m, ht, hb => by unfold bindT at hb; cases hb
theorem bindL_in : ∀ (t : Tg) {l : List Nat} {xs : List En} {m : List (Nat × En)}, tgIn l t = true → bindL t xs = some m → ∀ q ∈ m, q.1 ∈ l
  | .nil, l, xs, m, ht, hb => by
    cases xs with
    | nil => simp only [bindL] at hb; cases hb; simp
    | cons _ _ => simp [bindL] at hb
  | .cons a r, l, xs, m, ht, hb => by
    cases xs with
    | nil => simp [bindL] at hb
    | cons x xs =>
      simp only [bindL] at hb
      split at hb <;> try (cases hb; done)
      rename_i p q h1 h2
      cases hb
      simp only [tgIn, Bool.and_eq_true] at ht
      intro z hz
      rcases List.mem_append.mp hz with hz | hz
      · exact bindT_in a ht.1 h1 z hz
      · exact bindL_in r ht.2 h2 z hz
  | .nm i, l, xs, m, ht, hb => by simp [bindL] at hb
  | .tup ts, l, xs, m, ht, hb => by simp [bindL] at hb
end
theorem bindI_in {t : Tg} {l : List Nat} {it : Itm} {m : List (Nat × En)} (ht : tgIn l t = true) (hb : bindI t it = some m) : ∀ q ∈ m, q.1 ∈ l := by
  cases it with
  | one e => exact bindT_in t ht hb
  | many es =>
    simp only [bindI] at hb
    split at hb <;> try (cases hb; done)
    exact bindL_in _ (by simpa [tgIn] using ht) hb
theorem wipe_fold (σ : L2.St) (vs : List Nat) : ∀ i, (wipe σ vs)[i]? = if i ∈ vs then (σ[i]?).map (fun _ => none) else σ[i]? := by
  induction vs with
  | nil => intro i; simp [wipe]
  | cons v vs ih =>
    intro i
    simp only [wipe]
    rw [List.getElem?_set, wipe_length]
    by_cases h : v = i
    · subst h
      rw [if_pos rfl, if_pos List.mem_cons_self]
      by_cases hl : v < σ.length
      · simp [hl]
      · rw [if_neg hl, List.getElem?_eq_none (by omega)]; rfl
    · rw [if_neg h, ih i]
      have : (i ∈ v :: vs) ↔ i ∈ vs := List.mem_cons.trans ⟨fun q => q.resolve_left fun e => h e.symm, .inr⟩
      simp only [this]
theorem fold_none (vs : List Nat) : ∀ (σ : L2.St) (i : Nat), (vs.foldl (fun B i => B.set i none) σ)[i]? = if i ∈ vs then (σ[i]?).map (fun _ => none) else σ[i]? := by
  induction vs with
  | nil => intro σ i; simp
  | cons v vs ih =>
    intro σ i
    simp only [List.foldl_cons]
    rw [ih, List.getElem?_set]
    by_cases h : v = i
    · subst h
      by_cases hl : v < σ.length
      · simp [hl]
      · simp [hl]
    · have : (i ∈ v :: vs) ↔ i ∈ vs := List.mem_cons.trans ⟨fun q => q.resolve_left fun e => h e.symm, .inr⟩
      simp only [this, if_neg h]
theorem wipe_eq (σ : L2.St) (vs : List Nat) : vs.foldl (fun B i => B.set i none) σ = wipe σ vs := List.ext_getElem? fun i => by rw [fold_none, wipe_fold]
theorem wipe_putV (σ : L2.St) (vs : List Nat) : ∀ (is : List Nat) (wv : List V), (∀ i ∈ is, i ∈ vs) → wipe (putV σ is wv) vs = wipe σ vs
  | [], wv, _ => by cases wv <;> rfl
  | i :: is, [], _ => rfl
  | i :: is, w :: wv, h => by
    simp only [putV]
    rw [wipe_putV _ vs is wv fun j hj => h j (List.mem_cons_of_mem _ hj)]
    refine List.ext_getElem? fun j => ?_
    rw [wipe_fold, wipe_fold, List.getElem?_set]
    by_cases e : i = j
    · subst e
      rw [if_pos rfl, if_pos (h i List.mem_cons_self), if_pos (h i List.mem_cons_self)]
      by_cases hl : i < σ.length
      · simp [hl]
      · simp [hl]
    · rw [if_neg e]
theorem wipe_wipe (σ : L2.St) (vs : List Nat) : wipe (wipe σ vs) vs = wipe σ vs := List.ext_getElem? fun i => by
  rw [wipe_fold, wipe_fold]
  split
  · cases σ[i]? <;> rfl
  · rfl
/-- an item appended to the list that is being made -/
theorem Px.grow {Φ : Fx} {B : List (Option V)} {env env' : Ev} {S : Tmp} {H : Hp} {D : Addr} {acc : List Tr} {y : V} {ye : En} {u : Tr} (p : Px Φ B env (S ++ [(some (.ref D), .own (.nd .ls acc))] ++ [(some y, ye)]) H) (h : toTr env ye = some (env', u)) :
    ∃ xs, H D = some (.lst xs) ∧ xs.length = acc.length ∧ env'.length = env.length ∧ Px Φ B env' (S ++ [(some (.ref D), .own (.nd .ls (acc ++ [u])))]) (upd H D (.lst (xs ++ [y]))) := by
  obtain ⟨hB, hn, fz, gs, R⟩ := Px.tree (S := S ++ [(some (.ref D), .own (.nd .ls acc))]) (T := [(some y, ye)]) (j := 0) p rfl h
  have hle : env'.length = env.length := by rw [← hB, p.1]
  simp only [List.set_cons_zero] at R
  obtain ⟨gx, hgx, hox, nx1, nx2⟩ := R.ownJ hB (j := 0) rfl
  subst hgx
  have R1 := R.popT hB hn
  -- the list's node
  have hD : (S ++ [(some (V.ref D), En.own (.nd .ls acc))] ++ [(some gx.val, En.own u)])[S.length]? = some (some (.ref D), .own (.nd .ls acc)) := by simp
  have q1 : (env' ++ (S ++ [(some (V.ref D), En.own (.nd .ls acc))]).map (·.2))[env'.length + S.length]? = some (.own (.nd .ls acc)) := by
    rw [get_app_right, List.getElem?_map]; simp
  obtain ⟨g, hg, hv, ho⟩ := R1.ent _ _ q1
  have q2 : (B ++ (S ++ [(some (V.ref D), En.own (.nd .ls acc))]).map (·.1))[env'.length + S.length]? = some (some (.ref D)) := by
    rw [← hB, get_app_right, List.getElem?_map]; simp
  rw [q2] at hv
  obtain ⟨a, cs, rfl, hH, _, hcl, ch⟩ := ho.nd_
  cases hv
  have nc := (List.nodup_cons.mp (G.fps_get R1.nod hg).1).2
  have hin : ∀ c ∈ G.fps cs, c ∈ G.fps (gs.take (env' ++ (S ++ [(some (V.ref D), En.own (.nd .ls acc))]).map (·.2)).length) := fun c hc => R1.own_in hg c (List.mem_cons_of_mem _ hc)
  have fpa : G.fps (cs ++ [gx]) = G.fps cs ++ gx.fp := by rw [G.fps_append]; simp [G.fps]
  have R2 := R1.mut (p := []) (t := .nd .ls acc) (cs' := cs ++ [gx]) (ts' := acc ++ [u]) .ls q1 hg rfl trivial (by simp [hcl]) (fun i c k hc hk => by
      by_cases hi : i < cs.length
      · rw [List.getElem?_append_left hi] at hc
        rw [List.getElem?_append_left (by omega)] at hk
        exact ch i c k hc hk
      · rw [List.getElem?_append_right (by omega)] at hc hk
        rw [hcl] at hc
        match hd : i - acc.length, hc, hk with
        | 0, hc, hk => cases hc; cases hk; exact hox
        | k' + 1, hc, hk => cases hc)
    (by rw [fpa]; exact List.nodup_append.mpr ⟨nc, nx1, fun c hc d hd e => by subst e; exact (nx2 c hd).1 (hin c hc)⟩)
    (fun c hc => by
      rw [fpa] at hc
      rcases List.mem_append.mp hc with hc | hc
      · exact .inl hc
      · exact .inr (nx2 c hc))
    (fun i r b ds _ h => al_grow r b ds h)
  have e1 : (cs ++ [gx]).map G.val = cs.map G.val ++ [gx.val] := by simp
  rw [e1] at R2
  have e2 : (env' ++ (S ++ [(some (V.ref D), En.own (.nd .ls acc))]).map (·.2)).set (env'.length + S.length) (.own (Tr.put (.nd .ls acc) [] (.nd .ls (acc ++ [u])))) = env' ++ (S ++ [(some (V.ref D), En.own (.nd .ls (acc ++ [u])))]).map (·.2) := by
    rw [set_app_right]
    congr 1
    rw [List.map_append, List.map_append]
    have := set_app_right (l := S.map (·.2)) (m := [(some (V.ref D), En.own (Tr.nd .ls acc))].map (·.2)) (j := 0) (x := En.own (Tr.put (.nd .ls acc) [] (.nd .ls (acc ++ [u]))))
    rw [List.length_map, Nat.add_zero] at this
    rw [this]
    rfl
  rw [e2] at R2
  have e3 : (S ++ [(some (V.ref D), En.own (.nd .ls (acc ++ [u])))]).map (·.1) = (S ++ [(some (V.ref D), En.own (.nd .ls acc))]).map (·.1) := by simp
  rw [← e3] at R2
  exact ⟨cs.map G.val, hH, by rw [List.length_map, hcl], hle, hB, hn, fz, _, R2⟩
end
end MP
set_option maxHeartbeats 2000000
set_option autoImplicit false
/-! mini: list comprehensions, the rule -/
namespace MP
open PySem PySem.Spec PyProof.Rows L2
theorem wipeE_app (m : List En) : ∀ (vs : List Nat) (env : Ev), (∀ i ∈ vs, i < env.length) → wipeE (env ++ m) vs = wipeE env vs ++ m
  | [], env, _ => rfl
  | i :: vs, env, h => by
    simp only [wipeE, List.foldl_cons]
    rw [set_app_left (h i List.mem_cons_self)]
    exact wipeE_app m vs _ fun j hj => by rw [List.length_set]; exact h j (List.mem_cons_of_mem _ hj)
theorem foldN_app (m : List (Option V)) : ∀ (vs : List Nat) (B : List (Option V)), (∀ i ∈ vs, i < B.length) → vs.foldl (fun B i => B.set i none) (B ++ m) = vs.foldl (fun B i => B.set i none) B ++ m
  | [], B, _ => rfl
  | i :: vs, B, h => by
    simp only [List.foldl_cons]
    rw [set_app_left (h i List.mem_cons_self)]
    exact foldN_app m vs _ fun j hj => by rw [List.length_set]; exact h j (List.mem_cons_of_mem _ hj)
theorem foldZ_app (m : List (Option V)) : ∀ (vs : List Nat) (sv : List (Option V)) (B : List (Option V)), (∀ i ∈ vs, i < B.length) → (vs.zip sv).foldl (fun B q => B.set q.1 q.2) (B ++ m) = (vs.zip sv).foldl (fun B q => B.set q.1 q.2) B ++ m
  | [], sv, B, _ => rfl
  | i :: vs, [], B, _ => rfl
  | i :: vs, v :: sv, B, h => by
    simp only [List.zip_cons_cons, List.foldl_cons]
    rw [set_app_left (h i List.mem_cons_self)]
    exact foldZ_app m vs sv _ fun j hj => by rw [List.length_set]; exact h j (List.mem_cons_of_mem _ hj)
theorem foldZ_get (f : Nat → Option V) : ∀ (vs : List Nat) (B : List (Option V)) (i : Nat), ((vs.zip (vs.map f)).foldl (fun B q => B.set q.1 q.2) B)[i]? = if i ∈ vs then (B[i]?).map (fun _ => f i) else B[i]?
  | [], B, i => by simp
  | v :: vs, B, i => by
    simp only [List.map_cons, List.zip_cons_cons, List.foldl_cons]
    rw [foldZ_get f vs, List.getElem?_set]
    by_cases h : v = i
    · subst h
      by_cases hl : v < B.length
      · simp [hl]
      · simp [hl]
    · have : (i ∈ v :: vs) ↔ i ∈ vs := List.mem_cons.trans ⟨fun q => q.resolve_left fun e => h e.symm, .inr⟩
      simp only [this, if_neg h]
theorem unwipe {σ σw : L2.St} {vs : List Nat} (hw : wipe σw vs = wipe σ vs) : (vs.zip (vs.map fun i => (σ[i]?).join)).foldl (fun B q => B.set q.1 q.2) σw = σ := List.ext_getElem? fun i => by
  have h1 : (wipe σw vs)[i]? = (wipe σ vs)[i]? := by rw [hw]
  rw [wipe_fold, wipe_fold] at h1
  rw [foldZ_get (fun i => (σ[i]?).join)]
  split
  · rename_i hm
    rw [if_pos hm, if_pos hm] at h1
    cases h : σ[i]? <;> cases h2 : σw[i]? <;> simp_all
  · rename_i hm
    rwa [if_neg hm, if_neg hm] at h1
theorem restE_app (m : List En) : ∀ (vs : List Nat) (xs : List En) (env : Ev), (∀ i ∈ vs, i < env.length) → restE (env ++ m) vs xs = restE env vs xs ++ m
  | [], xs, env, _ => by cases xs <;> rfl
  | i :: vs, [], env, _ => rfl
  | i :: vs, x :: xs, env, h => by
    simp only [restE]
    rw [set_app_left (h i List.mem_cons_self)]
    exact restE_app m vs xs _ fun j hj => by rw [List.length_set]; exact h j (List.mem_cons_of_mem _ hj)
section
variable {b : Bx} {X : Cx}
/-- a comprehension begins -/
theorem lc_start {σ : L2.St} {R : List (Option V)} {env xs : Ev} {sv : List (Option V)} {S : Tmp} {H : Hp} {vs : List Nat} (p : Px b.Φ (σ ++ R ++ sv) (env ++ xs) S H) (hn1 : (σ ++ R).length = env.length) (hΦ : b.Φ.n ≤ env.length) (hown : ∀ i ∈ vs, i < σ.length) (hroot : rooted env vs = false) {D : Addr} (hD : H D = none) :
    Px b.Φ (wipe σ vs ++ (R ++ sv ++ vs.map fun i => (σ[i]?).join)) (wipeE env vs ++ xs ++ vs.map fun i => env.getD i .un) (S ++ [(some (.ref D), .own (.nd .ls []))]) (upd H D (.lst [])) := by
  obtain ⟨hB, hn, fz, gs, Rl⟩ := p
  have he : ∀ i ∈ vs, i < env.length := fun i hi => by rw [← hn1, List.length_append]; have := hown i hi; omega
  obtain ⟨gs', R1, _⟩ := Rl.insO hB hn (sv := vs.map fun i => (σ[i]?).join) (xs := vs.map fun i => env.getD i .un) (by simp) fun k v x hv hx => by
    rw [List.getElem?_map] at hv hx
    obtain ⟨i, hi, rfl⟩ := Option.map_eq_some_iff.mp hv
    rw [hi] at hx
    simp only [Option.map_some, Option.some.injEq] at hx
    subst hx
    have him := List.mem_of_getElem? hi
    have hie := he i him
    have h0 : env[i]? = some env[i] := by simp [hie]
    have hd : env.getD i .un = env[i] := by rw [List.getD_eq_getElem?_getD, h0]; rfl
    rw [hd]
    have h1 : (env ++ xs ++ S.map (·.2))[i]? = some env[i] := by rw [List.append_assoc, List.getElem?_append_left hie]; exact h0
    have hnr := rooted_no hroot i him _ h0
    have E := Rl.ent _ _ h1
    have hσ : (σ ++ R ++ sv ++ S.map (·.1))[i]? = σ[i]? := by rw [List.append_assoc, List.append_assoc, List.getElem?_append_left (hown i him)]
    revert E hnr
    cases hq : env[i] with
    | un => exact fun _ _ => .inl rfl
    | fr d =>
      rintro _ ⟨_, w, hw, hd⟩
      rw [hσ] at hw
      exact .inr ⟨w, by rw [hw]; rfl, hd⟩
    | al s p =>
      rintro _ ⟨_, w, hw, ha⟩
      rw [hσ] at hw
      exact .inr ⟨w, by rw [hw]; rfl, Rl.als _ _ _ (h1.trans (congrArg some hq)), ha⟩
    | own t => exact fun h => nomatch h
    | fd d => exact fun h => nomatch h
  have hB2 : (σ ++ R ++ sv ++ vs.map fun i => (σ[i]?).join).length = (env ++ xs ++ vs.map fun i => env.getD i .un).length := by
    have := hB
    simp only [List.length_append, List.length_map] at this ⊢
    omega
  obtain ⟨hwl, R2⟩ := Rel.wipe (l := vs) R1 hB2 fun i hi => by
    refine ⟨by simp only [List.length_append]; have := he i hi; omega, fun e hee => ?_⟩
    rw [List.append_assoc, List.getElem?_append_left (he i hi)] at hee
    exact rooted_no hroot i hi e hee
  rw [List.append_assoc env, wipeE_app _ vs env he, List.append_assoc (σ ++ R), List.append_assoc σ, foldN_app _ vs σ hown, wipe_eq] at R2
  have P : Px b.Φ (wipe σ vs ++ (R ++ (sv ++ vs.map fun i => (σ[i]?).join))) (wipeE env vs ++ (xs ++ vs.map fun i => env.getD i .un)) S H := by
    refine ⟨?_, ?_, fz, gs', R2⟩
    · have := hB2
      rw [List.append_assoc env, wipeE_app _ vs env he] at hwl
      simp only [List.length_append, wipe_length] at this hwl ⊢
      omega
    · rw [List.append_assoc env, wipeE_app _ vs env he] at hwl
      simp only [List.length_append] at hwl ⊢
      omega
  have := P.newD .ls trivial hD
  simpa [Sh.ho] using this
/-- .. and ends -/
theorem lc_end {σ σw : L2.St} {R : List (Option V)} {env1 : Ev} {sv : List (Option V)} {T : Tmp} {H : Hp} {vs : List Nat} {n m : Nat} (p : Px b.Φ (σw ++ (R ++ sv ++ vs.map fun i => (σ[i]?).join)) env1 T H) (hw : wipe σw vs = wipe σ vs) (hn1 : σ.length + R.length = n) (hm : sv.length = m) (hΦ : b.Φ.n ≤ n) (hown : ∀ i ∈ vs, i < σ.length) (hroot : rooted env1 vs = false) :
    Px b.Φ (σ ++ R) (restE (env1.take n) vs (env1.drop (n + m))) T H := by
  obtain ⟨hB, hn, fz, gs, Rl⟩ := p
  have hwl : σw.length = σ.length := by rw [← wipe_length σw vs, hw, wipe_length]
  have hlen : env1.length = n + m + vs.length := by
    rw [← hB]; simp only [List.length_append, hwl, List.length_map]; omega
  have hlt : ∀ i ∈ vs, i < n := fun i hi => by have := hown i hi; omega
  have hdl : (env1.drop (n + m)).length = vs.length := by rw [List.length_drop]; omega
  obtain ⟨_, R1⟩ := Rel.rest (l := vs) (xs := env1.drop (n + m)) (sv := vs.map fun i => (σ[i]?).join) Rl hB (fun i hi => ⟨by have := hlt i hi; omega, rooted_no hroot i hi⟩) (by rw [hdl]; simp) hdl.symm fun k v x hv hx => by
    rw [List.getElem?_drop] at hx
    have hk : k < vs.length := by have := (List.getElem?_eq_some_iff.mp hv).1; simpa using this
    have h1 : (env1 ++ T.map (·.2))[n + m + k]? = some x := by rw [List.getElem?_append_left (by omega)]; exact hx
    have h2 : (σw ++ (R ++ sv ++ vs.map fun i => (σ[i]?).join) ++ T.map (·.1))[n + m + k]? = some v := by
      rw [List.getElem?_append_left (by rw [hB]; omega)]
      have : n + m + k = (σw ++ (R ++ sv)).length + k := by simp only [List.length_append, hwl]; omega
      rw [this, ← List.append_assoc, get_app_right]
      exact hv
    have E := Rl.ent _ _ h1
    revert E
    cases x with
    | fr d => rintro ⟨_, w, hw, hd⟩; rw [h2] at hw; cases hw; exact .inr ⟨w, rfl, hd⟩
    | al s q => rintro ⟨_, w, hw, ha⟩; rw [h2] at hw; cases hw; exact .inr ⟨w, rfl, Rl.als _ _ _ h1, ha⟩
    | _ => exact fun _ => .inl rfl
  have he1 : env1 = env1.take n ++ env1.drop n := (List.take_append_drop _ _).symm
  have htl : (env1.take n).length = n := by rw [List.length_take]; omega
  have hr : restE env1 vs (env1.drop (n + m)) = restE (env1.take n) vs (env1.drop (n + m)) ++ env1.drop n := by
    conv => lhs; rw [he1]
    rw [restE_app _ vs _ _ (fun i hi => by rw [htl]; exact hlt i hi)]
    congr 2
    rw [← he1]
  have hrl : (restE (env1.take n) vs (env1.drop (n + m))).length = n := by
    have gen : ∀ (vs : List Nat) (xs : List En) (env : Ev), (restE env vs xs).length = env.length := by
      intro vs
      induction vs with
      | nil => intro xs env; cases xs <;> rfl
      | cons i vs ih => intro xs env; cases xs with
        | nil => rfl
        | cons x xs => simp only [restE]; rw [ih, List.length_set]
    rw [gen, htl]
  rw [hr, foldZ_app _ vs _ σw (fun i hi => by rw [hwl]; exact hown i hi), unwipe hw] at R1
  have R2 : Rel b.Φ (σ ++ R ++ (sv ++ vs.map fun i => (σ[i]?).join) ++ T.map (·.1)) (restE (env1.take n) vs (env1.drop (n + m)) ++ env1.drop n ++ T.map (·.2)) H fz gs := by simpa using R1
  have hBn : (σ ++ R).length = (restE (env1.take n) vs (env1.drop (n + m))).length := by rw [hrl, List.length_append]; exact hn1
  obtain ⟨gs', R3⟩ := Rel.delL hBn (by rw [hrl]; exact hΦ) (by simp only [List.length_append, List.length_map, List.length_drop]; omega) R2
  exact ⟨hBn, by rw [hrl]; exact hΦ, fz, gs', R3⟩
/-- an item given to the block's names -/
theorem give_lc {σ0 : L2.St} {R2 : List (Option V)} {env env' : Ev} {T : Tmp} {H' : Hp} {fz : Addr → Prop} {gs : List G} {t : Tg} {it : Itm} {v : V} {vs : List Nat} {n : Nat} {Q : L2.St → Hp → Prop} (Rl : Rel b.Φ (σ0 ++ R2 ++ T.map (·.1)) (env ++ T.map (·.2)) H' fz gs) (hB : (σ0 ++ R2).length = env.length) (hn : b.Φ.n ≤ env.length) (ht : tgLt n t = true) (hin : tgIn vs t = true) (hroot : rooted env vs = false) (hlt : ∀ i ∈ vs, i < σ0.length)
    (hi : ItOk b.Φ H' fz (env ++ T.map (·.2)) gs it v) (ha : asgT env t it = some env')
    (q : ∀ (is : List Nat) (wv : List V), (∀ i ∈ is, i ∈ vs) → Px b.Φ (putV σ0 is wv ++ R2) env' T H' → Q (putV σ0 is wv) H') : gT t v σ0 H' Q := by
  unfold asgT at ha
  split at ha <;> try (cases ha; done)
  rename_i l hb
  split at ha <;> try (cases ha; done)
  cases ha
  obtain ⟨wv, hg, hk⟩ := bindI_gives ht hi hb
  refine hk σ0 Q (q _ _ (fun i hi => ?_) ?_)
  · obtain ⟨z, hz, rfl⟩ := List.mem_map.mp hi
    exact bindI_in hin hb z hz
  · have hin2 := bindI_in hin hb
    have hl0 : σ0.length ≤ env.length := by rw [← hB, List.length_append]; omega
    obtain ⟨h1, h2⟩ := puts_set (B := σ0 ++ R2) Rl hB hn (fun z hz => ⟨by have := hlt _ (hin2 z hz); omega, rooted_no hroot _ (hin2 z hz)⟩) hg.1 hg.2.1
    have e : ∀ (is : List Nat) (wv : List V) (σ : L2.St), (∀ i ∈ is, i < σ.length) → putV (σ ++ R2) is wv = putV σ is wv ++ R2 := by
      intro is
      induction is with
      | nil => intro wv σ _; cases wv <;> rfl
      | cons i is ih =>
        intro wv σ h
        cases wv with
        | nil => rfl
        | cons w wv =>
          simp only [putV]
          rw [set_app_left (h i List.mem_cons_self)]
          exact ih wv _ fun j hj => by rw [List.length_set]; exact h j (List.mem_cons_of_mem _ hj)
    rw [e _ _ _ fun i hi => by obtain ⟨z, hz, rfl⟩ := List.mem_map.mp hi; exact hlt _ (hin2 z hz)] at h2
    refine ⟨?_, by rw [h1]; exact hn, fz, gs, h2⟩
    rw [h1, List.length_append, putV_len, ← List.length_append]; exact hB
theorem lc_imp {σ : L2.St} {H : Hp} {Q : VK} {e : Ex} {t : Tg} {k : IK} {src c : Ex} {vs : List Nat} {n : Nat} (hsn : σ.length = n) (hnn : n ≤ b.Φ.n) (hown : ∀ i ∈ vs, i < n) (hin : tgIn vs t = true) (ht : tgLt n t = true) (h : tE b (.lc e t k src c vs) σ H Q) : tLc (tI b k src) (gT t) (tT b.nox c) (tE b.nox e) vs σ H Q := by
  obtain ⟨R, env, S, p, q⟩ := h
  subst hsn
  simp only [evE] at q
  change SatE b σ (σ ++ R) S Q ((evI b.C k src env).bind _) at q
  refine ⟨R, env, S, p, q.bind fun q1 _ s1 J sv H1 hsv hJ p1 D hD => ?_⟩
  clear q
  split at s1
  · exact s1.elim
  rename_i hroot
  have hroot : rooted q1.1 vs = false := by simpa using hroot
  have hn1 : (σ ++ R).length = q1.1.length := by
    have := p1.1
    simp only [List.length_append, List.length_map] at this ⊢
    omega
  have hphi : b.Φ.n ≤ q1.1.length := by have h1 := p.1; have h2 := p.2.1; omega
  have hR : σ.length + R.length = q1.1.length := by rw [← List.length_append]; exact hn1
  have p2 := lc_start p1 hn1 hphi hown hroot hD
  refine ⟨fun i m H => ∃ env1 acc, ∃ σw : L2.St, Px b.Φ (σw ++ (R ++ sv.map some ++ vs.map fun i => (σ[i]?).join)) env1 (S ++ [(some (.ref D), .own (.nd .ls acc))]) H ∧ wipe σw vs = wipe σ vs ∧ SatE b σ (σ ++ R) S Q ((lcGo (fun env it => if rooted env vs then .stuck else (ofO (asgT (wipeE env vs) t it)).bind fun env => (evT b.C c env).bind fun q => if q.2 then (evE b.C e q.1).bind fun x => (ofO (toTr x.1 x.2)).bind fun y => .ok (y.1, some y.2) else .ok (q.1, none)) q1.2.1 q1.1.length m i env1 acc).bind fun z => if rooted z.1 vs then .stuck else .ok (restE (z.1.take q1.1.length) vs (z.1.drop (q1.1.length + q1.2.2.length)), .own (.nd .ls z.2))), ⟨bigW, _, [], _, p2, wipe_wipe σ vs, s1⟩, fun i m H3 ⟨env1, acc, σw, p3, hw, q3⟩ => ?_⟩
  clear s1 p2
  have hwl : σw.length = σ.length := by rw [← wipe_length σw vs, hw, wipe_length]
  cases m with
  | zero => exact q3.elim
  | succ m =>
    simp only [lcGo] at q3
    obtain ⟨hB, hn, fz, gs, Rl⟩ := id p3
    have hle1 : q1.1.length + sv.length + vs.length = env1.length := by
      rw [← hB]; simp only [List.length_append, hwl, List.length_map]; omega
    have hat : ∀ (k : Nat) (v : V), sv[k]? = some v → (σw ++ (R ++ sv.map some ++ vs.map fun i => (σ[i]?).join))[q1.1.length + k]? = some (some v) := fun k v hv => by
      have hk := (List.getElem?_eq_some_iff.mp hv).1
      have e1 : q1.1.length = (σw ++ R).length := by rw [List.length_append, hwl]; exact hR.symm
      rw [List.append_assoc R, ← List.append_assoc σw, e1, get_app_right, List.getElem?_append_left (by simpa using hk), List.getElem?_map, hv]
      rfl
    have Rb := Rel.popT (S := []) (T := S ++ [(some (V.ref D), En.own (.nd .ls acc))]) (by simpa using Rl) hB hn
    simp only [List.map_nil, List.append_nil] at Rb
    obtain ⟨j1, j2⟩ := hJ _ _ _ _ _ i Rb hat hphi
    cases hsrc : srcAt q1.2.1 q1.1.length env1 i with
    | none => rw [hsrc] at q3; exact q3.elim
    | some o =>
      rw [hsrc] at q3
      cases o with
      | none =>
        refine .inl ⟨j1 hsrc, ?_⟩
        simp only [Res.bind_ok] at q3
        split at q3
        · exact q3.elim
        · rename_i hr
          have hr : rooted env1 vs = false := by simpa using hr
          have := lc_end (m := q1.2.2.length) p3 hw hR (by rw [List.length_map]; exact hsv) hphi hown hr
          exact q3 _ _ this
      | some it =>
        obtain ⟨hgo, hy⟩ := j2 it hsrc
        dsimp only at q3
        by_cases hr : rooted env1 vs = true
        · rw [if_pos hr] at q3; exact q3.elim
        rw [if_neg hr] at q3
        have hr : rooted env1 vs = false := by simpa using hr
        refine .inr ⟨hgo, fun H' => ∃ env1 acc, ∃ σw : L2.St, Px b.Φ (σw ++ (R ++ sv.map some ++ vs.map fun i => (σ[i]?).join)) env1 (S ++ [(some (.ref D), .own (.nd .ls acc))]) H' ∧ wipe σw vs = wipe σ vs ∧ SatE b σ (σ ++ R) S Q ((lcGo (fun env it => if rooted env vs then .stuck else (ofO (asgT (wipeE env vs) t it)).bind fun env => (evT b.C c env).bind fun q => if q.2 then (evE b.C e q.1).bind fun x => (ofO (toTr x.1 x.2)).bind fun y => .ok (y.1, some y.2) else .ok (q.1, none)) q1.2.1 q1.1.length m (i + 1) env1 acc).bind fun z => if rooted z.1 vs then .stuck else .ok (restE (z.1.take q1.1.length) vs (z.1.drop (q1.1.length + q1.2.2.length)), .own (.nd .ls z.2))), fun H' h => ⟨m, Nat.lt_succ_self m, h⟩, fun x H' hx => ?_⟩
        obtain ⟨hext, hit⟩ := hy x H' hx
        cases ha : asgT (wipeE env1 vs) t it with
        | none => rw [ha] at q3; exact q3.elim
        | some env' =>
        rw [ha] at q3
        simp only [ofO_some, Res.bind_ok] at q3
        have hve : ∀ i ∈ vs, i < env1.length := fun i hi => by have := hown i hi; omega
        obtain ⟨hwe, Rw⟩ := Rel.wipe (l := vs) (Rl.ext hext) hB fun i hi => ⟨hve i hi, rooted_no hr i hi⟩
        rw [foldN_app _ vs σw (fun i hi => by rw [hwl]; exact hown i hi), wipe_eq, hw] at Rw
        have wr : ∀ s, s < env1.length → (∃ t, env1[s]? = some (.own t)) ∨ (∃ d, env1[s]? = some (.fd d)) → (wipeE env1 vs)[s]? = env1[s]? := fun s hs hroot2 => by
          have hns : s ∉ vs := fun hm => by
            have h1 := rooted_no hr s hm
            rcases hroot2 with ⟨t, ht⟩ | ⟨d, hd⟩
            · have := h1 _ ht; cases this
            · have := h1 _ hd; cases this
          have gen : ∀ (l : List Nat) (en : Ev), s ∉ l → (wipeE en l)[s]? = en[s]? := by
            intro l
            induction l with
            | nil => intro en _; rfl
            | cons j l ih =>
              intro en hm
              simp only [List.mem_cons, not_or] at hm
              show (wipeE (en.set j .un) l)[s]? = en[s]?
              rw [ih _ hm.2, List.getElem?_set, if_neg fun e => hm.1 e.symm]
          exact gen vs env1 hns
        have sshift : ∀ {v : V} {y : En}, Seen b.Φ H' fz env1 (gs.take env1.length) v y → Seen b.Φ H' fz (wipeE env1 vs ++ (S ++ [(some (V.ref D), En.own (.nd .ls acc))]).map (·.2)) gs v y := fun {v y} h => by
          cases y with
          | al s p =>
            refine ⟨h.1, ?_⟩
            have ha := h.2
            have hs : s < env1.length := by have := h.1; omega
            have e1 : (wipeE env1 vs ++ (S ++ [(some (V.ref D), En.own (.nd .ls acc))]).map (·.2))[s]? = env1[s]? := by
              rw [List.getElem?_append_left (by rw [hwe]; exact hs)]
              refine wr s hs ?_
              unfold AlOk at ha
              split at ha
              · rename_i t ht; exact .inl ⟨t, ht⟩
              · rename_i d hd; exact .inr ⟨d, hd⟩
              · exact ha.elim
            exact AlOk.shift e1 (by rw [List.getElem?_take, if_pos hs]) ha
          | fr d => exact h
          | un => trivial
          | _ => exact False.elim h
        have hit2 : ItOk b.Φ H' fz (wipeE env1 vs ++ (S ++ [(some (V.ref D), En.own (.nd .ls acc))]).map (·.2)) gs it x := by
          cases it with
          | one e => exact sshift hit
          | many es =>
            obtain ⟨T, ws, h1, h2, h3, h4⟩ := hit
            exact ⟨T, ws, h1, h2, h3, fun k v e hv he => sshift (h4 k v e hv he)⟩
        refine give_lc (vs := vs) Rw (by rw [hwe, ← hB]; simp only [List.length_append, wipe_length, hwl]) (by rw [hwe]; exact hn) ht hin ?_ (fun i hi => by rw [wipe_length]; exact hown i hi) hit2 ha fun is wv his p4 => ⟨by rw [wipe_putV _ _ _ _ his, wipe_wipe], ?_⟩
        · have gen : ∀ (l m : List Nat) (en : Ev), (∀ i ∈ m, i ∈ l ∨ (en.getD i .un) = .un) → rooted (wipeE en l) m = false := by
            intro l
            induction l with
            | nil =>
              intro m en h
              refine List.any_eq_false.mpr fun i hi => ?_
              rcases h i hi with h | h
              · cases h
              · show ¬ isRoot ((wipeE en []).getD i .un) = true
                have : (wipeE en []) = en := rfl
                rw [this, h]; simp [isRoot]
            | cons j l ih =>
              intro m en h
              show rooted (wipeE (en.set j .un) l) m = false
              refine ih m _ fun i hi => ?_
              rcases h i hi with h | h
              · rcases List.mem_cons.mp h with rfl | h
                · right
                  rw [List.getD_eq_getElem?_getD, List.getElem?_set, if_pos rfl]
                  split <;> rfl
                · exact .inl h
              · right
                rw [List.getD_eq_getElem?_getD] at h ⊢
                rw [List.getElem?_set]
                split
                · split <;> rfl
                · exact h
          exact gen vs vs env1 fun i hi => .inl hi
        · have hw2 : wipe (putV (wipe σ vs) is wv) vs = wipe σ vs := by rw [wipe_putV _ _ _ _ his, wipe_wipe]
          refine ⟨_, env', _, p4, ?_⟩
          show SatT b.nox _ _ _ _ (evT b.C c env')
          cases hc : evT b.C c env' with
          | stuck => rw [hc] at q3; exact q3.elim
          | exc _ _ _ => rw [hc] at q3; exact q3.elim
          | ok r =>
            rw [hc] at q3
            simp only [Res.bind_ok] at q3
            intro H4 p5
            by_cases hr2 : r.2 = true
            · rw [if_pos hr2]
              rw [if_pos hr2] at q3
              refine ⟨_, r.1, _, p5, ?_⟩
              show SatE b.nox _ _ _ _ (evE b.C e r.1)
              cases he : evE b.C e r.1 with
              | stuck => rw [he] at q3; exact q3.elim
              | exc _ _ _ => rw [he] at q3; exact q3.elim
              | ok w =>
                rw [he] at q3
                simp only [Res.bind_ok] at q3
                intro y H5 p6
                cases htr : toTr w.1 w.2 with
                | none => rw [htr] at q3; exact q3.elim
                | some u =>
                  rw [htr] at q3
                  simp only [ofO_some, Res.bind_ok] at q3
                  split at q3
                  · rename_i hlt
                    obtain ⟨xs, hxs, hxl, _, p7⟩ := Px.grow (Φ := b.Φ) p6 htr
                    exact ⟨xs, hxs, by rw [hxl]; exact hlt, u.1, acc ++ [u.2], _, p7, hw2, q3⟩
                  · exact q3.elim
            · rw [if_neg hr2]
              rw [if_neg hr2] at q3
              exact ⟨r.1, acc, _, p5, hw2, q3⟩
/-- [e for tg in it if c] -/
theorem pE_lc {elt tg iter : Expr} {ifs : List Expr} {scope : Scope} {own : List (Str × Nat)} {pos : Pos} {e : Ex} {t : Tg} {k : IK} {src c : Ex} (hn0 : X.N.length ≤ b.Φ.n) (hc : X.calm = true) (hN : X.N.Nodup) (hi : PI X tg iter (tI b k src)) (ok : BlkOk X.N X.env.scope scope own)
    (hg : ∀ (s : Shared) (H : Hp) (C : Addr) (cl : List (Str × Addr)) (fp : List Addr), PG (X.blk s H scope (compEnvC scope cl C X.env) fp) tg (gT t)) (hcn : ∀ (s : Shared) (H : Hp) (C : Addr) (cl : List (Str × Addr)) (fp : List Addr), PTs (X.blk s H scope (compEnvC scope cl C X.env) fp) ifs (tT b.nox c))
    (he : ∀ (s : Shared) (H : Hp) (C : Addr) (cl : List (Str × Addr)) (fp : List Addr), PE (X.blk s H scope (compEnvC scope cl C X.env) fp) elt (tE b.nox e)) (hin : tgIn (own.map (·.2)) t = true) (ht : tgLt X.N.length t = true) (hs : ∀ x, foldedSetIterable iter X.env x = pure x) :
    PE X (.ListComp elt [⟨tg, iter, ifs, 0⟩] scope pos) (tE b (.lc e t k src c (own.map (·.2)))) := by
  refine ⟨fun pins s σ H Q I h => (pe_lc hc hN hi ok hg hcn he hs).run pins s σ H Q I (lc_imp I.len hn0 (fun i hi => ?_) hin ht h)⟩
  obtain ⟨p, hp, rfl⟩ := List.mem_map.mp hi
  exact (List.getElem?_eq_some_iff.mp (ok.ix p hp)).1
end
end MP
set_option maxHeartbeats 1000000
set_option autoImplicit false
/-! mini: defs and their calls, no guard about -/
namespace MP
open PySem PySem.Spec PyProof.Rows L2
theorem deep_guards (A : Around) (env : Env) (h : A.guards = some []) : (A.deeper env).guards = some [] := h
/-- a def keeps its promise where no guard is about -/
structure FnG (P : Program) (w : World) (K : PySem.W.Frag) (mg : Str → Option Value) (base : Heap) (CX : CXT) (k : Nat) (f : Addr) (fd : FuncData) (ps : List Str) (sp : Sp) : Prop where
  len : ∀ vs H Q E, sp vs H Q E → vs.length = ps.length
  run : ∀ (A : Around) (outer : List Env) (s : Shared) (H : Hp) (args : Args) (us : List Value) (vs : List V) (Q : VK) (E : XK), A.guards = some [] → Room k A → Env0 P w K mg base A outer s H → BindsTo s fd args (ps.zip us) → Vals vs us → sp vs H Q E →
    codeAny (model P w) A (.call (.ref f) args) (CR CX outer P w H s Q E) s
theorem FnG.mono {P : Program} {w : World} {K : PySem.W.Frag} {mg : Str → Option Value} {base : Heap} {CX : CXT} {j k : Nat} {f : Addr} {fd : FuncData} {ps : List Str} {sp : Sp} (F : FnG P w K mg base CX j f fd ps sp) (h : j ≤ k) : FnG P w K mg base CX k f fd ps sp :=
  ⟨F.len, fun A outer s H args us vs Q E hg hr e0 hb r q => F.run A outer s H args us vs Q E hg (hr.mono h) e0 hb r q⟩
section
variable {X : Cx} {CX : CXT} {k : Nat} {f : Addr} {fd : FuncData} {ps ks : List Str} {sp : Sp} {E : XK} {x : Str} {p pos : Pos} {e : Expr} {es : List Expr} {kws : List Keyword} {t tk : TA} {g : List Value → List Value → List Value} {gV : List V → List V → List V}
/-- what comes back from a callee -/
theorem back_G {pins : List (Addr × Obj)} {σ : L2.St} {H : Hp} {s : Shared} {Q : VK} (hx : Passes CX X E) (I : Inv X pins σ H s) {r : Result} {s' : Shared} (h : CR CX X.stack X.prog X.w H s Q E r s') :
    (match r with | .error e => X.xe e s' | .ok (.ret u) => EP X pins σ Q u s' | .ok _ => False) := by
  cases r with
  | error e => exact hx pins σ H s e s' I h
  | ok fl => cases fl <;> first | exact I.after h | exact h
theorem run_G {pins : List (Addr × Obj)} {σ : L2.St} {H : Hp} {s : Shared} {Q : VK} {us bs : List Value} {ws : List V} {kw : List (Str × Value)} (F : FnG X.prog X.w X.K X.mg X.base CX k f fd ps sp) (hgd : X.A.guards = some []) (hr : Room k X.A) (hx : Passes CX X E) (I : Inv X pins σ H s) (hb : BindsTo s fd ⟨us, kw⟩ (ps.zip bs)) (r : Vals ws bs) (h : sp ws H Q E) :
    wpAny (model X.prog X.w) X.A (call (.ref f) us kw) (EP X pins σ Q) X.xe s := by
  refine wpAny_call (codeAny_mono (F.run X.A X.stack s H ⟨us, kw⟩ bs ws Q E hgd hr I.env0 hb r h) fun r s' hq => ?_)
  have := back_G hx I hq
  cases r with
  | error e => exact this
  | ok fl => cases fl <;> first | exact this | exact this.elim
theorem pe_callG (F : FnG X.prog X.w X.K X.mg X.base CX k f fd ps sp) (hgd : X.A.guards = some []) (hr : Room k X.A) (hg : Gl X x) (hm : X.mg x = some (.ref f)) (hk : PySem.W.keepIn X.K (.ref f) = true) (hb : Binds X.K fd ps []) (hx : Passes CX X E) (ha : PA X (e :: es) t) (hdb : (x == ("__debug__" : Str)) = false)
    (he : starEach (e :: es) X.env = (false, eval e X.env) :: starEach es X.env) (hpl : (backTo pos (starEach es X.env)).any (·.1) = false) : PE X (.Call (.Name x p) (e :: es) [] pos) (tCall sp [] E t) := by
  refine ⟨fun pins s σ H Q I h => wpAny_Call_Name_kw (ld_glob I hg hm ?_ hdb)⟩
  refine PySem.W.callWith_K (h₀ := X.base) I.ok.mod.kin hk (thn (ha.run pos pins s σ H _ I h) fun us s1 ⟨vs, H1, I1, r, q⟩ => ⟨I1.kIn, ?_⟩) he hpl
  have q' : sp vs H1 Q E := by simpa using q
  have hl : us.length = ps.length := by rw [← r.length]; exact F.len _ _ _ _ q'
  exact run_G F hgd hr hx I1 (by have := hb s1 us I1.kIn (by simpa using hl); simpa using this) r q'
theorem pe_callG0 (F : FnG X.prog X.w X.K X.mg X.base CX k f fd ps sp) (hgd : X.A.guards = some []) (hr : Room k X.A) (hg : Gl X x) (hm : X.mg x = some (.ref f)) (hk : PySem.W.keepIn X.K (.ref f) = true) (hb : Binds X.K fd ps []) (hx : Passes CX X E) (hdb : (x == ("__debug__" : Str)) = false) : PE X (.Call (.Name x p) [] [] pos) (tCall sp [] E tNil) := by
  refine ⟨fun pins s σ H Q I h => wpAny_Call_Name_kw (ld_glob I hg hm (PySem.W.callWith_K0 I.kIn hk ?_) hdb)⟩
  have q' : sp [] H Q E := h
  have hl : 0 = ps.length := F.len _ _ _ _ q'
  exact run_G (us := []) F hgd hr hx I (by have := hb s [] I.kIn (by simpa using hl); simpa using this) .nil q'
theorem pe_callGK (F : FnG X.prog X.w X.K X.mg X.base CX k f fd ps sp) (hgd : X.A.guards = some []) (hr : Room k X.A) (hg : Gl X x) (hm : X.mg x = some (.ref f)) (hk : PySem.W.keepIn X.K (.ref f) = true) (hb : KBinds X.K fd ps ks g gV) (hx : Passes CX X E) (ha : PA X (e :: es) t) (hkw : PK X kws tk)
    (hall : (backToKw pos (keywordEach kws X.env)).all (·.1.isSome) = true) (hks : (backToKw pos (keywordEach kws X.env)).filterMap (·.1) = ks) (hdb : (x == ("__debug__" : Str)) = false) (he : starEach (e :: es) X.env = (false, eval e X.env) :: starEach es X.env)
    (hpl : ((backTo pos (starEach (e :: es) X.env)).any (·.1) || (backToKw pos (keywordEach kws X.env)).any (·.1.isNone)) = false) : PE X (.Call (.Name x p) (e :: es) kws pos) (tCallK sp gV E t tk) := by
  refine ⟨fun pins s σ H Q I h => wpAny_Call_Name_kw (ld_glob I hg hm ?_ hdb)⟩
  refine PySem.W.callWith_KW (h₀ := X.base) I.ok.mod.kin hk hall (thn (ha.run pos pins s σ H _ I h) fun us s1 ⟨vs, H1, I1, r, q⟩ => thn (hkw.run pos pins s1 σ H1 _ I1 q) fun ws s2 ⟨zs, H2, I2, rz, q2⟩ => ⟨I2.kIn, ?_⟩) hpl he
  rw [hks]
  have r2 := hb.rel r rz
  have hl : (g us ws).length = ps.length := by rw [← r2.length]; exact F.len _ _ _ _ q2
  exact run_G F hgd hr hx I2 (hb.to s2 us ws I2.kIn hl) r2 q2
end
/-- a def of the text, by its body -/
theorem fnG_of {CX : CXT} {P : Program} {w : World} {K : PySem.W.Frag} {mg : Str → Option Value} {base : Heap} {k : Nat} {f : Addr} {name qual : Str} {params : Arguments} {body : List Stmt} {scope : Scope} {dV kV doc pm cdv ct oc : Value} {an od : Option Addr} {osl : Array (Option Value)} {N ps : List Str} {sp : Sp}
    (lk : K.lookup f = some ⟨oc, od, .func (PySem.W.fnOf name qual params body scope dV kV doc pm an cdv ct), osl⟩) (hcd : PySem.W.codeIn K cdv qual = true) (S : FnScope N ps scope) (len : ∀ vs H Q E, sp vs H Q E → vs.length = ps.length)
    (hbody : ∀ (A : Around) (outer : List Env) (s : Shared) (H : Hp) (vs : List V) (Q : VK) (E : XK), (A.deeper (envOfC qual scope s.heap.objs.size f cdv)).guards = some [] → Room k (A.deeper (envOfC qual scope s.heap.objs.size f cdv)) → sp vs H Q E →
      ∃ t, PSs (cxOf CX P w K mg base N qual scope f cdv A outer s H E) body t ∧ t { nx := fun _ H' => Q .non H', rt := Q } (start N vs) H) :
    FnG P w K mg base CX (k + 1) f (PySem.W.fnOf name qual params body scope dV kV doc pm an cdv ct) ps sp := by
  refine ⟨len, fun A outer s H args us vs Q E hgd hr e0 hb r hsp => ?_⟩
  have keepB : ∀ b o, base.get? b = some o → s.heap.get? b = some o := fun b o e => (e0.bs b o e).1
  have KX : K.In s.heap := e0.mod.kin.keeps keepB
  refine codeAny_call_function hr.depth (KX _ _ lk) rfl S.co S.gen rfl (PySem.W.codeRec_of KX hcd) (hb _ _ _ _ ?_)
  refine wpAny_newFunctionEnv_cells S.kind (fun y hy => ?_) fun env he s1 x => ?_
  · rcases S.par y.1 (List.of_mem_zip hy).1 with q | q
    · exact .inl q
    · exact .inr ⟨q, PySem.W.cellsFrom_some _ _ _ (.inl q)⟩
  · subst he
    refine ⟨(e0.mod.nolimit.keeps keepB).keeps x.toInCall.keep, codeAny_func ?_⟩
    obtain ⟨t, ht, hq⟩ := hbody A outer s H vs Q E (deep_guards _ _ hgd) (hr.deeper _) hsp
    have I0 : Inv (cxOf CX P w K mg base N qual scope f cdv A outer s H E) [] (start N vs) H s1 := inv_start S hr.hd e0 (len _ _ _ _ hsp) r x
    refine wpAny_mono (ht.run [] s1 (start N vs) H _ I0 hq) (fun fl s' hs => ?_) fun e s' hs => hs
    cases fl with
    | ret u => obtain ⟨v, σ', H', J, rv, q⟩ := hs; exact ⟨v, H', J.os, J.bare, J.base, J.hok, rv, q⟩
    | next => obtain ⟨σ', H', J, q⟩ := hs; exact ⟨V.non, H', J.os, J.bare, J.base, J.hok, rfl, q⟩
    | brk => obtain ⟨_, _, _, q⟩ := hs; exact q.elim
    | cont => obtain ⟨_, _, _, q⟩ := hs; exact q.elim
end MP
set_option maxHeartbeats 1000000
set_option autoImplicit false
/-! mini: a def's promise; its body begins and ends -/
namespace MP
open PySem PySem.Spec PyProof.Rows L2
/-- the arguments by values; the ghosts of those that are handed in to be changed -/
inductive ArgsOk (H : Hp) (F0 : Addr → Prop) : List Ar → List V → List G → Prop
  | nil : ArgsOk H F0 [] [] []
  | fr {d : Dt} {v : V} {as : List Ar} {vs : List V} {gs : List G} : IsD H F0 v d → ArgsOk H F0 as vs gs → ArgsOk H F0 (.fr d :: as) (v :: vs) gs
  | io {sh : Sh} {ts : List Tr} {a : Addr} {cs : List G} {as : List Ar} {vs : List V} {gs : List G} : OwnG H F0 (.nd a cs) (.nd sh ts) → ArgsOk H F0 as vs gs → ArgsOk H F0 (.io (.nd sh ts) :: as) (.ref a :: vs) (.nd a cs :: gs)
/-- how a call ends: the heap, the value, what was handed in -/
structure RetOk (H : Hp) (F0 : Addr → Prop) (gs : List G) (r : Rt) (v : V) (H' : Hp) (fz' : Addr → Prop) (ro : G) (og : List G) : Prop where
  frame : ∀ a o, H a = some o → a ∉ G.fps gs → H' a = some o
  fzo : ∀ a, F0 a → fz' a
  fzi : ∀ a, fz' a → F0 a ∨ a ∈ G.fps gs ∨ Nw H a
  tr : ∀ a, fz' a → H' a ≠ none
  val : match r.val with
    | .inl d => IsD H' fz' v d
    | .inr t => ro.val = v ∧ OwnG H' fz' ro t
  olen : og.length = gs.length
  outs : r.outs.length = gs.length
  out : ∀ (k : Nat) (g g' : G) (u : Tr), gs[k]? = some g → og[k]? = some g' → r.outs[k]? = some u → (∃ sh ts, u = .nd sh ts) → g'.val = g.val ∧ OwnG H' fz' g' u
  nod : (G.fps (ro :: og)).Nodup
  new : ∀ a ∈ G.fps (ro :: og), ¬ fz' a ∧ (a ∈ G.fps gs ∨ H a = none)
/-- a def's promise -/
def spD (P : Nat → Option Df) (n f len : Nat) : Sp := fun vs H Q _ => vs.length = len ∧ ∃ F0 as gs r, ArgsOk H F0 as vs gs ∧ (G.fps gs).Nodup ∧ (∀ a ∈ G.fps gs, ¬ F0 a) ∧ (∀ a, F0 a → H a ≠ none) ∧ callN P n f as = .ok r ∧ ∀ v H' fz' ro og, RetOk H F0 gs r v H' fz' ro og → Q v H'
section
variable {H : Hp} {F0 : Addr → Prop}
theorem ArgsOk.len {as : List Ar} {vs : List V} {gs : List G} (h : ArgsOk H F0 as vs gs) : vs.length = as.length ∧ gs.length = (ioOf as).length := by
  induction h with
  | nil => exact ⟨rfl, rfl⟩
  | fr _ _ ih => exact ⟨by simp [ih.1], by simp [ioOf, ih.2]⟩
  | io _ _ ih => exact ⟨by simp [ih.1], by simp [ioOf, ih.2]⟩
theorem ArgsOk.own {as : List Ar} {vs : List V} {gs : List G} (h : ArgsOk H F0 as vs gs) : ∀ (k : Nat) (g : G) (t : Tr), gs[k]? = some g → (ioOf as)[k]? = some t → OwnG H F0 g t ∧ ∃ a cs, g = .nd a cs := by
  induction h with
  | nil => intro k g t hg; simp at hg
  | fr _ _ ih => exact ih
  | io ho _ ih =>
    intro k g t hg ht
    cases k with
    | zero => cases hg; cases ht; exact ⟨ho, _, _, rfl⟩
    | succ k => exact ih k g t hg ht
theorem entP_len (nl : Nat) : ∀ (as : List Ar) (h : Nat), (entP nl as h).length = as.length
  | [], _ => rfl
  | .fr _ :: r, h => by simp [entP, entP_len nl r h]
  | .io _ :: r, h => by simp [entP, entP_len nl r (h + 1)]
theorem ArgsOk.ent {as : List Ar} {vs : List V} {gs : List G} (h : ArgsOk H F0 as vs gs) (nl m : Nat) (Es : Ev) (Gs : List G) : ∀ h0 : Nat, h0 + gs.length ≤ m → (∀ (k : Nat) (g : G), gs[k]? = some g → Gs[nl + h0 + k]? = some g ∧ ∃ t, Es[nl + h0 + k]? = some (.own t)) →
    ∀ (i : Nat) (e : En), (entP nl as h0)[i]? = some e → ∃ v, vs[i]? = some v ∧ ((∃ d, e = .fr d ∧ IsD H F0 v d) ∨ ∃ s, e = .al s [] ∧ s < nl + m ∧ AlOk H F0 Es Gs s [] v) := by
  induction h with
  | nil => intro h0 _ _ i e he; simp [entP] at he
  | fr hd _ ih =>
    intro h0 hm hk i e he
    cases i with
    | zero => simp only [entP, List.getElem?_cons_zero, Option.some.injEq] at he; subst he; exact ⟨_, rfl, .inl ⟨_, rfl, hd⟩⟩
    | succ i => exact ih h0 hm hk i e (by simpa [entP] using he)
  | io ho _ ih =>
    intro h0 hm hk i e he
    cases i with
    | zero =>
      simp only [entP, List.getElem?_cons_zero, Option.some.injEq] at he
      subst he
      obtain ⟨h1, t, h2⟩ := hk 0 _ rfl
      refine ⟨_, rfl, .inr ⟨_, rfl, by simp at hm; omega, ?_⟩⟩
      unfold AlOk
      rw [Nat.add_zero] at h1 h2
      rw [h2]
      exact ⟨_, _, _, h1, rfl, rfl⟩
    | succ i =>
      refine ih (h0 + 1) (by simp at hm; omega) (fun k g hg => ?_) i e (by simpa [entP] using he)
      have := hk (k + 1) g hg
      rw [show nl + (h0 + 1) + k = nl + h0 + (k + 1) by omega]
      exact this
theorem fps_rep (n : Nat) (gs : List G) : G.fps (List.replicate n (.lf .non) ++ gs) = G.fps gs := by
  induction n with
  | zero => rfl
  | succ n ih => simp only [List.replicate_succ, List.cons_append, G.fps, G.fp, List.nil_append]; exact ih
/-- a body's first state -/
theorem entry_ok {d : Df} {as : List Ar} {vs : List V} {gs : List G} {N : List Str} (hA : ArgsOk H F0 as vs gs) (hN : N.length = d.nl) (hl : as.length ≤ d.nl) (nd : (G.fps gs).Nodup) (nf : ∀ a ∈ G.fps gs, ¬ F0 a) (tr : ∀ a, F0 a → H a ≠ none) :
    Px ⟨d.nl + gs.length, H, G.fps gs, F0⟩ (L2.start N vs ++ gs.map fun g => some g.val) (env0 d as) [] H := by
  obtain ⟨l1, l2⟩ := hA.len
  have e1 : (entP d.nl as 0 ++ List.replicate (d.nl - as.length) En.un).length = d.nl := by simp [entP_len]; omega
  have e2 : (L2.start N vs).length = d.nl := by simp [L2.start]; omega
  have hel : (env0 d as).length = d.nl + gs.length := by unfold env0; rw [List.length_append, e1, List.length_map, l2]
  have hown : ∀ (k : Nat) (t : Tr), (ioOf as)[k]? = some t → (env0 d as)[d.nl + k]? = some (.own t) := fun k t ht => by
    have := get_app_right (l := entP d.nl as 0 ++ List.replicate (d.nl - as.length) En.un) (m := (ioOf as).map En.own) (j := k)
    rw [e1] at this
    exact this.trans (by rw [List.getElem?_map, ht]; rfl)
  have hgs : ∀ (k : Nat), (List.replicate d.nl (G.lf .non) ++ gs)[d.nl + k]? = gs[k]? := fun k => by
    have := get_app_right (l := List.replicate d.nl (G.lf .non)) (m := gs) (j := k)
    rwa [List.length_replicate] at this
  refine ⟨by rw [List.length_append, e2, List.length_map, hel], by rw [hel]; exact Nat.le_refl _, F0, List.replicate d.nl (.lf .non) ++ gs, ?_⟩
  simp only [List.map_nil, List.append_nil]
  have hent := hA.ent d.nl gs.length (env0 d as) (List.replicate d.nl (.lf .non) ++ gs) 0 (by omega) fun k g hg => by
    rw [Nat.add_zero]
    refine ⟨by rw [hgs]; exact hg, ?_⟩
    have hk : k < (ioOf as).length := by rw [← l2]; exact (List.getElem?_eq_some_iff.mp hg).1
    exact ⟨_, hown k _ (List.getElem?_eq_getElem hk)⟩
  -- which entry stands where
  have split : ∀ (i : Nat) (e : En), (env0 d as)[i]? = some e → (∃ v, i < d.nl ∧ vs[i]? = some v ∧ ((∃ d, e = .fr d ∧ IsD H F0 v d) ∨ ∃ s, e = .al s [] ∧ s < d.nl + gs.length ∧ AlOk H F0 (env0 d as) (List.replicate d.nl (.lf .non) ++ gs) s [] v)) ∨ (i < d.nl ∧ e = .un) ∨ ∃ k t g, i = d.nl + k ∧ e = .own t ∧ gs[k]? = some g ∧ OwnG H F0 g t := fun i e he => by
    have he' := he
    unfold env0 at he
    by_cases h1 : i < d.nl
    · rw [List.getElem?_append_left (by rw [e1]; exact h1)] at he
      by_cases h2 : i < as.length
      · rw [List.getElem?_append_left (by rw [entP_len]; exact h2)] at he
        obtain ⟨v, hv, h⟩ := hent i e he
        exact .inl ⟨v, h1, hv, h⟩
      · rw [List.getElem?_append_right (by rw [entP_len]; omega), List.getElem?_replicate] at he
        split at he
        · cases he; exact .inr (.inl ⟨h1, rfl⟩)
        · cases he
    · rw [List.getElem?_append_right (by rw [e1]; omega), e1, List.getElem?_map] at he
      obtain ⟨t, ht, rfl⟩ := Option.map_eq_some_iff.mp he
      have hk : i - d.nl < gs.length := by rw [l2]; exact (List.getElem?_eq_some_iff.mp ht).1
      exact .inr (.inr ⟨i - d.nl, t, gs[i - d.nl], by omega, rfl, by simp [hk], (hA.own _ _ t (by simp [hk]) ht).1⟩)
  have glow : ∀ i, i < d.nl → (List.replicate d.nl (G.lf .non) ++ gs)[i]? = some (.lf .non) := fun i h => by
    rw [List.getElem?_append_left (by simpa using h)]; simp [h]
  have vlow : ∀ i v, vs[i]? = some v → i < d.nl → (L2.start N vs ++ gs.map fun g => some g.val)[i]? = some (some v) := fun i v h h1 => by
    rw [List.getElem?_append_left (by rw [e2]; exact h1)]
    unfold L2.start
    rw [List.getElem?_append_left (by rw [List.length_map]; exact (List.getElem?_eq_some_iff.mp h).1), List.getElem?_map, h]; rfl
  refine ⟨by rw [List.length_append, e2, List.length_map, hel], by simp [hel], by show d.nl + gs.length ≤ _; rw [hel]; exact Nat.le_refl _, fun i s p hi => ?_, fun i e hi => ?_, by rw [fps_rep]; exact nd, by rw [fps_rep]; exact nf, tr, fun a o ho hs => ⟨ho, by rw [fps_rep]; exact hs⟩, fun a h => .inl h, fun a h => h⟩
  · rcases split i _ hi with ⟨v, _, _, ⟨d', e, _⟩ | ⟨s', e, hs, _⟩⟩ | ⟨_, e⟩ | ⟨k, t, g, _, e, _⟩
    · cases e
    · cases e; exact hs
    · cases e
    · cases e
  · rcases split i _ hi with ⟨v, h1, hv, ⟨d', rfl, hd⟩ | ⟨s', rfl, hs, ha⟩⟩ | ⟨h1, rfl⟩ | ⟨k, t, g, rfl, rfl, hg, ho⟩
    · exact ⟨glow i h1, v, vlow i v hv h1, hd⟩
    · exact ⟨glow i h1, v, vlow i v hv h1, ha⟩
    · exact glow i h1
    · refine ⟨g, by rw [hgs]; exact hg, ?_, ho⟩
      rw [← e2, get_app_right, List.getElem?_map, hg]; rfl
end
end MP
set_option maxHeartbeats 1000000
set_option autoImplicit false
/-! mini: a def's body ends -/
namespace MP
open PySem PySem.Spec PyProof.Rows L2
theorem outsOf_get : ∀ {l : List En} {o : List Tr}, outsOf l = some o → o.length = l.length ∧ ∀ (k : Nat) (u : Tr), o[k]? = some u → l[k]? = some (.own u) ∨ ∃ d, u = .fr d ∧ l[k]? = some (.fd d)
  | [], o, h => by simp only [outsOf] at h; cases h; exact ⟨rfl, fun k u hu => by simp at hu⟩
  | x :: l, o, h => by
    have go : ∀ {t : Tr} {o' : List Tr}, outsOf l = some o' → o = t :: o' → (x = .own t ∨ ∃ d, t = .fr d ∧ x = .fd d) → o.length = (x :: l).length ∧ ∀ (k : Nat) (u : Tr), o[k]? = some u → (x :: l)[k]? = some (.own u) ∨ ∃ d, u = .fr d ∧ (x :: l)[k]? = some (.fd d) := by
      intro t o' ho e hx
      subst e
      obtain ⟨h1, h2⟩ := outsOf_get ho
      refine ⟨by simp [h1], fun k u hu => ?_⟩
      cases k with
      | zero =>
        cases hu
        rcases hx with hx | ⟨d, hd, hx⟩
        · exact .inl (by rw [hx]; rfl)
        · exact .inr ⟨d, hd, by rw [hx]; rfl⟩
      | succ k => exact h2 k u hu
    cases x with
    | own t =>
      simp only [outsOf] at h
      obtain ⟨o', ho, rfl⟩ := Option.map_eq_some_iff.mp h
      exact go ho rfl (.inl rfl)
    | fd d =>
      simp only [outsOf] at h
      obtain ⟨o', ho, rfl⟩ := Option.map_eq_some_iff.mp h
      exact go ho rfl (.inr ⟨d, rfl, rfl⟩)
    | _ => simp [outsOf] at h
theorem fps_sub {gs : List G} {n m : Nat} : ∀ a ∈ G.fps ((gs.drop n).take m), a ∈ G.fps gs := fun a ha => by
  obtain ⟨c, hc, hac⟩ := G.mem_fps.mp ha
  exact G.mem_fps.mpr ⟨c, List.mem_of_mem_drop (List.mem_of_mem_take hc), hac⟩
theorem fps_nodup {gs : List G} {n m : Nat} (h : (G.fps gs).Nodup) : (G.fps ((gs.drop n).take m)).Nodup := by
  have e : gs = gs.take n ++ ((gs.drop n).take m ++ (gs.drop n).drop m) := by rw [List.take_append_drop, List.take_append_drop]
  rw [e, G.fps_append, G.fps_append] at h
  exact (List.nodup_append.mp (List.nodup_append.mp h).2.1).1
theorem fps_with {gs : List G} {n m s : Nat} {g : G} (h : (G.fps gs).Nodup) (hg : gs[s]? = some g) (hs : s < n ∨ n + m ≤ s) : (G.fps (g :: (gs.drop n).take m)).Nodup := by
  obtain ⟨h1, h2⟩ := G.fps_get h hg
  refine List.nodup_append.mpr ⟨h1, fps_nodup h, fun a ha b hb e => ?_⟩
  subst e
  obtain ⟨c, hc, hac⟩ := G.mem_fps.mp hb
  obtain ⟨j, hj⟩ := List.getElem?_of_mem hc
  rw [List.getElem?_take] at hj
  split at hj
  · rename_i hjm
    rw [List.getElem?_drop] at hj
    exact h2 (n + j) c (by omega) hj a hac ha
  · cases hj
section
variable {H H' : Hp} {F0 fz' : Addr → Prop} {gs gs' : List G} {nl : Nat} {σ' : L2.St} {env : Ev} {T : Tmp}
theorem exit_ok (R : Rel ⟨nl + gs.length, H, G.fps gs, F0⟩ (σ' ++ (gs.map fun g => some g.val) ++ T.map (·.1)) (env ++ T.map (·.2)) H' fz' gs') (hσ : σ'.length = nl) (he : env.length = nl + gs.length) {o : List Tr} (ho : outsOf (env.drop nl) = some o) {rv : Dt ⊕ Tr} {v : V} {ro : G}
    (hv : match rv with | .inl d => IsD H' fz' v d | .inr t => ro.val = v ∧ OwnG H' fz' ro t) (hn : (G.fps (ro :: (gs'.drop nl).take gs.length)).Nodup) (hr : ∀ a ∈ ro.fp, a ∈ G.fps gs') : RetOk H F0 gs ⟨rv, o⟩ v H' fz' ro ((gs'.drop nl).take gs.length) := by
  obtain ⟨o1, o2⟩ := outsOf_get ho
  have hlg : gs'.length = nl + gs.length + T.length := by have := R.leng; rw [this]; simp [he]
  refine ⟨fun a o h1 h2 => (R.frm a o h1 h2).1, R.fzo, R.fzi, R.tr, hv, by simp; omega, by show o.length = _; rw [o1, List.length_drop, he]; omega, fun k g g' u hg hg' hu ⟨sh, ts, e⟩ => ?_, hn, fun a ha => ?_⟩
  · have hk : k < gs.length := (List.getElem?_eq_some_iff.mp hg).1
    rw [List.getElem?_take, if_pos hk, List.getElem?_drop] at hg'
    have hown : env[nl + k]? = some (.own u) := by
      rcases o2 k u hu with h | ⟨d, h, _⟩
      · rwa [List.getElem?_drop] at h
      · rw [h] at e; cases e
    have h1 : (env ++ T.map (·.2))[nl + k]? = some (.own u) := by rw [List.getElem?_append_left (by omega)]; exact hown
    obtain ⟨g2, hg2, hv2, ho2⟩ := R.ent _ _ h1
    rw [hg'] at hg2
    cases hg2
    have h2 : (σ' ++ (gs.map fun g => some g.val) ++ T.map (·.1))[nl + k]? = some (some g.val) := by
      rw [List.append_assoc, ← hσ, get_app_right, List.getElem?_append_left (by simpa using hk), List.getElem?_map, hg]; rfl
    rw [h2] at hv2
    exact ⟨(Option.some.inj (Option.some.inj hv2)).symm, ho2⟩
  · have ha' : a ∈ G.fps gs' := by
      rcases List.mem_append.mp (show a ∈ ro.fp ++ G.fps ((gs'.drop nl).take gs.length) from ha) with h | h
      · exact hr a h
      · exact fps_sub a h
    refine ⟨R.nfz a ha', ?_⟩
    cases hH : H a with
    | none => exact .inr rfl
    | some o =>
      by_cases hs : a ∈ G.fps gs
      · exact .inl hs
      · exact absurd ha' (R.frm a o hH hs).2
end
/-- the body of a def does what the promise says -/
theorem spD_body {P : Nat → Option Df} {n f len : Nat} {d : Df} {N : List Str} {vs : List V} {H : Hp} {Q : VK} {E : XK} (cls : Nat → Value) (W : WX) (hP : P f = some d) (hN : N.length = d.nl) (h : spD P (n + 1) f len vs H Q E) :
    ∃ Φ : Fx, N.length ≤ Φ.n ∧ tS ⟨Φ, clN P n, cls, W⟩ d.body { nx := fun _ H' => Q .non H', rt := Q } (L2.start N vs) H := by
  obtain ⟨_, F0, as, gs, r, hA, nd, nf, tr, hr, q⟩ := h
  have hr2 : runDf (clN P n) d as = .ok r := by
    have : callN P (n + 1) f as = (match P f with | none => .stuck | some d => runDf (clN P n) d as) := rfl
    rw [this, hP] at hr
    exact hr
  unfold runDf at hr2
  split at hr2 <;> try (cases hr2; done)
  rename_i hc
  have hE := entry_ok (N := N) hA hN hc.2 nd nf tr
  have hsl : (L2.start N vs).length = d.nl := by
    have := hA.len.1
    have := hc.2
    simp [L2.start]; omega
  refine ⟨⟨d.nl + gs.length, H, G.fps gs, F0⟩, by show N.length ≤ d.nl + gs.length; omega, gs.map fun g => some g.val, env0 d as, hE, ?_⟩
  have base : ∀ {σ' : L2.St} {env : Ev} {H' : Hp} {T : Tmp}, σ'.length = (L2.start N vs).length → Px ⟨d.nl + gs.length, H, G.fps gs, F0⟩ (σ' ++ gs.map fun g => some g.val) env T H' → env.length = d.nl + gs.length := fun hl p => by
    have := p.1
    rw [List.length_append, hl, hsl, List.length_map] at this
    omega
  show SatS _ _ _ _ (evS (clN P n) d.body (env0 d as))
  cases hev : evS (clN P n) d.body (env0 d as) with
  | stuck => rw [hev] at hr2; cases hr2
  | exc _ _ _ => rw [hev] at hr2; cases hr2
  | ok fl =>
    rw [hev] at hr2
    cases fl with
    | bk env => cases hr2
    | ct env => cases hr2
    | nx env =>
      dsimp only at hr2
      split at hr2 <;> try (cases hr2; done)
      rename_i o ho
      cases hr2
      intro σ' H' hl p
      have hle := base hl p
      obtain ⟨hB, hn, fz', gs', R⟩ := p
      exact q .non H' fz' (.lf .non) _ (exit_ok (T := []) R (hl.trans hsl) hle ho .non (by simpa [G.fps, G.fp] using fps_nodup R.nod) (fun a ha => by simp [G.fp] at ha))
    | rt env x =>
      dsimp only at hr2
      split at hr2 <;> try (cases hr2; done)
      rename_i env' v hret
      split at hr2 <;> try (cases hr2; done)
      rename_i o ho
      cases hr2
      intro w σ' H' hl p
      have hle := base hl p
      obtain ⟨hB, hn, fz', gs', R⟩ := id p
      have hsig := hl.trans hsl
      have frzc : (frz env x).map (fun q => (q.1, (Sum.inl q.2 : Dt ⊕ Tr))) = some (env', v) → Q w H' := fun hf => by
        obtain ⟨z, hz, e⟩ := Option.map_eq_some_iff.mp hf
        cases e
        obtain ⟨hle2, fz2, gs2, R2, _⟩ := R.frz1 (tl := [(some w, x)].map (·.2)) (j := 0) (by rw [hle]; exact Nat.le_refl _) rfl hz
        have R3 : Rel ⟨d.nl + gs.length, H, G.fps gs, F0⟩ (σ' ++ (gs.map fun g => some g.val) ++ [(some w, En.fr z.2)].map (·.1)) (z.1 ++ [(some w, En.fr z.2)].map (·.2)) H' fz2 gs2 := R2
        have h1 : (z.1 ++ [(some w, En.fr z.2)].map (·.2))[z.1.length]? = some (.fr z.2) := by simp
        obtain ⟨_, w', hw', hd⟩ := R3.ent _ _ h1
        have h2 : (σ' ++ (gs.map fun g => some g.val) ++ [(some w, En.fr z.2)].map (·.1))[z.1.length]? = some (some w) := by
          rw [hle2, hle, ← hsig]
          have := get_app_right (l := σ' ++ gs.map fun g => some g.val) (m := [some w]) (j := 0)
          simpa using this
        rw [h2] at hw'
        cases hw'
        exact q w H' fz2 (.lf .non) _ (exit_ok (T := [(some w, En.fr z.2)]) R3 hsig (hle2.trans hle) ho hd (by simpa [G.fps, G.fp] using fps_nodup R3.nod) (fun a ha => by simp [G.fp] at ha))
      unfold retE at hret
      cases x with
      | own t =>
        cases hret
        obtain ⟨g, hg, hgv, hgo, _, _⟩ := Rel.ownT (S := []) R hB (by rfl)
        subst hgv
        simp only [List.length_nil, Nat.add_zero] at hg
        exact q _ H' fz' g _ (exit_ok R hsig hle ho ⟨rfl, hgo⟩ (fps_with R.nod hg (.inr (by omega))) (fun a ha => R.own_in hg a ha))
      | al s pt =>
        cases pt with
        | cons i pt => exact frzc hret
        | nil =>
          dsimp only at hret
          split at hret
          · rename_i t hs
            split at hret
            · rename_i hlt
              cases hret
              have h1 : (env ++ [(some w, En.al s [])].map (·.2))[env.length]? = some (.al s []) := by simp
              obtain ⟨_, w', hw', ha⟩ := R.ent _ _ h1
              have h2 : (σ' ++ (gs.map fun g => some g.val) ++ [(some w, En.al s [])].map (·.1))[env.length]? = some (some w) := by
                rw [hle, ← hsig]
                have := get_app_right (l := σ' ++ gs.map fun g => some g.val) (m := [some w]) (j := 0)
                simpa using this
              rw [h2] at hw'
              cases hw'
              have h3 : (env ++ [(some w, En.al s [])].map (·.2))[s]? = some (.own t) := by rw [List.getElem?_append_left (by omega)]; exact hs
              unfold AlOk at ha
              rw [h3] at ha
              obtain ⟨g, a, cs, hg, hat, e⟩ := ha
              cases hat
              subst e
              obtain ⟨g2, hg2, _, hgo⟩ := R.ent _ _ h3
              rw [hg] at hg2
              cases hg2
              have ho' : outsOf (env.drop d.nl) = some o := by
                rw [List.drop_set, if_pos hlt] at ho; exact ho
              exact q _ H' fz' _ _ (exit_ok R hsig hle ho' ⟨rfl, hgo⟩ (fps_with R.nod hg (.inl hlt)) (fun a ha => R.own_in hg a ha))
            · exact frzc hret
          · exact frzc hret
      | fr d' => exact frzc hret
      | fd d' => exact frzc hret
      | un => exact frzc hret
end MP
set_option maxHeartbeats 2000000
set_option autoImplicit false
/-! mini: the caller's side -/
namespace MP
open PySem PySem.Spec PyProof.Rows L2
section
variable {Φ : Fx} {B W : List (Option V)} {env : Ev} {S T : Tmp} {H H' : Hp} {fz : Addr → Prop} {gs : List G}
theorem Rel.argsF : ∀ {md : List Bool} {xs ys : List En} {S env env1 : Ev} {fz : Addr → Prop} {gs : List G}, Rel Φ W (env ++ (S ++ xs)) H fz gs → Φ.n ≤ env.length → MP.argsF env md xs = some (env1, ys) → env1.length = env.length ∧ ys.length = xs.length ∧ ∃ fz' gs', Rel Φ W (env1 ++ (S ++ ys)) H fz' gs'
  | [], [], ys, S, env, env1, fz, gs, R, hn, h => by simp only [MP.argsF] at h; cases h; exact ⟨rfl, rfl, fz, gs, R⟩
  | [], _ :: _, ys, S, env, env1, fz, gs, R, hn, h => by simp [MP.argsF] at h
  | true :: ms, [], ys, S, env, env1, fz, gs, R, hn, h => by simp [MP.argsF] at h
  | false :: ms, [], ys, S, env, env1, fz, gs, R, hn, h => by simp [MP.argsF] at h
  | true :: ms, x :: xs, ys, S, env, env1, fz, gs, R, hn, h => by
    cases x with
    | al s p =>
      simp only [MP.argsF] at h
      obtain ⟨q, hq, e⟩ := Option.map_eq_some_iff.mp h
      cases e
      obtain ⟨h1, h2, fz', gs', R'⟩ := Rel.argsF (S := S ++ [.al s p]) (by simpa using R) hn hq
      exact ⟨h1, by simp [h2], fz', gs', by simpa using R'⟩
    | _ => simp [MP.argsF] at h
  | false :: ms, x :: xs, ys, S, env, env1, fz, gs, R, hn, h => by
    simp only [MP.argsF] at h
    cases hf : frz env x with
    | none => rw [hf] at h; cases h
    | some q =>
      obtain ⟨env', d⟩ := q
      rw [hf] at h
      obtain ⟨q, hq, e⟩ := Option.map_eq_some_iff.mp h
      cases e
      have hj : (S ++ x :: xs)[S.length]? = some x := by simp
      obtain ⟨hle, fz1, gs1, R1, _⟩ := R.frz1 hn hj hf
      rw [set_mid] at R1
      obtain ⟨h1, h2, fz', gs', R'⟩ := Rel.argsF (S := S ++ [.fr d]) (by simpa using R1) (by rw [hle]; exact hn) hq
      exact ⟨h1.trans hle, by simp [h2], fz', gs', by simpa using R'⟩
/-- what is handed in to be changed stands at a place of a slot -/
def IoAt (env : Ev) (gs : List G) : List (Nat × List Nat) → List G → Prop
  | [], [] => True
  | (s, p) :: bs, g' :: gl => (∃ t g a cs sh ts, g' = .nd a cs ∧ env[s]? = some (.own t) ∧ t.at p = some (.nd sh ts) ∧ gs[s]? = some g ∧ g.at p = some (.nd a cs) ∧ ∀ c ∈ cs, ∃ w, c = G.lf w) ∧ IoAt env gs bs gl
  | _, _ => False
theorem Rel.argsA (R : Rel Φ (B ++ (S ++ T).map (·.1)) (env ++ (S ++ T).map (·.2)) H fz gs) (hB : B.length = env.length) (hn : Φ.n ≤ env.length) : ∀ {vs : List V} {ys : List En} {as : List Ar} {bs : List (Nat × List Nat)} {j : Nat}, vs.length = ys.length → (∀ k v y, vs[k]? = some v → ys[k]? = some y → (S ++ T)[j + k]? = some (some v, y)) → MP.argsA env ys = some (as, bs) → ∃ gl, ArgsOk H fz as vs gl ∧ IoAt env gs bs gl := by
  intro vs ys
  induction ys generalizing vs with
  | nil =>
    intro as bs j hl _ h
    simp only [MP.argsA] at h
    cases h
    have : vs = [] := by simpa using hl
    subst this
    exact ⟨[], .nil, trivial⟩
  | cons y ys ih =>
    intro as bs j hl hk h
    cases vs with
    | nil => cases hl
    | cons v vs =>
      have h0 : (S ++ T)[j]? = some (some v, y) := hk 0 v y rfl rfl
      have hr : ∀ k w z, vs[k]? = some w → ys[k]? = some z → (S ++ T)[j + 1 + k]? = some (some w, z) := fun k w z hw hz => by
        rw [show j + 1 + k = j + (k + 1) by omega]; exact hk (k + 1) w z hw hz
      cases y with
      | fr d =>
        simp only [MP.argsA] at h
        obtain ⟨q, hq, e⟩ := Option.map_eq_some_iff.mp h
        cases e
        obtain ⟨gl, h1, h2⟩ := ih (by simpa using hl) hr hq
        obtain ⟨g, hg, ho, _⟩ := R.temp hB hn h0 (t := .fr d) rfl
        have D := ho.frD
        rw [hg] at D
        exact ⟨gl, .fr D h1, h2⟩
      | al s p =>
        simp only [MP.argsA] at h
        split at h <;> try (cases h; done)
        rename_i t he
        split at h <;> try (cases h; done)
        rename_i sh ts hp
        split at h <;> try (cases h; done)
        rename_i ds hds
        obtain ⟨q, hq, e⟩ := Option.map_eq_some_iff.mp h
        cases e
        obtain ⟨gl, h1, h2⟩ := ih (by simpa using hl) hr hq
        obtain ⟨g, a, cs, hg, hgp, rfl, _, hoc, _⟩ := R.node hB hn h0 he hp
        refine ⟨.nd a cs :: gl, .io hoc h1, ⟨t, g, a, cs, sh, ts, rfl, he, hp, hg, hgp, fun c hc => ?_⟩, h2⟩
        obtain ⟨a', cs', e1, _, _, hcl, ch⟩ := hoc.nd_
        cases e1
        obtain ⟨i, hi⟩ := List.getElem?_of_mem hc
        have hts := allFr_get hds
        have hlt := (List.getElem?_eq_some_iff.mp hi).1
        have hd : i < ds.length := by rw [hcl, hts, List.length_map] at hlt; exact hlt
        have := ch i c (.fr ds[i]) hi (by rw [hts]; simp [hd])
        cases this with
        | fr _ => exact ⟨_, rfl⟩
      | _ => simp [MP.argsA] at h
theorem flat_fp {a : Addr} {cs : List G} (h : ∀ c ∈ cs, ∃ w, c = G.lf w) : (G.nd a cs).fp = [a] := by
  have : G.fps cs = [] := by
    induction cs with
    | nil => rfl
    | cons c cs ih =>
      obtain ⟨w, rfl⟩ := h c List.mem_cons_self
      simp only [G.fps, G.fp, List.nil_append]
      exact ih fun c hc => h c (List.mem_cons_of_mem _ hc)
  simp [G.fp, this]
theorem IoAt.facts (nod : (G.fps gs).Nodup) : ∀ {bs : List (Nat × List Nat)} {gl : List G}, IoAt env gs bs gl → (bs.map (·.1)).Nodup → (G.fps gl).Nodup ∧ ∀ a ∈ G.fps gl, ∃ s ∈ bs.map (·.1), ∃ g, gs[s]? = some g ∧ a ∈ g.fp
  | [], [], _, _ => ⟨List.nodup_nil, fun a ha => by simp [G.fps] at ha⟩
  | [], _ :: _, h, _ => h.elim
  | _ :: _, [], h, _ => h.elim
  | (s, p) :: bs, g' :: gl, ⟨⟨t, g, a, cs, sh, ts, e, he, hp, hg, hgp, hf⟩, h⟩, hn => by
    subst e
    obtain ⟨n1, n2⟩ := List.nodup_cons.mp hn
    obtain ⟨i1, i2⟩ := IoAt.facts nod h n2
    have hag : a ∈ g.fp := G.at_fp hgp a List.mem_cons_self
    have fp1 := flat_fp (a := a) hf
    refine ⟨?_, fun b hb => ?_⟩
    · show ((G.nd a cs).fp ++ G.fps gl).Nodup
      rw [fp1]
      refine List.nodup_cons.mpr ⟨fun hin => ?_, i1⟩
      obtain ⟨s', hs', g2, hg2, ha2⟩ := i2 a hin
      obtain ⟨_, d⟩ := G.fps_get nod hg
      exact d s' g2 (fun e => n1 (e ▸ hs')) hg2 a ha2 hag
    · have hb' : b ∈ (G.nd a cs).fp ++ G.fps gl := hb
      rw [fp1] at hb'
      rcases List.mem_cons.mp hb' with rfl | hb'
      · exact ⟨s, List.mem_cons_self, g, hg, hag⟩
      · obtain ⟨s', hs', r⟩ := i2 b hb'
        exact ⟨s', List.mem_cons_of_mem _ hs', r⟩
/-- another heap that keeps what is tracked -/
theorem Rel.chgH {vs : List (Option V)} {es : Ev} {fz2 : Addr → Prop} {H2 : Hp} (R : Rel Φ vs es H fz gs) (k : ∀ a o, H a = some o → H2 a = some o) (f1 : ∀ a, fz a → fz2 a) (f2 : ∀ a, fz2 a → fz a ∨ Nw H a) (t : ∀ a, fz2 a → H2 a ≠ none) : Rel Φ vs es H2 fz2 gs := by
  have trk : ∀ a ∈ G.fps gs, H a ≠ none := fun a ha h => R.noFp h ha
  refine ⟨R.lenv, R.leng, R.big, R.als, fun i e hi => EntOk.mono (fun a o _ => k a o) f1 (fun a _ => k a) (R.ent i e hi), R.nod, fun a ha hf => ?_, t, fun a o h1 h2 => ⟨k a o (R.frm a o h1 h2).1, (R.frm a o h1 h2).2⟩, fun a ha => ?_, fun a ha => f1 a (R.fzo a ha)⟩
  · rcases f2 a hf with h | h
    · exact R.nfz a ha h
    · rcases h with h | ⟨ws, h⟩
      · exact trk a ha h
      · exact R.noTup h ha
  · rcases f2 a ha with h | h
    · exact R.fzi a h
    · cases h0 : Φ.H0 a with
      | none => exact .inr (.inr (.inl h0))
      | some o =>
        by_cases hs : a ∈ Φ.S0
        · exact .inr (.inl hs)
        · have := (R.frm a o h0 hs).1
          rcases h with h | ⟨ws, h⟩
          · rw [h] at this; cases this
          · rw [h] at this; cases this; exact .inr (.inr (.inr ⟨ws, h0⟩))
theorem backA_nd : ∀ {bs : List (Nat × List Nat)} {us : List Tr} {env env2 : Ev}, backA env bs us = some env2 → us.length = bs.length ∧ ∀ u ∈ us, ∃ sh ts, u = .nd sh ts
  | [], [], env, env2, h => ⟨rfl, by simp⟩
  | [], _ :: _, env, env2, h => by simp [backA] at h
  | _ :: _, [], env, env2, h => by simp [backA] at h
  | (s, p) :: bs, u :: us, env, env2, h => by
    simp only [backA] at h
    split at h <;> try (cases h; done)
    obtain ⟨h1, h2⟩ := backA_nd h
    refine ⟨by simp [h1], fun v hv => ?_⟩
    rcases List.mem_cons.mp hv with rfl | hv
    · exact ⟨_, _, rfl⟩
    · exact h2 v hv
theorem IoAt.len : ∀ {bs : List (Nat × List Nat)} {gl : List G}, IoAt env gs bs gl → bs.length = gl.length
  | [], [], _ => rfl
  | [], _ :: _, h => h.elim
  | _ :: _, [], h => h.elim
  | _ :: _, _ :: _, ⟨_, h⟩ => by simp [IoAt.len h]
theorem IoAt.mem : ∀ {bs : List (Nat × List Nat)} {gl : List G}, IoAt env gs bs gl → ∀ b ∈ G.fps gl, ∃ (k : Nat) (cs : List G), gl[k]? = some (.nd b cs)
  | [], [], _, b, hb => by simp [G.fps] at hb
  | [], _ :: _, h, _, _ => h.elim
  | _ :: _, [], h, _, _ => h.elim
  | _ :: _, g :: gl, ⟨⟨t, g1, a, cs, sh, ts, e, _, _, _, _, hf⟩, h⟩, b, hb => by
    subst e
    have hb' : b ∈ (G.nd a cs).fp ++ G.fps gl := hb
    rw [flat_fp hf] at hb'
    rcases List.mem_cons.mp hb' with rfl | hb'
    · exact ⟨0, cs, rfl⟩
    · obtain ⟨k, cs', hk⟩ := IoAt.mem h b hb'
      exact ⟨k + 1, cs', hk⟩
/-- the heap while some of what was handed in is still as it was -/
def halfH (H H' : Hp) (pend : List Addr) : Hp := fun a => if a ∈ pend then H a else H' a
theorem back_ok {fz' : Addr → Prop} {ro : G} {H0 : Hp} : ∀ {bs : List (Nat × List Nat)} {gl og : List G} {us : List Tr} {env env2 : Ev} {gs : List G},
    Rel Φ (B ++ S.map (·.1)) (env ++ S.map (·.2)) (halfH H H' (G.fps gl)) fz' gs → B.length = env.length → Φ.n ≤ env.length → IoAt env gs bs gl → (bs.map (·.1)).Nodup → (G.fps gl).Nodup → backA env bs us = some env2 → og.length = gl.length →
    (∀ (k : Nat) (g g' : G) (u : Tr), gl[k]? = some g → og[k]? = some g' → us[k]? = some u → (∃ sh ts, u = .nd sh ts) → g'.val = g.val ∧ OwnG H' fz' g' u) → (G.fps (ro :: og)).Nodup →
    (∀ a ∈ G.fps (ro :: og), ¬ fz' a ∧ (a ∈ G.fps gl ∨ ∀ o, Φ.H0 a = some o → a ∈ Φ.S0)) → (∀ a ∈ G.fps gs, a ∈ G.fps (ro :: og) → a ∈ G.fps gl) →
    env2.length = env.length ∧ ∃ gs2, Rel Φ (B ++ S.map (·.1)) (env2 ++ S.map (·.2)) H' fz' gs2 ∧ ∀ a ∈ G.fps gs2, a ∉ ro.fp
  | [], [], og, us, env, env2, gs, R, hB, hn, hio, hnb, hng, hb, hol, hout, hnod, hnew, hdis => by
    have : og = [] := by simpa using hol
    subst this
    cases us with
    | cons _ _ => simp [backA] at hb
    | nil =>
      simp only [backA] at hb
      cases hb
      have e : halfH H H' (G.fps []) = H' := by funext a; simp [halfH, G.fps]
      rw [e] at R
      refine ⟨rfl, gs, R, fun a ha hr => ?_⟩
      have := hdis a ha (by simp [G.fps, hr])
      simp [G.fps] at this
  | [], _ :: _, og, us, env, env2, gs, R, hB, hn, hio, hnb, hng, hb, hol, hout, hnod, hnew, hdis => hio.elim
  | _ :: _, [], og, us, env, env2, gs, R, hB, hn, hio, hnb, hng, hb, hol, hout, hnod, hnew, hdis => hio.elim
  | (s, p) :: bs, g0 :: gl, og, us, env, env2, gs, R, hB, hn, ⟨⟨t, g, a, cs, sh, ts, e0, he, hp, hg, hgp, hf⟩, hio⟩, hnb, hng, hb, hol, hout, hnod, hnew, hdis => by
    subst e0
    cases og with
    | nil => cases hol
    | cons g' og =>
    cases us with
    | nil => simp [backA] at hb
    | cons u us =>
    simp only [backA, he] at hb
    split at hb <;> try (cases hb; done)
    rename_i t' sh' ts' e1 
    cases e1
    obtain ⟨hv, ho⟩ := hout 0 _ _ _ rfl rfl rfl ⟨_, _, rfl⟩
    have ntp := ho.ndt
    obtain ⟨a', cs', eg, hHa, hok, hcl, ch⟩ := ho.nd_
    subst eg
    cases hv
    have hlt : s < env.length := (List.getElem?_eq_some_iff.mp he).1
    have fp0 := flat_fp (a := a) hf
    -- footprints
    have hsplit : G.fps (ro :: .nd a cs' :: og) = ro.fp ++ ((a :: G.fps cs') ++ G.fps og) := rfl
    rw [hsplit] at hnod
    obtain ⟨n1, n2, n3⟩ := List.nodup_append.mp hnod
    obtain ⟨n4, n5, n6⟩ := List.nodup_append.mp n2
    obtain ⟨n7, n8⟩ := List.nodup_cons.mp n4
    have glsplit : G.fps (.nd a cs :: gl) = a :: G.fps gl := by
      show (G.nd a cs).fp ++ G.fps gl = _
      rw [fp0]; rfl
    rw [glsplit] at hng
    obtain ⟨ng1, ng2⟩ := List.nodup_cons.mp hng
    -- later ghosts hold what is still to come
    have later : ∀ b ∈ G.fps gl, b ∈ G.fps og := fun b hb2 => by
      obtain ⟨k, ck, hk⟩ := IoAt.mem hio b hb2
      have hkl := (List.getElem?_eq_some_iff.mp hk).1
      obtain ⟨bl, bn⟩ := backA_nd hb
      have hku : k < us.length := by rw [bl, IoAt.len hio]; exact hkl
      have hko : k < og.length := by simp at hol; omega
      obtain ⟨q1, q2⟩ := hout (k + 1) _ og[k] us[k] hk (by simp [hko]) (by simp [hku]) (bn _ (List.getElem_mem hku))
      obtain ⟨sh2, ts2, eu⟩ := bn us[k] (List.getElem_mem hku)
      rw [eu] at q2
      obtain ⟨a2, c2, e2, _⟩ := q2.nd_
      rw [e2] at q1
      cases q1
      exact G.mem_fps.mpr ⟨og[k], List.getElem_mem hko, by rw [e2]; exact List.mem_cons_self⟩
    have csn : ∀ b ∈ G.fps cs', b ∉ G.fps (.nd a cs :: gl) := fun b hb2 hin => by
      rw [glsplit] at hin
      rcases List.mem_cons.mp hin with rfl | hin
      · exact n7 hb2
      · exact n6 b (List.mem_cons_of_mem _ hb2) b (later b hin) rfl
    have fzn : ∀ b, fz' b → b ∉ G.fps (.nd a cs :: gl) := fun b hb2 hin => by
      rw [glsplit] at hin
      rcases List.mem_cons.mp hin with rfl | hin
      · exact (hnew b (by rw [hsplit]; simp)).1 hb2
      · exact (hnew b (by rw [hsplit]; simp [later b hin])).1 hb2
    have eqH : ∀ b, b ∉ G.fps (.nd a cs :: gl) → halfH H H' (G.fps (.nd a cs :: gl)) b = H' b := fun b hb2 => by simp [halfH, hb2]
    have h1 : (env ++ S.map (·.2))[s]? = some (.own t) := by rw [List.getElem?_append_left hlt]; exact he
    have R1 := R.mut (cs' := cs') (ts' := ts') sh' h1 hg hgp hok hcl (fun i c w hc hw => by
        refine (ch i c w hc hw).mono (fun b o hb2 e => by rw [eqH b (fzn b hb2)]; exact e) (fun _ h => h) fun b hb2 o e => ?_
        rw [eqH b (csn b (G.mem_fps.mpr ⟨c, List.mem_of_getElem? hc, hb2⟩))]; exact e)
      n8 (fun b hb2 => .inr ⟨fun hin => csn b hb2 (hdis b hin (by rw [hsplit]; simp [hb2])), (hnew b (by rw [hsplit]; simp [hb2])).1, fun o e => by
        rcases (hnew b (by rw [hsplit]; simp [hb2])).2 with h | h
        · exact absurd h (csn b hb2)
        · exact h o e⟩)
      (fun i r b ds _ h => by
        cases r with
        | nil => cases h; exact ⟨_, rfl⟩
        | cons j r =>
          simp only [G.at, G.kids] at h
          cases hc : cs[j]? with
          | none => rw [hc] at h; cases h
          | some c =>
            rw [hc] at h
            obtain ⟨w, rfl⟩ := hf c (List.mem_of_getElem? hc)
            cases r <;> cases h)
    have eH : upd (halfH H H' (G.fps (.nd a cs :: gl))) a (sh'.ho (cs'.map G.val)) = halfH H H' (G.fps gl) := by
      funext b
      by_cases hba : b = a
      · subst hba
        rw [upd_same]
        simp [halfH, ng1, hHa]
      · rw [upd_ne hba]
        simp only [halfH, glsplit, List.mem_cons, hba, false_or]
    rw [eH, set_app_left hlt] at R1
    have hns : s ∉ bs.map (·.1) := (List.nodup_cons.mp hnb).1
    have hio2 : ∀ {bs2 : List (Nat × List Nat)} {gl2 : List G}, s ∉ bs2.map (·.1) → IoAt env gs bs2 gl2 → IoAt (env.set s (.own (t.put p (.nd sh' ts')))) (gs.set s (g.put p (.nd a cs'))) bs2 gl2 := by
      intro bs2
      induction bs2 with
      | nil => intro gl2 _ h; cases gl2 <;> exact h
      | cons q bs2 ih =>
        intro gl2 hq h
        cases gl2 with
        | nil => exact h
        | cons z gl2 =>
          simp only [List.map_cons, List.mem_cons, not_or] at hq
          obtain ⟨⟨t2, g2, a2, cs2, sh2, ts2, z1, z2, z3, z4, z5⟩, h2⟩ := h
          refine ⟨⟨t2, g2, a2, cs2, sh2, ts2, z1, ?_, z3, ?_, z5⟩, ih hq.2 h2⟩
          · rw [List.getElem?_set, if_neg hq.1]; exact z2
          · rw [List.getElem?_set, if_neg hq.1]; exact z4
    have gnod := G.fps_get R.nod hg
    obtain ⟨pf1, pf2⟩ := G.put_fp (h' := .nd a cs') gnod.1 hgp n4 (fun b hb2 => by
      rcases List.mem_cons.mp hb2 with rfl | hb2
      · exact .inl List.mem_cons_self
      · exact .inr fun hin => csn b hb2 (hdis b (R.own_in hg b hin) (by rw [hsplit]; simp [hb2])))
    obtain ⟨l2, gs2, R2, hd2⟩ := back_ok (og := og) (us := us) (ro := ro) (H0 := H0) R1 (by rw [List.length_set]; exact hB) (by rw [List.length_set]; exact hn) (hio2 hns hio) (List.nodup_cons.mp hnb).2 ng2 hb (by simpa using hol) (fun k z z' w hz hz' hw hnd => hout (k + 1) z z' w hz hz' hw hnd)
      (List.nodup_append.mpr ⟨n1, n5, fun x hx y hy => n3 x hx y (List.mem_append_right _ hy)⟩)
      (fun b hb2 => by
        have hb3 : b ∈ G.fps (ro :: .nd a cs' :: og) := by
          rw [hsplit]
          rcases List.mem_append.mp (show b ∈ ro.fp ++ G.fps og from hb2) with h | h
          · simp [h]
          · simp [h]
        obtain ⟨q1, q2⟩ := hnew b hb3
        refine ⟨q1, q2.imp_left fun h => ?_⟩
        rw [glsplit] at h
        rcases List.mem_cons.mp h with rfl | h
        · exfalso
          rcases List.mem_append.mp (show b ∈ ro.fp ++ G.fps og from hb2) with h | h
          · exact n3 b h b (by simp) rfl
          · exact n6 b List.mem_cons_self b h rfl
        · exact h)
      (fun b hb2 hb3 => by
        have nota : b ∉ (G.nd a cs').fp := fun hin => by
          rcases List.mem_append.mp (show b ∈ ro.fp ++ G.fps og from hb3) with h | h
          · exact n3 b h b (List.mem_append_left _ hin) rfl
          · exact n6 b hin b h rfl
        have hin : b ∈ G.fps gs := by
          obtain ⟨f1, f2⟩ := G.fps_set (g' := g.put p (.nd a cs')) R.nod hg pf1 (fun x hx => by
            rcases pf2 x hx with h | h
            · exact .inl h.1
            · rcases List.mem_cons.mp h with rfl | h
              · exact .inl (G.at_fp hgp x List.mem_cons_self)
              · exact .inr fun hin => csn x h (hdis x hin (by rw [hsplit]; simp [h])))
          rcases f2 b hb2 with h | h
          · exact h.1
          · rcases pf2 b h with h | h
            · exact R.own_in hg b h.1
            · exact absurd h nota
        have := hdis b hin (by
          rw [hsplit]
          rcases List.mem_append.mp (show b ∈ ro.fp ++ G.fps og from hb3) with h | h
          · simp [h]
          · simp [h])
        rw [glsplit] at this
        rcases List.mem_cons.mp this with rfl | h
        · exact absurd List.mem_cons_self nota
        · exact h)
    exact ⟨by rw [l2, List.length_set], gs2, R2, hd2⟩
/-- the whole of a call, seen by the caller -/
theorem doCall_ok {C : Cl} {f : Nat} {env2 : Ev} {xs : List En} {vs : List V} {z : En} (p : Px Φ B env (S ++ tz vs xs) H) (hl : vs.length = xs.length) (h : doCall C f env xs = .ok (env2, z)) :
    ∃ F0 as gl r, ArgsOk H F0 as vs gl ∧ (G.fps gl).Nodup ∧ (∀ a ∈ G.fps gl, ¬ F0 a) ∧ (∀ a, F0 a → H a ≠ none) ∧ C.run f as = .ok r ∧ ∀ v H' fz' ro og, RetOk H F0 gl r v H' fz' ro og → Px Φ B env2 (S ++ [(some v, z)]) H' := by
  unfold doCall at h
  split at h <;> try (cases h; done)
  rename_i env1 ys hF
  split at h <;> try (cases h; done)
  rename_i as bs hA
  split at h <;> try (cases h; done)
  rename_i hnb
  split at h <;> try (cases h; done)
  rename_i r hr
  split at h <;> try (cases h; done)
  rename_i env3 hb
  cases h
  obtain ⟨hB, hn, fz0, gs0, R0⟩ := p
  rw [List.map_append, List.map_append, tz_fst hl, tz_snd hl] at R0
  obtain ⟨e1, e2, fz, gs, R1⟩ := Rel.argsF (S := S.map (·.2)) R0 hn hF
  have hl2 : vs.length = ys.length := by rw [e2]; exact hl
  have R2 : Rel Φ (B ++ (S ++ tz vs ys).map (·.1)) (env1 ++ (S ++ tz vs ys).map (·.2)) H fz gs := by
    rw [List.map_append, List.map_append, tz_fst hl2, tz_snd hl2]; exact R1
  have hB1 : B.length = env1.length := by rw [e1]; exact hB
  have hn1 : Φ.n ≤ env1.length := by rw [e1]; exact hn
  obtain ⟨gl, hAr, hio⟩ := R2.argsA hB1 hn1 (j := S.length) hl2 (fun k v y hv hy => by
    rw [get_app_right]
    show ((vs.map some).zip ys)[k]? = _
    rw [List.getElem?_zip_eq_some]
    exact ⟨by rw [List.getElem?_map, hv]; rfl, hy⟩) hA
  obtain ⟨ngl, mgl⟩ := hio.facts R2.nod hnb
  have glo : ∀ a ∈ G.fps gl, a ∈ G.fps gs := fun a ha => by
    obtain ⟨s, _, g, hg, hag⟩ := mgl a ha
    exact R2.own_in hg a hag
  refine ⟨fz, as, gl, r, hAr, ngl, fun a ha => R2.nfz a (glo a ha), R2.tr, hr, fun v H' fz' ro og K => ?_⟩
  have Rb := R2.popT hB1 hn1
  -- what is handed in is all in og
  have fzg : ∀ a, fz' a → a ∉ G.fps gl := fun a hf hin => by
    obtain ⟨k, ck, hk⟩ := IoAt.mem hio a hin
    have hkl := (List.getElem?_eq_some_iff.mp hk).1
    obtain ⟨bl, bn⟩ := backA_nd hb
    have hku : k < r.outs.length := by rw [K.outs]; exact hkl
    have hko : k < og.length := by rw [K.olen]; exact hkl
    obtain ⟨q1, q2⟩ := K.out k _ og[k] r.outs[k] hk (by simp [hko]) (by simp [hku]) (bn _ (List.getElem_mem hku))
    obtain ⟨sh2, ts2, eu⟩ := bn r.outs[k] (List.getElem_mem hku)
    rw [eu] at q2
    obtain ⟨a2, c2, e2, _⟩ := q2.nd_
    rw [e2] at q1
    cases q1
    refine (K.new a ?_).1 hf
    show a ∈ ro.fp ++ G.fps og
    exact List.mem_append_right _ (G.mem_fps.mpr ⟨og[k], List.getElem_mem hko, by rw [e2]; exact List.mem_cons_self⟩)
  have R3 := Rb.chgH (fz2 := fz') (H2 := halfH H H' (G.fps gl)) (fun a o ha => by
      unfold halfH
      split
      · exact ha
      · rename_i hng; exact K.frame a o ha hng) K.fzo (fun a ha => (K.fzi a ha).imp id fun h => h.resolve_left (fzg a ha)) (fun a ha => by
      unfold halfH
      rw [if_neg (fzg a ha)]
      exact K.tr a ha)
  have tio : IoAt env1 (gs.take (env1 ++ S.map (·.2)).length) bs gl := by
    have gen : ∀ {bs2 : List (Nat × List Nat)} {gl2 : List G}, IoAt env1 gs bs2 gl2 → IoAt env1 (gs.take (env1 ++ S.map (·.2)).length) bs2 gl2 := by
      intro bs2
      induction bs2 with
      | nil => intro gl2 h; cases gl2 <;> exact h
      | cons q bs2 ih =>
        intro gl2 h
        cases gl2 with
        | nil => exact h
        | cons z gl2 =>
          obtain ⟨⟨t2, g2, a2, cs2, sh2, ts2, z1, z2, z3, z4, z5⟩, h2⟩ := h
          have := (List.getElem?_eq_some_iff.mp z2).1
          exact ⟨⟨t2, g2, a2, cs2, sh2, ts2, z1, z2, z3, by rw [List.getElem?_take, if_pos (by simp; omega)]; exact z4, z5⟩, ih h2⟩
    exact gen hio
  have newo : ∀ a ∈ G.fps (ro :: og), a ∈ G.fps gl ∨ ∀ o, Φ.H0 a = some o → a ∈ Φ.S0 := fun a ha => by
    refine (K.new a ha).2.imp id fun h o ho => ?_
    by_cases hs : a ∈ Φ.S0
    · exact hs
    · have := (R2.frm a o ho hs).1
      rw [h] at this; cases this
  obtain ⟨l2, gs2, R4, hro⟩ := back_ok (ro := ro) (og := og) (H0 := H) R3 hB1 hn1 tio hnb ngl hb K.olen K.out K.nod (fun a ha => ⟨(K.new a ha).1, newo a ha⟩) (fun a ha hin => by
    rcases (K.new a hin).2 with h | h
    · exact h
    · have ha2 : a ∈ G.fps gs := by
        obtain ⟨c, hc, hac⟩ := G.mem_fps.mp ha
        exact G.mem_fps.mpr ⟨c, List.mem_of_mem_take hc, hac⟩
      exact absurd ha2 (R2.noFp h))
  refine ⟨by rw [l2]; exact hB1, by rw [l2]; exact hn1, ?_⟩
  have hv := K.val
  cases hrv : r.val with
  | inl d =>
    rw [hrv] at hv
    exact ⟨_, _, by simpa using R4.pushF hv⟩
  | inr t =>
    rw [hrv] at hv
    obtain ⟨h1, h2⟩ := hv
    subst h1
    have hnd := (List.nodup_append.mp (show (ro.fp ++ G.fps og).Nodup from K.nod))
    have n0 : ∀ a ∈ ro.fp, ∀ o, Φ.H0 a = some o → a ∈ Φ.S0 := fun a ha => by
      rcases newo a (List.mem_append_left _ ha) with h | h
      · exfalso
        have : a ∈ G.fps og := by
          obtain ⟨k, ck, hk⟩ := IoAt.mem hio a h
          have hkl := (List.getElem?_eq_some_iff.mp hk).1
          obtain ⟨bl, bn⟩ := backA_nd hb
          have hku : k < r.outs.length := by rw [K.outs]; exact hkl
          have hko : k < og.length := by rw [K.olen]; exact hkl
          obtain ⟨q1, q2⟩ := K.out k _ og[k] r.outs[k] hk (by simp [hko]) (by simp [hku]) (bn _ (List.getElem_mem hku))
          obtain ⟨sh2, ts2, eu⟩ := bn r.outs[k] (List.getElem_mem hku)
          rw [eu] at q2
          obtain ⟨a2, c2, e2, _⟩ := q2.nd_
          rw [e2] at q1
          cases q1
          exact G.mem_fps.mpr ⟨og[k], List.getElem_mem hko, by rw [e2]; exact List.mem_cons_self⟩
        exact hnd.2.2 a ha a this rfl
      · exact h
    have R5 := R4.pushO h2 hnd.1 (fun a ha hin => hro a hin ha) (fun a ha => (K.new a (List.mem_append_left _ ha)).1) n0
    exact ⟨_, _, by simpa using R5⟩
end
end MP
set_option maxHeartbeats 1000000
set_option autoImplicit false
/-! mini: calls and defs, the rules -/
namespace MP
open PySem PySem.Spec PyProof.Rows L2
theorem kindsOk_len : ∀ {ms : List Bool} {as : List Ar}, kindsOk ms as = true → as.length = ms.length
  | [], [], _ => rfl
  | [], _ :: _, h => by simp [kindsOk] at h
  | true :: ms, [], h => by simp [kindsOk] at h
  | false :: ms, [], h => by simp [kindsOk] at h
  | true :: ms, .io _ :: as, h => by simp only [kindsOk] at h; simp [kindsOk_len h]
  | true :: ms, .fr _ :: as, h => by simp [kindsOk] at h
  | false :: ms, .fr _ :: as, h => by simp only [kindsOk] at h; simp [kindsOk_len h]
  | false :: ms, .io _ :: as, h => by simp [kindsOk] at h
theorem callN_len {P : Nat → Option Df} {n f : Nat} {d : Df} {as : List Ar} {r : Rt} (hP : P f = some d) (h : callN P n f as = .ok r) : as.length = d.io.length := by
  cases n with
  | zero => cases h
  | succ n =>
    have e : callN P (n + 1) f as = (match P f with | none => .stuck | some d => runDf (clN P n) d as) := rfl
    rw [e, hP] at h
    dsimp only at h
    unfold runDf at h
    split at h <;> try (cases h; done)
    rename_i hc
    exact kindsOk_len hc.1
/-- no exception is wanted -/
abbrev noE : XK := fun _ _ _ => False
section
variable {b : Bx} {X : Cx} {CX : CXT} {k n f : Nat} {fa : Addr} {fd : FuncData} {ps : List Str} {P : Nat → Option Df} {d : Df} {x : Str} {p pos : Pos} {e : Expr} {es : List Expr} {xs : Ex}
theorem call_imp {σ : L2.St} {H : Hp} {Q : VK} (hC : b.C = clN P n) (hP : P f = some d) (hl : d.io.length = ps.length) (h : tE b (.call f xs) σ H Q) : tCall (spD P n f ps.length) [] noE (tL b xs) σ H Q := by
  obtain ⟨R, env, S, p, q⟩ := h
  simp only [evE] at q
  refine ⟨R, env, S, p, q.bind fun q1 _ s1 vs H1 hvl p1 => ?_⟩
  cases hd : doCall b.C f q1.1 q1.2 with
  | stuck => rw [hd] at s1; exact s1.elim
  | exc c dd en =>
    exfalso
    unfold doCall at hd
    repeat' (split at hd <;> try (cases hd; done))
  | ok z =>
    rw [hd] at s1
    obtain ⟨F0, as, gl, r, h1, h2, h3, h4, h5, h6⟩ := doCall_ok p1 hvl hd
    rw [hC] at h5
    have h5' : callN P n f as = .ok r := h5
    refine ⟨by rw [List.append_nil, h1.len.1, callN_len hP h5', hl], F0, as, gl, r, by rw [List.append_nil]; exact h1, h2, h3, h4, h5', fun v H' fz' ro og K => s1 v H' (h6 v H' fz' ro og K)⟩
/-- f(e, ..) -/
theorem pE_call (hC : b.C = clN P n) (hP : P f = some d) (hl : d.io.length = ps.length) (F : FnG X.prog X.w X.K X.mg X.base CX k fa fd ps (spD P n f ps.length)) (hgd : X.A.guards = some []) (hr : Room k X.A) (hg : Gl X x) (hm : X.mg x = some (.ref fa)) (hk : PySem.W.keepIn X.K (.ref fa) = true) (hb : Binds X.K fd ps []) (hx : Passes CX X noE) (ha : PA X (e :: es) (tL b xs))
    (hdb : (x == ("__debug__" : Str)) = false) (he : starEach (e :: es) X.env = (false, eval e X.env) :: starEach es X.env) (hpl : (backTo pos (starEach es X.env)).any (·.1) = false) : PE X (.Call (.Name x p) (e :: es) [] pos) (tE b (.call f xs)) :=
  peImp (pe_callG F hgd hr hg hm hk hb hx ha hdb he hpl) fun σ H Q h => call_imp hC hP hl h
theorem pE_call0 (hC : b.C = clN P n) (hP : P f = some d) (hl : d.io.length = ps.length) (F : FnG X.prog X.w X.K X.mg X.base CX k fa fd ps (spD P n f ps.length)) (hgd : X.A.guards = some []) (hr : Room k X.A) (hg : Gl X x) (hm : X.mg x = some (.ref fa)) (hk : PySem.W.keepIn X.K (.ref fa) = true) (hb : Binds X.K fd ps []) (hx : Passes CX X noE)
    (hdb : (x == ("__debug__" : Str)) = false) : PE X (.Call (.Name x p) [] [] pos) (tE b (.call f .nil)) :=
  peImp (pe_callG0 F hgd hr hg hm hk hb hx hdb) fun σ H Q h => by
    obtain ⟨R, env, S, p, q⟩ := call_imp (ps := ps) hC hP hl h
    simp only [evL] at q
    exact q [] H rfl (by simpa using p)
end
/-! ### keywords -/
section
variable {b : Bx} {X : Cx} {CX : CXT} {k n f : Nat} {fa : Addr} {fd : FuncData} {ps ks : List Str} {P : Nat → Option Df} {d : Df} {x : Str} {p pos : Pos} {e : Expr} {es : List Expr} {kws : List Keyword} {xs ys : Ex} {at_ : List Nat}
theorem placed_vals : ∀ {vs : List V} {us : List Value} (at_ : List Nat), Vals vs us → Vals (placed vs at_) (placed us at_) := fun {vs us} at_ r => by
  unfold placed
  rw [r.length]
  generalize List.range us.length = l
  induction l with
  | nil => exact .nil
  | cons i l ih =>
    simp only [List.filterMap_cons]
    cases hp : pos1 i at_ with
    | none => simpa using ih
    | some j =>
      simp only [Option.bind_some]
      cases hv : vs[j]? with
      | none =>
        rw [r.none_of hv]
        exact ih
      | some v =>
        obtain ⟨u, hu, ru⟩ := r.get hv
        rw [hu]
        exact .cons ru ih
theorem pK_nil : PK X [] (tL b .nil) := ⟨fun pos pins s σ H Q I ⟨R, env, S, p, q⟩ => pk_nil.run pos pins s σ H Q I (by simp only [evL] at q; exact q [] H rfl (by simpa using p))⟩
theorem pK_cons {nm : Option Str} {kpos : Pos} {x : Ex} (ha : PE X e (tE b x)) (hr : PK X kws (tL b xs)) : PK X (⟨nm, e, kpos⟩ :: kws) (tL b (.cons x xs)) := ⟨fun pos pins s σ H Q I ⟨R, env, S, p, q⟩ => (pk_cons ha hr).run pos pins s σ H Q I (by
    simp only [evL] at q
    refine ⟨R, env, S, p, q.bind fun q1 _ s1 v1 H1 p1 => ?_⟩
    refine ⟨R, q1.1, _, p1, s1.bind fun q2 _ s2 vs H2 hl p2 => ?_⟩
    refine s2 (v1 :: vs) H2 (by simp [hl]) ?_
    simpa using p2)⟩
theorem tz_app {vs ws : List V} {xs ys : List En} (h : vs.length = xs.length) : tz (vs ++ ws) (xs ++ ys) = tz vs xs ++ tz ws ys := by
  show ((vs ++ ws).map some).zip (xs ++ ys) = _
  rw [List.map_append, List.zip_append (by simpa using h)]
/-- how many -/
def exLen : Ex → Nat
  | .cons _ r => exLen r + 1
  | _ => 0
theorem evL_len {C : Cl} : ∀ (xs : Ex) {env : Ev} {q : Ev × List En}, evL C xs env = .ok q → q.2.length = exLen xs
  | .nil, env, q, h => by simp only [evL] at h; cases h; rfl
  | .cons a r, env, q, h => by
    simp only [evL] at h
    cases e : evE C a env with
    | ok z =>
      rw [e, Res.bind_ok] at h
      cases e2 : evL C r z.1 with
      | ok w => rw [e2, Res.bind_ok] at h; cases h; simp [exLen, evL_len r e2]
      | stuck => rw [e2] at h; cases h
      | exc _ _ _ => rw [e2] at h; cases h
    | stuck => rw [e] at h; cases h
    | exc _ _ _ => rw [e] at h; cases h
  | .var _, _, _, h => by simp [evL] at h
  | .non, _, _, h => by simp [evL] at h
  | .bl _, _, _, h => by simp [evL] at h
  | .int _, _, _, h => by simp [evL] at h
  | .str _, _, _, h => by simp [evL] at h
  | .glob _ _, _, _, h => by simp [evL] at h
  | .bin _ _ _, _, _, h => by simp [evL] at h
  | .neg _, _, _, h => by simp [evL] at h
  | .not _, _, _, h => by simp [evL] at h
  | .cmp _ _ _, _, _, h => by simp [evL] at h
  | .chain _ _ _ _ _, _, _, h => by simp [evL] at h
  | .and _ _, _, _, h => by simp [evL] at h
  | .or _ _, _, _, h => by simp [evL] at h
  | .ife _ _ _, _, _, h => by simp [evL] at h
  | .tup _, _, _, h => by simp [evL] at h
  | .lst _, _, _, h => by simp [evL] at h
  | .dnew _, _, _, h => by simp [evL] at h
  | .sub _ _, _, _, h => by simp [evL] at h
  | .slc _ _ _, _, _, h => by simp [evL] at h
  | .rev _, _, _, h => by simp [evL] at h
  | .bi _ _, _, _, h => by simp [evL] at h
  | .call _ _, _, _, h => by simp [evL] at h
  | .callk _ _ _ _, _, _, h => by simp [evL] at h
  | .mth _ _ _, _, _, h => by simp [evL] at h
  | .lc _ _ _ _ _ _, _, _, h => by simp [evL] at h
/-- positional and keyword values, so many of each, in the parameters' order -/
def placed2 {α : Type} (m c : Nat) (at_ : List Nat) (xs ys : List α) : List α := if xs.length = m ∧ ys.length = c then placed (xs ++ ys) at_ else []
theorem placed2_vals {m c : Nat} {at_ : List Nat} {vs zs : List V} {us ws : List Value} (r : Vals vs us) (q : Vals zs ws) : Vals (placed2 m c at_ vs zs) (placed2 m c at_ us ws) := by
  unfold placed2
  rw [r.length, q.length]
  split
  · exact placed_vals at_ (r.append q)
  · exact .nil
theorem placed2_len {α : Type} {m c : Nat} {at_ : List Nat} {xs ys : List α} (h : (placed2 m c at_ xs ys).length ≠ 0) : xs.length = m ∧ ys.length = c := by
  unfold placed2 at h
  split at h
  · assumption
  · exact absurd rfl h
theorem callk_imp {σ : L2.St} {H : Hp} {Q : VK} (hC : b.C = clN P n) (hP : P f = some d) (hl : d.io.length = ps.length) (h : tE b (.callk f xs ys at_) σ H Q) : tCallK (spD P n f ps.length) (placed2 (exLen xs) (exLen ys) at_) noE (tL b xs) (tL b ys) σ H Q := by
  obtain ⟨R, env, S, p, q⟩ := h
  simp only [evE] at q
  refine ⟨R, env, S, p, q.bind fun q1 e1 s1 vs H1 hvl p1 => ?_⟩
  refine ⟨R, q1.1, _, p1, s1.bind fun q2 e2 s2 zs H2 hzl p2 => ?_⟩
  have hlen2 : vs.length = exLen xs ∧ zs.length = exLen ys := ⟨hvl.trans (evL_len xs e1), hzl.trans (evL_len ys e2)⟩
  have epl : placed2 (exLen xs) (exLen ys) at_ vs zs = placed (vs ++ zs) at_ := if_pos hlen2
  show spD P n f ps.length (placed2 (exLen xs) (exLen ys) at_ vs zs) H2 Q noE
  rw [epl]
  obtain ⟨w, hw, s3⟩ := s2.ofO
  have hvz : (vs ++ zs).length = (q1.2 ++ q2.2).length := by simp [hvl, hzl]
  have p3 : Px b.Φ (σ ++ R) q2.1 (S ++ tz (vs ++ zs) (q1.2 ++ q2.2)) H2 := by rw [tz_app hvl]; simpa using p2
  obtain ⟨fz, gs, R1⟩ := p3.args hvz
  obtain ⟨hle, fz', gs', R2, _⟩ := R1.frzs p3.2.1 (show frzL q2.1 (q1.2 ++ q2.2) = some (w.1, w.2) from hw)
  have hB : (σ ++ R).length = w.1.length := by rw [hle]; exact p3.1
  have hn : b.Φ.n ≤ w.1.length := by rw [hle]; exact p3.2.1
  have R3 : Rel b.Φ ((σ ++ R ++ S.map (·.1)) ++ (vs ++ zs).map some) ((w.1 ++ S.map (·.2)) ++ w.2.map .fr) H2 fz' gs' := by simpa using R2
  obtain ⟨hwl, hd⟩ := R3.frs (by rw [List.length_append, hB]; simp)
  have Rb := Rel.drop R3 (by rw [List.length_append, hB]; simp) (by simp; omega)
  -- the places
  have key : ∀ (l : List Nat) (av : List V) (ae : List En) (gs2 : _), Rel b.Φ (σ ++ R ++ S.map (·.1) ++ av.map some) (w.1 ++ S.map (·.2) ++ ae) H2 fz' gs2 →
      ∃ gs3, Rel b.Φ (σ ++ R ++ S.map (·.1) ++ (av ++ l.filterMap (fun i => (pos1 i at_).bind fun j => (vs ++ zs)[j]?)).map some) (w.1 ++ S.map (·.2) ++ (ae ++ (l.filterMap fun i => (pos1 i at_).bind fun j => w.2[j]?).map .fr)) H2 fz' gs3 := by
    intro l
    induction l with
    | nil => intro av ae gs2 R4; exact ⟨gs2, by simpa using R4⟩
    | cons i l ih =>
      intro av ae gs2 R4
      simp only [List.filterMap_cons]
      cases hp : pos1 i at_ with
      | none => simp only [Option.bind_none]; exact ih av ae gs2 R4
      | some j =>
        simp only [Option.bind_some]
        cases hv : (vs ++ zs)[j]? with
        | none =>
          have : w.2[j]? = none := by rw [List.getElem?_eq_none_iff] at hv ⊢; omega
          rw [this]
          exact ih av ae gs2 R4
        | some v =>
          have hj : j < w.2.length := by have := (List.getElem?_eq_some_iff.mp hv).1; omega
          have hdj : w.2[j]? = some w.2[j] := by simp [hj]
          rw [hdj]
          have := R4.pushF (hd j v _ hv hdj)
          obtain ⟨gs3, R5⟩ := ih (av ++ [v]) (ae ++ [.fr w.2[j]]) _ (by simpa using this)
          exact ⟨gs3, by simpa using R5⟩
  obtain ⟨gs2, R4⟩ := key (List.range w.2.length) [] [] _ (by simpa using Rb)
  simp only [List.nil_append] at R4
  generalize ew : ((List.range w.2.length).filterMap fun i => (pos1 i at_).bind fun j => (vs ++ zs)[j]?) = ws at R4
  have ew2 : ws = placed (vs ++ zs) at_ := by rw [← ew, ← hwl]; rfl
  have hpl : (placed w.2 at_) = (List.range w.2.length).filterMap fun i => (pos1 i at_).bind fun j => w.2[j]? := rfl
  have hlen : ws.length = ((placed w.2 at_).map En.fr).length := by
    have := R4.lenv
    rw [hpl]
    simp only [List.length_append, List.length_map] at this ⊢
    simp only [List.length_append] at hB
    omega
  have p4 : Px b.Φ (σ ++ R) w.1 (S ++ tz ws ((placed w.2 at_).map .fr)) H2 := by
    refine ⟨hB, hn, fz', gs2, ?_⟩
    rw [List.map_append, List.map_append, tz_fst hlen, tz_snd hlen, hpl]
    simpa using R4
  cases hdo : doCall b.C f w.1 ((placed w.2 at_).map .fr) with
  | stuck => rw [hdo] at s3; exact s3.elim
  | exc c dd en =>
    exfalso
    unfold doCall at hdo
    repeat' (split at hdo <;> try (cases hdo; done))
  | ok z =>
    rw [hdo] at s3
    obtain ⟨F0, as, gl, r, h1, h2, h3, h4, h5, h6⟩ := doCall_ok p4 hlen hdo
    rw [hC] at h5
    have h5' : callN P n f as = .ok r := h5
    rw [ew2] at h1
    exact ⟨by rw [h1.len.1, callN_len hP h5', hl], F0, as, gl, r, h1, h2, h3, h4, h5', fun v H' fz' ro og K => s3 v H' (h6 v H' fz' ro og K)⟩
/-- how keywords bind -/
theorem kb_of {m c : Nat} (h0 : ps.length ≠ 0) (hb : ∀ (s : Shared) (us ws : List Value), X.K.In s.heap → us.length = m → ws.length = c → BindsTo s fd ⟨us, ks.zip ws⟩ (ps.zip (placed (us ++ ws) at_))) : KBinds X.K fd ps ks (placed2 m c at_) (placed2 m c at_) :=
  ⟨fun s us ws k l => by
    have q := placed2_len (by rw [l]; exact h0)
    have e : placed2 m c at_ us ws = placed (us ++ ws) at_ := if_pos q
    rw [e]
    exact hb s us ws k q.1 q.2, fun r rz => placed2_vals r rz⟩
/-- f(e, .., k = v, ..) -/
theorem pE_callk (hC : b.C = clN P n) (hP : P f = some d) (hl : d.io.length = ps.length) (F : FnG X.prog X.w X.K X.mg X.base CX k fa fd ps (spD P n f ps.length)) (hgd : X.A.guards = some []) (hr : Room k X.A) (hg : Gl X x) (hm : X.mg x = some (.ref fa)) (hk : PySem.W.keepIn X.K (.ref fa) = true)
    (h0 : ps.length ≠ 0) (hb : ∀ (s : Shared) (us ws : List Value), X.K.In s.heap → us.length = exLen xs → ws.length = exLen ys → BindsTo s fd ⟨us, ks.zip ws⟩ (ps.zip (placed (us ++ ws) at_))) (hx : Passes CX X noE) (ha : PA X (e :: es) (tL b xs)) (hkw : PK X kws (tL b ys))
    (hall : (backToKw pos (keywordEach kws X.env)).all (·.1.isSome) = true) (hks : (backToKw pos (keywordEach kws X.env)).filterMap (·.1) = ks) (hdb : (x == ("__debug__" : Str)) = false) (he : starEach (e :: es) X.env = (false, eval e X.env) :: starEach es X.env)
    (hpl : ((backTo pos (starEach (e :: es) X.env)).any (·.1) || (backToKw pos (keywordEach kws X.env)).any (·.1.isNone)) = false) : PE X (.Call (.Name x p) (e :: es) kws pos) (tE b (.callk f xs ys at_)) :=
  peImp (pe_callGK F hgd hr hg hm hk (kb_of h0 hb) hx ha hkw hall hks hdb he hpl) fun σ H Q h => callk_imp hC hP hl h
/-- f(k = v, ..) -/
theorem pE_callk0 (hC : b.C = clN P n) (hP : P f = some d) (hl : d.io.length = ps.length) (F : FnG X.prog X.w X.K X.mg X.base CX k fa fd ps (spD P n f ps.length)) (hgd : X.A.guards = some []) (hr : Room k X.A) (hg : Gl X x) (hm : X.mg x = some (.ref fa)) (hk : PySem.W.keepIn X.K (.ref fa) = true)
    (h0 : ps.length ≠ 0) (hb : ∀ (s : Shared) (ws : List Value), X.K.In s.heap → ws.length = exLen ys → BindsTo s fd ⟨[], ks.zip ws⟩ (ps.zip (placed ws at_))) (hx : Passes CX X noE) (hkw : PK X kws (tL b ys))
    (hall : (backToKw pos (keywordEach kws X.env)).all (·.1.isSome) = true) (hks : (backToKw pos (keywordEach kws X.env)).filterMap (·.1) = ks) (hdb : (x == ("__debug__" : Str)) = false)
    (hpl : ((backTo pos (starEach [] X.env)).any (·.1) || (backToKw pos (keywordEach kws X.env)).any (·.1.isNone)) = false) : PE X (.Call (.Name x p) [] kws pos) (tE b (.callk f .nil ys at_)) := by
  refine ⟨fun pins s σ H Q I h => wpAny_Call_Name_kw (ld_glob I hg hm ?_ hdb)⟩
  have q := callk_imp (ps := ps) hC hP hl h
  have q0 : tL b ys σ H fun zs H2 => spD P n f ps.length (placed2 0 (exLen ys) at_ [] zs) H2 Q noE := by
    obtain ⟨R, env, S, p, q⟩ := q
    simp only [evL] at q
    exact q [] H rfl (by simpa using p)
  refine PySem.W.callWith_KW0 (h₀ := X.base) I.ok.mod.kin hk hall (thn (hkw.run pos pins s σ H _ I q0) fun ws s2 ⟨zs, H2, I2, rz, q2⟩ => ⟨I2.kIn, ?_⟩) hpl
  rw [hks]
  have r2 : Vals (placed2 0 (exLen ys) at_ [] zs) (placed2 0 (exLen ys) at_ [] ws) := placed2_vals .nil rz
  have hl2 : (placed2 0 (exLen ys) at_ [] ws).length = ps.length := by rw [← r2.length]; exact F.len _ _ _ _ q2
  have hn := placed2_len (by rw [hl2]; exact h0)
  have e : placed2 0 (exLen ys) at_ [] ws = placed ws at_ := if_pos hn
  rw [e] at r2
  exact run_G (us := []) F hgd hr hx I2 (hb s2 ws I2.kIn hn.2) r2 q2
end
/-- a def of the text, its body read by its mini text -/
theorem fnD {CX : CXT} {P0 : Program} {w : World} {K : PySem.W.Frag} {mg : Str → Option Value} {base : Heap} {k n f : Nat} {fa : Addr} {name qual : Str} {params : Arguments} {body : List Stmt} {scope : Scope} {dV kV doc pm cdv ct oc : Value} {an od : Option Addr} {osl : Array (Option Value)} {N ps : List Str} {P : Nat → Option Df} {d : Df}
    (lk : K.lookup fa = some ⟨oc, od, .func (PySem.W.fnOf name qual params body scope dV kV doc pm an cdv ct), osl⟩) (hcd : PySem.W.codeIn K cdv qual = true) (S : FnScope N ps scope) (hP : P f = some d) (hN : N.length = d.nl)
    (hbody : ∀ (b : Bx) (A : Around) (outer : List Env) (s : Shared) (H : Hp) (E : XK), b.C = clN P n → N.length ≤ b.Φ.n → (A.deeper (envOfC qual scope s.heap.objs.size fa cdv)).guards = some [] → Room k (A.deeper (envOfC qual scope s.heap.objs.size fa cdv)) →
      PSs (cxOf CX P0 w K mg base N qual scope fa cdv A outer s H E) body (tS b d.body)) :
    FnG P0 w K mg base CX (k + 1) fa (PySem.W.fnOf name qual params body scope dV kV doc pm an cdv ct) ps (spD P (n + 1) f ps.length) :=
  fnG_of lk hcd S (fun vs H Q E h => h.1) fun A outer s H vs Q E hgd hr h => by
    obtain ⟨Φ, hΦ, ht⟩ := spD_body (N := N) (fun _ => Value.none) (fun _ _ _ _ => False) hP hN h
    exact ⟨_, hbody ⟨Φ, clN P n, fun _ => Value.none, fun _ _ _ _ => False⟩ A outer s H E rfl hΦ hgd hr, ht⟩
/-- at depth 0 nothing is promised -/
theorem fnD0 {CX : CXT} {P0 : Program} {w : World} {K : PySem.W.Frag} {mg : Str → Option Value} {base : Heap} {k f : Nat} {fa : Addr} {fd : FuncData} {ps : List Str} {P : Nat → Option Df} : FnG P0 w K mg base CX k fa fd ps (spD P 0 f ps.length) :=
  ⟨fun vs H Q E h => h.1, fun A outer s H args us vs Q E _ _ _ _ _ h => by obtain ⟨_, F0, as, gs, r, _, _, _, _, h, _⟩ := h; cases h⟩
end MP
namespace MP
open PySem L2 PySem.Spec PyProof.Rows
/-! the law's end -/
/-- the script's object -/
def scO (vs : List Value) : Obj := { cls := .type "list", data := .seq vs.toArray }
/-- the heap that knows the script alone -/
def scH (a : Addr) (vs : List Value) (ns : List Int) : Hp := fun b => if b = a then some (.frz (scO vs) (.lst (ns.map V.int))) else none
theorem scH_at {a : Addr} {vs : List Value} {ns : List Int} : scH a vs ns a = some (.frz (scO vs) (.lst (ns.map V.int))) := if_pos rfl
theorem scH_no {a b : Addr} {vs : List Value} {ns : List Int} (h : b ≠ a) : scH a vs ns b = none := if_neg h
theorem scH_some {a b : Addr} {vs : List Value} {ns : List Int} (h : scH a vs ns b ≠ none) : b = a := Classical.byContradiction fun n => h (scH_no n)
theorem scH_inv {a b : Addr} {vs : List Value} {ns : List Int} {u : HO} (h : scH a vs ns b = some u) : b = a ∧ u = .frz (scO vs) (.lst (ns.map V.int)) := by
  have e : b = a := scH_some (by rw [h]; simp)
  subst e
  rw [scH_at] at h
  cases h
  exact ⟨rfl, rfl⟩
/-- no list of ints lies in the fragment -/
def noInts (K : PySem.W.Frag) : Bool := K.all fun x => match x.2.cls, x.2.data with
  | .type nm, .seq its _ => !(nm == ("list" : Str)) || its.any fun v => match v with | .int _ _ => false | _ => true
  | _, _ => true
theorem fromK {K : PySem.W.Frag} {a : Addr} {o : Obj} (h : K.lookup a = some o) : (a, o) ∈ K := by
  induction K with
  | nil => cases h
  | cons x K ih =>
    obtain ⟨b, u⟩ := x
    rw [List.lookup_cons] at h
    cases e : a == b with
    | true =>
      rw [e] at h
      cases h
      rw [eq_of_beq e]
      exact .head _
    | false =>
      rw [e] at h
      exact .tail _ (ih h)
theorem out_ints : ∀ {vs : List Value} {ns : List Int}, IntsAre vs ns → (vs.any fun v => match v with | .int _ _ => false | _ => true) = false
  | _, _, .nil => rfl
  | _, _, .cons n t h => by rw [List.any_cons, out_ints h]; rfl
theorem notK {K : PySem.W.Frag} {a : Addr} {vs : List Value} {ns : List Int} (hn : noInts K = true) (hi : IntsAre vs ns) : K.lookup a ≠ some (scO vs) := fun h => by
  have q := List.all_eq_true.mp hn _ (fromK h)
  have e := out_ints hi
  simp [scO] at q
  obtain ⟨v, hv, q⟩ := q
  have z := List.any_eq_false.mp e v hv
  revert q z
  cases v <;> simp
section
variable {P : Program} {w : World} {K : PySem.W.Frag} {mg mb : Str → Option Value} {CX : CXT} {k : Nat} {fa a : Addr} {fd : FuncData} {x : Str} {sp : Sp} {s1 : Shared} {vs : List Value} {ns : List Int}
theorem end_call (KX : K.In s1.heap) (g1 : s1.heap.Ns mainGlobals mg) (g2 : s1.heap.Ns builtinsNs mb) (g3 : ∀ y : Str, y ≠ "__name__" → mb y = bootBuiltins y) (g4 : s1.heap.NoLimit) (g5 : s1.gens = #[])
    (ha : s1.heap.get? a = some (scO vs)) (hi : IntsAre vs ns) (hl : ns.length ≤ sizeLine) (hr : Room k callerA) (hn : noInts K = true)
    (F : ∀ bs : Heap, K.In bs → bs.Ns mainGlobals mg → FnG P w K mg bs CX k fa fd [x] sp) (hx : ∀ (s : Shared) (u : Value), BindsTo s fd ⟨[u], []⟩ [(x, u)])
    (hs : sp [.ref a] (scH a vs ns) (fun v _ => v = .bl true) noE) (hC : ∀ H e s', CX [] H s1 noE e s' → False) :
    codeAny (model P w) callerA (.call (.ref fa) ⟨[.ref a], []⟩) (fun r t => r = .ok (.ret (.bool true)) ∧ OldK s1.heap t.heap ∧ t.os = s1.os ∧ AllBare t.gens) s1 := by
  let H := scH a vs ns
  have rv := vals_ints hi
  have lv := hi.length
  have kK : K.lookup a = none := by
    cases e : K.lookup a with
    | none => rfl
    | some o =>
      have z := KX a o e
      rw [ha] at z
      cases z
      exact absurd e (notK hn hi)
  have dN : ∀ {b : Addr} {o : Obj} {es : Array DictEntry} {ep : Nat}, s1.heap.get? b = some o → o.data = .dict es ep → H b = none := fun {b o es ep} e d => by
    refine scH_no fun z => ?_
    subst z
    rw [ha] at e
    cases e
    cases d
  have nN : ∀ {b : Addr} {m : Str → Option Value}, s1.heap.Ns b m → (hidT s1.heap H).Ns b m := fun ⟨o, es, ep, e, d, r⟩ => ⟨o, es, ep, hidT_get e (dN e d), d, r⟩
  have kB : K.In (hidT s1.heap H) := fun b o e => hidT_get (KX b o e) (scH_no fun z => by subst z; rw [kK] at e; cases e)
  obtain ⟨mc, c1, c2⟩ := g4
  have hok : HOk P w H s1.heap := fun b u z => by
    obtain ⟨e1, e2⟩ := scH_inv z
    subst e1 e2
    exact ⟨ha, by rw [List.length_map]; exact hl, vs, _, rv, ha⟩
  have e0 : Env0 P w K mg (hidT s1.heap H) callerA [] s1 H :=
    ⟨rfl, ⟨kB, nN g1, ⟨mb, nN g2, g3⟩, ⟨mc, nN c1, c2⟩⟩, fun b o e => of_hidT e, by rw [hidT_size]; exact Nat.le_refl _, trivial, fun b hb => (by cases hb), hok, .of_eq g5⟩
  refine codeAny_mono ((F _ kB (nN g1)).run callerA [] s1 H ⟨[.ref a], []⟩ [.ref a] [.ref a] _ _ rfl hr e0 (hx s1 (.ref a)) (.cons rfl .nil) hs) fun r t h => ?_
  rcases r with e | fl
  · exact (hC H e t h).elim
  cases fl with
  | next => exact False.elim h
  | brk => exact False.elim h
  | cont => exact False.elim h
  | ret u =>
    obtain ⟨v, H2, os, br, un, hok2, rr, q⟩ := h
    cases (show v = .bl true from q)
    cases (show u = Value.bool true from rr)
    refine ⟨rfl, OldK.of_keep fun b o e => ?_, os, br⟩
    cases q : H b with
    | none => exact un.keep b o e q (by intro z; cases z) (by simp)
    | some u =>
      obtain ⟨e1, e2⟩ := scH_inv q
      subst e1 e2
      rw [ha] at e
      cases e
      exact (hok2 _ _ (un.frzs _ _ _ q)).1
end
/-- the walk of a law whose def keeps a mini promise -/
theorem end_walk {l : PySem.W.OpenLaw} {k : Nat} {q : Program} {loose : List Str} {XP : (Str → Option Value) → Heap → Prop} {YP : World → Heap → Prop} {d : DefRec} {K : Params → PySem.W.Frag} {CX : World → CXT} {sp : Sp} {x : Str} {m : Nat}
    (hn : l.most = some m) (hm : m ≤ sizeLine) (hdf : d.params.defaults = []) (hr : Room k callerA) (hY : ∀ (w : World) (h : Heap), YP w h → (K w.params).In h) (hK : ∀ P : Params, noInts (K P) = true)
    (F : ∀ (w : World) (mg : Str → Option Value) (fa : Addr) (h : Heap), (K w.params).In h → h.Ns mainGlobals mg → mg d.name = some (.ref fa) →
      ∃ fd : FuncData, (∀ (s : Shared) (u : Value), BindsTo s fd ⟨[u], []⟩ [(x, u)]) ∧ ∀ bs : Heap, (K w.params).In bs → bs.Ns mainGlobals mg → FnG l.prog w (K w.params) mg bs (CX w) k fa fd [x] sp)
    (hs : ∀ (a : Addr) (vs : List Value) (ns : List Int), ns.length ≤ m → IntsAre vs ns → sp [.ref a] (scH a vs ns) (fun v _ => v = .bl true) noE)
    (hC : ∀ (w : World) (H : Hp) (s : Shared) (e : Value) (s' : Shared), CX w [] H s noE e s' → False) : PySem.W.WalkO q loose XP YP l.row.toRowW d [] (fun f us => PySem.call f us) := by
  refine Att.attach_call hn hdf fun w s0 s1 mg mb fa o pm cd doc a vs ns Gd Y ho hd hcd hmg hobj hints hlen hg => ?_
  have KX := hY w _ Y
  obtain ⟨fd, hb, hF⟩ := F w mg fa _ KX Gd.T.g hmg
  exact end_call KX Gd.T.g Gd.T.b Gd.T.builtins Gd.T.nolimit hg hobj hints (Nat.le_trans hlen hm) hr (hK _) hF hb (hs a vs ns hlen hints) fun H e s' => hC w H s1 e s'
/-- what the script is to a mini text -/
def scD (ns : List Int) : Dt := .list (ns.map .int)
theorem end_sp {P : Nat → Option Df} {n f : Nat} (a : Addr) (vs : List Value) (ns : List Int) (hl : ns.length ≤ sizeLine) {r : Rt} (h : callN P n f [.fr (scD ns)] = .ok r) (hr : r.val = .inl (.bool true)) : spD P n f 1 [.ref a] (scH a vs ns) (fun v _ => v = .bl true) noE := by
  refine ⟨rfl, fun b => b = a, _, [], r, .fr (.nd (vs := ns.map V.int) (ds := ns.map .int) .ls rfl rfl (.inr ⟨rfl, _, scH_at⟩) ?_ (by simp) ?_) .nil, ?_, ?_, ?_, h, ?_⟩
  · simpa [Sh.ok] using hl
  · intro i v e hv he
    rw [List.getElem?_map] at hv he
    cases q : ns[i]? with
    | none => rw [q] at hv; cases hv
    | some z => rw [q] at hv he; cases hv; cases he; exact .int z
  · exact List.nodup_nil
  · intro b hb; cases hb
  · rintro b rfl; rw [scH_at]; simp
  · intro v H2 fz2 ro og R
    have q := R.val
    rw [hr] at q
    generalize hd : PyData.bool true = d at q
    cases q with
    | bl b => cases hd; rfl
    | nd sh e => subst e; cases sh <;> cases hd
    | _ => cases hd
end MP
namespace MP
open PySem L2 PySem.Spec PyProof.Rows
/-! the defs of a law, all at once -/
theorem lt1 {n : Nat} (h : n + 64 < cLine) : n + 1 < cLine := by omega
/-- a def: its name, its text, its parameters, its mini text -/
structure DT where
  x : Str
  st : Stmt
  ps : List Str
  d : Df
def pOf (T : List DT) : Nat → Option Df := fun i => (T[i]?).map (·.d)
/-- the module behind the top -/
structure Md where
  P0 : Program
  w : World
  K : PySem.W.Frag
  mg : Str → Option Value
  base : Heap
  fa : Nat → Addr
  fd : Nat → FuncData
/-- what stands there: the defs, the names that are none of the module's, its ints, what it imports -/
structure Fx0 (c : Md) (T : List DT) (zs : List Str) (gs : List (Str × Int)) (bs : List (Str × String)) : Prop where
  F : ∀ (i : Nat) (t : DT), T[i]? = some t → Fun c.K t.x t.x t.st (c.fa i) (c.fd i)
  m : ∀ (i : Nat) (t : DT), T[i]? = some t → c.mg t.x = some (.ref (c.fa i))
  z : ∀ (j : Nat) (x : Str), zs[j]? = some x → c.mg x = none
  g : ∀ (j : Nat) (q : Str × Int), gs[j]? = some q → ∃ t, c.mg q.1 = some (.int q.2 t)
  b : ∀ (j : Nat) (q : Str × String), bs[j]? = some q → c.mg q.1 = some (.builtin q.2)
/-- def i keeps its promise, n calls deep -/
def GA (c : Md) (T : List DT) (n i : Nat) : Prop := ∀ t, T[i]? = some t → FnG c.P0 c.w c.K c.mg c.base CX0 n (c.fa i) (c.fd i) t.ps (spD (pOf T) n i t.ps.length)
theorem ga_zero {c : Md} {T : List DT} : ∀ i, GA c T 0 i := fun i t h => fnD0
theorem ga_all {c : Md} {T : List DT} (h : ∀ n i, (∀ j, GA c T n j) → ∀ t, T[i]? = some t → GA c T (n + 1) i) : ∀ n i, GA c T n i := by
  intro n
  induction n with
  | zero => exact ga_zero
  | succ n ih => exact fun i t ht => h n i ih t ht t ht
/-- a def by its body -/
theorem ga_def {c : Md} {T : List DT} {zs : List Str} {gs : List (Str × Int)} {bs : List (Str × String)} {n i : Nat} {t : DT} {N : List Str} (fx : Fx0 c T zs gs bs) (ht : T[i]? = some t) (S : FnScope N t.ps (defScope t.st)) (hN : N.length = t.d.nl)
    (hbody : ∀ (b : Bx) (A : Around) (outer : List Env) (s : Shared) (H : Hp) (E : XK) (cdv : Value), b.C = clN (pOf T) n → N.length ≤ b.Φ.n → (A.deeper (envOfC t.x (defScope t.st) s.heap.objs.size (c.fa i) cdv)).guards = some [] → Room n (A.deeper (envOfC t.x (defScope t.st) s.heap.objs.size (c.fa i) cdv)) →
      (A.deeper (envOfC t.x (defScope t.st) s.heap.objs.size (c.fa i) cdv)).units + 64 < cLine → N.Nodup → PSs (cxOf CX0 c.P0 c.w c.K c.mg c.base N t.x (defScope t.st) (c.fa i) cdv A outer s H E) (defBody t.st) (tS b t.d.body)) : GA c T (n + 1) i := fun t2 h2 => by
  rw [ht] at h2
  cases h2
  obtain ⟨oc, od, kV, doc, pm, an, cdv, ct, osl, e, lk, hcd⟩ := (fx.F i t ht).ex
  have hP : pOf T i = some t.d := by unfold pOf; rw [ht]; rfl
  rw [e]
  rw [e] at lk
  exact fnD lk hcd S hP hN fun b A outer s H E h1 h2 h3 h4 => hbody b A outer s H E cdv h1 h2 h3 h4 (by have := h4.un; omega) S.nd
/-- how the arguments of def i bind -/
theorem Fx0.bind {c : Md} {T : List DT} {zs : List Str} {gs : List (Str × Int)} {bs : List (Str × String)} (fx : Fx0 c T zs gs bs) {i : Nat} {t : DT} (ht : T[i]? = some t)
    (h : ∀ (kV doc pm : Value) (an : Option Addr) (cdv ct : Value) (us : List Value), us.length = t.ps.length → bindArgs (PySem.W.fnOf t.x t.x (defArgs t.st) (defBody t.st) (defScope t.st) .none kV doc pm an cdv ct) ⟨us, []⟩ = pure (t.ps.zip us)) : Binds c.K (c.fd i) t.ps [] :=
  (fx.F i t ht).binds h
theorem Fx0.bindK {c : Md} {T : List DT} {zs : List Str} {gs : List (Str × Int)} {bs : List (Str × String)} (fx : Fx0 c T zs gs bs) {i : Nat} {t : DT} (ht : T[i]? = some t) {ks : List Str} {at_ : List Nat} {a b : Nat}
    (h : ∀ (kV doc pm : Value) (an : Option Addr) (cdv ct : Value) (us ws : List Value), us.length = a → ws.length = b → bindArgs (PySem.W.fnOf t.x t.x (defArgs t.st) (defBody t.st) (defScope t.st) .none kV doc pm an cdv ct) ⟨us, ks.zip ws⟩ = pure (t.ps.zip (placed (us ++ ws) at_))) :
    ∀ (s : Shared) (us ws : List Value), us.length = a → ws.length = b → BindsTo s (c.fd i) ⟨us, ks.zip ws⟩ (t.ps.zip (placed (us ++ ws) at_)) := by
  obtain ⟨oc, od, kV, doc, pm, an, cdv, ct, osl, e, lk, hcd⟩ := (fx.F i t ht).ex
  intro s us ws h1 h2
  rw [e]
  exact .of_eq (h kV doc pm an cdv ct us ws h1 h2)
section
variable {X : Cx} {b : Bx} {c : Md} {T : List DT} {zs : List Str} {gs : List (Str × Int)} {bs : List (Str × String)} {n i : Nat} {t : DT} {p pos : Pos} {e : Expr} {es : List Expr} {kws : List Keyword} {xs ys : Ex} {ks : List Str} {at_ : List Nat}
/-- f(e, ..) -/
theorem gE_call (fx : Fx0 c T zs gs bs) (ih : ∀ j, GA c T n j) (i : Nat) (ht : T[i]? = some t) (h1 : X.prog = c.P0) (h2 : X.w = c.w) (h3 : X.K = c.K) (h4 : X.mg = c.mg) (h5 : X.base = c.base) (hl : t.d.io.length = t.ps.length) (hC : b.C = clN (pOf T) n) (hgd : X.A.guards = some []) (hr : Room n X.A) (hg : Gl X t.x)
    (hb : ∀ (kV doc pm : Value) (an : Option Addr) (cdv ct : Value) (us : List Value), us.length = t.ps.length → bindArgs (PySem.W.fnOf t.x t.x (defArgs t.st) (defBody t.st) (defScope t.st) .none kV doc pm an cdv ct) ⟨us, []⟩ = pure (t.ps.zip us))
    (ha : PA X (e :: es) (tL b xs)) (hdb : (t.x == ("__debug__" : Str)) = false) (he : starEach (e :: es) X.env = (false, eval e X.env) :: starEach es X.env) (hpl : (backTo pos (starEach es X.env)).any (·.1) = false) : PE X (.Call (.Name t.x p) (e :: es) [] pos) (tE b (.call i xs)) := by
  have F := ih i t ht
  have hP : pOf T i = some t.d := by unfold pOf; rw [ht]; rfl
  rw [← h1, ← h2, ← h3, ← h4, ← h5] at F
  exact pE_call hC hP hl F hgd hr hg (by rw [h4]; exact fx.m i t ht) (by rw [h3]; exact (fx.F i t ht).kp) (by rw [h3]; exact fx.bind ht hb) pass0 ha hdb he hpl
/-- f() -/
theorem gE_call0 (fx : Fx0 c T zs gs bs) (ih : ∀ j, GA c T n j) (i : Nat) (ht : T[i]? = some t) (h1 : X.prog = c.P0) (h2 : X.w = c.w) (h3 : X.K = c.K) (h4 : X.mg = c.mg) (h5 : X.base = c.base) (hl : t.d.io.length = t.ps.length) (hC : b.C = clN (pOf T) n) (hgd : X.A.guards = some []) (hr : Room n X.A) (hg : Gl X t.x)
    (hb : ∀ (kV doc pm : Value) (an : Option Addr) (cdv ct : Value) (us : List Value), us.length = t.ps.length → bindArgs (PySem.W.fnOf t.x t.x (defArgs t.st) (defBody t.st) (defScope t.st) .none kV doc pm an cdv ct) ⟨us, []⟩ = pure (t.ps.zip us))
    (hdb : (t.x == ("__debug__" : Str)) = false) : PE X (.Call (.Name t.x p) [] [] pos) (tE b (.call i .nil)) := by
  have F := ih i t ht
  have hP : pOf T i = some t.d := by unfold pOf; rw [ht]; rfl
  rw [← h1, ← h2, ← h3, ← h4, ← h5] at F
  exact pE_call0 hC hP hl F hgd hr hg (by rw [h4]; exact fx.m i t ht) (by rw [h3]; exact (fx.F i t ht).kp) (by rw [h3]; exact fx.bind ht hb) pass0 hdb
/-- f(e, .., k = v, ..) -/
theorem gE_callk (fx : Fx0 c T zs gs bs) (ih : ∀ j, GA c T n j) (i : Nat) (ht : T[i]? = some t) (h1 : X.prog = c.P0) (h2 : X.w = c.w) (h3 : X.K = c.K) (h4 : X.mg = c.mg) (h5 : X.base = c.base) (hl : t.d.io.length = t.ps.length) (hC : b.C = clN (pOf T) n) (hgd : X.A.guards = some []) (hr : Room n X.A) (hg : Gl X t.x) (h0 : t.ps.length ≠ 0)
    (hb : ∀ (kV doc pm : Value) (an : Option Addr) (cdv ct : Value) (us ws : List Value), us.length = exLen xs → ws.length = exLen ys → bindArgs (PySem.W.fnOf t.x t.x (defArgs t.st) (defBody t.st) (defScope t.st) .none kV doc pm an cdv ct) ⟨us, ks.zip ws⟩ = pure (t.ps.zip (placed (us ++ ws) at_)))
    (ha : PA X (e :: es) (tL b xs)) (hkw : PK X kws (tL b ys)) (hall : (backToKw pos (keywordEach kws X.env)).all (·.1.isSome) = true) (hks : (backToKw pos (keywordEach kws X.env)).filterMap (·.1) = ks) (hdb : (t.x == ("__debug__" : Str)) = false) (he : starEach (e :: es) X.env = (false, eval e X.env) :: starEach es X.env)
    (hpl : ((backTo pos (starEach (e :: es) X.env)).any (·.1) || (backToKw pos (keywordEach kws X.env)).any (·.1.isNone)) = false) : PE X (.Call (.Name t.x p) (e :: es) kws pos) (tE b (.callk i xs ys at_)) := by
  have F := ih i t ht
  have hP : pOf T i = some t.d := by unfold pOf; rw [ht]; rfl
  rw [← h1, ← h2, ← h3, ← h4, ← h5] at F
  exact pE_callk hC hP hl F hgd hr hg (by rw [h4]; exact fx.m i t ht) (by rw [h3]; exact (fx.F i t ht).kp) h0 (fun s us ws _ => fx.bindK ht hb s us ws) pass0 ha hkw hall hks hdb he hpl
/-- f(k = v, ..) -/
theorem gE_callk0 (fx : Fx0 c T zs gs bs) (ih : ∀ j, GA c T n j) (i : Nat) (ht : T[i]? = some t) (h1 : X.prog = c.P0) (h2 : X.w = c.w) (h3 : X.K = c.K) (h4 : X.mg = c.mg) (h5 : X.base = c.base) (hl : t.d.io.length = t.ps.length) (hC : b.C = clN (pOf T) n) (hgd : X.A.guards = some []) (hr : Room n X.A) (hg : Gl X t.x) (h0 : t.ps.length ≠ 0)
    (hb : ∀ (kV doc pm : Value) (an : Option Addr) (cdv ct : Value) (us ws : List Value), us.length = 0 → ws.length = exLen ys → bindArgs (PySem.W.fnOf t.x t.x (defArgs t.st) (defBody t.st) (defScope t.st) .none kV doc pm an cdv ct) ⟨us, ks.zip ws⟩ = pure (t.ps.zip (placed (us ++ ws) at_)))
    (hkw : PK X kws (tL b ys)) (hall : (backToKw pos (keywordEach kws X.env)).all (·.1.isSome) = true) (hks : (backToKw pos (keywordEach kws X.env)).filterMap (·.1) = ks) (hdb : (t.x == ("__debug__" : Str)) = false)
    (hpl : ((backTo pos (starEach [] X.env)).any (·.1) || (backToKw pos (keywordEach kws X.env)).any (·.1.isNone)) = false) : PE X (.Call (.Name t.x p) [] kws pos) (tE b (.callk i .nil ys at_)) := by
  have F := ih i t ht
  have hP : pOf T i = some t.d := by unfold pOf; rw [ht]; rfl
  rw [← h1, ← h2, ← h3, ← h4, ← h5] at F
  exact pE_callk0 hC hP hl F hgd hr hg (by rw [h4]; exact fx.m i t ht) (by rw [h3]; exact (fx.F i t ht).kp) h0 (fun s ws _ h => fx.bindK ht hb s [] ws rfl h) pass0 hkw hall hks hdb hpl
/-- a constant of the module -/
theorem gE_glob {j : Nat} {x : Str} {v : Int} (fx : Fx0 c T zs gs bs) (hj : gs[j]? = some (x, v)) (h4 : X.mg = c.mg) (hg : Gl X x) (hd : (x == ("__debug__" : Str)) = false) : PE X (.Name x pos) (tE b (.glob x v)) := by
  obtain ⟨t, ht⟩ := fx.g j (x, v) hj
  exact pE_glob hg (by rw [h4]; exact ht) hd
end
end MP
namespace MP
open PySem L2 PySem.Spec PyProof.Rows
theorem Res.bind_assoc {α β γ : Type} (r : Res α) (f : α → Res β) (g : β → Res γ) : (r.bind f).bind g = r.bind fun a => (f a).bind g := by cases r <;> rfl
section
variable {X : Cx} {b : Bx}
/-- enumerate(e, start=z) -/
theorem pI_enm1 {e ez : Expr} {x z : Ex} {p kp pos tpos : Pos} {elts : List Expr} {kk : Nat} (hg : Gl X "enumerate") (hm : X.mg "enumerate" = none) (ha : PE X e (tE b x)) (hz : PE X ez (tE b z)) (hs : starEach [e] X.env = [(false, eval e X.env)]) : PI X (.Tuple elts kk tpos) (.Call (.Name "enumerate" p) [e] [⟨some "start", ez, kp⟩] pos) (tI b .enm1 (.cons x (.cons z .nil))) := by
  refine ⟨fun pins s σ H Rr I ⟨R, env, S, p0, q⟩ => ?_⟩
  simp only [evI, evL, Res.bind_assoc, Res.bind_ok] at q
  have h1 : tE b x σ H fun v H1 => tE b z σ H1 fun v2 H2 => ∃ a ws l st, [v] = [V.ref a] ∧ [v2] = [V.int st] ∧ lim62 st = true ∧ SeqK l H2 a ws ∧ Rr (ItE l st a) H2 := by
    refine ⟨R, env, S, p0, q.bind fun q1 _ s1 v1 H1 p1 => ?_⟩
    refine ⟨R, q1.1, _, p1, s1.bind fun q2 _ s2 v2 H2 p2 => ?_⟩
    obtain ⟨r, hr, s3⟩ := s2.ofO
    simp only [mkSrc] at hr
    split at hr <;> try (cases hr; done)
    rename_i y l st hw hst
    split at hr <;> try (cases hr; done)
    rename_i hlim
    cases hr
    have p2' : Px b.Φ (σ ++ R) q2.1 (S ++ ([v1, v2].map some).zip [q1.2, q2.2]) H2 := by simpa using p2
    obtain ⟨a, ws, rfl, hq⟩ := p2'.kind (j := 0) rfl hw
    cases p2'.intAt (j := 1) rfl hst
    have p3 : Px b.Φ (σ ++ R) q2.1 (S ++ ([V.ref a].map some).zip [q1.2]) H2 := by simpa using p2.pop
    have hwl : walkL q2.1 [q1.2] = some ([y], [l]) := by simp [walkL, hw]
    obtain ⟨_, _, p4⟩ := Px.walk (vs := [.ref a]) (xs := [q1.2]) p3 rfl hwl
    exact ⟨a, ws, l, st, rfl, rfl, hlim, hq, s3 _ [.ref a] H2 rfl (jok_enm l st) p4⟩
  have h2 : tCons (tE b x) tNil σ H fun vs H1 => tCons (tE b z) tNil σ H1 fun zs H2 => ∃ a ws l st, vs = [V.ref a] ∧ zs = [V.int st] ∧ lim62 st = true ∧ SeqK l H2 a ws ∧ Rr (ItE l st a) H2 := h1
  refine wpAny_Call_Name_kw (ld_blt I hg hm boot_enumerate ?_)
  refine PySem.W.callWith_of (P := fun _ => True) (by rw [hs]; rfl) (fun h _ => ⟨.machine, .inr (.inl rfl), PySem.W.Looks.of_pure rfl⟩) ?_
  refine PyProof.Rows.evalArgs_kw2 rfl (thn ((pa_cons ha pa_nil hs).run pos pins s σ H _ I h2) fun us s1 ⟨vs, H1, I1, r1, q1⟩ => thn ((pk_cons hz pk_nil).run pos pins s1 σ H1 _ I1 q1) fun ws s2 ⟨zs, H2, I2, rz, q2⟩ => ⟨trivial, ?_⟩) hs
  obtain ⟨a, wz, l, st, e1, e2, hlim, hq, hr⟩ := q2
  subst e1 e2
  rw [Vals.ref1 r1]
  obtain ⟨u, rfl, t, rfl⟩ : ∃ u, ws = [u] ∧ ∃ t, u = .int st t := by
    cases rz with
    | cons r0 rs => cases rs; exact ⟨_, rfl, r0⟩
  obtain ⟨its, rv, hh, hal⟩ := seqK_has I2 hq
  simp only [lim62, Bool.and_eq_true, decide_eq_true_eq] at hlim
  exact enum_begins_start (begins_K l a its.toArray) hh (by omega) (by omega) fun h' he ho _ hk => enum_pie I2 hal he ho hk hr
end
theorem div_up {x d : Int} (hd : 0 < d) (hx : 0 < x) : (x - 1) / d + 1 = (x + d - 1) / d := by
  rw [show x + d - 1 = x - 1 + d * 1 by omega, Int.add_mul_ediv_left _ _ (by omega)]
theorem div_no {x d : Int} (hd : 0 < d) (hx : x ≤ 0) : ((x + d - 1) / d).toNat = 0 := by
  have : (x + d - 1) / d < 1 := Int.ediv_lt_of_lt_mul hd (by omega)
  omega
theorem size_rng {a b c : Int} (hc : c ≠ 0) : Builtin.Range.rangeSize a b c = (rngN a b c : Int) := by
  unfold Builtin.Range.rangeSize rngN
  by_cases c0 : 0 < c
  · rw [if_pos (show c > 0 from c0), if_pos c0]
    by_cases h : a < b
    · have e := div_up (x := b - a) c0 (by omega)
      have h0 : 0 ≤ (b - a - 1) / c := Int.ediv_nonneg (by omega) (by omega)
      rw [if_pos h, ← e]
      omega
    · rw [if_neg h, div_no c0 (by omega)]
      rfl
  · have c1 : 0 < -c := by omega
    rw [if_neg (show ¬ c > 0 from c0), if_neg c0]
    by_cases h : b < a
    · have e := div_up (x := a - b) c1 (by omega)
      have h0 : 0 ≤ (a - b - 1) / -c := Int.ediv_nonneg (by omega) (by omega)
      rw [if_pos (show a > b from h), ← e]
      omega
    · rw [if_neg (show ¬ a > b from h), div_no c1 (by omega)]
      rfl
theorem small_rng {a b c : Int} (ha : -(2 ^ 62) ≤ a) (ha' : a < 2 ^ 62) (hb : -(2 ^ 62) ≤ b) (hb' : b < 2 ^ 62) (hc : c.natAbs < 1073741824) (h0 : c ≠ 0) : Builtin.Range.small a b c = true := by
  have hn : 0 ≤ Builtin.Range.rangeSize a b c ∧ Builtin.Range.rangeSize a b c < 2 ^ 63 := by
    unfold Builtin.Range.rangeSize
    split
    · split
      · have h1 : 0 ≤ (b - a - 1) / c := Int.ediv_nonneg (by omega) (by omega)
        have h2 : (b - a - 1) / c ≤ b - a - 1 := Int.ediv_le_self _ (by omega)
        omega
      · omega
    · split
      · have h1 : 0 ≤ (a - b - 1) / -c := Int.ediv_nonneg (by omega) (by omega)
        have h2 : (a - b - 1) / -c ≤ a - b - 1 := Int.ediv_le_self _ (by omega)
        omega
      · omega
  unfold Builtin.Range.small
  generalize Builtin.Range.rangeSize a b c = n at *
  simp only [Builtin.Range.rangeFitsLong, Bool.and_eq_true, Bool.or_eq_true, decide_eq_true_eq, beq_iff_eq]
  refine ⟨⟨⟨⟨by omega, by omega⟩, by omega⟩, by omega⟩, .inr ?_⟩
  split <;> simp only [Bool.and_eq_true, decide_eq_true_eq] <;> omega
section
variable {b : Bx} {X : Cx}
theorem three_arg {T : List V} {e f g : En} (h : T.length = [e, f, g].length) : ∃ v w u, T = [v, w, u] := by
  match T, h with
  | [v, w, u], _ => exact ⟨v, w, u, rfl⟩
theorem evL_three {C : Cl} {x y z : Ex} {env : Ev} {q : Ev × List En} (h : evL C (.cons x (.cons y (.cons z .nil))) env = .ok q) : ∃ e f g, q.2 = [e, f, g] := by
  rw [evL] at h
  cases hx : evE C x env with
  | ok r =>
    rw [hx] at h
    simp only [Res.bind_ok] at h
    cases hy : evL C (.cons y (.cons z .nil)) r.1 with
    | ok r2 =>
      rw [hy] at h
      cases h
      obtain ⟨f, g, e2⟩ := evL_two hy
      exact ⟨r.2, f, g, by simp [e2]⟩
    | stuck => rw [hy] at h; cases h
    | exc _ _ _ => rw [hy] at h; cases h
  | stuck => rw [hx] at h; cases h
  | exc _ _ _ => rw [hx] at h; cases h
theorem pI_rng3 {tg a c d : Expr} {x y z : Ex} {p pos : Pos} (hg : Gl X "range") (hm : X.mg "range" = none) (ha : PA X [a, c, d] (tL b (.cons x (.cons y (.cons z .nil))))) (hs : starEach [a, c, d] X.env = (false, eval a X.env) :: starEach [c, d] X.env) (hpl : (backTo pos (starEach [c, d] X.env)).any (·.1) = false) : PI X tg (.Call (.Name "range" p) [a, c, d] [] pos) (tI b .rng (.cons x (.cons y (.cons z .nil)))) :=
  piImp (pi_range3 hg hm ha hs hpl) fun σ H Rr ⟨R, env, S, p, q⟩ => by
    refine ⟨R, env, S, p, q.bind fun q1 e1 s1 vs H1 hl p1 => ?_⟩
    obtain ⟨r, hr, s2⟩ := s1.ofO
    obtain ⟨e, f, g, hz⟩ := evL_three e1
    rw [hz] at hr hl p1
    obtain ⟨v, v2, v3, rfl⟩ := three_arg hl
    simp only [mkSrc] at hr
    split at hr <;> try (cases hr; done)
    rename_i n m k hn hm2 hk
    split at hr <;> try (cases hr; done)
    rename_i hlim
    cases hr
    cases p1.intAt (j := 0) rfl hn
    cases p1.intAt (j := 1) rfl hm2
    cases p1.intAt (j := 2) rfl hk
    simp only [lim62, Bool.and_eq_true, decide_eq_true_eq] at hlim
    obtain ⟨⟨⟨⟨h1, h2⟩, h3, h4⟩, h5⟩, h6⟩ := hlim
    refine ⟨n, m, k, rngN n m k, rfl, ⟨h6, h5, small_rng h1 h2 h3 h4 h5 h6, size_rng h6⟩, s2 _ [] H1 rfl (jok_rng (fun i H h => h) (fun i H h => h) fun i H x H' h => ⟨h.1, by rw [h.2, Int.mul_comm]⟩) ?_⟩
    simpa using p1.pop
end
end MP
namespace MP
open PySem L2 PySem.Spec PyProof.Rows
section
variable {X : Cx} {b : Bx}
/-- name = [e for tg in it if c], both on one line -/
theorem pS_setLc {i : Nat} {y : Str} {py spos : Pos} {elt tg iter : Expr} {ifs : List Expr} {scope : Scope} {own : List (Str × Nat)} {pos : Pos} {e : Ex} {t : Tg} {k : IK} {src c : Ex} (hn0 : X.N.length ≤ b.Φ.n) (hc : X.calm = true) (hN : X.N.Nodup) (hy : X.N[i]? = some y) (hyl : X.env.scope.names.lookup y = some .local)
    (hsw : swapsWith (.ListComp elt [⟨tg, iter, ifs, 0⟩] scope pos) (some (.Name y py)) spos.line X.env = pure true) (hi : PI X tg iter (tI b k src)) (ok : BlkOk X.N X.env.scope scope own)
    (hg : ∀ (s : Shared) (H : Hp) (C : Addr) (cl : List (Str × Addr)) (fp : List Addr), PG (X.blk s H scope (compEnvC scope cl C X.env) fp) tg (gT t)) (hcn : ∀ (s : Shared) (H : Hp) (C : Addr) (cl : List (Str × Addr)) (fp : List Addr), PTs (X.blk s H scope (compEnvC scope cl C X.env) fp) ifs (tT b.nox c))
    (he : ∀ (s : Shared) (H : Hp) (C : Addr) (cl : List (Str × Addr)) (fp : List Addr), PE (X.blk s H scope (compEnvC scope cl C X.env) fp) elt (tE b.nox e)) (hin : tgIn (own.map (·.2)) t = true) (ht : tgLt X.N.length t = true) (hs : ∀ x, foldedSetIterable iter X.env x = pure x) :
    PS X (.Assign [.Name y py] (.ListComp elt [⟨tg, iter, ifs, 0⟩] scope pos) spos) (tS b (.asg (.nm i) (.lc e t k src c (own.map (·.2))))) := by
  refine ⟨fun pins s σ H D I ⟨R, env, p, q⟩ => (ps_setLc hc hN hy hyl hsw hi ok hg hcn he hs).run pins s σ H D I ?_⟩
  have hil : i < σ.length := by rw [I.len]; exact (List.getElem?_eq_some_iff.mp hy).1
  have hib : i < b.Φ.n := by have := (List.getElem?_eq_some_iff.mp hy).1; omega
  refine lc_imp I.len hn0 (fun i hi => ?_) hin ht ?_
  · obtain ⟨p, hp, rfl⟩ := List.mem_map.mp hi
    exact (List.getElem?_eq_some_iff.mp (ok.ix p hp)).1
  · simp only [evS] at q
    refine ⟨R, env, [], p, q.bindE rfl fun q1 _ s1 v H' p1 => ?_⟩
    obtain ⟨env', h, s2⟩ := s1.ofO
    exact s2 (σ.set i (some v)) H' (by rw [List.length_set]) (p1.put1 hil hib h)
/-- x, y, z = e, f, g -/
theorem pS_par3 {i j l : Nat} {x y z : Str} {a c d : Expr} {xs : Ex} {px py pz pt : Pos} {kt k2 : Nat} {pt2 pos : Pos} (hn0 : X.N.length ≤ b.Φ.n) (hc : X.calm = true) (hN : X.N.Nodup) (hi : X.N[i]? = some x) (hj : X.N[j]? = some y) (hk : X.N[l]? = some z) (hij : i ≠ j) (hil : i ≠ l) (hjl : j ≠ l) (hx : X.env.scope.names.lookup x = some .local) (hy : X.env.scope.names.lookup y = some .local) (hz : X.env.scope.names.lookup z = some .local) (ha : PA X [a, c, d] (tL b xs))
    (hw : swappedStores [.Tuple [.Name x px, .Name y py, .Name z pz] kt pt] (.Tuple [a, c, d] k2 pt2) X.env = pure (some [x, y, z])) (hs : swapsWithSole [.Tuple [.Name x px, .Name y py, .Name z pz] kt pt] (.Tuple [a, c, d] k2 pt2) pos.line X.env = pure false) :
    PS X (.Assign [.Tuple [.Name x px, .Name y py, .Name z pz] kt pt] (.Tuple [a, c, d] k2 pt2) pos) (tS b (.asgp (.tup (.cons (.nm i) (.cons (.nm j) (.cons (.nm l) .nil)))) xs)) := by
  refine ⟨fun pins s σ H D I ⟨R, env, p, q⟩ => (ps_par3 hc hN hi hj hk hij hil hjl hx hy hz ha hw hs).run pins s σ H D I ?_⟩
  have li := (List.getElem?_eq_some_iff.mp hi).1
  have lj := (List.getElem?_eq_some_iff.mp hj).1
  have ll := (List.getElem?_eq_some_iff.mp hk).1
  simp only [evS] at q
  refine ⟨R, env, [], p, q.bindE rfl fun q1 _ s1 vs H' hl p1 => ?_⟩
  obtain ⟨env', ha', s2⟩ := s1.ofO
  unfold asgT at ha'
  split at ha' <;> try (cases ha'; done)
  rename_i ll2 hb
  split at ha' <;> try (cases ha'; done)
  rename_i ho
  cases ha'
  have hl2 : ∃ e f g, q1.2 = [e, f, g] ∧ ll2 = [(i, e), (j, f), (l, g)] := by
    generalize q1.2 = z at hb
    match z, hb with
    | [], hb => simp [bindI, bindL] at hb
    | [e], hb => simp [bindI, bindL, bindT] at hb
    | [e, f], hb => simp [bindI, bindL, bindT] at hb
    | [e, f, g], hb => simp [bindI, bindL, bindT] at hb; exact ⟨e, f, g, rfl, hb.symm⟩
    | e :: f :: g :: g2 :: r, hb => simp [bindI, bindL, bindT] at hb
  obtain ⟨e, f, g, he, rfl⟩ := hl2
  rw [he] at p1 hl
  match vs, hl with
  | [u, v, w], _ =>
    have P := Px.puts (l := [(i, e), (j, f), (l, g)]) (vs := [u, v, w]) p1 rfl (fun q hq => by
      simp at hq
      rcases hq with rfl | rfl | rfl
      · exact ⟨by rw [I.len]; exact li, by show i < _; omega⟩
      · exact ⟨by rw [I.len]; exact lj, by show j < _; omega⟩
      · exact ⟨by rw [I.len]; exact ll, by show l < _; omega⟩) ho
    exact ⟨u, v, w, rfl, s2 _ _ (by simp) P⟩
/-- names alone -/
def nmT : List Nat → Tg
  | [] => .nil
  | i :: r => .cons (.nm i) (nmT r)
theorem bindL_nm : ∀ {is : List Nat} {xs : Ev} {l : List (Nat × En)}, bindL (nmT is) xs = some l → l.map (·.1) = is ∧ l.map (·.2) = xs
  | [], [], l, h => by
    simp only [nmT, bindL] at h
    cases h
    exact ⟨rfl, rfl⟩
  | [], x :: xs, l, h => by simp [nmT, bindL] at h
  | i :: is, [], l, h => by simp [nmT, bindL] at h
  | i :: is, x :: xs, l, h => by
    simp only [nmT, bindL, bindT] at h
    split at h <;> try (cases h; done)
    rename_i p q h1 h2
    cases h1
    cases h
    obtain ⟨e1, e2⟩ := bindL_nm h2
    exact ⟨by simp [e1], by simp [e2]⟩
theorem gTs_nm : ∀ {is : List Nat} {vs : List V} {σ : L2.St} {H : Hp} {Q : L2.St → Hp → Prop}, vs.length = is.length → Q (putV σ is vs) H → gTs (nmT is) vs σ H Q
  | [], [], σ, H, Q, _, h => by simp [nmT, gTs]; exact h
  | [], _ :: _, σ, H, Q, hl, h => by cases hl
  | i :: is, [], σ, H, Q, hl, h => by cases hl
  | i :: is, v :: vs, σ, H, Q, hl, h => by
    simp only [nmT, gTs, gT]
    exact ⟨v, vs, rfl, gTs_nm (by simpa using hl) h⟩
/-- x, y, .. = e, f, .. by way of a tuple: the names are any, one a cell -/
theorem pS_many {is : List Nat} {ns es : List Expr} {xs : Ex} {kt k2 : Nat} {pt pt2 pos : Pos} (hn0 : X.N.length ≤ b.Φ.n) (ha : PA X es (tL b xs)) (hg : PG X (.Tuple ns kt pt) (gT (.tup (nmT is)))) (hlt : is.all (fun i => decide (i < X.N.length)) = true) (hz : is.length ≤ 100)
    (hs : swapsWithSole [.Tuple ns kt pt] (.Tuple es k2 pt2) pos.line X.env = pure false) (hw : swappedStores [.Tuple ns kt pt] (.Tuple es k2 pt2) X.env = pure none) (h1 : (assignEach [.Tuple ns kt pt] X.env).map (·.2) = [assign (.Tuple ns kt pt) X.env]) :
    PS X (.Assign [.Tuple ns kt pt] (.Tuple es k2 pt2) pos) (tS b (.asgp (.tup (nmT is)) xs)) := by
  refine ⟨fun pins s σ H D I ⟨R, env, p, q⟩ => (ps_asg (pe_tup ha) hg hs hw h1).run pins s σ H D I ?_⟩
  simp only [evS] at q
  refine ⟨R, env, [], p, q.bindE rfl fun q1 _ s1 vs H' hl p1 => ?_⟩
  obtain ⟨env', ha', s2⟩ := s1.ofO
  unfold asgT at ha'
  split at ha' <;> try (cases ha'; done)
  rename_i l hb
  split at ha' <;> try (cases ha'; done)
  rename_i ho
  cases ha'
  simp only [bindI] at hb
  obtain ⟨e1, e2⟩ := bindL_nm hb
  have ln : l.length = is.length := by rw [← e1, List.length_map]
  have lv : vs.length = l.length := by rw [hl, ← e2, List.length_map]
  refine ⟨by rw [lv, ln]; show is.length ≤ 2 ^ 24; omega, fun a hf => ?_⟩
  have hH : Hext H' (upd H' a (.tup vs)) := Hext.new hf
  obtain ⟨hB, hn, fz, gs, Rl⟩ := p1
  have p2 : Px b.Φ (σ ++ R) q1.1 (tz vs (l.map (·.2))) (upd H' a (.tup vs)) := by
    rw [e2]
    exact ⟨hB, hn, fz, gs, Rl.ext hH⟩
  have P := Px.puts p2 lv (fun q hq => by
    have hm : q.1 ∈ is := by rw [← e1]; exact List.mem_map.mpr ⟨q, hq, rfl⟩
    have := List.all_eq_true.mp hlt _ hm
    have : q.1 < X.N.length := by simpa using this
    exact ⟨by rw [I.len]; exact this, by omega⟩) ho
  rw [e1] at P
  simp only [gT]
  refine ⟨a, vs, rfl, by simp [upd], gTs_nm (by rw [lv, ln]) ?_⟩
  exact s2 _ _ (by rw [putV_len]) P
end
end MP
namespace MP
open PySem L2 PySem.Spec PyProof.Rows
/-! the module's facts, as lists -/
/-- each def stands there, under its name -/
inductive FL (K : PySem.W.Frag) (mg : Str → Option Value) : List DT → List (Addr × FuncData) → Prop where
  | nil : FL K mg [] []
  | cons {t : DT} {f : Addr} {fd : FuncData} {T : List DT} {fs : List (Addr × FuncData)} (F : Fun K t.x t.x t.st f fd) (m : mg t.x = some (.ref f)) (r : FL K mg T fs) : FL K mg (t :: T) ((f, fd) :: fs)
theorem FL.get {K : PySem.W.Frag} {mg : Str → Option Value} {z : Addr × FuncData} : ∀ {T : List DT} {fs : List (Addr × FuncData)}, FL K mg T fs → ∀ (i : Nat) (t : DT), T[i]? = some t → Fun K t.x t.x t.st (fs.getD i z).1 (fs.getD i z).2 ∧ mg t.x = some (.ref (fs.getD i z).1)
  | _, _, .nil, i, t, h => by simp at h
  | _, _, .cons F m r, 0, t, h => by
    rw [List.getElem?_cons_zero] at h
    cases h
    exact ⟨F, m⟩
  | _, _, .cons F m r, i + 1, t, h => by
    rw [List.getElem?_cons_succ] at h
    exact r.get i t h
inductive AllL {α : Type} (p : α → Prop) : List α → Prop where
  | nil : AllL p []
  | cons {a : α} {l : List α} (h : p a) (r : AllL p l) : AllL p (a :: l)
theorem AllL.get {α : Type} {p : α → Prop} : ∀ {l : List α}, AllL p l → ∀ (i : Nat) (a : α), l[i]? = some a → p a
  | _, .nil, i, a, h => by simp at h
  | _, .cons q r, 0, a, h => by
    rw [List.getElem?_cons_zero] at h
    cases h
    exact q
  | _, .cons q r, i + 1, a, h => by
    rw [List.getElem?_cons_succ] at h
    exact r.get i a h
theorem fx_mk {P0 : Program} {w : World} {K : PySem.W.Frag} {mg : Str → Option Value} {base : Heap} {T : List DT} {zs : List Str} {gs : List (Str × Int)} {bs : List (Str × String)} {fs : List (Addr × FuncData)} (z : Addr × FuncData)
    (h : FL K mg T fs) (hz : AllL (fun x => mg x = none) zs) (hg : AllL (fun q : Str × Int => ∃ t, mg q.1 = some (.int q.2 t)) gs) (hb : AllL (fun q : Str × String => mg q.1 = some (.builtin q.2)) bs) :
    Fx0 ⟨P0, w, K, mg, base, fun i => (fs.getD i z).1, fun i => (fs.getD i z).2⟩ T zs gs bs :=
  ⟨fun i t ht => (h.get i t ht).1, fun i t ht => (h.get i t ht).2, fun j x hx => hz.get j x hx, fun j q hq => hg.get j q hq, fun j q hq => hb.get j q hq⟩
end MP
namespace MP
open PySem L2
/-! plain reasoning about mini texts -/
/-- f stands there, and is left as it is: a token whose type names it -/
abbrev Tok {α : Type} (f : α) : Type := Unit
/-- it ends, and Q holds of what comes out; kept shut -/
theorem toC_ex : ∃ F : (α : Type) → Res α → (α → Prop) → Prop, F = fun α r Q => ∃ a, r = .ok a ∧ Q a := ⟨_, rfl⟩
noncomputable def toC : (α : Type) → Res α → (α → Prop) → Prop := Classical.choose toC_ex
def Res.to {α : Type} (r : Res α) (Q : α → Prop) (_ : Tok Q := ()) : Prop := toC α r Q
/-- the same as bind; kept shut -/
theorem bndC_ex : ∃ F : (α β : Type) → Res α → (α → Res β) → Res β, F = fun α β r f => r.bind f := ⟨_, rfl⟩
noncomputable def bndC : (α β : Type) → Res α → (α → Res β) → Res β := Classical.choose bndC_ex
noncomputable def Res.bnd {α β : Type} (r : Res α) (f : α → Res β) (_ : Tok f := ()) : Res β := bndC α β r f
section
variable {α β γ : Type} {a : α} {Q R : α → Prop} {r r' : Res α} {t : Tok Q}
theorem to_def : r.to Q t ↔ ∃ a, r = .ok a ∧ Q a := by
  unfold Res.to toC
  rw [Classical.choose_spec toC_ex]
theorem bnd_def {f : α → Res β} {u : Tok f} : r.bnd f u = r.bind f := by
  unfold Res.bnd bndC
  rw [Classical.choose_spec bndC_ex]
@[simp] theorem to_ok : (Res.ok a).to Q t ↔ Q a := to_def.trans ⟨fun ⟨_, e, h⟩ => by cases e; exact h, fun h => ⟨a, rfl, h⟩⟩
@[simp] theorem to_stuck : (Res.stuck : Res α).to Q t ↔ False := to_def.trans ⟨(fun h => by obtain ⟨_, e, _⟩ := h; cases e), False.elim⟩
@[simp] theorem to_exc {c : Nat} {d : Dt} {e : Ev} : (Res.exc c d e : Res α).to Q t ↔ False := to_def.trans ⟨(fun h => by obtain ⟨_, e, _⟩ := h; cases e), False.elim⟩
theorem to_bind {r : Res β} {f : β → Res α} : (r.bind f).to Q t ↔ r.to fun b => (f b).to Q := by
  cases r with
  | ok b => rw [to_ok]; rfl
  | exc c d e => exact ⟨fun h => (to_exc.mp h).elim, fun h => (to_exc.mp h).elim⟩
  | stuck => exact ⟨fun h => (to_stuck.mp h).elim, fun h => (to_stuck.mp h).elim⟩
@[simp] theorem to_bnd {r : Res β} {f : β → Res α} {u : Tok f} : (r.bnd f u).to Q t ↔ r.to fun b => (f b).to Q := bnd_def ▸ to_bind
@[simp] theorem bnd_ok {f : α → Res β} {u : Tok f} : (Res.ok a).bnd f u = f a := bnd_def
@[simp] theorem bnd_stuck {f : α → Res β} {u : Tok f} : (Res.stuck).bnd f u = .stuck := bnd_def
@[simp] theorem bnd_bnd {f : α → Res β} {g : β → Res γ} {u : Tok f} {v : Tok g} : (r.bnd f u).bnd g v = r.bnd fun a => (f a).bnd g := by cases r <;> simp only [bnd_def, Res.bind]
theorem Res.to.mono {t : Tok Q} {u : Tok R} (h : r.to Q t) (k : ∀ a, Q a → R a) : r.to R u := by
  obtain ⟨a, e, q⟩ := to_def.mp h
  exact to_def.mpr ⟨a, e, k a q⟩
theorem to_eq {u : Tok fun x => x = a} : r.to (fun x => x = a) u ↔ r = .ok a := to_def.trans ⟨fun ⟨_, e, q⟩ => by subst q; exact e, fun e => ⟨a, e, rfl⟩⟩
@[simp] theorem to_ofO_ite {c : Prop} [Decidable c] {o : Option α} : (ofO (if c then o else none)).to Q t ↔ c ∧ (ofO o).to Q := by
  by_cases h : c
  · rw [if_pos h]; exact ⟨fun k => ⟨h, k⟩, fun k => k.2⟩
  · rw [if_neg h]; exact ⟨fun k => (to_stuck.mp k).elim, fun k => (h k.1).elim⟩
@[simp] theorem to_ite_stuck {c : Prop} [Decidable c] : (if c then r else Res.stuck).to Q t ↔ c ∧ r.to Q := by
  by_cases h : c
  · rw [if_pos h]; exact ⟨fun k => ⟨h, k⟩, fun k => k.2⟩
  · rw [if_neg h]; exact ⟨fun k => (to_stuck.mp k).elim, fun k => (h k.1).elim⟩
@[simp] theorem to_ite_stuckL {c : Prop} [Decidable c] : (if c then Res.stuck else r).to Q t ↔ ¬ c ∧ r.to Q := by
  by_cases h : c
  · rw [if_pos h]; exact ⟨fun k => (to_stuck.mp k).elim, fun k => (k.1 h).elim⟩
  · rw [if_neg h]; exact ⟨fun k => ⟨h, k⟩, fun k => k.2⟩
theorem to_ite {c : Prop} [Decidable c] (h1 : c → r.to Q) (h2 : ¬ c → r'.to Q) : (if c then r else r').to Q t := by
  by_cases h : c
  · rw [if_pos h]; exact h1 h
  · rw [if_neg h]; exact h2 h
@[simp] theorem ite_bool {c : Prop} [Decidable c] {e : Ev} {x y : Bool} : (if c then Res.ok (e, En.fr (.bool x)) else Res.ok (e, En.fr (.bool y))) = Res.ok (e, En.fr (.bool (if c then x else y))) := by split <;> rfl
@[simp] theorem ite_int {c : Prop} [Decidable c] {e : Ev} {x y : Int} : (if c then Res.ok (e, En.fr (.int x)) else Res.ok (e, En.fr (.int y))) = Res.ok (e, En.fr (.int (if c then x else y))) := by split <;> rfl
@[simp] theorem to_cut {r : Res Fl} {n : Nat} {Q : Fl → Prop} {t : Tok Q} : (r.cut n).to Q t ↔ r.to fun fl => Q (fl.cut n) := by
  cases r with
  | ok b => rw [to_ok]; exact to_ok
  | exc c d e => exact ⟨fun h => (to_exc.mp h).elim, fun h => (to_exc.mp h).elim⟩
  | stuck => exact ⟨fun h => (to_stuck.mp h).elim, fun h => (to_stuck.mp h).elim⟩
/-- what a call hands back -/
def entR : Dt ⊕ Tr → En
  | .inl d => .fr d
  | .inr t => .own t
@[simp] theorem doCall_to {C : Cl} {f : Nat} {env : Ev} {xs : List En} {Q : Ev × En → Prop} {t : Tok Q} : (doCall C f env xs).to Q t ↔
    (ofO (argsF env (C.md f) xs)).to fun q => (ofO (argsA q.1 q.2)).to fun w => (w.2.map (·.1)).Nodup ∧ (C.run f w.1).to fun r => (ofO (backA q.1 w.2 r.outs)).to fun e => Q (e, entR r.val) := by
  unfold doCall
  cases argsF env (C.md f) xs with
  | none => simp
  | some q =>
    obtain ⟨e1, ys⟩ := q
    simp only [ofO_some, to_ok]
    cases argsA e1 ys with
    | none => simp
    | some w =>
      obtain ⟨as, bs⟩ := w
      simp only [ofO_some, to_ok, to_ite_stuck]
      refine and_congr_right fun _ => ?_
      cases C.run f as with
      | ok r =>
        obtain ⟨v, o⟩ := r
        simp only [to_ok]
        cases backA e1 bs o with
        | none => simp
        | some e => cases v <;> simp [entR]
      | exc c d e => simp
      | stuck => simp
end
/-- what is handed back -/
def RetTo (nl : Nat) (Q : Rt → Prop) : Fl → Prop
  | .nx env => (ofO (outsOf (env.drop nl))).to fun o => Q ⟨.inl .none, o⟩
  | .rt env x => (ofO (retE nl env x)).to fun q => (ofO (outsOf (q.1.drop nl))).to fun o => Q ⟨q.2, o⟩
  | _ => False
@[simp] theorem RetTo_nx {nl : Nat} {Q : Rt → Prop} {env : Ev} : RetTo nl Q (.nx env) ↔ (ofO (outsOf (env.drop nl))).to fun o => Q ⟨.inl .none, o⟩ := Iff.rfl
@[simp] theorem RetTo_rt {nl : Nat} {Q : Rt → Prop} {env : Ev} {x : En} : RetTo nl Q (.rt env x) ↔ (ofO (retE nl env x)).to fun q => (ofO (outsOf (q.1.drop nl))).to fun o => Q ⟨q.2, o⟩ := Iff.rfl
@[simp] theorem RetTo_bk {nl : Nat} {Q : Rt → Prop} {env : Ev} : RetTo nl Q (.bk env) ↔ False := Iff.rfl
@[simp] theorem RetTo_ct {nl : Nat} {Q : Rt → Prop} {env : Ev} : RetTo nl Q (.ct env) ↔ False := Iff.rfl
theorem runDf_to {C : Cl} {d : Df} {as : List Ar} {Q : Rt → Prop} (hk : kindsOk d.io as = true ∧ as.length ≤ d.nl) (h : (evS C d.body (env0 d as)).to (RetTo d.nl Q)) : (runDf C d as).to Q := by
  unfold runDf
  rw [if_pos hk]
  obtain ⟨fl, e, q⟩ := to_def.mp h
  rw [e]
  cases fl with
  | nx env =>
    simp only [RetTo_nx] at q ⊢
    cases h : outsOf (env.drop d.nl) with
    | none => rw [h] at q; simp at q
    | some o => rw [h] at q; simpa using q
  | rt env x =>
    simp only [RetTo_rt] at q ⊢
    cases h : retE d.nl env x with
    | none => rw [h] at q; simp at q
    | some w =>
      rw [h] at q
      simp only [ofO_some, to_ok] at q ⊢
      cases h2 : outsOf (w.1.drop d.nl) with
      | none => rw [h2] at q; simp at q
      | some o => rw [h2] at q; simpa [h2] using q
  | bk env => exact q.elim
  | ct env => exact q.elim
theorem callN_to {P : Nat → Option Df} {n f : Nat} {as : List Ar} {d : Df} {Q : Rt → Prop} (hP : P f = some d) (hk : kindsOk d.io as = true) (hl : Nat.ble as.length d.nl = true) (h : (evS (clN P n) d.body (env0 d as)).to (RetTo d.nl Q)) : (callN P (n + 1) f as).to Q := by
  rw [callN, hP]
  exact runDf_to ⟨hk, Nat.le_of_ble_eq_true hl⟩ h
theorem callN_eq {P : Nat → Option Df} {n f : Nat} {as : List Ar} {d : Df} {r : Rt} (hP : P f = some d) (hk : kindsOk d.io as = true) (hl : Nat.ble as.length d.nl = true) (h : (evS (clN P n) d.body (env0 d as)).to (RetTo d.nl fun x => x = r)) : callN P (n + 1) f as = .ok r := to_eq.mp (callN_to hP hk hl h)
/-! loops -/
/-- how a turn ends -/
def TurnTo (I : Ev → Prop) (Q : Fl → Prop) : Fl → Prop
  | .nx e => I e
  | .ct e => I e
  | .bk e => Q (.nx e)
  | .rt e x => Q (.rt e x)
@[simp] theorem TurnTo_nx {I : Ev → Prop} {Q : Fl → Prop} {e : Ev} : TurnTo I Q (.nx e) ↔ I e := Iff.rfl
@[simp] theorem TurnTo_ct {I : Ev → Prop} {Q : Fl → Prop} {e : Ev} : TurnTo I Q (.ct e) ↔ I e := Iff.rfl
@[simp] theorem TurnTo_bk {I : Ev → Prop} {Q : Fl → Prop} {e : Ev} : TurnTo I Q (.bk e) ↔ Q (.nx e) := Iff.rfl
@[simp] theorem TurnTo_rt {I : Ev → Prop} {Q : Fl → Prop} {e : Ev} {x : En} : TurnTo I Q (.rt e x) ↔ Q (.rt e x) := Iff.rfl
theorem forGo_inv0 {step : Ev → Itm → Res Fl} {k : SK} {b : Nat} (n : Nat) (it : Nat → Itm) (I : Nat → Ev → Prop) {Q : Fl → Prop}
    (hsrc : ∀ i e, i < n → I i e → srcAt k b e i = some (some (it i))) (hend : ∀ e, I n e → srcAt k b e n = some none)
    (hs : ∀ i e, i < n → I i e → (step e (it i)).to (TurnTo (I (i + 1)) Q)) (hq : ∀ e, I n e → Q (.nx e)) :
    ∀ (m i : Nat) (e : Ev), i ≤ n → n < i + m → I i e → (forGo step k b m i e).to Q := by
  intro m
  induction m with
  | zero => intro i e h1 h2; omega
  | succ m ih =>
    intro i e h1 h2 hI
    unfold forGo
    by_cases hi : i < n
    · rw [hsrc i e hi hI]
      refine to_bind.mpr ?_
      refine (hs i e hi hI).mono fun fl h => ?_
      cases fl with
      | nx e' => exact ih (i + 1) e' hi (by omega) h
      | ct e' => exact ih (i + 1) e' hi (by omega) h
      | bk e' => simpa using h
      | rt e' x => simpa using h
    · have : i = n := by omega
      subst this
      rw [hend e hI]
      simpa using hq e hI
theorem forGo_inv {step : Ev → Itm → Res Fl} {k : SK} {b : Nat} {env : Ev} (n : Nat) (it : Nat → Itm) (I : Nat → Ev → Prop) {Q : Fl → Prop} (hn : n < bigW) (h0 : I 0 env)
    (hsrc : ∀ i e, i < n → I i e → srcAt k b e i = some (some (it i))) (hend : ∀ e, I n e → srcAt k b e n = some none)
    (hs : ∀ i e, i < n → I i e → (step e (it i)).to (TurnTo (I (i + 1)) Q)) (hq : ∀ e, I n e → Q (.nx e)) : (forGo step k b bigW 0 env).to Q :=
  forGo_inv0 n it I hsrc hend hs hq bigW 0 env (Nat.zero_le _) (by omega) h0
theorem forGo_rng {step : Ev → Itm → Res Fl} {lo st : Int} {n b : Nat} {env : Ev} (I : Nat → Ev → Prop) {Q : Fl → Prop} (hn : n < bigW) (h0 : I 0 env)
    (hs : ∀ i e, i < n → I i e → (step e (.one (.fr (.int (lo + st * i))))).to (TurnTo (I (i + 1)) Q)) (hq : ∀ e, I n e → Q (.nx e)) : (forGo step (.rng lo st n) b bigW 0 env).to Q :=
  forGo_inv n (fun i => .one (.fr (.int (lo + st * i)))) I hn h0 (fun i e hi _ => by simp [srcAt, hi]) (fun e _ => by simp [srcAt]) hs hq
/-- a walk through frozen items -/
theorem forGo_seq {step : Ev → Itm → Res Fl} {l : Bool} {ds : List Dt} {b : Nat} {env : Ev} (I : Nat → Ev → Prop) {Q : Fl → Prop} (hn : ds.length < bigW) (h0 : I 0 env)
    (hb : ∀ i e, I i e → ∃ x, e[b]? = some x ∧ (res e x).map Tr.data = some (if l then .list ds else .tuple ds) ∧ (l = false → ∃ d, res e x = some (.fr d)) ∧ (∀ ts, res e x = some (.nd .ls ts) → ts = ds.map .fr) ∧ (∀ sh ts, res e x = some (.nd sh ts) → sh = .ls))
    (hs : ∀ i (hi : i < ds.length) e, I i e → (step e (.one (.fr ds[i]))).to (TurnTo (I (i + 1)) Q)) (hq : ∀ e, I ds.length e → Q (.nx e)) : (forGo step (.seq l) b bigW 0 env).to Q := by
  have key : ∀ i e, i ≤ ds.length → I i e → srcAt (.seq l) b e i = some (ds[i]?.map fun d => .one (.fr d)) := by
    intro i e hi hI
    obtain ⟨x, h1, h2, h3, h4, h5⟩ := hb i e hI
    simp only [srcAt, seqAt, h1]
    cases q : res e x with
    | none => rw [q] at h2; cases h2
    | some t =>
      rw [q] at h2
      cases t with
      | fr d =>
        have h2 : some d = _ := h2
        cases l with
        | true =>
          have e2 : d = .list ds := by simpa using h2
          subst e2
          simp only [Bool.true_and, hi, decide_true, if_true]
          cases ds[i]? <;> rfl
        | false =>
          have e2 : d = .tuple ds := by simpa using h2
          subst e2
          simp only [Bool.not_false, Bool.true_and, hi, decide_true, if_true]
          cases ds[i]? <;> rfl
      | nd sh ts =>
        have e1 := h5 sh ts q
        subst e1
        have e2 := h4 ts q
        subst e2
        cases l with
        | false =>
          obtain ⟨d, hd⟩ := h3 rfl
          rw [q] at hd; cases hd
        | true =>
          simp only [Bool.true_and, List.length_map, hi, decide_true, if_true, List.getElem?_map]
          cases ds[i]? <;> rfl
  refine forGo_inv ds.length (fun i => .one (.fr (ds.getD i .none))) I hn h0 (fun i e hi hI => ?_) (fun e hI => ?_) (fun i e hi hI => ?_) hq
  · rw [key i e (by omega) hI]
    simp [hi]
  · rw [key _ e (Nat.le_refl _) hI]
    simp
  · have := hs i hi e hI
    simpa [hi] using this
/-- turns of a comprehension -/
theorem lcGo_inv0 {step : Ev → Itm → Res (Ev × Option Tr)} {k : SK} {b : Nat} (n : Nat) (it : Nat → Itm) (I : Nat → Ev → List Tr → Prop) {Q : Ev × List Tr → Prop}
    (hsrc : ∀ i e acc, i < n → I i e acc → srcAt k b e i = some (some (it i))) (hend : ∀ e acc, I n e acc → srcAt k b e n = some none)
    (hs : ∀ i e acc, i < n → I i e acc → (step e (it i)).to fun q => match q.2 with | none => I (i + 1) q.1 acc | some t => acc.length < lineN ∧ I (i + 1) q.1 (acc ++ [t])) (hq : ∀ e acc, I n e acc → Q (e, acc)) :
    ∀ (m i : Nat) (e : Ev) (acc : List Tr), i ≤ n → n < i + m → I i e acc → (lcGo step k b m i e acc).to Q := by
  intro m
  induction m with
  | zero => intro i e acc h1 h2; omega
  | succ m ih =>
    intro i e acc h1 h2 hI
    unfold lcGo
    by_cases hi : i < n
    · rw [hsrc i e acc hi hI]
      obtain ⟨q, e1, h⟩ := to_def.mp (hs i e acc hi hI)
      simp only
      rw [e1]
      obtain ⟨e', o⟩ := q
      cases o with
      | none => exact ih (i + 1) e' acc hi (by omega) h
      | some t =>
        simp only at h ⊢
        rw [if_pos h.1]
        exact ih (i + 1) e' _ hi (by omega) h.2
    · have : i = n := by omega
      subst this
      rw [hend e acc hI]
      simpa using hq e acc hI
theorem lcGo_inv {step : Ev → Itm → Res (Ev × Option Tr)} {k : SK} {b : Nat} {env : Ev} (n : Nat) (it : Nat → Itm) (I : Nat → Ev → List Tr → Prop) {Q : Ev × List Tr → Prop} (hn : n < bigW) (h0 : I 0 env [])
    (hsrc : ∀ i e acc, i < n → I i e acc → srcAt k b e i = some (some (it i))) (hend : ∀ e acc, I n e acc → srcAt k b e n = some none)
    (hs : ∀ i e acc, i < n → I i e acc → (step e (it i)).to fun q => match q.2 with | none => I (i + 1) q.1 acc | some t => acc.length < lineN ∧ I (i + 1) q.1 (acc ++ [t])) (hq : ∀ e acc, I n e acc → Q (e, acc)) : (lcGo step k b bigW 0 env []).to Q :=
  lcGo_inv0 n it I hsrc hend hs hq bigW 0 env [] (Nat.zero_le _) (by omega) h0
/-- a while's turns -/
theorem whGo_inv {c : Ev → Res (Ev × Bool)} {step : Ev → Res Fl} (I : Ev → Prop) (μ : Ev → Nat) {Q : Fl → Prop}
    (hc : ∀ e, I e → (c e).to fun q => if q.2 = true then (step q.1).to (TurnTo (fun e' => I e' ∧ μ e' < μ e) Q) else Q (.nx q.1)) : ∀ (n : Nat) (e : Ev), μ e < n → I e → (whGo c step n e).to Q := by
  intro n
  induction n with
  | zero => intro e h; omega
  | succ n ih =>
    intro e h hI
    unfold whGo
    rw [to_bind]
    refine (hc e hI).mono fun q h2 => ?_
    cases hb : q.2 with
    | false => simpa [hb] using h2
    | true =>
      rw [hb] at h2
      simp only [if_true] at h2 ⊢
      refine to_bind.mpr ?_
      refine h2.mono fun fl h3 => ?_
      cases fl with
      | nx e' => exact ih e' (by have := h3.2; omega) h3.1
      | ct e' => exact ih e' (by have := h3.2; omega) h3.1
      | bk e' => simpa using h3
      | rt e' x => simpa using h3
/-- a slot that is not set, or holds plain data -/
def oE : Option Dt → En
  | none => .un
  | some d => .fr d
theorem oE_none : En.un = oE none := rfl
theorem oE_some {d : Dt} : En.fr d = oE (some d) := rfl
@[simp] theorem isRoot_oE {o : Option Dt} : isRoot (oE o) = false := by cases o <;> rfl
@[simp] theorem unr_oE {env : Ev} {i : Nat} {o : Option Dt} : unr env i (oE o) = oE o := by cases o <;> rfl
@[simp] theorem vwE_oE {o : Option Dt} : vwE (oE o) = oE o := by cases o <;> rfl
@[simp] theorem under_oE {s : Nat} {p : List Nat} {o : Option Dt} : under s p (oE o) = false := by cases o <;> rfl
theorem lt_bigW {n : Nat} (h : n < 1000000000000) : n < bigW := by unfold bigW; omega
theorem le_lineN {n : Nat} (h : n ≤ 10000000) : n ≤ lineN := by show n ≤ 2 ^ 24; omega
theorem lt_lineN {n : Nat} (h : n < 10000000) : n < lineN := by show n < 2 ^ 24; omega
theorem lim64_of {i : Int} (h1 : -(2 ^ 64) < i) (h2 : i < 2 ^ 64) : lim64 i = true := by rw [lim64, decide_eq_true h1, decide_eq_true h2]; rfl
theorem limB_of {i : Int} (h1 : i.natAbs < 2 ^ 400) : limB i = true := decide_eq_true h1
theorem lim62_of {i : Int} (h1 : -(2 ^ 62) ≤ i) (h2 : i < 2 ^ 62) : lim62 i = true := by rw [lim62, decide_eq_true h1, decide_eq_true h2]; rfl
/-! the evaluator's equations -/
/-- a for's turns, as data; kept shut: nothing here unfolds it by itself -/
theorem forB_ex : ∃ F : Cl → Tg → Sm → SK → Nat → Ev → Res Fl, F = fun C tg b k n env => forGo (fun env it => (ofO (asgT env tg it)).bind fun env => evS C b env) k n bigW 0 env := ⟨_, rfl⟩
noncomputable def forB : Cl → Tg → Sm → SK → Nat → Ev → Res Fl := Classical.choose forB_ex
theorem forB_eq {C : Cl} {tg : Tg} {b : Sm} {k : SK} {n : Nat} {env : Ev} : forB C tg b k n env = forGo (fun env it => (ofO (asgT env tg it)).bind fun env => evS C b env) k n bigW 0 env := by
  unfold forB
  rw [Classical.choose_spec forB_ex]
theorem whB_ex : ∃ F : Cl → Ex → Sm → Ev → Res Fl, F = fun C c b env => whGo (fun env => (evE C c env).bind fun q => (ofO (truthE q.1 q.2)).bind fun t => .ok (q.1, t)) (fun env => evS C b env) bigW env := ⟨_, rfl⟩
noncomputable def whB : Cl → Ex → Sm → Ev → Res Fl := Classical.choose whB_ex
theorem whB_eq {C : Cl} {c : Ex} {b : Sm} {env : Ev} : whB C c b env = whGo (fun env => (evE C c env).bind fun q => (ofO (truthE q.1 q.2)).bind fun t => .ok (q.1, t)) (fun env => evS C b env) bigW env := by
  unfold whB
  rw [Classical.choose_spec whB_ex]
def lcStep (C : Cl) (e : Ex) (tg : Tg) (c : Ex) (own : List Nat) (env : Ev) (it : Itm) : Res (Ev × Option Tr) :=
  if rooted env own then .stuck else (ofO (asgT (wipeE env own) tg it)).bind fun env => ((evE C c env).bind fun q => (ofO (truthE q.1 q.2)).bind fun t => .ok (q.1, t)).bind fun q =>
    if q.2 then (evE C e q.1).bind fun x => (ofO (toTr x.1 x.2)).bind fun y => .ok (y.1, some y.2) else .ok (q.1, none)
theorem lcB_ex : ∃ F : Cl → Ex → Tg → Ex → List Nat → SK → Nat → Ev → Res (Ev × List Tr), F = fun C e tg c own k n env => lcGo (lcStep C e tg c own) k n bigW 0 env [] := ⟨_, rfl⟩
noncomputable def lcB : Cl → Ex → Tg → Ex → List Nat → SK → Nat → Ev → Res (Ev × List Tr) := Classical.choose lcB_ex
theorem lcB_eq {C : Cl} {e : Ex} {tg : Tg} {c : Ex} {own : List Nat} {k : SK} {n : Nat} {env : Ev} : lcB C e tg c own k n env = lcGo (lcStep C e tg c own) k n bigW 0 env [] := by
  unfold lcB
  rw [Classical.choose_spec lcB_ex]
namespace Q
section
variable {C : Cl} {env : Ev} {a b c e es ks lo hi src : Ex} {x y : Sm} {i f : Nat} {o o' : Operator} {p p' : CmpOp} {tg : Tg} {k : IK} {own at_ : List Nat}
@[simp] theorem ee_var : evE C (.var i) env = match env[i]? with
    | some (.fr d) => .ok (env, .fr d)
    | some (.own (.nd _ _)) => .ok (env, .al i [])
    | some (.fd d) => .ok (env, .fr d)
    | some (.al s p) => .ok (env, .al s p)
    | _ => .stuck := rfl
@[simp] theorem ee_non : evE C .non env = .ok (env, .fr .none) := rfl
@[simp] theorem ee_bl {z : Bool} : evE C (.bl z) env = .ok (env, .fr (.bool z)) := rfl
@[simp] theorem ee_int {z : Int} : evE C (.int z) env = .ok (env, .fr (.int z)) := rfl
@[simp] theorem ee_str {z : Str} : evE C (.str z) env = .ok (env, .fr (.str z)) := rfl
@[simp] theorem ee_glob {w : Str} {z : Int} : evE C (.glob w z) env = .ok (env, .fr (.int z)) := rfl
@[simp] theorem ee_bin : evE C (.bin o a b) env = (evE C a env).bnd fun q => (evE C b q.1).bnd fun r => (ofO (binE o r.1 q.2 r.2)).bnd fun z => .ok (r.1, z) := by simp only [bnd_def]; rfl
@[simp] theorem ee_neg : evE C (.neg a) env = (evE C a env).bnd fun q => match res q.1 q.2 with
    | some (.fr (.int i)) => .ok (q.1, .fr (.int (-i)))
    | _ => .stuck := by simp only [bnd_def]; rfl
@[simp] theorem ee_not : evE C (.not a) env = (evE C a env).bnd fun q => (ofO (truthE q.1 q.2)).bnd fun b => .ok (q.1, .fr (.bool (!b))) := by simp only [bnd_def]; rfl
@[simp] theorem ee_cmp : evE C (.cmp p a b) env = (evE C a env).bnd fun q => (evE C b q.1).bnd fun r => (ofO (cmpE p r.1 q.2 r.2)).bnd fun z => .ok (r.1, .fr (.bool z)) := by simp only [bnd_def]; rfl
@[simp] theorem ee_chain : evE C (.chain p p' a b c) env = (evE C a env).bnd fun q => (evE C b q.1).bnd fun r => (ofO (cmpE p r.1 q.2 r.2)).bnd fun z =>
      match r.2 with
      | .fr (.int i) => if z = true then (evE C c r.1).bnd fun w => (ofO (cmpE p' w.1 (.fr (.int i)) w.2)).bnd fun z' => .ok (w.1, .fr (.bool z')) else .ok (r.1, .fr (.bool false))
      | _ => .stuck := by simp only [bnd_def]; rfl
@[simp] theorem ee_and : evE C (.and a b) env = (evE C a env).bnd fun q => (ofO (truthE q.1 q.2)).bnd fun t => if t = true then evE C b q.1 else .ok (q.1, .fr (.bool false)) := by simp only [bnd_def]; rfl
@[simp] theorem ee_or : evE C (.or a b) env = (evE C a env).bnd fun q => (ofO (truthE q.1 q.2)).bnd fun t => if t = true then .ok (q.1, .fr (.bool true)) else evE C b q.1 := by simp only [bnd_def]; rfl
@[simp] theorem ee_ife : evE C (.ife c a b) env = (evE C c env).bnd fun q => (ofO (truthE q.1 q.2)).bnd fun t => if t = true then evE C a q.1 else evE C b q.1 := by simp only [bnd_def]; rfl
@[simp] theorem ee_tup : evE C (.tup es) env = (evL C es env).bnd fun q => (ofO (frzL q.1 q.2)).bnd fun r => if r.2.length ≤ lineN then .ok (r.1, .fr (.tuple r.2)) else .stuck := by simp only [bnd_def]; rfl
@[simp] theorem ee_lst : evE C (.lst es) env = (evL C es env).bnd fun q => (ofO (toTrL q.1 q.2)).bnd fun r => if r.2.length ≤ lineN then .ok (r.1, .own (.nd .ls r.2)) else .stuck := by simp only [bnd_def]; rfl
@[simp] theorem ee_dnew {z : Bool} : evE C (.dnew z) env = .ok (env, .own (.nd (if z then .dt [] else .dk []) [])) := rfl
@[simp] theorem ee_sub : evE C (.sub a b) env = (evE C a env).bnd fun q => (evE C b q.1).bnd fun r => (ofO (subE r.1 q.2 r.2)).bnd fun z => .ok (r.1, z) := by simp only [bnd_def]; rfl
@[simp] theorem ee_slc : evE C (.slc a lo hi) env = (evE C a env).bnd fun q => ((evL C lo q.1).bnd fun r => (ofO (optInt r.1 r.2)).bnd fun o => .ok (r.1, o)).bnd fun r =>
      ((evL C hi r.1).bnd fun w => (ofO (optInt w.1 w.2)).bnd fun o => .ok (w.1, o)).bnd fun w => (ofO (slcE w.1 q.2 r.2 w.2)).bnd fun z => .ok (w.1, z) := by simp only [bnd_def]; rfl
@[simp] theorem ee_rev : evE C (.rev a) env = (evE C a env).bnd fun q => (ofO (revE q.1 q.2)).bnd fun z => .ok (q.1, z) := by simp only [bnd_def]; rfl
@[simp] theorem ee_bi {f : BI} : evE C (.bi f es) env = (evL C es env).bnd fun q => ofO (biE f q.1 q.2) := by simp only [bnd_def]; rfl
@[simp] theorem ee_call : evE C (.call f es) env = (evL C es env).bnd fun q => doCall C f q.1 q.2 := by simp only [bnd_def]; rfl
@[simp] theorem ee_callk : evE C (.callk f es ks at_) env = (evL C es env).bnd fun q => (evL C ks q.1).bnd fun r => (ofO (frzL r.1 (q.2 ++ r.2))).bnd fun w => doCall C f w.1 ((placed w.2 at_).map .fr) := by simp only [bnd_def]; rfl
@[simp] theorem ee_mth {m : MI} : evE C (.mth m a es) env = (evE C a env).bnd fun q => if tyE q.1 q.2 = some (tyM m) then (evL C es q.1).bnd fun r => ofO (mtE m r.1 q.2 r.2) else .stuck := by simp only [bnd_def]; rfl
@[simp] theorem ee_lc : evE C (.lc e tg k src c own) env = ((evL C src env).bnd fun q => (ofO (mkSrc k q.1 q.2)).bnd fun r => .ok (q.1, r)).bnd fun q =>
      if rooted q.1 own = true then .stuck else
      (lcB C e tg c own q.2.1 q.1.length (wipeE q.1 own ++ q.2.2 ++ own.map (fun i => q.1.getD i .un))).bnd fun z =>
      if rooted z.1 own = true then .stuck else .ok (restE (z.1.take q.1.length) own (z.1.drop (q.1.length + q.2.2.length)), .own (.nd .ls z.2)) := by
  rw [evE]
  simp only [bnd_def, lcB_eq]
  rfl
@[simp] theorem el_nil : evL C .nil env = .ok (env, []) := rfl
@[simp] theorem el_cons : evL C (.cons a b) env = (evE C a env).bnd fun q => (evL C b q.1).bnd fun w => .ok (w.1, q.2 :: w.2) := by simp only [bnd_def]; rfl
@[simp] theorem es_skip : evS C .skip env = .ok (.nx env) := rfl
@[simp] theorem es_seq : evS C (.seq x y) env = (evS C x env).bnd fun fl => match fl with
    | .nx env' => evS C y env'
    | .bk e => .ok (.bk e)
    | .ct e => .ok (.ct e)
    | .rt e v => .ok (.rt e v) := by
  rw [evS, bnd_def]
  refine congrArg _ (funext fun fl => ?_)
  cases fl <;> rfl
@[simp] theorem es_asg : evS C (.asg tg e) env = (evE C e env).bnd fun q => (ofO (asgT q.1 tg (.one q.2))).bnd fun env' => .ok (.nx env') := by simp only [bnd_def]; rfl
@[simp] theorem es_asgp : evS C (.asgp tg es) env = (evL C es env).bnd fun q => (ofO (asgT q.1 tg (.many q.2))).bnd fun env' => .ok (.nx env') := by simp only [bnd_def]; rfl
@[simp] theorem es_aug : evS C (.aug i o e) env = (evE C (.var i) env).bnd fun q => (evE C e q.1).bnd fun r => (ofO (augE o r.1 q.2 r.2)).bnd fun z => (ofO (asgT r.1 (.nm i) (.one z))).bnd fun env' => .ok (.nx env') := by simp only [bnd_def]; rfl
@[simp] theorem es_sets : evS C (.sets a b e) env = (evE C e env).bnd fun x => (evE C a x.1).bnd fun y => (evE C b y.1).bnd fun z => (ofO (setE z.1 y.2 z.2 x.2)).bnd fun env' => .ok (.nx env') := by simp only [bnd_def]; rfl
@[simp] theorem es_augs : evS C (.augs o a b e) env = (evE C a env).bnd fun y => (evE C b y.1).bnd fun z => (ofO (subF z.1 y.2 z.2)).bnd fun old => (evE C e z.1).bnd fun x =>
      (ofO (augE o x.1 (.fr old) x.2)).bnd fun w => (ofO (setE x.1 y.2 z.2 w)).bnd fun env' => .ok (.nx env') := by simp only [bnd_def]; rfl
@[simp] theorem es_ex : evS C (.ex e) env = (evE C e env).bnd fun q => .ok (.nx q.1) := by simp only [bnd_def]; rfl
@[simp] theorem es_ite : evS C (.ite c x y) env = (evE C c env).bnd fun q => (ofO (truthE q.1 q.2)).bnd fun t => if t = true then evS C x q.1 else evS C y q.1 := by simp only [bnd_def]; rfl
@[simp] theorem es_for : evS C (.for_ tg k src x) env = (evL C src env).bnd fun q => (ofO (mkSrc k q.1 q.2)).bnd fun r => (forB C tg x r.1 q.1.length (q.1 ++ r.2)).cut q.1.length := by
  simp only [bnd_def, forB_eq]
  rfl
@[simp] theorem es_whl : evS C (.whl c x) env = whB C c x env := by rw [whB_eq, evS]
@[simp] theorem es_ret : evS C (.ret e) env = (evE C e env).bnd fun q => .ok (.rt q.1 q.2) := by simp only [bnd_def]; rfl
@[simp] theorem es_retn : evS C .retn env = .ok (.rt env (.fr .none)) := rfl
@[simp] theorem es_brk : evS C .brk env = .ok (.bk env) := rfl
@[simp] theorem es_cnt : evS C .cnt env = .ok (.ct env) := rfl
@[simp] theorem es_pass : evS C .pass env = .ok (.nx env) := rfl
@[simp] theorem es_nev : evS C .nev env = .stuck := rfl
end
end Q
theorem forB_inv {C : Cl} {tg : Tg} {b : Sm} {k : SK} {m : Nat} {env : Ev} (n : Nat) (it : Nat → Itm) (I : Nat → Ev → Prop) {Q : Fl → Prop} {t : Tok Q} (hn : n < bigW) (h0 : I 0 env)
    (hsrc : ∀ i e, i < n → I i e → srcAt k m e i = some (some (it i))) (hend : ∀ e, I n e → srcAt k m e n = some none)
    (hs : ∀ i e, i < n → I i e → (ofO (asgT e tg (it i))).to fun e => (evS C b e).to (TurnTo (I (i + 1)) Q)) (hq : ∀ e, I n e → Q (.nx e)) : (forB C tg b k m env).to Q t :=
  forB_eq ▸ forGo_inv n it I hn h0 hsrc hend (fun i e h1 h2 => to_bind.mpr (hs i e h1 h2)) hq
theorem forB_rng {C : Cl} {tg : Tg} {b : Sm} {lo st : Int} {n m : Nat} {env : Ev} (I : Nat → Ev → Prop) {Q : Fl → Prop} {t : Tok Q} (hn : n < bigW) (h0 : I 0 env)
    (hs : ∀ (i : Nat) e, i < n → I i e → (ofO (asgT e tg (.one (.fr (.int (lo + st * i)))))).to fun e => (evS C b e).to (TurnTo (I (i + 1)) Q)) (hq : ∀ e, I n e → Q (.nx e)) : (forB C tg b (.rng lo st n) m env).to Q t :=
  forB_eq ▸ forGo_rng I hn h0 (fun i e h1 h2 => to_bind.mpr (hs i e h1 h2)) hq
/-- the temporary sequence of a loop -/
theorem forB_seq {C : Cl} {tg : Tg} {b : Sm} {l : Bool} {ds : List Dt} {m : Nat} {env : Ev} (I : Nat → Ev → Prop) {Q : Fl → Prop} {t : Tok Q} (hn : ds.length < bigW) (h0 : I 0 env)
    (hb : ∀ i e, I i e → e[m]? = some (.fr (if l then .list ds else .tuple ds)))
    (hs : ∀ i (hi : i < ds.length) e, I i e → (ofO (asgT e tg (.one (.fr ds[i])))).to fun e => (evS C b e).to (TurnTo (I (i + 1)) Q)) (hq : ∀ e, I ds.length e → Q (.nx e)) : (forB C tg b (.seq l) m env).to Q t :=
  forB_eq ▸ forGo_seq I hn h0 (fun i e hI => ⟨_, hb i e hI, by cases l <;> rfl, fun _ => ⟨_, rfl⟩, (fun ts h => by cases l <;> cases h), (fun sh ts h => by cases l <;> cases h)⟩) (fun i hi e h2 => to_bind.mpr (hs i hi e h2)) hq
theorem whB_inv {C : Cl} {c : Ex} {b : Sm} {env : Ev} (I : Ev → Prop) (μ : Ev → Nat) {Q : Fl → Prop} {t : Tok Q} (h0 : I env) (hm : μ env < bigW)
    (hc : ∀ e, I e → (evE C c e).to fun q => (ofO (truthE q.1 q.2)).to fun t => if t = true then (evS C b q.1).to (TurnTo (fun e' => I e' ∧ μ e' < μ e) Q) else Q (.nx q.1)) : (whB C c b env).to Q t := by
  rw [whB_eq]
  refine whGo_inv (Q := Q) I μ (fun e hI => ?_) bigW env hm h0
  have := hc e hI
  refine to_bind.mpr (this.mono fun q h => ?_)
  refine to_bind.mpr (h.mono fun t h => ?_)
  simpa using h
theorem lcB_inv {C : Cl} {e : Ex} {tg : Tg} {c : Ex} {own : List Nat} {k : SK} {m : Nat} {env : Ev} (n : Nat) (it : Nat → Itm) (I : Nat → Ev → List Tr → Prop) {Q : Ev × List Tr → Prop} {t : Tok Q} (hn : n < bigW) (h0 : I 0 env [])
    (hsrc : ∀ i e acc, i < n → I i e acc → srcAt k m e i = some (some (it i))) (hend : ∀ e acc, I n e acc → srcAt k m e n = some none)
    (hs : ∀ i ev acc, i < n → I i ev acc → rooted ev own = false ∧ (ofO (asgT (wipeE ev own) tg (it i))).to fun ev => (evE C c ev).to fun q => (ofO (truthE q.1 q.2)).to fun t =>
      if t = true then (evE C e q.1).to fun x => (ofO (toTr x.1 x.2)).to fun y => acc.length < lineN ∧ I (i + 1) y.1 (acc ++ [y.2]) else I (i + 1) q.1 acc) (hq : ∀ e acc, I n e acc → Q (e, acc)) : (lcB C e tg c own k m env).to Q t := by
  rw [lcB_eq]
  refine lcGo_inv n it I hn h0 hsrc hend (fun i ev acc hi hI => ?_) hq
  obtain ⟨h1, h2⟩ := hs i ev acc hi hI
  unfold lcStep
  rw [h1]
  refine to_bind.mpr (h2.mono fun ev h2 => ?_)
  refine to_bind.mpr (to_bind.mpr (h2.mono fun q h2 => ?_))
  refine to_bind.mpr (h2.mono fun t h2 => ?_)
  simp only [to_ok]
  cases t with
  | false => simpa using h2
  | true =>
    simp only [if_true] at h2 ⊢
    refine to_bind.mpr (h2.mono fun x h2 => ?_)
    refine to_bind.mpr (h2.mono fun y h2 => ?_)
    simpa using h2
/-! what stands in slots -/
namespace Q
section
variable {env : Ev} {d : Dt} {t : Tr} {s i j : Nat} {p : List Nat} {x y z : En} {xs ys : List En} {c : Cl}
@[simp] theorem res_fr : res env (.fr d) = some (.fr d) := rfl
@[simp] theorem res_own : res env (.own t) = some t := rfl
@[simp] theorem res_fd : res env (.fd d) = some (.fr d) := rfl
@[simp] theorem res_al : res env (.al s p) = match env[s]? with
  | some (.own t) => t.at p
  | some (.fd d) => (Dt.at d p).map .fr
  | _ => none := rfl
@[simp] theorem at_nil : Tr.at t [] = some t := by cases t <;> rfl
@[simp] theorem at_cons {sh : Sh} {ts : List Tr} : Tr.at (.nd sh ts) (i :: p) = match ts[i]? with
    | some u => u.at p
    | none => none := rfl
@[simp] theorem datat_nil : Dt.at d [] = some d := by cases d <;> rfl
@[simp] theorem put_nil {u : Tr} : Tr.put t [] u = u := by cases t <;> rfl
@[simp] theorem put_cons {sh : Sh} {ts : List Tr} {u : Tr} : Tr.put (.nd sh ts) (i :: p) u = match ts[i]? with
  | some t => .nd sh (ts.set i (t.put p u))
  | none => .nd sh ts := rfl
@[simp] theorem data_fr : Tr.data (.fr d) = d := rfl
@[simp] theorem data_nd {sh : Sh} {ts : List Tr} : Tr.data (.nd sh ts) = sh.dat (Tr.datas ts) := rfl
@[simp] theorem datas_nil : Tr.datas [] = [] := rfl
@[simp] theorem datas_cons {ts : List Tr} : Tr.datas (t :: ts) = t.data :: Tr.datas ts := rfl
@[simp] theorem dat_ls {ds : List Dt} : Sh.ls.dat ds = .list ds := rfl
@[simp] theorem dat_tp {ds : List Dt} : Sh.tp.dat ds = .tuple ds := rfl
@[simp] theorem peek_fr : peek env (.fr d) = some d := rfl
@[simp] theorem peek_own : peek env (.own t) = some t.data := rfl
@[simp] theorem peek_fd : peek env (.fd d) = some d := rfl
@[simp] theorem peek_al : peek env (.al s p) = (res env (.al s p)).map Tr.data := rfl
@[simp] theorem frz_fr : frz env (.fr d) = some (env, d) := rfl
@[simp] theorem frz_own : frz env (.own t) = some (env, t.data) := rfl
@[simp] theorem frz_fd : frz env (.fd d) = some (env, d) := rfl
@[simp] theorem frz_al : frz env (.al s p) = match env[s]? with
    | some (.own t) => match t.at p with
      | some u => some (env.set s (.fd t.data), u.data)
      | none => none
    | some (.fd d) => (Dt.at d p).map fun e => (env, e)
    | _ => none := rfl
@[simp] theorem unr_fr : unr env i (.fr d) = .fr d := rfl
@[simp] theorem unr_own : unr env i (.own t) = .own t := rfl
@[simp] theorem unr_fd : unr env i (.fd d) = .fd d := rfl
@[simp] theorem unr_un : unr env i .un = .un := rfl
@[simp] theorem unr_al : unr env i (.al s p) = if s = i then (match peek env (.al s p) with | some d => .fr d | none => .un) else .al s p := rfl
@[simp] theorem puts_nil : puts env [] = env := by rw [puts]
@[simp] theorem puts_cons {r : List (Nat × En)} : puts env ((i, x) :: r) = puts ((env.map (unr env i)).set i (unr env i x)) (r.map fun q => (q.1, unr env i q.2)) := by rw [puts]
@[simp] theorem toTr_own : toTr env (.own t) = some (env, t) := rfl
@[simp] theorem toTr_fr : toTr env (.fr d) = some (env, .fr d) := rfl
@[simp] theorem toTr_fd : toTr env (.fd d) = some (env, .fr d) := rfl
@[simp] theorem toTr_al : toTr env (.al s p) = (frz env (.al s p)).map fun q => (q.1, .fr q.2) := rfl
@[simp] theorem frzL_nil : frzL env [] = some (env, []) := rfl
@[simp] theorem frzL_cons : frzL env (x :: xs) = match frz env x with
    | none => none
    | some (env1, d) => (frzL env1 xs).map fun q => (q.1, d :: q.2) := rfl
@[simp] theorem toTrL_nil : toTrL env [] = some (env, []) := rfl
@[simp] theorem toTrL_cons : toTrL env (x :: xs) = match toTr env x with
    | none => none
    | some (env1, d) => (toTrL env1 xs).map fun q => (q.1, d :: q.2) := rfl
@[simp] theorem truthE_fr {b : Bool} : truthE env (.fr (.bool b)) = some b := rfl
@[simp] theorem optInt_nil : optInt env [] = some none := rfl
@[simp] theorem optInt_one {i : Int} : optInt env [.fr (.int i)] = some (some i) := rfl
/-! targets -/
@[simp] theorem bindT_nm : bindT (.nm i) x = some [(i, x)] := by cases x <;> rfl
@[simp] theorem bindT_tup {ts : Tg} {ds : List Dt} : bindT (.tup ts) (.fr (.tuple ds)) = bindL ts (ds.map .fr) := rfl
@[simp] theorem bindL_nil : bindL .nil [] = some [] := rfl
@[simp] theorem bindL_cons {a r : Tg} : bindL (.cons a r) (x :: xs) = match bindT a x, bindL r xs with
    | some p, some q => some (p ++ q)
    | _, _ => none := rfl
@[simp] theorem bindI_one {tg : Tg} : bindI tg (.one x) = bindT tg x := rfl
@[simp] theorem bindI_many {ts : Tg} : bindI (.tup ts) (.many xs) = bindL ts xs := rfl
@[simp] theorem okE_fr : okE (.fr d) = true := rfl
@[simp] theorem okE_own : okE (.own t) = true := rfl
@[simp] theorem okE_al : okE (.al s p) = true := rfl
@[simp] theorem asgT_def {tg : Tg} {it : Itm} : asgT env tg it = match bindI tg it with
  | none => none
  | some l => if l.all (fun q => okE q.2) then some (puts env l) else none := rfl
/-! calls -/
@[simp] theorem argsF_nil : argsF env [] [] = some (env, []) := rfl
@[simp] theorem argsF_io {ms : List Bool} : argsF env (true :: ms) (.al s p :: xs) = (argsF env ms xs).map fun q => (q.1, .al s p :: q.2) := rfl
@[simp] theorem argsF_fr {ms : List Bool} : argsF env (false :: ms) (x :: xs) = match frz env x with
    | some (env', d) => (argsF env' ms xs).map fun q => (q.1, .fr d :: q.2)
    | none => none := by cases x <;> rfl
@[simp] theorem argsA_nil : argsA env [] = some ([], []) := rfl
@[simp] theorem argsA_al : argsA env (.al s p :: xs) = match env[s]? with
    | some (.own t) => match t.at p with
      | some (.nd sh ts) => match allFr ts with
        | some _ => (argsA env xs).map fun q => (.io (.nd sh ts) :: q.1, (s, p) :: q.2)
        | none => none
      | _ => none
    | _ => none := rfl
@[simp] theorem argsA_fr : argsA env (.fr d :: xs) = (argsA env xs).map fun q => (.fr d :: q.1, q.2) := rfl
@[simp] theorem backA_nil : backA env [] [] = some env := rfl
@[simp] theorem backA_cons {sh : Sh} {ts : List Tr} {r : List (Nat × List Nat)} {us : List Tr} : backA env ((s, p) :: r) (.nd sh ts :: us) = match env[s]? with
    | some (.own t) => backA (env.set s (.own (t.put p (.nd sh ts)))) r us
    | _ => none := by
  rw [backA.eq_def]
  cases h : env[s]? with
  | none => simp only [h]
  | some x => cases x <;> simp only [h]
@[simp] theorem entP_nil {n h : Nat} : entP n [] h = [] := rfl
@[simp] theorem entP_fr {n h : Nat} {r : List Ar} : entP n (.fr d :: r) h = .fr d :: entP n r h := rfl
@[simp] theorem entP_io {n h : Nat} {r : List Ar} : entP n (.io t :: r) h = .al (n + h) [] :: entP n r (h + 1) := rfl
@[simp] theorem ioOf_nil : ioOf [] = [] := rfl
@[simp] theorem ioOf_fr {r : List Ar} : ioOf (.fr d :: r) = ioOf r := rfl
@[simp] theorem ioOf_io {r : List Ar} : ioOf (.io t :: r) = t :: ioOf r := rfl
@[simp] theorem env0_def {d : Df} {as : List Ar} : env0 d as = entP d.nl as 0 ++ List.replicate (d.nl - as.length) .un ++ (ioOf as).map .own := rfl
@[simp] theorem outsOf_nil : outsOf [] = some [] := rfl
@[simp] theorem outsOf_own : outsOf (.own t :: xs) = (outsOf xs).map (t :: ·) := rfl
@[simp] theorem outsOf_fd : outsOf (.fd d :: xs) = (outsOf xs).map (.fr d :: ·) := rfl
@[simp] theorem retE_own {n : Nat} : retE n env (.own t) = some (env, .inr t) := rfl
@[simp] theorem retE_fr {n : Nat} : retE n env (.fr d) = some (env, .inl d) := rfl
@[simp] theorem retE_al {n : Nat} : retE n env (.al s []) = match env[s]? with
    | some (.own t) => if s < n then some (env.set s .un, .inr t) else (frz env (.al s [])).map fun q => (q.1, .inl q.2)
    | _ => (frz env (.al s [])).map fun q => (q.1, .inl q.2) := by
  cases h : env[s]? with
  | none => simp only [retE, h]
  | some x => cases x <;> simp only [retE, h]
@[simp] theorem entR_inl : entR (.inl d) = .fr d := rfl
@[simp] theorem entR_inr : entR (.inr t) = .own t := rfl
/-! comprehensions -/
@[simp] theorem wipe_nil : wipeE env [] = env := rfl
@[simp] theorem wipe_cons {l : List Nat} : wipeE env (i :: l) = wipeE (env.set i .un) l := rfl
@[simp] theorem vwE_fr : vwE (.fr d) = .fr d := rfl
@[simp] theorem vwE_un : vwE .un = .un := rfl
@[simp] theorem restE_nil : restE env [] xs = env := by cases xs <;> rfl
@[simp] theorem restE_cons {l : List Nat} : restE env (i :: l) (x :: xs) = restE (env.set i (vwE x)) l xs := rfl
@[simp] theorem rooted_nil : rooted env [] = false := rfl
@[simp] theorem rooted_cons {l : List Nat} : rooted env (i :: l) = (isRoot (env.getD i .un) || rooted env l) := rfl
@[simp] theorem isRoot_fr : isRoot (.fr d) = false := rfl
@[simp] theorem isRoot_un : isRoot .un = false := rfl
@[simp] theorem isRoot_al : isRoot (.al s p) = false := rfl
@[simp] theorem isRoot_own : isRoot (.own t) = true := rfl
@[simp] theorem isRoot_fd : isRoot (.fd d) = true := rfl
/-! sources -/
@[simp] theorem walk_frL {ds : List Dt} : walkE env (.fr (.list ds)) = some (.fr (.list ds), true) := rfl
@[simp] theorem walk_frT {ds : List Dt} : walkE env (.fr (.tuple ds)) = some (.fr (.tuple ds), false) := rfl
@[simp] theorem walk_own {ts : List Tr} : walkE env (.own (.nd .ls ts)) = some (.fr (.list (Tr.datas ts)), true) := rfl
@[simp] theorem walk_al : walkE env (.al s p) = match res env (.al s p) with
    | some (.fr (.list _)) => some (.al s p, true)
    | some (.nd .ls _) => some (.al s p, true)
    | some (.fr (.tuple _)) => some (.al s p, false)
    | _ => none := by
  unfold walkE
  generalize res env (.al s p) = r
  match r with
  | none => rfl
  | some (.fr (.list _)) => rfl
  | some (.fr (.tuple _)) => rfl
  | some (.fr .none) => rfl
  | some (.fr (.bool _)) => rfl
  | some (.fr (.int _)) => rfl
  | some (.fr (.str _)) => rfl
  | some (.fr (.dict _)) => rfl
  | some (.nd .ls _) => rfl
  | some (.nd .tp _) => rfl
  | some (.nd (.dk _) _) => rfl
  | some (.nd (.dt _) _) => rfl
@[simp] theorem walkL_nil : walkL env [] = some ([], []) := rfl
@[simp] theorem walkL_cons : walkL env (x :: xs) = match walkE env x, walkL env xs with
    | some (y, l), some (ys, ls) => some (y :: ys, l :: ls)
    | _, _ => none := rfl
@[simp] theorem mkSrc_seq : mkSrc .seq env xs = match walkL env xs with
    | some ([y], [l]) => some (.seq l, [y])
    | _ => none := rfl
@[simp] theorem mkSrc_rng1 {n : Int} : mkSrc .rng env [.fr (.int n)] = if lim62 n then some (.rng 0 1 n.toNat, []) else none := rfl
@[simp] theorem mkSrc_rng2 {a b : Int} : mkSrc .rng env [.fr (.int a), .fr (.int b)] = if lim62 a && lim62 b then some (.rng a 1 (b - a).toNat, []) else none := rfl
@[simp] theorem mkSrc_rng3 {a b c : Int} : mkSrc .rng env [.fr (.int a), .fr (.int b), .fr (.int c)] = if lim62 a && lim62 b && decide (c.natAbs < 1073741824) && decide (c ≠ 0) then some (.rng a c (rngN a b c), []) else none := rfl
@[simp] theorem mkSrc_enm : mkSrc .enm env xs = match walkL env xs with
    | some ([y], [l]) => some (.enm l 0, [y])
    | _ => none := rfl
@[simp] theorem mkSrc_enm1 {st : Int} : mkSrc .enm1 env [x, .fr (.int st)] = match walkE env x with
      | some (y, l) => if lim62 st then some (.enm l st, [y]) else none
      | _ => none := by
  show (match walkE env x, some (Tr.fr (.int st)) with
      | some (y, l), some (.fr (.int st)) => if lim62 st then some (SK.enm l st, [y]) else none
      | _, _ => none) = _
  cases walkE env x <;> rfl
@[simp] theorem mkSrc_zip : mkSrc .zip env xs = match walkL env xs with
    | some ([y, z], [l, m]) => some (.zip [l, m], [y, z])
    | _ => none := rfl
/-! operations -/
@[simp] theorem bin_add {i j : Int} : binE .Add env (.fr (.int i)) (.fr (.int j)) = some (.fr (.int (i + j))) := rfl
@[simp] theorem bin_sub {i j : Int} : binE .Sub env (.fr (.int i)) (.fr (.int j)) = some (.fr (.int (i - j))) := rfl
@[simp] theorem bin_mul {i j : Int} : binE .Mult env (.fr (.int i)) (.fr (.int j)) = if (lim64 i || lim64 j || (limB i && limB j)) = true then some (.fr (.int (i * j))) else none := by
  show (if (lim64 i || lim64 j || (limB i && limB j)) = true then some (PyData.int (i * j)) else none).map En.fr = _
  split <;> rfl
@[simp] theorem bin_div {i j : Int} : binE .FloorDiv env (.fr (.int i)) (.fr (.int j)) = if 0 < j ∧ j < 1000000000000000000000000000000 then some (.fr (.int (i / j))) else none := by
  show (if 0 < j ∧ j < 1000000000000000000000000000000 then some (PyData.int (i / j)) else none).map En.fr = _
  split <;> rfl
@[simp] theorem bin_mod {i j : Int} : binE .Mod env (.fr (.int i)) (.fr (.int j)) = if 0 < j then some (.fr (.int (i % j))) else none := by
  show (if 0 < j then some (PyData.int (i % j)) else none).map En.fr = _
  split <;> rfl
@[simp] theorem bin_pow {i j : Int} : binE .Pow env (.fr (.int i)) (.fr (.int j)) = if 0 ≤ j ∧ j ≤ 1000000 ∧ i.natAbs < 2 ^ 64 then some (.fr (.int (i ^ j.toNat))) else none := by
  show (if 0 ≤ j ∧ j ≤ 1000000 ∧ i.natAbs < 2 ^ 64 then some (PyData.int (i ^ j.toNat)) else none).map En.fr = _
  split <;> rfl
@[simp] theorem bin_addT {as bs : List Dt} : binE .Add env (.fr (.tuple as)) (.fr (.tuple bs)) = if as.length + bs.length ≤ lineN then some (.fr (.tuple (as ++ bs))) else none := by
  show (if as.length + bs.length ≤ lineN then some (PyData.tuple (as ++ bs)) else none).map En.fr = _
  split <;> rfl
@[simp] theorem bin_addS {a b : Str} : binE .Add env (.fr (.str a)) (.fr (.str b)) = if a.length + b.length ≤ lineN then some (.fr (.str (a ++ b))) else none := by
  show (if a.length + b.length ≤ lineN then some (PyData.str (a ++ b)) else none).map En.fr = _
  split <;> rfl
theorem bin_addL {xs ys : List Dt} (h : lItems env x = some xs) (k : lItems env y = some ys) : binE .Add env x y = if xs.length + ys.length ≤ lineN then some (newList (xs ++ ys)) else none := by
  simp [binE, h, k]
theorem bin_mulL {xs : List Dt} {k : Int} (h : lItems env x = some xs) : binE .Mult env x (.fr (.int k)) = if -(2 ^ 63) ≤ k ∧ k < 2 ^ 63 ∧ xs.length * k.toNat ≤ lineN then some (newList (List.replicate k.toNat xs).flatten) else none := by
  simp [binE, h]
@[simp] theorem lItems_fr {ds : List Dt} : lItems env (.fr (.list ds)) = some ds := rfl
@[simp] theorem lItems_T {ds : List Dt} : lItems env (.fr (.tuple ds)) = none := rfl
@[simp] theorem lItems_own {ts : List Tr} : lItems env (.own (.nd .ls ts)) = allFr ts := rfl
@[simp] theorem lItems_al : lItems env (.al s p) = (res env (.al s p)).bind lstOf := rfl
@[simp] theorem lstOf_fr {ds : List Dt} : lstOf (.fr (.list ds)) = some ds := rfl
@[simp] theorem lstOf_T {ds : List Dt} : lstOf (.fr (.tuple ds)) = none := rfl
@[simp] theorem lstOf_nd {ts : List Tr} : lstOf (.nd .ls ts) = allFr ts := rfl
@[simp] theorem seqItems_L {ds : List Dt} : seqItems env (.fr (.list ds)) = some ds := rfl
@[simp] theorem seqItems_T {ds : List Dt} : seqItems env (.fr (.tuple ds)) = some ds := rfl
@[simp] theorem seqItems_own {ts : List Tr} : seqItems env (.own (.nd .ls ts)) = allFr ts := rfl
@[simp] theorem seqItems_al : seqItems env (.al s p) = (res env (.al s p)).bind seqOf := rfl
@[simp] theorem seqOf_fr {ds : List Dt} : seqOf (.fr (.list ds)) = some ds := rfl
@[simp] theorem seqOf_T {ds : List Dt} : seqOf (.fr (.tuple ds)) = some ds := rfl
@[simp] theorem seqOf_nd {ts : List Tr} : seqOf (.nd .ls ts) = allFr ts := rfl
@[simp] theorem intsOfE_def : intsOfE env x = (seqItems env x).bind intsOf := rfl
@[simp] theorem allFr_nil : allFr [] = some [] := rfl
@[simp] theorem allFr_cons {ts : List Tr} : allFr (.fr d :: ts) = (allFr ts).map (d :: ·) := rfl
@[simp] theorem newList_def {ds : List Dt} : newList ds = .own (.nd .ls (ds.map .fr)) := rfl
@[simp] theorem cmp_lt {i j : Int} : cmpE .Lt env (.fr (.int i)) (.fr (.int j)) = some (decide (i < j)) := rfl
@[simp] theorem cmp_le {i j : Int} : cmpE .LtE env (.fr (.int i)) (.fr (.int j)) = some (decide (i ≤ j)) := rfl
@[simp] theorem cmp_gt {i j : Int} : cmpE .Gt env (.fr (.int i)) (.fr (.int j)) = some (decide (j < i)) := rfl
@[simp] theorem cmp_ge {i j : Int} : cmpE .GtE env (.fr (.int i)) (.fr (.int j)) = some (decide (j ≤ i)) := rfl
theorem shaped_int {i : Int} : SeqAt.shaped (.int i) = true := rfl
theorem eqv_int {i j : Int} : PyData.eqv (.int i) (.int j) = decide (i = j) := by
  simp only [PyData.eqv]
  by_cases h : i = j <;> simp [h]
@[simp] theorem cmp_eq {i j : Int} : cmpE .Eq env (.fr (.int i)) (.fr (.int j)) = some (decide (i = j)) := by
  rw [← eqv_int]; rfl
@[simp] theorem cmp_ne {i j : Int} : cmpE .NotEq env (.fr (.int i)) (.fr (.int j)) = some (!decide (i = j)) := by
  rw [← eqv_int]; rfl
@[simp] theorem cmp_eqS {a b : Str} : cmpE .Eq env (.fr (.str a)) (.fr (.str b)) = some (a == b) := rfl
@[simp] theorem cmp_neS {a b : Str} : cmpE .NotEq env (.fr (.str a)) (.fr (.str b)) = some (!(a == b)) := rfl
/-- == of other data -/
theorem cmp_eqD {a b : Dt} (h : peek env x = some a) (k : peek env y = some b) (ha : SeqAt.shaped a = true) (hb : SeqAt.shaped b = true) : cmpE .Eq env x y = some (PyData.eqv a b) := by
  show cmpE.eqq env x y = _
  unfold cmpE.eqq
  rw [h, k]
  cases a <;> cases b <;> simp_all [PyData.eqv]
theorem cmp_neD {a b : Dt} (h : peek env x = some a) (k : peek env y = some b) (ha : SeqAt.shaped a = true) (hb : SeqAt.shaped b = true) : cmpE .NotEq env x y = some (!PyData.eqv a b) := by
  have := cmp_eqD h k ha hb
  show (cmpE.eqq env x y).map (!·) = _
  rw [show cmpE.eqq env x y = some (PyData.eqv a b) from this]
  rfl
@[simp] theorem is_none_none : cmpE .Is env (.fr .none) (.fr .none) = some true := rfl
@[simp] theorem is_none_int {i : Int} : cmpE .Is env (.fr (.int i)) (.fr .none) = some false := rfl
@[simp] theorem is_none_tuple {ds : List Dt} : cmpE .Is env (.fr (.tuple ds)) (.fr .none) = some false := rfl
@[simp] theorem is_none_list {ds : List Dt} : cmpE .Is env (.fr (.list ds)) (.fr .none) = some false := rfl
@[simp] theorem is_none_bool {b : Bool} : cmpE .Is env (.fr (.bool b)) (.fr .none) = some false := rfl
@[simp] theorem is_none_str {b : Str} : cmpE .Is env (.fr (.str b)) (.fr .none) = some false := rfl
@[simp] theorem isnt_none_none : cmpE .IsNot env (.fr .none) (.fr .none) = some false := rfl
@[simp] theorem isnt_none_int {i : Int} : cmpE .IsNot env (.fr (.int i)) (.fr .none) = some true := rfl
@[simp] theorem isnt_none_tuple {ds : List Dt} : cmpE .IsNot env (.fr (.tuple ds)) (.fr .none) = some true := rfl
@[simp] theorem isnt_none_list {ds : List Dt} : cmpE .IsNot env (.fr (.list ds)) (.fr .none) = some true := rfl
@[simp] theorem isnt_none_bool {b : Bool} : cmpE .IsNot env (.fr (.bool b)) (.fr .none) = some true := rfl
@[simp] theorem isnt_none_str {b : Str} : cmpE .IsNot env (.fr (.str b)) (.fr .none) = some true := rfl
@[simp] theorem is_bool_bool {b c : Bool} : cmpE .Is env (.fr (.bool b)) (.fr (.bool c)) = some (decide (b = c)) := rfl
@[simp] theorem isnt_bool_bool {b c : Bool} : cmpE .IsNot env (.fr (.bool b)) (.fr (.bool c)) = some (!decide (b = c)) := rfl
/-! x[y] -/
@[simp] theorem sub_frL {ds : List Dt} {i : Int} : subE env (.fr (.list ds)) (.fr (.int i)) = ((ixNat ds.length i).bind fun j => ds[j]?).map .fr := rfl
@[simp] theorem sub_frT {ds : List Dt} {i : Int} : subE env (.fr (.tuple ds)) (.fr (.int i)) = ((ixNat ds.length i).bind fun j => ds[j]?).map .fr := rfl
@[simp] theorem sub_own {ts : List Tr} {i : Int} : subE env (.own (.nd .ls ts)) (.fr (.int i)) = (ixNat ts.length i).bind fun j => pickE ts (.own (.nd .ls ts)) j := by
  show (match ixNat ts.length i with | none => none | some j => pickE ts _ j) = _
  cases ixNat ts.length i <;> rfl
theorem ob {o : Option Nat} {f : Nat → Option En} : (match o with | none => none | some j => f j) = o.bind f := by cases o <;> rfl
@[simp] theorem sub_al {k : Dt} : subE env (.al s p) (.fr k) = match res env (.al s p), k with
  | some (.fr (.list ds)), .int i => ((ixNat ds.length i).bind fun j => ds[j]?).map .fr
  | some (.fr (.tuple ds)), .int i => ((ixNat ds.length i).bind fun j => ds[j]?).map .fr
  | some (.nd .ls ts), .int i => (ixNat ts.length i).bind fun j => pickE ts (.al s p) j
  | some (.nd .tp ts), .int i => (ixNat ts.length i).bind fun j => pickE ts (.al s p) j
  | some (.nd (.dk ks) ts), k => ((Sh.dk ks).find k).join.bind fun j => pickE ts (.al s p) j
  | some (.nd (.dt ks) ts), k => ((Sh.dt ks).find k).join.bind fun j => pickE ts (.al s p) j
  | _, _ => none := by
  unfold subE
  rw [peek_fr]
  generalize res env (.al s p) = r
  match r, k with
  | none, k => cases k <;> rfl
  | some (.fr d), k => cases d <;> cases k <;> rfl
  | some (.nd .ls ts), .int i => exact ob
  | some (.nd .tp ts), .int i => exact ob
  | some (.nd (.dk ks) ts), .none => exact ob (o := ((Sh.dk ks).find (.none)).join) (f := fun j => pickE ts (.al s p) j)
  | some (.nd (.dk ks) ts), .bool b => exact ob (o := ((Sh.dk ks).find (.bool b)).join) (f := fun j => pickE ts (.al s p) j)
  | some (.nd (.dk ks) ts), .int i => exact ob (o := ((Sh.dk ks).find (.int i)).join) (f := fun j => pickE ts (.al s p) j)
  | some (.nd (.dk ks) ts), .str x => exact ob (o := ((Sh.dk ks).find (.str x)).join) (f := fun j => pickE ts (.al s p) j)
  | some (.nd (.dk ks) ts), .list x => exact ob (o := ((Sh.dk ks).find (.list x)).join) (f := fun j => pickE ts (.al s p) j)
  | some (.nd (.dk ks) ts), .tuple x => exact ob (o := ((Sh.dk ks).find (.tuple x)).join) (f := fun j => pickE ts (.al s p) j)
  | some (.nd (.dk ks) ts), .dict x => exact ob (o := ((Sh.dk ks).find (.dict x)).join) (f := fun j => pickE ts (.al s p) j)
  | some (.nd (.dt ks) ts), .none => exact ob (o := ((Sh.dt ks).find (.none)).join) (f := fun j => pickE ts (.al s p) j)
  | some (.nd (.dt ks) ts), .bool b => exact ob (o := ((Sh.dt ks).find (.bool b)).join) (f := fun j => pickE ts (.al s p) j)
  | some (.nd (.dt ks) ts), .int i => exact ob (o := ((Sh.dt ks).find (.int i)).join) (f := fun j => pickE ts (.al s p) j)
  | some (.nd (.dt ks) ts), .str x => exact ob (o := ((Sh.dt ks).find (.str x)).join) (f := fun j => pickE ts (.al s p) j)
  | some (.nd (.dt ks) ts), .list x => exact ob (o := ((Sh.dt ks).find (.list x)).join) (f := fun j => pickE ts (.al s p) j)
  | some (.nd (.dt ks) ts), .tuple x => exact ob (o := ((Sh.dt ks).find (.tuple x)).join) (f := fun j => pickE ts (.al s p) j)
  | some (.nd (.dt ks) ts), .dict x => exact ob (o := ((Sh.dt ks).find (.dict x)).join) (f := fun j => pickE ts (.al s p) j)
  | some (.nd .ls ts), .none => rfl
  | some (.nd .ls ts), .bool _ => rfl
  | some (.nd .ls ts), .str _ => rfl
  | some (.nd .ls ts), .list _ => rfl
  | some (.nd .ls ts), .tuple _ => rfl
  | some (.nd .ls ts), .dict _ => rfl
  | some (.nd .tp ts), .none => rfl
  | some (.nd .tp ts), .bool _ => rfl
  | some (.nd .tp ts), .str _ => rfl
  | some (.nd .tp ts), .list _ => rfl
  | some (.nd .tp ts), .tuple _ => rfl
  | some (.nd .tp ts), .dict _ => rfl
@[simp] theorem pickE_def {ts : List Tr} : pickE ts x j = match ts[j]? with
  | none => none
  | some (.fr d) => some (.fr d)
  | some u => match x with
    | .al s p => some (.al s (p ++ [j]))
    | _ => some (.own u) := rfl
@[simp] theorem slc_T {ds : List Dt} {lo hi : Option Int} : slcE env (.fr (.tuple ds)) lo hi = some (.fr (.tuple (cutD ds lo hi))) := rfl
@[simp] theorem slc_L {ds : List Dt} {lo hi : Option Int} : slcE env (.fr (.list ds)) lo hi = some (newList (cutD ds lo hi)) := rfl
theorem slc_l {ds : List Dt} {lo hi : Option Int} (h : lItems env x = some ds) : slcE env x lo hi = some (newList (cutD ds lo hi)) := by simp [slcE, h]
@[simp] theorem slc_own {ts : List Tr} {lo hi : Option Int} : slcE env (.own (.nd .ls ts)) lo hi = (match allFr ts with | some ds => some (newList (cutD ds lo hi)) | none => none) := by
  unfold slcE
  rw [lItems_own]
  cases allFr ts <;> rfl
@[simp] theorem slc_al {lo hi : Option Int} : slcE env (.al s p) lo hi = match res env (.al s p) with
    | some (.fr (.tuple ds)) => some (.fr (.tuple (cutD ds lo hi)))
    | some r => (lstOf r).map fun ds => newList (cutD ds lo hi)
    | none => none := by
  unfold slcE
  rw [lItems_al]
  generalize res env (.al s p) = r
  cases r with
  | none => rfl
  | some r =>
    cases r with
    | fr d => cases d <;> rfl
    | nd sh ts =>
      show (match lstOf (.nd sh ts) with | some ds => _ | none => _) = (lstOf (.nd sh ts)).map _
      cases lstOf (.nd sh ts) <;> rfl
@[simp] theorem revE_T {ds : List Dt} : revE env (.fr (.tuple ds)) = some (.fr (.tuple ds.reverse)) := rfl
@[simp] theorem revE_L {ds : List Dt} : revE env (.fr (.list ds)) = some (newList ds.reverse) := rfl
theorem revE_l {ds : List Dt} (h : lItems env x = some ds) : revE env x = some (newList ds.reverse) := by simp [revE, h]
@[simp] theorem revE_own {ts : List Tr} : revE env (.own (.nd .ls ts)) = (match allFr ts with | some ds => some (newList ds.reverse) | none => none) := by
  unfold revE
  rw [lItems_own]
  cases allFr ts <;> rfl
@[simp] theorem revE_al {s : Nat} {p : List Nat} : revE env (.al s p) = match res env (.al s p) with
    | some (.fr (.tuple ds)) => some (.fr (.tuple ds.reverse))
    | some r => (lstOf r).map fun ds => newList ds.reverse
    | none => none := by
  unfold revE
  rw [lItems_al]
  cases h : res env (.al s p) with
  | none => rfl
  | some r =>
    simp only [Option.bind_some]
    rcases r with d | ⟨shp, ts⟩
    · cases d <;> rfl
    · cases hl : lstOf (.nd shp ts) <;> simp [hl]
/-! a change in its place -/
@[simp] theorem chgE_def {sh : Sh} {ts : List Tr} : chgE env s t p sh ts = env.set s (.own (t.put p (.nd sh ts))) := rfl
@[simp] theorem setE_al {k : Dt} {u : En} : setE env (.al s p) (.fr k) u = match toTr env u with
    | none => none
    | some (env1, u) => match env1[s]? with
        | some (.own t) => match t.at p with
          | some (.nd sh ts) => match setSh sh ts.length k with
            | some (sh', some j) => if env1.any (under s (p ++ [j])) || decide (lineN ≤ ts.length) then none else some (chgE env1 s t p sh' (ts.set j u))
            | some (sh', none) => if ts.length < lineN then some (chgE env1 s t p sh' (ts ++ [u])) else none
            | none => none
          | _ => none
        | _ => none := rfl
@[simp] theorem setSh_ls {n : Nat} {i : Int} : setSh .ls n (.int i) = (ixNat n i).map fun j => (.ls, some j) := rfl
@[simp] theorem under_fr : under s p (.fr d) = false := rfl
@[simp] theorem under_un : under s p .un = false := rfl
@[simp] theorem under_own : under s p (.own t) = false := rfl
@[simp] theorem under_fd : under s p (.fd d) = false := rfl
@[simp] theorem under_al {s' : Nat} {q : List Nat} : under s p (.al s' q) = (s' == s && isPre p q) := rfl
@[simp] theorem isPre_nil {q : List Nat} : isPre [] q = true := by cases q <;> rfl
@[simp] theorem isPre_cons {q : List Nat} : isPre (i :: p) (j :: q) = (i == j && isPre p q) := rfl
@[simp] theorem isPre_no : isPre (i :: p) [] = false := rfl
@[simp] theorem aug_add {i j : Int} : augE .Add env (.fr (.int i)) (.fr (.int j)) = some (.fr (.int (i + j))) := rfl
@[simp] theorem aug_sub {i j : Int} : augE .Sub env (.fr (.int i)) (.fr (.int j)) = some (.fr (.int (i - j))) := rfl
@[simp] theorem aug_mul {i j : Int} : augE .Mult env (.fr (.int i)) (.fr (.int j)) = if (lim64 i || lim64 j || (limB i && limB j)) = true then some (.fr (.int (i * j))) else none := rfl
@[simp] theorem subF_def : subF env x y = match subE env x y with
  | some (.fr d) => some d
  | _ => none := rfl
/-! methods, built-ins -/
@[simp] theorem tyE_fr : tyE env (.fr d) = some (tyS (.fr d)) := rfl
@[simp] theorem tyE_own : tyE env (.own t) = some (tyS t) := rfl
@[simp] theorem tyE_al : tyE env (.al s p) = (res env (.al s p)).map tyS := rfl
@[simp] theorem tyS_ls {ts : List Tr} : tyS (.nd .ls ts) = "list" := rfl
@[simp] theorem tyS_dk {ks : List Key} {ts : List Tr} : tyS (.nd (.dk ks) ts) = "dict" := rfl
@[simp] theorem tyS_dt {ks : List (List Key)} {ts : List Tr} : tyS (.nd (.dt ks) ts) = "dict" := rfl
@[simp] theorem tyM_append : tyM .append = "list" := rfl
@[simp] theorem tyM_pop : tyM .pop = "list" := rfl
@[simp] theorem tyM_extend : tyM .extend = "list" := rfl
@[simp] theorem tyM_index : tyM .index = "list" := rfl
@[simp] theorem tyM_count : tyM .count = "list" := rfl
@[simp] theorem tyM_remove : tyM .remove = "list" := rfl
@[simp] theorem tyM_get : tyM .get = "dict" := rfl
@[simp] theorem tyS_frL {ds : List Dt} : tyS (.fr (.list ds)) = "list" := rfl
@[simp] theorem mt_append {u : En} : mtE .append env (.al s p) [u] = match toTr env u with
    | none => none
    | some (env1, u) => match env1[s]? with
        | some (.own t) => match t.at p with
          | some (.nd .ls ts) => if ts.length < lineN then some (chgE env1 s t p .ls (ts ++ [u]), .fr .none) else none
          | _ => none
        | _ => none := rfl
@[simp] theorem mt_pop : mtE .pop env (.al s p) [] = match env[s]? with
      | some (.own t) => match t.at p with
        | some (.nd .ls ts) => match ts[ts.length - 1]? with
          | some (.fr d) => some (chgE env s t p .ls ts.dropLast, .fr d)
          | _ => none
        | _ => none
      | _ => none := rfl
@[simp] theorem bi_len : biE .len env [x] = match res env x with
    | some (.fr (.list ds)) => some (env, .fr (.int ds.length))
    | some (.fr (.tuple ds)) => some (env, .fr (.int ds.length))
    | some (.fr (.str s)) => if s.length ≤ lineN then some (env, .fr (.int s.length)) else none
    | some (.nd .ls ts) => some (env, .fr (.int ts.length))
    | some (.nd (.dk ks) _) => some (env, .fr (.int ks.length))
    | _ => none := rfl
@[simp] theorem bi_sum : biE .sum env [x] = (intsOfE env x).map fun l => (env, .fr (.int l.sum)) := rfl
@[simp] theorem bi_min : biE .min env [x] = match intsOfE env x with
    | some l => if ¬ l = [] then some (env, .fr (.int (minL l))) else none
    | none => none := by
  show (match intsOfE env x with
    | some (i :: l) => some (env, En.fr (.int (minL (i :: l))))
    | _ => none) = _
  cases intsOfE env x with
  | none => rfl
  | some l => cases l <;> simp
@[simp] theorem bi_max : biE .max env [x] = match intsOfE env x with
    | some l => if ¬ l = [] then some (env, .fr (.int (maxL l))) else none
    | none => none := by
  show (match intsOfE env x with
    | some (i :: l) => some (env, En.fr (.int (maxL (i :: l))))
    | _ => none) = _
  cases intsOfE env x with
  | none => rfl
  | some l => cases l <;> simp
@[simp] theorem bi_min2 {i j : Int} : biE .min2 env [.fr (.int i), .fr (.int j)] = some (env, .fr (.int (if j < i then j else i))) := rfl
@[simp] theorem bi_max2 {i j : Int} : biE .max2 env [.fr (.int i), .fr (.int j)] = some (env, .fr (.int (if j > i then j else i))) := rfl
@[simp] theorem bi_abs {i : Int} : biE .abs env [.fr (.int i)] = some (env, .fr (.int (if i < 0 then -i else i))) := rfl
@[simp] theorem bi_int {i : Int} : biE .int env [.fr (.int i)] = some (env, .fr (.int i)) := rfl
@[simp] theorem bi_intB {b : Bool} : biE .int env [.fr (.bool b)] = some (env, .fr (.int (if b then 1 else 0))) := rfl
@[simp] theorem bi_all : biE .all env [x] = ((lItems env x).bind boolsOf).map fun l => (env, .fr (.bool (l.all id))) := rfl
@[simp] theorem bi_any : biE .any env [x] = ((lItems env x).bind boolsOf).map fun l => (env, .fr (.bool (l.any id))) := rfl
@[simp] theorem bi_tupleT {ds : List Dt} : biE .tuple env [.fr (.tuple ds)] = some (env, .fr (.tuple ds)) := rfl
theorem bi_tupleL {ds : List Dt} (h : lItems env x = some ds) : biE .tuple env [x] = some (env, .fr (.tuple ds)) := by simp [biE, h]
@[simp] theorem bi_list : biE .list env [x] = (seqItems env x).map fun ds => (env, newList ds) := rfl
theorem bi_sorted {ds : List Dt} {l : List Int} (h : lItems env x = some ds) (k : intsOf ds = some l) : biE .sorted env [x] = some (env, newList ((sortI l).map .int)) := by simp [biE, h, k]
theorem bi_sortedP {ds : List Dt} {l : List (Int × Int)} (h : lItems env x = some ds) (k : intsOf ds = none) (k2 : pairsOf ds = some l) : biE .sorted env [x] = some (env, newList ((sortP l).map fun a => .tuple [.int a.1, .int a.2])) := by simp [biE, h, k, k2]
@[simp] theorem bi_isInt : biE .isInt env [x] = (res env x).map fun t => (env, .fr (.bool (isA "int" (tyS t)))) := rfl
@[simp] theorem bi_isBool : biE .isBool env [x] = (res env x).map fun t => (env, .fr (.bool (isA "bool" (tyS t)))) := rfl
@[simp] theorem bi_isTuple : biE .isTuple env [x] = (res env x).map fun t => (env, .fr (.bool (isA "tuple" (tyS t)))) := rfl
@[simp] theorem bi_isStr : biE .isStr env [x] = (res env x).map fun t => (env, .fr (.bool (isA "str" (tyS t)))) := rfl
@[simp] theorem bi_isList : biE .isList env [x] = (res env x).map fun t => (env, .fr (.bool (isA "list" (tyS t)))) := rfl
@[simp] theorem bi_gcd {i j : Int} : biE .gcd env [.fr (.int i), .fr (.int j)] = if i.natAbs < 2 ^ 60 ∧ j.natAbs < 2 ^ 60 then some (env, .fr (.int (Int.gcd i j))) else none := rfl
@[simp] theorem bi_reprInt {i : Int} : biE .repr env [.fr (.int i)] = if i.natAbs.log2 < 1920 then some (env, .fr (.str (toString i))) else none := rfl
@[simp] theorem bi_reprBool {b : Bool} : biE .repr env [.fr (.bool b)] = some (env, .fr (.str (if b then "True" else "False"))) := rfl
@[simp] theorem bi_reprNone : biE .repr env [.fr .none] = some (env, .fr (.str "None")) := rfl
theorem isA_int {i : Int} : isA "int" (tyS (.fr (.int i))) = true := rfl

@[simp] theorem isA_same {t : String} : isA t t = true := by simp [isA]
@[simp] theorem isA_ib : isA "int" "bool" = true := rfl
@[simp] theorem isA_it : isA "int" "tuple" = false := by decide
@[simp] theorem isA_il : isA "int" "list" = false := by decide
@[simp] theorem isA_is : isA "int" "str" = false := by decide
@[simp] theorem isA_in : isA "int" "NoneType" = false := by decide
@[simp] theorem isA_bi : isA "bool" "int" = false := by decide
@[simp] theorem isA_bt : isA "bool" "tuple" = false := by decide
@[simp] theorem isA_bl : isA "bool" "list" = false := by decide
@[simp] theorem isA_ti : isA "tuple" "int" = false := by decide
@[simp] theorem isA_tl : isA "tuple" "list" = false := by decide
@[simp] theorem isA_tn : isA "tuple" "NoneType" = false := by decide
@[simp] theorem isA_li : isA "list" "int" = false := by decide
@[simp] theorem isA_lt : isA "list" "tuple" = false := by decide
@[simp] theorem tyS_none : tyS (.fr .none) = "NoneType" := rfl
@[simp] theorem tyS_bool {b : Bool} : tyS (.fr (.bool b)) = "bool" := rfl
@[simp] theorem tyS_int {b : Int} : tyS (.fr (.int b)) = "int" := rfl
@[simp] theorem tyS_str {b : Str} : tyS (.fr (.str b)) = "str" := rfl
@[simp] theorem tyS_tuple {b : List Dt} : tyS (.fr (.tuple b)) = "tuple" := rfl
@[simp] theorem cut_nx {n : Nat} : Fl.cut n (.nx env) = .nx (env.take n) := rfl
@[simp] theorem cut_bk {n : Nat} : Fl.cut n (.bk env) = .bk (env.take n) := rfl
@[simp] theorem cut_ct {n : Nat} : Fl.cut n (.ct env) = .ct (env.take n) := rfl
@[simp] theorem cut_rt {n : Nat} : Fl.cut n (.rt env x) = .rt (env.take n) x := rfl
@[simp] theorem placed_def {α : Type} {l : List α} {at_ : List Nat} : placed l at_ = (List.range l.length).filterMap fun i => (pos1 i at_).bind fun j => l[j]? := rfl
@[simp] theorem pos1_nil {κ : Type} [DecidableEq κ] {k : κ} : pos1 k [] = none := rfl
@[simp] theorem pos1_cons {κ : Type} [DecidableEq κ] {k j : κ} {r : List κ} : pos1 k (j :: r) = if j = k then some 0 else (pos1 k r).map (· + 1) := rfl
end
end Q
end MP
namespace MP
open PySem L2
/-! lists of plain data, lists of ints -/
def fL (ds : List Dt) : List Tr := ds.map .fr
def iD (L : List Int) : List Dt := L.map .int
theorem v_allFr_map : ∀ ds : List Dt, allFr (ds.map .fr) = some ds
  | [] => rfl
  | d :: ds => by simp [allFr, v_allFr_map ds]
@[simp] theorem allFr_fL {ds : List Dt} : allFr (fL ds) = some ds := v_allFr_map ds
@[simp] theorem fL_length {ds : List Dt} : (fL ds).length = ds.length := by simp [fL]
@[simp] theorem fL_get {ds : List Dt} {i : Nat} : (fL ds)[i]? = ds[i]?.map .fr := by simp [fL]
@[simp] theorem fL_getElem {ds : List Dt} {i : Nat} (h : i < (fL ds).length) : (fL ds)[i] = .fr (ds[i]'(by simpa using h)) := by simp [fL]
@[simp] theorem fL_rev {ds : List Dt} : (fL ds).reverse = fL ds.reverse := by simp [fL]
@[simp] theorem fL_one {ds : List Dt} {d : Dt} : fL ds ++ [.fr d] = fL (ds ++ [d]) := by simp [fL]
@[simp] theorem fL_app {ds es : List Dt} : fL ds ++ fL es = fL (ds ++ es) := by simp [fL]
@[simp] theorem fL_set {ds : List Dt} {i : Nat} {d : Dt} : (fL ds).set i (.fr d) = fL (ds.set i d) := by simp [fL, List.map_set]
@[simp] theorem fL_dropLast {ds : List Dt} : (fL ds).dropLast = fL ds.dropLast := by simp [fL]
@[simp] theorem datas_fL {ds : List Dt} : Tr.datas (fL ds) = ds := by
  rw [Tr.datas_map]
  simp only [fL, List.map_map]
  exact List.map_id'' (fun _ => rfl) ds
@[simp] theorem iD_length {L : List Int} : (iD L).length = L.length := by simp [iD]
@[simp] theorem iD_get {L : List Int} {i : Nat} : (iD L)[i]? = L[i]?.map .int := by simp [iD]
@[simp] theorem iD_one {L : List Int} {x : Int} : iD L ++ [.int x] = iD (L ++ [x]) := by simp [iD]
@[simp] theorem iD_app {L M : List Int} : iD L ++ iD M = iD (L ++ M) := by simp [iD]
@[simp] theorem iD_set {L : List Int} {i : Nat} {x : Int} : (iD L).set i (.int x) = iD (L.set i x) := by simp [iD, List.map_set]
@[simp] theorem iD_dropLast {L : List Int} : (iD L).dropLast = iD L.dropLast := by simp [iD]
@[simp] theorem iD_getElem {L : List Int} {i : Nat} (h : i < (iD L).length) : (iD L)[i] = .int (L[i]'(by simpa using h)) := by simp [iD]
@[simp] theorem iD_drop {L : List Int} {i : Nat} : (iD L).drop i = iD (L.drop i) := by simp [iD, List.map_drop]
@[simp] theorem iD_tail {L : List Int} : (iD L).tail = iD L.tail := by simp [iD, List.map_tail]
@[simp] theorem iD_take {L : List Int} {i : Nat} : (iD L).take i = iD (L.take i) := by simp [iD, List.map_take]
@[simp] theorem cutD_all {ds : List Dt} : cutD ds none none = ds := by
  show (ds.drop 0).take (ds.length - 0) = ds
  simp
@[simp] theorem cutD_drop {ds : List Dt} {v : Int} (h : 0 ≤ v) : cutD ds (some v) none = ds.drop v.toNat := by
  have e : HT.sIx ds.length 0 (some v) = min v.toNat ds.length := by
    show (if v < 0 then (v + (ds.length : Int)).toNat else min v.toNat ds.length) = _
    rw [if_neg (by omega)]
  show (ds.drop (HT.sIx ds.length 0 (some v))).take (ds.length - HT.sIx ds.length 0 (some v)) = _
  rw [e, List.take_of_length_le (by rw [List.length_drop]; omega)]
  rcases Nat.le_total v.toNat ds.length with h | h
  · rw [Nat.min_eq_left h]
  · rw [Nat.min_eq_right h, List.drop_of_length_le (Nat.le_refl _), List.drop_of_length_le h]
@[simp] theorem cutD_take {ds : List Dt} {v : Int} (h : 0 ≤ v) : cutD ds none (some v) = ds.take v.toNat := by
  have e : HT.sIx ds.length ds.length (some v) = min v.toNat ds.length := by
    show (if v < 0 then (v + (ds.length : Int)).toNat else min v.toNat ds.length) = _
    rw [if_neg (by omega)]
  show (ds.drop 0).take (HT.sIx ds.length ds.length (some v) - 0) = _
  rw [e, List.drop_zero, Nat.sub_zero]
  rcases Nat.le_total v.toNat ds.length with h | h
  · rw [Nat.min_eq_left h]
  · rw [Nat.min_eq_right h, List.take_of_length_le (Nat.le_refl _), List.take_of_length_le h]
@[simp] theorem iD_rev {L : List Int} : (iD L).reverse = iD L.reverse := by simp [iD]
theorem intsOf_map : ∀ L : List Int, intsOf (L.map .int) = some L
  | [] => rfl
  | d :: ds => by simp only [List.map_cons, intsOf, intsOf_map ds]; rfl
@[simp] theorem intsOf_iD {L : List Int} : intsOf (iD L) = some L := intsOf_map L
theorem boolsOf_map : ∀ L : List Bool, boolsOf (L.map .bool) = some L
  | [] => rfl
  | d :: ds => by simp only [List.map_cons, boolsOf, boolsOf_map ds]; rfl
def bD (L : List Bool) : List Dt := L.map .bool
@[simp] theorem bD_length {L : List Bool} : (bD L).length = L.length := by simp [bD]
@[simp] theorem bD_one {L : List Bool} {x : Bool} : bD L ++ [.bool x] = bD (L ++ [x]) := by simp [bD]
@[simp] theorem boolsOf_bD {L : List Bool} : boolsOf (bD L) = some L := boolsOf_map L
@[simp] theorem nil_fL : (fL (bD [])) = [] := rfl
@[simp] theorem nil_fL' : (fL (iD [])) = [] := rfl
@[simp] theorem nil_fL2 : (fL []) = [] := rfl
@[simp] theorem one_rep {α : Type} {n : Nat} {a : α} : List.replicate n a ++ [a] = List.replicate (n + 1) a := List.replicate_succ'.symm
@[simp] theorem all_rep {n : Nat} : (List.replicate n true).all id = true := by simp
theorem iD_inj {L M : List Int} : iD L = iD M ↔ L = M := by
  refine ⟨fun h => ?_, fun h => h ▸ rfl⟩
  have := congrArg intsOf h
  simpa using this
@[simp] theorem fL_map {ds : List Dt} : ds.map Tr.fr = fL ds := rfl
@[simp] theorem iD_map {L : List Int} : L.map PyData.int = iD L := rfl
theorem ixN_of {n : Nat} {i : Int} (h0 : 0 ≤ i) (h : i < n) : ixN n i = some i.toNat := by simp [ixN, h0, h]
theorem ixN_nat {n i : Nat} (h : i < n) : ixN n (i : Int) = some i := by rw [ixN_of (by omega) (by omega)]; simp
@[simp] theorem ixNat_eq {n : Nat} {i : Int} : ixNat n i = ixN n i := rfl
@[simp] theorem sIx_none0 {n d : Nat} : HT.sIx n d none = d := rfl
theorem sIx_of {n d : Nat} {v : Int} (h : 0 ≤ v) : HT.sIx n d (some v) = min v.toNat n := by
  show (if v < 0 then (v + (n : Int)).toNat else min v.toNat n) = _
  rw [if_neg (by omega)]
/-! equality of data without dicts -/
mutual
theorem eqv_refl : ∀ d : Dt, d.hasDict = false → PyData.eqv d d = true
  | .none, _ => rfl
  | .bool b, _ => by simp [PyData.eqv]
  | .int b, _ => by simp [PyData.eqv]
  | .str b, _ => by simp [PyData.eqv]
  | .list xs, h => by simp only [PyData.eqv]; exact eqvAll_refl xs (by simpa [PyData.hasDict] using h)
  | .tuple xs, h => by simp only [PyData.eqv]; exact eqvAll_refl xs (by simpa [PyData.hasDict] using h)
  | .dict _, h => by simp [PyData.hasDict] at h
theorem eqvAll_refl : ∀ xs : List Dt, PyData.hasDictAll xs = false → PyData.eqvAll xs xs = true
  | [], _ => rfl
  | x :: xs, h => by
    simp only [PyData.hasDictAll, Bool.or_eq_false_iff] at h
    simp [PyData.eqvAll, eqv_refl x h.1, eqvAll_refl xs h.2]
end
/-! small data: what repr and == ask -/
mutual
def smD : Dt → Bool
  | .none | .bool _ => true
  | .int i => decide (i.natAbs < 10 ^ 30)
  | .list xs => smAll xs
  | .tuple xs => smAll xs
  | .str s => PyData.strOk s && decide ((PyData.str s).shown.length ≤ 40)
  | .dict _ => false
def smAll : List Dt → Bool
  | [] => true
  | x :: xs => smD x && smAll xs
end
mutual
def wtD : Dt → Nat
  | .none | .bool _ | .int _ | .str _ => 40
  | .list xs => wtAll xs + 4
  | .tuple xs => wtAll xs + 4
  | _ => 0
def wtAll : List Dt → Nat
  | [] => 0
  | x :: xs => wtD x + 2 + wtAll xs
end
theorem smAll_iff {xs : List Dt} : smAll xs = true ↔ ∀ x ∈ xs, smD x = true := by
  induction xs with
  | nil => simp [smAll]
  | cons x xs ih => simp [smAll, ih]
theorem wtAll_le {n : Nat} : ∀ {xs : List Dt}, (∀ x ∈ xs, wtD x ≤ n) → wtAll xs ≤ (n + 2) * xs.length
  | [], _ => by simp [wtAll]
  | x :: xs, h => by
    have h1 := h x (.head _)
    have h2 := wtAll_le (xs := xs) (n := n) fun y hy => h y (.tail _ hy)
    simp only [wtAll, List.length_cons]
    rw [Nat.mul_add]
    omega

theorem log2_small {i : Int} (h : i.natAbs < 10 ^ 30) : i.natAbs.log2 < 1920 := by
  by_cases h0 : i.natAbs = 0
  · rw [h0]; decide
  · rw [Nat.log2_lt h0]
    exact Nat.lt_of_lt_of_le h (Nat.le_trans (show 10 ^ 30 ≤ 2 ^ 100 by decide) (Nat.pow_le_pow_right (by decide) (by decide)))
mutual
theorem sm_facts : ∀ d : Dt, smD d = true → d.showable = true ∧ d.hasDict = false ∧ d.canLay0 = true ∧ d.shown.length ≤ wtD d
  | .none, _ => ⟨rfl, rfl, rfl, by decide⟩
  | .bool b, _ => ⟨rfl, rfl, rfl, by cases b <;> decide⟩
  | .int i, h => by
    have h : i.natAbs < 10 ^ 30 := by simpa [smD] using h
    refine ⟨by simp [PyData.showable, log2_small h], rfl, rfl, ?_⟩
    have := int_text_length_le10 (k := 30) (by decide) h
    show (Str.ofString (toString i)).length ≤ 40
    rw [ofString_length]
    omega
  | .list xs, h => by
    obtain ⟨h1, h2, h3, h4⟩ := sm_factsAll xs (by simpa [smD] using h)
    refine ⟨by simpa [PyData.showable] using h1, by simpa [PyData.hasDict] using h2, by simpa [PyData.canLay0] using h3, ?_⟩
    have := listText_len_le (PyData.shownAll xs)
    simp only [PyData.shown, wtD]
    omega
  | .tuple xs, h => by
    obtain ⟨h1, h2, h3, h4⟩ := sm_factsAll xs (by simpa [smD] using h)
    refine ⟨by simpa [PyData.showable] using h1, by simpa [PyData.hasDict] using h2, by simpa [PyData.canLay0] using h3, ?_⟩
    have := tupleText_len_le (PyData.shownAll xs)
    simp only [PyData.shown, wtD]
    omega
  | .str s, h => by
    simp only [smD, Bool.and_eq_true, decide_eq_true_eq] at h
    exact ⟨rfl, rfl, h.1, h.2⟩
  | .dict _, h => by simp [smD] at h
theorem sm_factsAll : ∀ xs : List Dt, smAll xs = true → PyData.showableAll xs = true ∧ PyData.hasDictAll xs = false ∧ PyData.canLayAll0 xs = true ∧ ((PyData.shownAll xs).map (·.length)).sum + 2 * (PyData.shownAll xs).length ≤ wtAll xs
  | [], _ => ⟨rfl, rfl, rfl, by simp [PyData.shownAll, wtAll]⟩
  | x :: xs, h => by
    simp only [smAll, Bool.and_eq_true] at h
    obtain ⟨a1, a2, a3, a4⟩ := sm_facts x h.1
    obtain ⟨b1, b2, b3, b4⟩ := sm_factsAll xs h.2
    refine ⟨by simp [PyData.showableAll, a1, b1], by simp [PyData.hasDictAll, a2, b2], by simp [PyData.canLayAll0, a3, b3], ?_⟩
    simp only [PyData.shownAll, wtAll, List.map_cons, List.sum_cons, List.length_cons]
    omega
end
/-- repr of small data -/
def reprOk (d : Dt) : Prop := d.showable = true ∧ d.hasDict = false ∧ d.depth ≤ 40 ∧ d.shown.length ≤ lineN
theorem reprOk_of {d : Dt} (h : smD d = true) (hd : d.depth ≤ 40) (hw : wtD d ≤ 10000000) : reprOk d := by
  obtain ⟨h1, h2, _, h4⟩ := sm_facts d h
  exact ⟨h1, h2, hd, Nat.le_trans h4 (le_lineN hw)⟩
theorem repr_list {env : Ev} {x : En} {ds : List Dt} (h : peek env x = some (.list ds)) (k : reprOk (.list ds)) : biE .repr env [x] = some (env, .fr (.str (PyData.list ds).shown)) := by
  simp only [biE, h]
  exact if_pos k
theorem repr_tuple {env : Ev} {x : En} {ds : List Dt} (h : peek env x = some (.tuple ds)) (k : reprOk (.tuple ds)) : biE .repr env [x] = some (env, .fr (.str (PyData.tuple ds).shown)) := by
  simp only [biE, h]
  exact if_pos k
@[simp] theorem str_beq {s : Str} : (s == s) = true := by simp
theorem shaped_of {d : Dt} (h : smD d = true) (hd : d.depth ≤ 40) : SeqAt.shaped d = true := by
  obtain ⟨_, _, h3, _⟩ := sm_facts d h
  simp only [SeqAt.shaped, h3, Bool.true_and, decide_eq_true_eq]
  omega
/-- repr of a datum -/
def reprD (env : Ev) : Dt → Option (Ev × En)
  | .int i => if i.natAbs.log2 < 1920 then some (env, .fr (.str (toString i))) else none
  | .bool c => some (env, .fr (.str (if c then "True" else "False")))
  | .none => some (env, .fr (.str "None"))
  | .list ds => if (PyData.list ds).showable = true ∧ (PyData.list ds).hasDict = false ∧ (PyData.list ds).depth ≤ 40 ∧ (PyData.list ds).shown.length ≤ lineN then some (env, .fr (.str (PyData.list ds).shown)) else none
  | .tuple ds => if (PyData.tuple ds).showable = true ∧ (PyData.tuple ds).hasDict = false ∧ (PyData.tuple ds).depth ≤ 40 ∧ (PyData.tuple ds).shown.length ≤ lineN then some (env, .fr (.str (PyData.tuple ds).shown)) else none
  | _ => none
theorem bi_repr_eq {env : Ev} {x : En} : biE .repr env [x] = (peek env x).bind (reprD env) := by
  unfold biE reprD
  simp only
  cases peek env x with
  | none => rfl
  | some d => cases d <;> rfl
namespace Q
@[simp] theorem bi_repr_al {env : Ev} {s : Nat} {p : List Nat} : biE .repr env [.al s p] = (peek env (.al s p)).bind (reprD env) := bi_repr_eq
@[simp] theorem bi_repr_own {env : Ev} {t : Tr} : biE .repr env [.own t] = (peek env (.own t)).bind (reprD env) := bi_repr_eq
@[simp] theorem bi_repr_L {env : Ev} {ds : List Dt} : biE .repr env [.fr (.list ds)] = reprD env (.list ds) := bi_repr_eq
@[simp] theorem bi_repr_T {env : Ev} {ds : List Dt} : biE .repr env [.fr (.tuple ds)] = reprD env (.tuple ds) := bi_repr_eq
@[simp] theorem to_reprL {env : Ev} {ds : List Dt} {Q : Ev × En → Prop} {t : Tok Q} : (ofO (reprD env (.list ds))).to Q t ↔ reprOk (.list ds) ∧ Q (env, .fr (.str (PyData.list ds).shown)) := by
  refine to_ofO_ite.trans ?_
  rw [ofO_some, to_ok]
  rfl
@[simp] theorem to_reprT {env : Ev} {ds : List Dt} {Q : Ev × En → Prop} {t : Tok Q} : (ofO (reprD env (.tuple ds))).to Q t ↔ reprOk (.tuple ds) ∧ Q (env, .fr (.str (PyData.tuple ds).shown)) := by
  refine to_ofO_ite.trans ?_
  rw [ofO_some, to_ok]
  rfl
@[simp] theorem bi_tuple_al {env : Ev} {s : Nat} {p : List Nat} : biE .tuple env [.al s p] = match lItems env (.al s p) with
    | some ds => some (env, .fr (.tuple ds))
    | none => match frz env (.al s p) with
      | some (env', .list ds) => some (env', .fr (.tuple ds))
      | some (env', .tuple ds) => some (env', .fr (.tuple ds))
      | _ => none := rfl
@[simp] theorem bi_tuple_L {env : Ev} {ds : List Dt} : biE .tuple env [.fr (.list ds)] = some (env, .fr (.tuple ds)) := rfl
@[simp] theorem bi_tuple_own {env : Ev} {ds : List Dt} : biE .tuple env [.own (.nd .ls (fL ds))] = some (env, .fr (.tuple ds)) := bi_tupleL (by simp)
end Q
/-- a slot that is not set, or holds plain data, or owns a list of plain data -/
def jE : Option (Dt ⊕ List Dt) → En
  | none => .un
  | some (.inl d) => .fr d
  | some (.inr ds) => .own (.nd .ls (fL ds))
theorem jE_un : En.un = jE none := rfl
theorem jE_fr {d : Dt} : En.fr d = jE (some (.inl d)) := rfl
theorem jE_own {ds : List Dt} : En.own (.nd .ls (fL ds)) = jE (some (.inr ds)) := rfl
@[simp] theorem unr_jE {env : Ev} {i : Nat} {o : Option (Dt ⊕ List Dt)} : unr env i (jE o) = jE o := by rcases o with _ | (_ | _) <;> rfl
@[simp] theorem under_jE {s : Nat} {p : List Nat} {o : Option (Dt ⊕ List Dt)} : under s p (jE o) = false := by rcases o with _ | (_ | _) <;> rfl
/-- lists and tuples of ints are shaped for == -/
theorem canLay_ints : ∀ L : List Int, PyData.canLayAll0 (L.map .int) = true
  | [] => rfl
  | x :: L => by simp only [List.map_cons, PyData.canLayAll0, canLay_ints L]; rfl
theorem depth_ints : ∀ L : List Int, PyData.depthAll (L.map .int) = 0
  | [] => rfl
  | x :: L => by simp only [List.map_cons, PyData.depthAll, depth_ints L]; rfl
theorem shaped_ints {L : List Int} : SeqAt.shaped (.list (iD L)) = true := by
  simp only [SeqAt.shaped, PyData.canLay0, PyData.depth, iD, canLay_ints, depth_ints]
  decide
theorem shaped_tints {L : List Int} : SeqAt.shaped (.tuple (iD L)) = true := by
  simp only [SeqAt.shaped, PyData.canLay0, PyData.depth, iD, canLay_ints, depth_ints]
  decide
theorem eqv_ints : ∀ {L M : List Int}, PyData.eqvAll (iD L) (iD M) = decide (L = M)
  | [], [] => rfl
  | [], _ :: _ => rfl
  | _ :: _, [] => rfl
  | x :: L, y :: M => by
    show (PyData.eqv (.int x) (.int y) && PyData.eqvAll (iD L) (iD M)) = _
    rw [eqv_ints, Q.eqv_int]
    by_cases h1 : x = y <;> by_cases h2 : L = M <;> simp [h1, h2]
/-- a list of ints is the empty one -/
theorem eq_empty {env : Ev} {x : En} {L : List Int} (h : peek env x = some (.list (iD L))) : cmpE .Eq env x (.own (.nd .ls [])) = some (decide (L = [])) := by
  rw [Q.cmp_eqD h rfl shaped_ints (b := .list (iD [])) shaped_ints]
  simp only [PyData.eqv, eqv_ints]
theorem ne_empty {env : Ev} {x : En} {L : List Int} (h : peek env x = some (.list (iD L))) : cmpE .NotEq env x (.own (.nd .ls [])) = some (!decide (L = [])) := by
  rw [Q.cmp_neD h rfl shaped_ints (b := .list (iD [])) shaped_ints]
  simp only [PyData.eqv, eqv_ints]
/-- lists of ints below 10^30 -/
def smI (L : List Int) : Prop := ∀ x ∈ L, x.natAbs < 10 ^ 30
theorem sm_ints {L : List Int} (h : smI L) : smAll (iD L) = true := by
  rw [smAll_iff]
  intro x hx
  obtain ⟨i, hi, rfl⟩ := List.mem_map.mp hx
  simpa [smD] using h i hi
theorem wt_ints {L : List Int} : wtAll (iD L) = 42 * L.length := by
  induction L with
  | nil => rfl
  | cons x L ih =>
    show wtD (.int x) + 2 + wtAll (iD L) = _
    rw [ih]
    simp [wtD]
    omega
theorem reprOk_ints {L : List Int} (h : smI L) (hl : L.length ≤ 100000) : reprOk (.list (iD L)) := by
  refine reprOk_of (by simpa [smD] using sm_ints h) ?_ ?_
  · show PyData.depthAll (L.map .int) + 1 ≤ 40
    rw [depth_ints]
    decide
  · simp only [wtD, wt_ints]; omega
/-- the pool of a law's numbers -/
abbrev plT (L : List Int) : Tr := .nd .ls (fL (iD L))
/-! what closes an invariant again -/
@[simp] theorem ex_oE {d : Dt} : ∃ x, En.fr d = oE x := ⟨some d, rfl⟩
@[simp] theorem ex_oE_un : ∃ x, En.un = oE x := ⟨none, rfl⟩
@[simp] theorem ex_oE_oE {o : Option Dt} : ∃ x, oE o = oE x := ⟨o, rfl⟩
@[simp] theorem ex_jE {d : Dt} : ∃ x, En.fr d = jE x := ⟨some (.inl d), rfl⟩
@[simp] theorem ex_jE_un : ∃ x, En.un = jE x := ⟨none, rfl⟩
@[simp] theorem ex_jE_jE {o : Option (Dt ⊕ List Dt)} : ∃ x, jE o = jE x := ⟨o, rfl⟩
@[simp] theorem ex_jE_own {ds : List Dt} : ∃ x, En.own (.nd .ls (fL ds)) = jE x := ⟨some (.inr ds), rfl⟩
@[simp] theorem ex_jE_own1 {d : Dt} : ∃ x, En.own (.nd .ls [.fr d]) = jE x := ⟨some (.inr [d]), rfl⟩
@[simp] theorem ex_jE_own2 {d c : Dt} : ∃ x, En.own (.nd .ls [.fr d, .fr c]) = jE x := ⟨some (.inr [d, c]), rfl⟩
@[simp] theorem ex_jE_own4 {a b c d : Dt} : ∃ x, En.own (.nd .ls [.fr a, .fr b, .fr c, .fr d]) = jE x := ⟨some (.inr [a, b, c, d]), rfl⟩
@[simp] theorem ex_jE_own3 {a b c : Dt} : ∃ x, En.own (.nd .ls [.fr a, .fr b, .fr c]) = jE x := ⟨some (.inr [a, b, c]), rfl⟩
@[simp] theorem fL_inj {ds es : List Dt} : fL ds = fL es ↔ ds = es := by
  refine ⟨fun h => ?_, fun h => h ▸ rfl⟩
  have := congrArg Tr.datas h
  simpa using this
@[simp] theorem iD_inj' {L M : List Int} : iD L = iD M ↔ L = M := iD_inj
@[simp] theorem ex_fL_nil : ∃ L, [] = fL (iD L) := ⟨[], rfl⟩
/-! least and greatest of a list -/
theorem v_foldl_min_le : ∀ (l : List Int) (a : Int), l.foldl min a ≤ a ∧ ∀ x ∈ l, l.foldl min a ≤ x
  | [], a => ⟨Int.le_refl _, fun x h => by cases h⟩
  | y :: l, a => by
    obtain ⟨h1, h2⟩ := v_foldl_min_le l (min a y)
    rw [List.foldl_cons]
    refine ⟨by omega, fun x hx => ?_⟩
    rcases List.mem_cons.mp hx with rfl | hx
    · omega
    · exact h2 x hx
theorem v_foldl_min_mem : ∀ (l : List Int) (a : Int), l.foldl min a = a ∨ l.foldl min a ∈ l
  | [], a => .inl rfl
  | y :: l, a => by
    rw [List.foldl_cons]
    rcases v_foldl_min_mem l (min a y) with h | h
    · rw [h]
      by_cases c : a ≤ y
      · exact .inl (by omega)
      · exact .inr (List.mem_cons.mpr (.inl (by omega)))
    · exact .inr (.tail _ h)
theorem v_foldl_max_le : ∀ (l : List Int) (a : Int), a ≤ l.foldl max a ∧ ∀ x ∈ l, x ≤ l.foldl max a
  | [], a => ⟨Int.le_refl _, fun x h => by cases h⟩
  | y :: l, a => by
    obtain ⟨h1, h2⟩ := v_foldl_max_le l (max a y)
    rw [List.foldl_cons]
    refine ⟨by omega, fun x hx => ?_⟩
    rcases List.mem_cons.mp hx with rfl | hx
    · omega
    · exact h2 x hx
theorem v_foldl_max_mem : ∀ (l : List Int) (a : Int), l.foldl max a = a ∨ l.foldl max a ∈ l
  | [], a => .inl rfl
  | y :: l, a => by
    rw [List.foldl_cons]
    rcases v_foldl_max_mem l (max a y) with h | h
    · rw [h]
      by_cases c : y ≤ a
      · exact .inl (by omega)
      · exact .inr (List.mem_cons.mpr (.inl (by omega)))
    · exact .inr (.tail _ h)
theorem v_minL_le {l : List Int} {x : Int} (h : x ∈ l) : minL l ≤ x := by
  cases l with
  | nil => cases h
  | cons y l =>
    obtain ⟨h1, h2⟩ := v_foldl_min_le l y
    rcases List.mem_cons.mp h with rfl | h
    · exact h1
    · exact h2 x h
theorem v_minL_mem {l : List Int} (h : l ≠ []) : minL l ∈ l := by
  cases l with
  | nil => exact absurd rfl h
  | cons y l =>
    rcases v_foldl_min_mem l y with h | h
    · rw [minL, h]; exact .head _
    · exact .tail _ h
theorem v_le_maxL {l : List Int} {x : Int} (h : x ∈ l) : x ≤ maxL l := by
  cases l with
  | nil => cases h
  | cons y l =>
    obtain ⟨h1, h2⟩ := v_foldl_max_le l y
    rcases List.mem_cons.mp h with rfl | h
    · exact h1
    · exact h2 x h
theorem v_maxL_mem {l : List Int} (h : l ≠ []) : maxL l ∈ l := by
  cases l with
  | nil => exact absurd rfl h
  | cons y l =>
    rcases v_foldl_max_mem l y with h | h
    · rw [maxL, h]; exact .head _
    · exact .tail _ h
@[simp] theorem ne_nil_nil {env : Ev} : cmpE .NotEq env (.own (.nd .ls [])) (.own (.nd .ls [])) = some false := ne_empty (L := []) rfl
@[simp] theorem eq_nil_nil {env : Ev} : cmpE .Eq env (.own (.nd .ls [])) (.own (.nd .ls [])) = some true := eq_empty (L := []) rfl
theorem reprOk_pair {A B : List Int} (h : smI A) (h2 : smI B) (hl : A.length ≤ 50000) (hl2 : B.length ≤ 50000) : reprOk (.list [.tuple (iD A), .tuple (iD B)]) := by
  refine reprOk_of ?_ ?_ ?_
  · simp [smD, smAll, sm_ints h, sm_ints h2]
  · show max (PyData.depthAll (A.map .int) + 1) (max (PyData.depthAll (B.map .int) + 1) 0) + 1 ≤ 40
    rw [depth_ints, depth_ints]
    decide
  · simp only [wtD, wtAll, wt_ints]; omega
theorem small_nat {x : Int} (h0 : 0 ≤ x) (h1 : x ≤ 1000000000000) : x.natAbs < 10 ^ 30 := by omega
@[simp] theorem range_1 : List.range 1 = [0] := rfl
@[simp] theorem range_2 : List.range 2 = [0, 1] := rfl
@[simp] theorem range_3 : List.range 3 = [0, 1, 2] := rfl
@[simp] theorem range_4 : List.range 4 = [0, 1, 2, 3] := rfl
@[simp] theorem range_5 : List.range 5 = [0, 1, 2, 3, 4] := rfl
/-- a slot that is not set, or holds what was frozen in its place -/
def xE : Option Dt → En
  | none => .un
  | some d => .fd d
@[simp] theorem unr_xE {env : Ev} {i : Nat} {o : Option Dt} : unr env i (xE o) = xE o := by cases o <;> rfl
@[simp] theorem under_xE {s : Nat} {p : List Nat} {o : Option Dt} : under s p (xE o) = false := by cases o <;> rfl
@[simp] theorem ex_xE {d : Dt} : ∃ x, En.fd d = xE x := ⟨some d, rfl⟩
@[simp] theorem ex_xE_un : ∃ x, En.un = xE x := ⟨none, rfl⟩
@[simp] theorem ex_xE_xE {o : Option Dt} : ∃ x, xE o = xE x := ⟨o, rfl⟩
/-- a slot that is not set, or stands for the item m of what slot k owns -/
def aE (k : Nat) : Option Nat → En
  | none => .un
  | some m => .al k [m]
theorem unr_aE {env : Ev} {i k : Nat} {o : Option Nat} (h : k ≠ i) : unr env i (aE k o) = aE k o := by
  cases o with
  | none => rfl
  | some m => simp [aE, h]
theorem under_aE {s k : Nat} {p : List Nat} {o : Option Nat} (h : k ≠ s) : under s p (aE k o) = false := by
  cases o with
  | none => rfl
  | some m => simp [aE, h]
@[simp] theorem ex_aE {k m : Nat} : ∃ x, En.al k [m] = aE k x := ⟨some m, rfl⟩
@[simp] theorem ex_aE_un {k : Nat} : ∃ x, En.un = aE k x := ⟨none, rfl⟩
@[simp] theorem ex_aE_aE {k : Nat} {o : Option Nat} : ∃ x, aE k o = aE k x := ⟨o, rfl⟩
@[simp] theorem bin_mulT {env : Ev} {xs : List Dt} {k : Int} : binE .Mult env (.fr (.tuple xs)) (.fr (.int k)) = if xs ≠ [] ∧ 2 ≤ k ∧ k ≤ 1000 ∧ xs.length ≤ 1000 then some (.fr (.tuple (List.replicate k.toNat xs).flatten)) else none := by
  show (if xs ≠ [] ∧ 2 ≤ k ∧ k ≤ 1000 ∧ xs.length ≤ 1000 then some (PyData.tuple (List.replicate k.toNat xs).flatten) else none).map En.fr = _
  split <;> rfl
theorem sum_nonneg : ∀ {l : List Int}, (∀ x ∈ l, 0 ≤ x) → 0 ≤ l.sum
  | [], _ => by simp
  | x :: l, h => by
    have := h x (.head _)
    have := sum_nonneg (l := l) fun y hy => h y (.tail _ hy)
    rw [List.sum_cons]
    omega
end MP
namespace MP
open PySem L2
/-! loops over what stands in a slot -/
def sqD (l : Bool) (ds : List Dt) : Dt := if l then .list ds else .tuple ds
/-- ds stands at slot m, a list (l) or a tuple -/
def SeqIn (l : Bool) (ds : List Dt) (e : Ev) (m : Nat) : Prop := ∃ x, e[m]? = some x ∧ (res e x = some (.fr (sqD l ds)) ∨ (l = true ∧ res e x = some (.nd .ls (fL ds))))
theorem SeqIn.at {l : Bool} {ds : List Dt} {e : Ev} {m i : Nat} (h : SeqIn l ds e m) (hi : i ≤ ds.length) : seqAt l e m i = some (ds[i]?.map .fr) := by
  obtain ⟨x, h1, h2⟩ := h
  unfold seqAt
  rw [h1]
  simp only
  rcases h2 with h2 | ⟨rfl, h2⟩
  · rw [h2]
    cases l <;> simp [sqD, hi]
  · rw [h2]
    simp only [fL_length, hi, decide_true, Bool.and_self, if_true, fL_get]
    cases ds[i]? <;> rfl
theorem SeqIn.mk {l : Bool} {ds : List Dt} {e : Ev} {m : Nat} (h : e[m]? = some (.fr (sqD l ds))) : SeqIn l ds e m := ⟨_, h, .inl rfl⟩
theorem SeqIn.own {ds : List Dt} {e : Ev} {m s : Nat} {p : List Nat} (h : e[m]? = some (.al s p)) (h2 : res e (.al s p) = some (.nd .ls (fL ds))) : SeqIn true ds e m := ⟨_, h, .inr ⟨rfl, h2⟩⟩
theorem src_seq {l : Bool} {ds : List Dt} {e : Ev} {m i : Nat} (h : SeqIn l ds e m) (hi : i ≤ ds.length) : srcAt (.seq l) m e i = some (ds[i]?.map fun d => .one (.fr d)) := by
  simp only [srcAt, h.at hi, Option.map_some, Option.map_map]
  rfl
theorem src_enm {l : Bool} {st : Int} {ds : List Dt} {e : Ev} {m i : Nat} (h : SeqIn l ds e m) (hi : i ≤ ds.length) : srcAt (.enm l st) m e i = some (ds[i]?.map fun d => .many [.fr (.int (st + i)), .fr d]) := by
  simp only [srcAt, h.at hi, Option.map_some, Option.map_map]
  rfl
theorem src_zip {l k : Bool} {ds es : List Dt} {e : Ev} {m i : Nat} (h : SeqIn l ds e m) (h2 : SeqIn k es e (m + 1)) (hi : i ≤ ds.length) (hj : i ≤ es.length) : srcAt (.zip [l, k]) m e i = some (match ds[i]?, es[i]? with | some d, some c => some (.many [.fr d, .fr c]) | _, _ => none) := by
  simp only [srcAt, seqsAt, h.at hi, h2.at hj]
  cases ds[i]? <;> cases es[i]? <;> rfl
section
variable {C : Cl} {tg : Tg} {b : Sm} {l k : Bool} {ds es : List Dt} {m : Nat} {env : Ev} {st : Int} {Q : Fl → Prop} {t : Tok Q}
theorem forB_seqI (I : Nat → Ev → Prop) (hn : ds.length < bigW) (h0 : I 0 env) (hb : ∀ i e, I i e → SeqIn l ds e m)
    (hs : ∀ i (hi : i < ds.length) e, I i e → (ofO (asgT e tg (.one (.fr ds[i])))).to fun e => (evS C b e).to (TurnTo (I (i + 1)) Q)) (hq : ∀ e, I ds.length e → Q (.nx e)) : (forB C tg b (.seq l) m env).to Q t := by
  refine forB_inv ds.length (fun i => .one (.fr (ds.getD i .none))) I hn h0 (fun i e hi hI => ?_) (fun e hI => ?_) (fun i e hi hI => ?_) hq
  · rw [src_seq (hb i e hI) (by omega)]; simp [hi]
  · rw [src_seq (hb _ e hI) (by omega)]; simp
  · have := hs i hi e hI
    simpa [hi] using this
theorem forB_enm (I : Nat → Ev → Prop) (hn : ds.length < bigW) (h0 : I 0 env) (hb : ∀ i e, I i e → SeqIn l ds e m)
    (hs : ∀ i (hi : i < ds.length) e, I i e → (ofO (asgT e tg (.many [.fr (.int (st + i)), .fr ds[i]]))).to fun e => (evS C b e).to (TurnTo (I (i + 1)) Q)) (hq : ∀ e, I ds.length e → Q (.nx e)) : (forB C tg b (.enm l st) m env).to Q t := by
  refine forB_inv ds.length (fun i => .many [.fr (.int (st + i)), .fr (ds.getD i .none)]) I hn h0 (fun i e hi hI => ?_) (fun e hI => ?_) (fun i e hi hI => ?_) hq
  · rw [src_enm (hb i e hI) (by omega)]; simp [hi]
  · rw [src_enm (hb _ e hI) (by omega)]; simp
  · have := hs i hi e hI
    rw [List.getD_eq_getElem?_getD, List.getElem?_eq_getElem hi]
    exact this
theorem forB_zip (I : Nat → Ev → Prop) (hn : ds.length < bigW) (h0 : I 0 env) (hb : ∀ i e, I i e → SeqIn l ds e m ∧ SeqIn k es e (m + 1))
    (hs : ∀ i (hi : i < ds.length) (hj : i < es.length) e, I i e → (ofO (asgT e tg (.many [.fr ds[i], .fr es[i]]))).to fun e => (evS C b e).to (TurnTo (I (i + 1)) Q)) (hq : ∀ e, I (min ds.length es.length) e → Q (.nx e)) : (forB C tg b (.zip [l, k]) m env).to Q t := by
  refine forB_inv (min ds.length es.length) (fun i => .many [.fr (ds.getD i .none), .fr (es.getD i .none)]) I (by omega) h0 (fun i e hi hI => ?_) (fun e hI => ?_) (fun i e hi hI => ?_) hq
  · have h1 : i < ds.length := by omega
    have h2 : i < es.length := by omega
    rw [src_zip (hb i e hI).1 (hb i e hI).2 (by omega) (by omega)]; simp [h1, h2]
  · rw [src_zip (hb _ e hI).1 (hb _ e hI).2 (by omega) (by omega)]
    rcases Nat.le_total ds.length es.length with h | h
    · rw [Nat.min_eq_left h, List.getElem?_eq_none (Nat.le_refl ds.length)]
    · rw [Nat.min_eq_right h, List.getElem?_eq_none (Nat.le_refl es.length)]
      cases ds[es.length]? <;> rfl
  · have h1 : i < ds.length := by omega
    have h2 : i < es.length := by omega
    have := hs i h1 h2 e hI
    rw [List.getD_eq_getElem?_getD, List.getD_eq_getElem?_getD, List.getElem?_eq_getElem h1, List.getElem?_eq_getElem h2]
    exact this
end
section
variable {C : Cl} {e : Ex} {tg : Tg} {c : Ex} {own : List Nat} {l k : Bool} {ds es : List Dt} {m : Nat} {env : Ev} {st : Int} {Q : Ev × List Tr → Prop} {t : Tok Q}
/-- a turn of a comprehension -/
def LcTurn (C : Cl) (e : Ex) (tg : Tg) (c : Ex) (own : List Nat) (it : Itm) (I : Ev → List Tr → Prop) (ev : Ev) (acc : List Tr) : Prop :=
  rooted ev own = false ∧ (ofO (asgT (wipeE ev own) tg it)).to fun ev => (evE C c ev).to fun q => (ofO (truthE q.1 q.2)).to fun t =>
      if t = true then (evE C e q.1).to fun x => (ofO (toTr x.1 x.2)).to fun y => acc.length < lineN ∧ I y.1 (acc ++ [y.2]) else I q.1 acc
theorem lcB_rng {lo st : Int} {n : Nat} (I : Nat → Ev → List Tr → Prop) (hn : n < bigW) (h0 : I 0 env [])
    (hs : ∀ (i : Nat) ev acc, i < n → I i ev acc → LcTurn C e tg c own (.one (.fr (.int (lo + st * i)))) (I (i + 1)) ev acc) (hq : ∀ e acc, I n e acc → Q (e, acc)) : (lcB C e tg c own (.rng lo st n) m env).to Q t :=
  lcB_inv n (fun i => .one (.fr (.int (lo + st * i)))) I hn h0 (fun i e acc hi _ => by simp [srcAt, hi]) (fun e acc _ => by simp [srcAt]) hs hq
theorem lcB_seq (I : Nat → Ev → List Tr → Prop) (hn : ds.length < bigW) (h0 : I 0 env []) (hb : ∀ i e acc, I i e acc → SeqIn l ds e m)
    (hs : ∀ i (hi : i < ds.length) ev acc, I i ev acc → LcTurn C e tg c own (.one (.fr ds[i])) (I (i + 1)) ev acc) (hq : ∀ e acc, I ds.length e acc → Q (e, acc)) : (lcB C e tg c own (.seq l) m env).to Q t := by
  refine lcB_inv ds.length (fun i => .one (.fr (ds.getD i .none))) I hn h0 (fun i e acc hi hI => ?_) (fun e acc hI => ?_) (fun i e acc hi hI => ?_) hq
  · rw [src_seq (hb i e acc hI) (by omega)]; simp [hi]
  · rw [src_seq (hb _ e acc hI) (by omega)]; simp
  · have := hs i hi e acc hI
    rw [List.getD_eq_getElem?_getD, List.getElem?_eq_getElem hi]
    exact this
theorem lcB_enm (I : Nat → Ev → List Tr → Prop) (hn : ds.length < bigW) (h0 : I 0 env []) (hb : ∀ i e acc, I i e acc → SeqIn l ds e m)
    (hs : ∀ i (hi : i < ds.length) ev acc, I i ev acc → LcTurn C e tg c own (.many [.fr (.int (st + i)), .fr ds[i]]) (I (i + 1)) ev acc) (hq : ∀ e acc, I ds.length e acc → Q (e, acc)) : (lcB C e tg c own (.enm l st) m env).to Q t := by
  refine lcB_inv ds.length (fun i => .many [.fr (.int (st + i)), .fr (ds.getD i .none)]) I hn h0 (fun i e acc hi hI => ?_) (fun e acc hI => ?_) (fun i e acc hi hI => ?_) hq
  · rw [src_enm (hb i e acc hI) (by omega)]; simp [hi]
  · rw [src_enm (hb _ e acc hI) (by omega)]; simp
  · have := hs i hi e acc hI
    rw [List.getD_eq_getElem?_getD, List.getElem?_eq_getElem hi]
    exact this
theorem lcB_zip (I : Nat → Ev → List Tr → Prop) (hn : ds.length < bigW) (h0 : I 0 env []) (hb : ∀ i e acc, I i e acc → SeqIn l ds e m ∧ SeqIn k es e (m + 1))
    (hs : ∀ i (hi : i < ds.length) (hj : i < es.length) ev acc, I i ev acc → LcTurn C e tg c own (.many [.fr ds[i], .fr es[i]]) (I (i + 1)) ev acc) (hq : ∀ e acc, I (min ds.length es.length) e acc → Q (e, acc)) : (lcB C e tg c own (.zip [l, k]) m env).to Q t := by
  refine lcB_inv (min ds.length es.length) (fun i => .many [.fr (ds.getD i .none), .fr (es.getD i .none)]) I (by omega) h0 (fun i e acc hi hI => ?_) (fun e acc hI => ?_) (fun i e acc hi hI => ?_) hq
  · have h1 : i < ds.length := by omega
    have h2 : i < es.length := by omega
    rw [src_zip (hb i e acc hI).1 (hb i e acc hI).2 (by omega) (by omega)]; simp [h1, h2]
  · rw [src_zip (hb _ e acc hI).1 (hb _ e acc hI).2 (by omega) (by omega)]
    rcases Nat.le_total ds.length es.length with h | h
    · rw [Nat.min_eq_left h, List.getElem?_eq_none (Nat.le_refl ds.length)]
    · rw [Nat.min_eq_right h, List.getElem?_eq_none (Nat.le_refl es.length)]
      cases ds[es.length]? <;> rfl
  · have h1 : i < ds.length := by omega
    have h2 : i < es.length := by omega
    have := hs i h1 h2 e acc hI
    rw [List.getD_eq_getElem?_getD, List.getD_eq_getElem?_getD, List.getElem?_eq_getElem h1, List.getElem?_eq_getElem h2]
    exact this
end
theorem map_range_succ {α : Type} {n : Nat} {f : Nat → α} : (List.range n).map f ++ [f n] = (List.range (n + 1)).map f := by rw [List.range_succ]; simp
/-- statement by statement -/
theorem seq_to {C : Cl} {x y : Sm} {env : Ev} {Q : Fl → Prop} {t : Tok Q} (R : Ev → Prop) (h1 : (evS C x env).to fun fl => ∃ e, fl = .nx e ∧ R e) (h2 : ∀ e, R e → (evS C y e).to Q) : (evS C (.seq x y) env).to Q t := by
  rw [MP.Q.es_seq, to_bnd]
  refine h1.mono fun fl h => ?_
  obtain ⟨e, rfl, h⟩ := h
  exact h2 e h
theorem to_ofO_of {α : Type} {o : Option α} {a : α} {Q : α → Prop} {t : Tok Q} (h : o = some a) (q : Q a) : (ofO o).to Q t := by
  subst h
  exact to_ok.mpr q
end MP
namespace MP
open PySem L2
/-! lists of natural numbers as data -/
def nD (C : List Nat) : List Dt := C.map fun n : Nat => PyData.int (n : Int)
@[simp] theorem nD_length {C : List Nat} : (nD C).length = C.length := by simp [nD]
@[simp] theorem nD_get {C : List Nat} {i : Nat} : (nD C)[i]? = C[i]?.map fun n : Nat => PyData.int (n : Int) := by simp [nD]
@[simp] theorem nD_getElem {C : List Nat} {i : Nat} (h : i < (nD C).length) : (nD C)[i] = .int ((C[i]'(by simpa using h) : Nat) : Int) := by simp [nD]
@[simp] theorem nD_one {C : List Nat} {n : Nat} : nD C ++ [.int (n : Int)] = nD (C ++ [n]) := by simp [nD]
theorem nD_iD {C : List Nat} : nD C = iD (C.map fun n : Nat => (n : Int)) := by simp [nD, iD, Function.comp_def]
theorem nD_inj {C D : List Nat} : nD C = nD D ↔ C = D := by
  refine ⟨fun h => ?_, fun h => h ▸ rfl⟩
  rw [nD_iD, nD_iD, iD_inj] at h
  have := congrArg (List.map Int.toNat) h
  simpa [List.map_map, Function.comp_def] using this
@[simp] theorem nD_tail {C : List Nat} : (nD C).tail = nD C.tail := by simp [nD, List.map_tail]
@[simp] theorem nil_nD : (fL (nD [])) = [] := rfl
theorem nD_step {M : List Nat} {i : Nat} {x : Int} (h : i < M.length) (e : x = ((M[i] : Nat) : Int)) : nD (M.take i) ++ [.int x] = nD (M.take (i + 1)) := by
  subst e
  rw [nD_one, List.take_succ_eq_append_getElem h]
/-! a stair's beat -/
namespace R
def beatAt (B : List Int) (t : Nat) : Int := B.getD (t % B.length) 0
def adv (B : List Int) : Nat → Nat × Nat → Nat × Nat
  | 0, s => s
  | n + 1, s => if (s.2 : Int) = beatAt B s.1 then adv B n (s.1 + 1, 0) else s
structure Bt (B : List Int) : Prop where
  n1 : 1 ≤ B.length
  n2 : B.length ≤ 6
  b : ∀ x ∈ B, 0 ≤ x ∧ x ≤ 9
  p : ∃ i, ∃ h : i < B.length, 0 < B[i]
theorem Bt.nonneg {B : List Int} (h : Bt B) (t : Nat) : 0 ≤ beatAt B t := by
  have hm : t % B.length < B.length := Nat.mod_lt _ h.n1
  unfold beatAt
  rw [List.getD_eq_getElem?_getD, List.getElem?_eq_getElem hm]
  exact (h.b _ (List.getElem_mem hm)).1
theorem Bt.next {B : List Int} (h : Bt B) (t : Nat) : ∃ t', t < t' ∧ t' < t + (2 * B.length + 1) ∧ 0 < beatAt B t' := by
  obtain ⟨i, hi, hp⟩ := h.p
  refine ⟨B.length * (t / B.length + 1) + i, ?_, ?_, ?_⟩
  · have := Nat.lt_mul_div_succ t (show 0 < B.length from h.n1)
    omega
  · have := Nat.mul_div_le t B.length
    rw [Nat.mul_add]
    omega
  · unfold beatAt
    rw [Nat.mul_add_mod, Nat.mod_eq_of_lt hi, List.getD_eq_getElem?_getD, List.getElem?_eq_getElem hi]
    exact hp
theorem adv_stable {B : List Int} : ∀ (n t u : Nat), (∃ t', t < t' ∧ t' < t + n ∧ 0 < beatAt B t') → ((adv B n (t, u)).2 : Int) ≠ beatAt B (adv B n (t, u)).1
  | 0, t, u, ⟨t', h1, h2, h3⟩ => by omega
  | n + 1, t, u, ⟨t', h1, h2, h3⟩ => by
    unfold adv
    split
    · by_cases c : t' = t + 1
      · subst c
        cases n with
        | zero => omega
        | succ n =>
          unfold adv
          have : ¬ ((0 : Nat) : Int) = beatAt B (t + 1) := by omega
          rw [if_neg this]
          exact this
      · exact adv_stable n (t + 1) 0 ⟨t', by omega, by omega, h3⟩
    · assumption
theorem adv_le {B : List Int} (h : Bt B) : ∀ (n t u : Nat), (u : Int) ≤ beatAt B t → ((adv B n (t, u)).2 : Int) ≤ beatAt B (adv B n (t, u)).1
  | 0, t, u, q => q
  | n + 1, t, u, q => by
    unfold adv
    split
    · exact adv_le h n (t + 1) 0 (h.nonneg _)
    · exact q
theorem adv_go {B : List Int} : ∀ (n t u : Nat), t ≤ (adv B n (t, u)).1 ∧ (adv B n (t, u)).1 ≤ t + n
  | 0, t, u => ⟨Nat.le_refl _, Nat.le_refl _⟩
  | n + 1, t, u => by
    unfold adv
    split
    · have := adv_go (B := B) n (t + 1) 0
      simp only
      omega
    · simp only; omega
/-- where a person at come goes on, from the state s -/
def nxt (B : List Int) (s : Nat × Nat) (c : Nat) : Nat × Nat := adv B (2 * B.length + 1) (if s.1 < c then (c, 0) else s)
def st (B : List Int) (C : List Nat) : Nat → Nat × Nat
  | 0 => (0, 0)
  | i + 1 => ((nxt B (st B C i) (C.getD i 0)).1, (nxt B (st B C i) (C.getD i 0)).2 + 1)
theorem nxt_stable {B : List Int} (h : Bt B) {s : Nat × Nat} {c : Nat} : ((nxt B s c).2 : Int) ≠ beatAt B (nxt B s c).1 := by
  unfold nxt
  split
  · exact adv_stable _ _ _ (h.next _)
  · exact adv_stable _ s.1 s.2 (h.next _)
theorem nxt_le {B : List Int} (h : Bt B) {s : Nat × Nat} {c : Nat} (q : (s.2 : Int) ≤ beatAt B s.1) : ((nxt B s c).2 : Int) ≤ beatAt B (nxt B s c).1 := by
  unfold nxt
  split
  · exact adv_le h _ _ _ (h.nonneg _)
  · exact adv_le h _ s.1 s.2 q
theorem st_le {B : List Int} (h : Bt B) {C : List Nat} : ∀ {i : Nat}, ((st B C i).2 : Int) ≤ beatAt B (st B C i).1
  | 0 => h.nonneg 0
  | i + 1 => by
    have q := nxt_le h (c := C.getD i 0) (st_le h (C := C) (i := i))
    have q2 := nxt_stable h (s := st B C i) (c := C.getD i 0)
    show (((nxt B (st B C i) (C.getD i 0)).2 + 1 : Nat) : Int) ≤ beatAt B (nxt B (st B C i) (C.getD i 0)).1
    omega
theorem nxt_go {B : List Int} {s : Nat × Nat} {c : Nat} : s.1 ≤ (nxt B s c).1 ∧ c ≤ (nxt B s c).1 ∧ (nxt B s c).1 ≤ max s.1 c + (2 * B.length + 1) := by
  unfold nxt
  split
  · have := adv_go (B := B) (2 * B.length + 1) c 0
    omega
  · have := adv_go (B := B) (2 * B.length + 1) s.1 s.2
    have e : (s.1, s.2) = s := rfl
    rw [e] at this
    omega
/-- when all go on -/
def goes (B : List Int) (C : List Nat) : List Nat := (List.range C.length).map fun i => (st B C (i + 1)).1
@[simp] theorem goes_length {B : List Int} {C : List Nat} : (goes B C).length = C.length := by simp [goes]
theorem goes_get {B : List Int} {C : List Nat} {i : Nat} (h : i < (goes B C).length) : (goes B C)[i] = (st B C (i + 1)).1 := by simp [goes]
/-- a row: times and beats -/
abbrev Rw := List (Nat × List Int)
def cm (W : Rw) (T : List Nat) : Nat → List Nat
  | 0 => T
  | j + 1 => (goes (W.getD j (0, [])).2 (cm W T j)).map (· + (W.getD j (0, [])).1)
def gm (W : Rw) (T : List Nat) (j : Nat) : List Nat := goes (W.getD j (0, [])).2 (cm W T j)
@[simp] theorem cm_length {W : Rw} {T : List Nat} : ∀ {j : Nat}, (cm W T j).length = T.length
  | 0 => rfl
  | j + 1 => by simp [cm, cm_length (j := j)]
@[simp] theorem gm_length {W : Rw} {T : List Nat} {j : Nat} : (gm W T j).length = T.length := by simp [gm]
/-- bounds -/
theorem st_b {B : List Int} (h : Bt B) {C : List Nat} {M : Nat} (hC : ∀ c ∈ C, c ≤ M) : ∀ {i : Nat}, (st B C i).1 ≤ M + 13 * i
  | 0 => Nat.zero_le _
  | i + 1 => by
    have q := nxt_go (B := B) (s := st B C i) (c := C.getD i 0)
    have q2 := st_b h hC (i := i)
    have hc : C.getD i 0 ≤ M := by
      rw [List.getD_eq_getElem?_getD]
      cases e : C[i]? with
      | none => simp
      | some c => exact hC c (List.mem_of_getElem? e)
    have := h.n2
    show (nxt B (st B C i) (C.getD i 0)).1 ≤ _
    omega
theorem goes_b {B : List Int} (h : Bt B) {C : List Nat} {M : Nat} (hC : ∀ c ∈ C, c ≤ M) (hl : C.length ≤ 1000) : ∀ c ∈ goes B C, c ≤ M + 13000 := by
  intro c hc
  obtain ⟨i, hi, rfl⟩ := List.mem_map.mp hc
  have := List.mem_range.mp hi
  have := st_b h hC (i := i + 1)
  omega
structure Rk (W : Rw) : Prop where
  n1 : 1 ≤ W.length
  n2 : W.length ≤ 4
  t : ∀ w ∈ W, w.1 ≤ 6
  b : ∀ w ∈ W, Bt w.2
  e : ∀ w ∈ W, ∀ v ∈ W, w.2.length = v.2.length
theorem Rk.at {W : Rw} (h : Rk W) {j : Nat} (hj : j < W.length) : W.getD j (0, []) ∈ W := by
  rw [List.getD_eq_getElem?_getD, List.getElem?_eq_getElem hj]
  exact List.getElem_mem hj
theorem cm_b {W : Rw} (h : Rk W) {T : List Nat} {M : Nat} (hT : ∀ c ∈ T, c ≤ M) (hl : T.length ≤ 1000) : ∀ {j : Nat}, j ≤ W.length → ∀ c ∈ cm W T j, c ≤ M + 14000 * j
  | 0, _, c, hc => by simpa using hT c hc
  | j + 1, hj, c, hc => by
    have hw := h.at (j := j) (by omega)
    obtain ⟨g, hg, rfl⟩ := List.mem_map.mp hc
    have := goes_b (h.b _ hw) (cm_b h hT hl (j := j) (by omega)) (by simpa using hl) g hg
    have := h.t _ hw
    omega
theorem gm_b {W : Rw} (h : Rk W) {T : List Nat} {M : Nat} (hT : ∀ c ∈ T, c ≤ M) (hl : T.length ≤ 1000) {j : Nat} (hj : j < W.length) : ∀ c ∈ gm W T j, c ≤ M + 14000 * j + 13000 :=
  goes_b (h.b _ (h.at hj)) (cm_b h hT hl (by omega)) (by simpa using hl)
end R
/-! a dict of ints by ints -/
def dKs (D : List (Int × Int)) : List Key := D.map fun p => .inl p.1
def dVs (D : List (Int × Int)) : List Tr := D.map fun p => .fr (.int p.2)
def dT (D : List (Int × Int)) : Tr := .nd (.dk (dKs D)) (dVs D)
def dG : List (Int × Int) → Int → Option Int
  | [], _ => none
  | (k, v) :: D, j => if k = j then some v else dG D j
def dS : List (Int × Int) → Int → Int → List (Int × Int)
  | [], j, x => [(j, x)]
  | (k, v) :: D, j, x => if k = j then (k, x) :: D else (k, v) :: dS D j x
theorem dG_dS : ∀ (D : List (Int × Int)) (j x i : Int), dG (dS D j x) i = if j = i then some x else dG D i
  | [], j, x, i => by simp [dS, dG]
  | (k, v) :: D, j, x, i => by
    unfold dS
    by_cases c : k = j
    · rw [if_pos c]
      subst c
      unfold dG
      by_cases e : k = i <;> simp [e]
    · rw [if_neg c]
      unfold dG
      rw [dG_dS D j x i]
      by_cases e : k = i
      · subst e
        have : ¬ j = k := fun h => c h.symm
        simp [this]
      · simp [e]
theorem pos1_dG : ∀ (D : List (Int × Int)) (j : Int), (pos1 (.inl j : Key) (dKs D)).map (fun i => (dVs D)[i]?) = (dG D j).map fun v => some (Tr.fr (.int v))
  | [], j => rfl
  | (k, v) :: D, j => by
    have ih := pos1_dG D j
    unfold dG
    by_cases c : k = j
    · subst c
      simp [dKs, dVs]
    · have c2 : ¬ (Sum.inl k : Key) = Sum.inl j := fun h => c (Sum.inl.inj h)
      rw [if_neg c, ← ih]
      show (pos1 (Sum.inl j : Key) (Sum.inl k :: dKs D)).map (fun i => (Tr.fr (.int v) :: dVs D)[i]?) = _
      rw [Q.pos1_cons, if_neg c2, Option.map_map]
      rfl
@[simp] theorem dKs_length {D : List (Int × Int)} : (dKs D).length = D.length := by simp [dKs]
@[simp] theorem dVs_length {D : List (Int × Int)} : (dVs D).length = D.length := by simp [dVs]
theorem find_dT {D : List (Int × Int)} {j : Int} : (Sh.dk (dKs D)).find (.int j) = some (pos1 (.inl j) (dKs D)) := rfl
/-- d.get(k, x) -/
theorem get_dT {env : Ev} {s : Nat} {p : List Nat} {D : List (Int × Int)} {k x : Int} (h : res env (.al s p) = some (dT D)) : mtE .get env (.al s p) [.fr (.int k), .fr (.int x)] = some (env, .fr (.int ((dG D k).getD x))) := by
  have q := pos1_dG D k
  simp only [mtE, Q.peek_fr, h, dT, find_dT]
  cases e : pos1 (Sum.inl k : Key) (dKs D) with
  | none =>
    rw [e] at q
    cases g : dG D k with
    | none => rfl
    | some v => rw [g] at q; cases q
  | some i =>
    rw [e] at q
    cases g : dG D k with
    | none => rw [g] at q; cases q
    | some v =>
      rw [g] at q
      have q := Option.some.inj q
      show (pickE (dVs D) (.al s p) i).map _ = _
      have q : (dVs D)[i]? = some (Tr.fr (.int v)) := q
      rw [Q.pickE_def, q]
      rfl
theorem pos1_none_dS : ∀ (D : List (Int × Int)) (j x : Int), pos1 (.inl j : Key) (dKs D) = none → dKs (dS D j x) = dKs D ++ [.inl j] ∧ dVs (dS D j x) = dVs D ++ [.fr (.int x)]
  | [], j, x, _ => ⟨rfl, rfl⟩
  | (k, v) :: D, j, x, h => by
    have h : pos1 (Sum.inl j : Key) (Sum.inl k :: dKs D) = none := h
    rw [Q.pos1_cons] at h
    by_cases c : k = j
    · subst c; simp at h
    · have c2 : ¬ (Sum.inl k : Key) = Sum.inl j := fun h => c (Sum.inl.inj h)
      rw [if_neg c2, Option.map_eq_none_iff] at h
      obtain ⟨h1, h2⟩ := pos1_none_dS D j x h
      unfold dS
      rw [if_neg c]
      exact ⟨congrArg (Sum.inl k :: ·) h1, congrArg (Tr.fr (.int v) :: ·) h2⟩
theorem pos1_some_dS : ∀ (D : List (Int × Int)) (j x : Int) (i : Nat), pos1 (.inl j : Key) (dKs D) = some i → dKs (dS D j x) = dKs D ∧ dVs (dS D j x) = (dVs D).set i (.fr (.int x))
  | [], j, x, i, h => by cases h
  | (k, v) :: D, j, x, i, h => by
    have h : pos1 (Sum.inl j : Key) (Sum.inl k :: dKs D) = some i := h
    rw [Q.pos1_cons] at h
    unfold dS
    by_cases c : k = j
    · subst c
      rw [if_pos rfl] at h
      cases h
      rw [if_pos rfl]
      exact ⟨rfl, rfl⟩
    · have c2 : ¬ (Sum.inl k : Key) = Sum.inl j := fun h => c (Sum.inl.inj h)
      rw [if_neg c2] at h
      cases e : pos1 (Sum.inl j : Key) (dKs D) with
      | none => rw [e] at h; cases h
      | some m =>
        rw [e] at h
        cases h
        obtain ⟨h1, h2⟩ := pos1_some_dS D j x m e
        rw [if_neg c]
        exact ⟨congrArg (Sum.inl k :: ·) h1, congrArg (Tr.fr (.int v) :: ·) h2⟩
theorem dS_length (D : List (Int × Int)) (j x : Int) : (dS D j x).length ≤ D.length + 1 := by
  induction D with
  | nil => simp [dS]
  | cons p D ih =>
    obtain ⟨k, v⟩ := p
    unfold dS
    split <;> simp
    exact ih
/-- d[k] = x, d in slot s -/
theorem set_dT {env : Ev} {s : Nat} {D : List (Int × Int)} {k x : Int} (h : env[s]? = some (.own (dT D))) (hl : D.length < lineN) (hu : ∀ j, env.any (under s [j]) = false) : setE env (.al s []) (.fr (.int k)) (.fr (.int x)) = some (env.set s (.own (dT (dS D k x)))) := by
  have e1 : setSh (.dk (dKs D)) (dVs D).length (.int k) = match pos1 (.inl k : Key) (dKs D) with
      | some j => some (.dk (dKs D), some j)
      | none => some (.dk (dKs D ++ [.inl k]), none) := rfl
  have hl2 : ¬ lineN ≤ D.length := by omega
  have h : env[s]? = some (.own (.nd (.dk (dKs D)) (dVs D))) := h
  rw [dVs_length] at e1
  cases e : pos1 (Sum.inl k : Key) (dKs D) with
  | none =>
    obtain ⟨h1, h2⟩ := pos1_none_dS D k x e
    rw [e] at e1
    have e1 : setSh (.dk (dKs D)) D.length (.int k) = some (.dk (dKs D ++ [.inl k]), none) := e1
    simp only [Q.setE_al, Q.toTr_fr, h, Q.at_nil, dVs_length, e1, hl, if_true, Q.chgE_def, Q.put_nil, dT, h1, h2]
  | some i =>
    obtain ⟨h1, h2⟩ := pos1_some_dS D k x i e
    rw [e] at e1
    have e1 : setSh (.dk (dKs D)) D.length (.int k) = some (.dk (dKs D), some i) := e1
    have hu := hu i
    simp only [Q.setE_al, Q.toTr_fr, h, Q.at_nil, dVs_length, e1, Q.chgE_def, Q.put_nil, dT, h1, h2, List.nil_append, hu, Bool.false_or, decide_eq_true_eq, hl2, if_false]
theorem get_dk {env : Ev} {s : Nat} {p : List Nat} {D : List (Int × Int)} {k x : Int} (h : res env (.al s p) = some (.nd (.dk (dKs D)) (dVs D))) : mtE .get env (.al s p) [.fr (.int k), .fr (.int x)] = some (env, .fr (.int ((dG D k).getD x))) := get_dT h
theorem set_dk {env : Ev} {s : Nat} {D : List (Int × Int)} {k x : Int} (h : env[s]? = some (.own (.nd (.dk (dKs D)) (dVs D)))) (hl : D.length < lineN) (hu : ∀ j, env.any (under s [j]) = false) : setE env (.al s []) (.fr (.int k)) (.fr (.int x)) = some (env.set s (.own (.nd (.dk (dKs (dS D k x))) (dVs (dS D k x))))) := set_dT h hl hu
/-- a slot that is not set, or owns a dict of ints -/
def dE : Option (List (Int × Int)) → En
  | none => .un
  | some D => .own (.nd (.dk (dKs D)) (dVs D))
@[simp] theorem unr_dE {env : Ev} {i : Nat} {o : Option (List (Int × Int))} : unr env i (dE o) = dE o := by cases o <;> rfl
@[simp] theorem ex_dE {D : List (Int × Int)} : ∃ x, En.own (.nd (.dk (dKs D)) (dVs D)) = dE x := ⟨some D, rfl⟩
@[simp] theorem ex_dE_dE {o : Option (List (Int × Int))} : ∃ x, dE o = dE x := ⟨o, rfl⟩
end MP
namespace MP
open PySem L2
/-! bounds and what they cover -/
namespace V
/-- nondecreasing -/
def Lev (L : List Int) : Prop := ∀ (i : Nat) (h : i + 1 < L.length), L[i] ≤ L[i + 1]
/-- a bound -/
structure Bd (L : List Int) : Prop where
  ne : 1 ≤ L.length
  hl : L.length ≤ 12
  hb : ∀ x ∈ L, 1 ≤ x ∧ x ≤ 60
  h : Lev L
theorem Bd.at {L : List Int} (b : Bd L) {i : Nat} (h : i < L.length) : 1 ≤ L[i] ∧ L[i] ≤ 60 := b.hb _ (by simp)
/-- the most within one tick more -/
def stepW (L F : List Int) : Int := minL ((List.range L.length).map fun own => L.getD own 0 + F.getD (F.length - 1 - own) 0)
def cov (L : List Int) : Nat → List Int
  | 0 => [0]
  | n + 1 => cov L n ++ [stepW L (cov L n)]
@[simp] theorem cov_length {L : List Int} {n : Nat} : (cov L n).length = n + 1 := by
  induction n with
  | zero => rfl
  | succ n ih => simp [cov, ih]
/-- the most within k ticks -/
def W (L : List Int) (k : Nat) : Int := (cov L k).getD k 0
theorem cov_at {L : List Int} {k : Nat} : ∀ {i : Nat}, k ≤ i → (cov L i)[k]? = some (W L k) := by
  intro i h
  induction i with
  | zero =>
    have : k = 0 := by omega
    subst this
    rfl
  | succ i ih =>
    by_cases c : k ≤ i
    · rw [cov, List.getElem?_append_left (by simp; omega), ih c]
    · have : k = i + 1 := by omega
      subst this
      have q : i + 1 < (cov L (i + 1)).length := by simp
      simp [W, q]
theorem W_zero {L : List Int} : W L 0 = 0 := rfl
theorem stepW_def {L : List Int} {i : Nat} : stepW L (cov L i) = minL ((List.range L.length).map fun own => L.getD own 0 + W L (i - own)) := by
  unfold stepW
  refine congrArg minL (List.map_congr_left fun own _ => ?_)
  simp [cov_at (L := L) (k := i - own) (i := i) (by omega)]
theorem W_succ {L : List Int} {i : Nat} : W L (i + 1) = minL ((List.range L.length).map fun own => L.getD own 0 + W L (i - own)) := by
  rw [← stepW_def, W, cov]
  simp
/-! what a bound's numbers keep to -/
theorem W_le1 {L : List Int} {w v : Nat} (hv : v < L.length) : W L (w + 1) ≤ L[v] + W L (w - v) := by
  rw [W_succ]
  refine Int.le_trans (v_minL_le (x := L.getD v 0 + W L (w - v)) ?_) ?_
  · exact List.mem_map.mpr ⟨v, List.mem_range.mpr hv, rfl⟩
  · simp [hv]
theorem W_ex {L : List Int} {w : Nat} (hn : 1 ≤ L.length) : ∃ v, ∃ h : v < L.length, W L (w + 1) = L[v] + W L (w - v) := by
  have q := v_minL_mem (l := (List.range L.length).map fun own => L.getD own 0 + W L (w - own)) (by intro e; simp at e; rw [e] at hn; simp at hn)
  rw [← W_succ] at q
  obtain ⟨v, hv, e⟩ := List.mem_map.mp q
  have hv := List.mem_range.mp hv
  exact ⟨v, hv, by rw [← e]; simp [hv]⟩
theorem W_le {L : List Int} (b : Bd L) {v : Nat} (hv : v < L.length) : ∀ (n w : Nat), w ≤ n → W L w ≤ (((w + v) / (v + 1) : Nat) : Int) * L[v]
  | _, 0, _ => by
    rw [Nat.zero_add, Nat.div_eq_of_lt (by omega), W_zero]
    simp
  | 0, w + 1, h => by omega
  | n + 1, w + 1, h => by
    have q := W_le b hv n (w - v) (by omega)
    have q1 := W_le1 (w := w) hv
    have hx := (b.at hv).1
    have hm : (w - v + v) / (v + 1) + 1 ≤ (w + 1 + v) / (v + 1) := by
      rw [show w + 1 + v = w + (v + 1) by omega, Nat.add_div_right _ (by omega)]
      by_cases c : v ≤ w
      · rw [Nat.sub_add_cancel c]
        exact Nat.le_refl _
      · rw [show w - v = 0 by omega, Nat.zero_add, Nat.div_eq_of_lt (show v < v + 1 by omega)]
        exact Nat.succ_le_succ (Nat.zero_le _)
    have hm2 : (((w - v + v) / (v + 1) : Nat) : Int) + 1 ≤ (((w + 1 + v) / (v + 1) : Nat) : Int) := by exact_mod_cast hm
    have := Int.mul_le_mul_of_nonneg_right hm2 (show 0 ≤ L[v] by omega)
    rw [Int.add_mul, Int.one_mul] at this
    omega
theorem lev_snoc {L : List Int} {x : Int} (h : Lev L) (hx : ∀ y ∈ L, y ≤ x) : Lev (L ++ [x]) := by
  intro i hi
  simp at hi
  by_cases c : i + 1 < L.length
  · rw [List.getElem_append_left (by omega), List.getElem_append_left c]
    exact h i c
  · have e : i + 1 = L.length := by omega
    rw [List.getElem_append_left (by omega), List.getElem_append_right (by omega)]
    simp only [List.getElem_singleton]
    exact hx _ (by simp)
theorem W_nonneg {L : List Int} (b : Bd L) : ∀ (n w : Nat), w ≤ n → 0 ≤ W L w
  | _, 0, _ => by rw [W_zero]; exact Int.le_refl _
  | 0, w + 1, h => by omega
  | n + 1, w + 1, h => by
    obtain ⟨v, hv, e⟩ := W_ex (L := L) (w := w) b.ne
    have := W_nonneg b n (w - v) (by omega)
    have := (b.at hv).1
    omega
theorem W_step {L : List Int} (b : Bd L) : ∀ (n w : Nat), w ≤ n → W L w ≤ W L (w + 1)
  | _, 0, _ => by rw [W_zero]; exact W_nonneg b 1 1 (Nat.le_refl _)
  | 0, w + 1, h => by omega
  | n + 1, w + 1, h => by
    obtain ⟨v, hv, e⟩ := W_ex (L := L) (w := w + 1) b.ne
    rw [e]
    have q := W_le1 (L := L) (w := w) hv
    by_cases c : v ≤ w
    · have := W_step b n (w - v) (by omega)
      rw [show w + 1 - v = w - v + 1 by omega]
      omega
    · rw [show w + 1 - v = 0 by omega]
      rw [show w - v = 0 by omega] at q
      exact q
theorem W_mono {L : List Int} (b : Bd L) {v w : Nat} (h : v ≤ w) : W L v ≤ W L w := by
  induction w with
  | zero => rw [show v = 0 by omega]; exact Int.le_refl _
  | succ w ih =>
    by_cases c : v ≤ w
    · exact Int.le_trans (ih c) (W_step b w w (Nat.le_refl _))
    · rw [show v = w + 1 by omega]; exact Int.le_refl _
theorem W_far {L : List Int} (b : Bd L) : ∀ m : Nat, (m : Int) ≤ W L (L.length * m)
  | 0 => by rw [Nat.mul_zero, W_zero]; exact Int.le_refl _
  | m + 1 => by
    have hn := b.ne
    have ih := W_far b m
    obtain ⟨w, hw⟩ : ∃ w, L.length * (m + 1) = w + 1 := ⟨L.length * (m + 1) - 1, by rw [Nat.mul_add]; omega⟩
    rw [hw]
    obtain ⟨v, hv, e⟩ := W_ex (L := L) (w := w) b.ne
    have h1 := (b.at hv).1
    have h2 : L.length * m ≤ w - v := by rw [Nat.mul_add] at hw; omega
    have h3 := W_mono b h2
    rw [e]
    omega
/-- the first tick at which person n may come -/
def seek (L : List Int) (n : Nat) : Nat → Nat → Nat
  | 0, t => t
  | f + 1, t => if W L (t + 1) ≤ n then seek L n f (t + 1) else t
def gr (L : List Int) (n : Nat) : Nat := seek L n (L.length * (n + 1)) 0
theorem seek_spec {L : List Int} {n : Nat} : ∀ (f t : Nat), (n : Int) < W L (t + f) → 0 < f → (∀ s, s < t → W L (s + 1) ≤ n) → (n : Int) < W L (seek L n f t + 1) ∧ (∀ s, s < seek L n f t → W L (s + 1) ≤ n) ∧ seek L n f t < t + f
  | 0, t, _, h, _ => by omega
  | f + 1, t, h, _, q => by
    unfold seek
    by_cases c : W L (t + 1) ≤ n
    · rw [if_pos c]
      have hf : 0 < f := by
        rcases Nat.eq_zero_or_pos f with e | e
        · subst e; rw [Nat.zero_add] at h; omega
        · exact e
      have := seek_spec (L := L) (n := n) f (t + 1) (by rw [show t + 1 + f = t + (f + 1) by omega]; exact h) hf fun s hs => by
        by_cases e : s = t
        · subst e; exact c
        · exact q s (by omega)
      exact ⟨this.1, this.2.1, by omega⟩
    · rw [if_neg c]
      exact ⟨by omega, q, by omega⟩
theorem gr_spec {L : List Int} (b : Bd L) (n : Nat) : (n : Int) < W L (gr L n + 1) ∧ (∀ s, s < gr L n → W L (s + 1) ≤ n) ∧ gr L n < L.length * (n + 1) := by
  have := W_far b (n + 1)
  have hn := b.ne
  have q := seek_spec (L := L) (n := n) (L.length * (n + 1)) 0 (by rw [Nat.zero_add]; omega) (by rw [Nat.mul_add]; omega) (fun s h => by omega)
  rw [Nat.zero_add] at q
  exact q
theorem gr_iff {L : List Int} (b : Bd L) {n s : Nat} : gr L n ≤ s ↔ (n : Int) < W L (s + 1) := by
  obtain ⟨h1, h2, _⟩ := gr_spec b n
  refine ⟨fun h => Int.lt_of_lt_of_le h1 (W_mono b (by omega)), fun h => ?_⟩
  refine Nat.le_of_not_lt fun c => ?_
  have := h2 s c
  omega
theorem gr_mono {L : List Int} (b : Bd L) {m n : Nat} (h : m ≤ n) : gr L m ≤ gr L n := by
  rw [gr_iff b]
  have := (gr_spec b n).1
  omega
/-! windows of sorted ticks -/
theorem filter_le {p : Nat → Bool} : ∀ {C : List Nat} {s e : Nat}, (∀ i (h : i < C.length), i < s → p C[i] = false) → (∀ i (h : i < C.length), e ≤ i → p C[i] = false) → (C.filter p).length ≤ e - s
  | [], _, _, _, _ => Nat.zero_le _
  | x :: C, s, e, h1, h2 => by
    by_cases c : p x = true
    · rw [List.filter_cons_of_pos c, List.length_cons]
      have hs : s = 0 := Nat.eq_zero_of_not_pos fun q => by have := h1 0 (by simp) q; simp [c] at this
      have he : 0 < e := Nat.pos_of_ne_zero fun q => by have := h2 0 (by simp) (by omega); simp [c] at this
      have := filter_le (p := p) (C := C) (s := 0) (e := e - 1) (fun i h q => by omega) (fun i h q => by have := h2 (i + 1) (by simpa using h) (by omega); simpa using this)
      omega
    · rw [List.filter_cons_of_neg c]
      have := filter_le (p := p) (C := C) (s := s - 1) (e := e - 1) (fun i h q => by have := h1 (i + 1) (by simpa using h) (by omega); simpa using this) (fun i h q => by have := h2 (i + 1) (by simpa using h) (by omega); simpa using this)
      omega
theorem filter_ge {p : Nat → Bool} : ∀ {C : List Nat} {s e : Nat}, e ≤ C.length → (∀ i (h : i < C.length), s ≤ i → i < e → p C[i] = true) → e - s ≤ (C.filter p).length
  | [], s, e, h, _ => by simp at h; omega
  | x :: C, s, e, h, h1 => by
    by_cases c : s = 0 ∧ 0 < e
    · obtain ⟨rfl, he⟩ := c
      have hx : p x = true := by have := h1 0 (by simp) (Nat.le_refl _) he; simpa using this
      rw [List.filter_cons_of_pos hx, List.length_cons]
      have := filter_ge (p := p) (C := C) (s := 0) (e := e - 1) (by simp at h; omega) (fun i hi _ q => by have := h1 (i + 1) (by simpa using hi) (by omega) (by omega); simpa using this)
      omega
    · have := filter_ge (p := p) (C := C) (s := s - 1) (e := e - 1) (by simp at h; omega) (fun i hi q q2 => by have := h1 (i + 1) (by simpa using hi) (by omega) (by omega); simpa using this)
      have h3 : (C.filter p).length ≤ ((x :: C).filter p).length := by
        by_cases d : p x = true
        · rw [List.filter_cons_of_pos d, List.length_cons]; omega
        · rw [List.filter_cons_of_neg d]; exact Nat.le_refl _
      omega
def inw (a w x : Nat) : Bool := decide (a ≤ x ∧ x < a + w)
theorem inw_iff {a w x : Nat} : inw a w x = true ↔ a ≤ x ∧ x < a + w := decide_eq_true_iff
theorem inw_no {a w x : Nat} : inw a w x = false ↔ ¬ (a ≤ x ∧ x < a + w) := decide_eq_false_iff_not
def cnt (C : List Nat) (a w : Nat) : Nat := (C.filter (inw a w)).length
theorem cnt_split {a u v : Nat} : ∀ C : List Nat, cnt C a (u + v) ≤ cnt C a u + cnt C (a + u) v
  | [] => Nat.zero_le _
  | x :: C => by
    have ih := cnt_split (a := a) (u := u) (v := v) C
    unfold cnt at *
    by_cases c : inw a (u + v) x = true
    · rw [List.filter_cons_of_pos c, List.length_cons]
      have := inw_iff.mp c
      by_cases d : x < a + u
      · rw [List.filter_cons_of_pos (inw_iff.mpr ⟨this.1, d⟩), List.length_cons]
        have : (C.filter (inw (a + u) v)).length ≤ ((x :: C).filter (inw (a + u) v)).length := (List.Sublist.filter _ (List.sublist_cons_self x C)).length_le
        omega
      · rw [List.filter_cons_of_pos (inw_iff.mpr (show a + u ≤ x ∧ x < a + u + v by omega)), List.length_cons]
        have : (C.filter (inw a u)).length ≤ ((x :: C).filter (inw a u)).length := (List.Sublist.filter _ (List.sublist_cons_self x C)).length_le
        omega
    · rw [List.filter_cons_of_neg c]
      have h1 : (C.filter (inw (a + u) v)).length ≤ ((x :: C).filter (inw (a + u) v)).length := (List.Sublist.filter _ (List.sublist_cons_self x C)).length_le
      have h2 : (C.filter (inw a u)).length ≤ ((x :: C).filter (inw a u)).length := (List.Sublist.filter _ (List.sublist_cons_self x C)).length_le
      omega
theorem cnt_zero {C : List Nat} {a : Nat} : cnt C a 0 = 0 := by
  have := filter_le (p := inw a 0) (C := C) (s := 0) (e := 0) (fun i h q => by omega) (fun i h _ => inw_no.mpr (by omega))
  unfold cnt
  omega
theorem cnt_mono {C : List Nat} {a u v : Nat} (h : u ≤ v) : cnt C a u ≤ cnt C a v := by
  unfold cnt
  induction C with
  | nil => exact Nat.le_refl _
  | cons x C ih =>
    by_cases c : inw a u x = true
    · have := inw_iff.mp c
      rw [List.filter_cons_of_pos c, List.filter_cons_of_pos (inw_iff.mpr (by omega)), List.length_cons, List.length_cons]
      omega
    · rw [List.filter_cons_of_neg c]
      exact Nat.le_trans ih (List.Sublist.filter _ (List.sublist_cons_self x C)).length_le
theorem last_ex {P : Nat → Prop} : ∀ n : Nat, (∃ c, c < n ∧ P c) → ∃ d, d < n ∧ P d ∧ ∀ i, d < i → i < n → ¬ P i
  | 0, ⟨c, h, _⟩ => by omega
  | n + 1, ⟨c, h, q⟩ => by
    by_cases d : P n
    · exact ⟨n, by omega, d, fun i h1 h2 => by omega⟩
    · have hc : c < n := Nat.lt_of_le_of_ne (by omega) fun e => d (e ▸ q)
      obtain ⟨m, h1, h2, h3⟩ := last_ex n ⟨c, hc, q⟩
      refine ⟨m, by omega, h2, fun i h4 h5 => ?_⟩
      by_cases e : i = n
      · subst e; exact d
      · exact h3 i h4 (by omega)
theorem first_ex {P : Nat → Prop} (n : Nat) (h : P n) : ∃ m, m ≤ n ∧ P m ∧ ∀ i, i < m → ¬ P i := by
  induction n using Nat.strongRecOn with
  | ind n ih =>
    by_cases c : ∃ m, m < n ∧ P m
    · obtain ⟨m, h1, h2⟩ := c
      obtain ⟨k, h3, h4⟩ := ih m h1 h2
      exact ⟨k, by omega, h4⟩
    · exact ⟨n, Nat.le_refl _, h, fun i hi q => c ⟨i, hi, q⟩⟩
/-- ticks of people -/
structure Tk (C : List Nat) : Prop where
  hl : C.length ≤ 600
  hb : ∀ c ∈ C, c ≤ 10000
  h : ∀ (i : Nat) (h : i + 1 < C.length), C[i] ≤ C[i + 1]
theorem Tk.le {C : List Nat} (t : Tk C) {i : Nat} : ∀ {j : Nat} (hj : j < C.length) (h : i ≤ j), C[i] ≤ C[j]
  | 0, hj, h => by
    have : i = 0 := by omega
    subst this
    exact Nat.le_refl _
  | j + 1, hj, h => by
    by_cases c : i = j + 1
    · subst c; exact Nat.le_refl _
    · exact Nat.le_trans (t.le (j := j) (by omega) (by omega)) (t.h j hj)
theorem getD_lt {C : List Nat} {i : Nat} (h : i < C.length) : C.getD i 0 = C[i] := by rw [List.getD_eq_getElem?_getD, List.getElem?_eq_getElem h]; rfl
def itm (L : List Int) (j : Nat) : Nat := (L.getD j 0).toNat
theorem itm_eq {L : List Int} (b : Bd L) {j : Nat} (h : j < L.length) : L[j] = (itm L j : Int) := by
  have := (b.at h).1
  unfold itm
  rw [List.getD_eq_getElem?_getD, List.getElem?_eq_getElem h]
  show L[j] = ((L[j]).toNat : Int)
  omega
def Hit (L : List Int) (C : List Nat) (j i : Nat) : Prop := itm L j ≤ i ∧ i < C.length ∧ C.getD i 0 < C.getD (i - itm L j) 0 + (j + 1)
theorem win_hit {L : List Int} {C : List Nat} (t : Tk C) {j a : Nat} (h : itm L j < cnt C a (j + 1)) : ∃ d, Hit L C j d ∧ ∃ hd : d < C.length, a ≤ C[d] ∧ C[d] < a + (j + 1) := by
  have hex : ∃ c, c < C.length ∧ (∃ hc : c < C.length, inw a (j + 1) C[c] = true) := by
    refine Classical.byContradiction fun hn => ?_
    have := filter_le (p := inw a (j + 1)) (C := C) (s := 0) (e := 0) (fun i h q => by omega) (fun i hi _ => Bool.eq_false_iff.mpr fun q => hn ⟨i, hi, hi, q⟩)
    unfold cnt at h
    omega
  obtain ⟨d, hd, ⟨_, hw⟩, hlast⟩ := last_ex _ hex
  have hw := inw_iff.mp hw
  have key : itm L j ≤ d ∧ a ≤ C[d - itm L j] := by
    refine Classical.byContradiction fun hn => ?_
    have hs : (C.filter (inw a (j + 1))).length ≤ (d + 1) - (d + 1 - itm L j) := filter_le (fun i hi q => inw_no.mpr fun q2 => hn ⟨by omega, ?_⟩) (fun i hi q => Bool.eq_false_iff.mpr fun q2 => hlast i (by omega) hi ⟨hi, q2⟩)
    · unfold cnt at h
      omega
    · exact Nat.le_trans q2.1 (t.le (by omega) (by omega))
  refine ⟨d, ⟨key.1, hd, ?_⟩, hd, hw.1, hw.2⟩
  rw [getD_lt hd, getD_lt (by omega)]
  omega
theorem hit_win {L : List Int} {C : List Nat} (t : Tk C) {j i : Nat} (h : Hit L C j i) (hi : i < C.length) : itm L j < cnt C (C[i] - j) (j + 1) := by
  obtain ⟨h1, _, h3⟩ := h
  rw [getD_lt hi, getD_lt (by omega)] at h3
  have := filter_ge (p := inw (C[i] - j) (j + 1)) (C := C) (s := i - itm L j) (e := i + 1) (by omega) fun k hk q1 q2 => inw_iff.mpr (by
    have a1 := t.le (i := i - itm L j) (j := k) hk q1
    have a2 := t.le (i := k) (j := i) hi (by omega)
    omega)
  unfold cnt
  omega
/-- the law's first window is the program's first person too many -/
theorem win_first {L : List Int} {C : List Nat} (t : Tk C) {j c : Nat} (hc : c < C.length) (h : itm L j < cnt C (C[c] - j) (j + 1)) (hf : ∀ c', (h' : c' < c) → ¬ itm L j < cnt C (C[c']'(by omega) - j) (j + 1)) :
    ∃ i, Hit L C j i ∧ (∀ i', i' < i → ¬ Hit L C j i') ∧ C.getD i 0 - j = C[c] - j := by
  obtain ⟨d, hd, hdl, w1, w2⟩ := win_hit t h
  obtain ⟨i, h1, h2, h3⟩ := first_ex (P := Hit L C j) d hd
  have hil : i < C.length := h2.2.1
  have hci : c ≤ i := Nat.le_of_not_lt fun q => hf i q (hit_win t h2 hil)
  have a1 := t.le (i := c) (j := i) hil hci
  have a2 := t.le (i := i) (j := d) hdl h1
  refine ⟨i, h2, h3, ?_⟩
  rw [getD_lt hil]
  omega
/-- who keeps to a bound is within its cover -/
theorem cover {L : List Int} (b : Bd L) {C : List Nat} (t : Tk C) (h : ∀ j, j < L.length → ∀ i, ¬ Hit L C j i) : ∀ (n w a : Nat), w ≤ n → (cnt C a w : Int) ≤ W L w
  | _, 0, a, _ => by rw [cnt_zero, W_zero]; exact Int.le_refl _
  | 0, w + 1, a, hw => by omega
  | n + 1, w + 1, a, hw => by
    obtain ⟨v, hv, e⟩ := W_ex (L := L) (w := w) b.ne
    have hj : ∀ a, cnt C a (v + 1) ≤ itm L v := fun a => Nat.le_of_not_lt fun q => by
      obtain ⟨d, hd, _⟩ := win_hit t q
      exact h v hv d hd
    have hi := itm_eq b hv
    by_cases c : v ≤ w
    · have h1 := cnt_split (a := a) (u := v + 1) (v := w - v) C
      rw [show v + 1 + (w - v) = w + 1 by omega] at h1
      have h2 := cover b t h n (w - v) (a + (v + 1)) (by omega)
      have h3 := hj a
      omega
    · have h1 := cnt_mono (C := C) (a := a) (u := w + 1) (v := v + 1) (by omega)
      have h3 := hj a
      have h4 := W_nonneg b (w - v) (w - v) (Nat.le_refl _)
      omega
/-! sorted lists of naturals -/
def srt (X : List Nat) : List Nat := X.mergeSort fun a b => decide (a ≤ b)
theorem bi_sorted_nD {env : Ev} {X : List Nat} : biE .sorted env [.own (.nd .ls (fL (nD X)))] = some (env, .own (.nd .ls (fL (nD (srt X))))) := by
  rw [Q.bi_sorted (ds := nD X) (l := X.map fun n : Nat => (n : Int)) (by simp) (by rw [nD_iD]; simp)]
  have e : sortI (X.map fun n : Nat => (n : Int)) = (srt X).map fun n : Nat => (n : Int) := by
    unfold sortI srt
    rw [List.map_mergeSort (s := fun a b : Int => decide (a ≤ b))]
    intro a _ b _
    simp
  rw [e]
  show some (env, newList (iD ((srt X).map fun n : Nat => (n : Int)))) = _
  rw [← nD_iD]
  rfl
theorem srt_id {X : List Nat} (h : X.Pairwise (· ≤ ·)) : srt X = X := List.mergeSort_of_pairwise (h.imp fun h => by simpa using h)
theorem srt_pw {X : List Nat} : (srt X).Pairwise (· ≤ ·) := by
  have := List.pairwise_mergeSort (le := fun a b : Nat => decide (a ≤ b)) (fun a b c h1 h2 => by simp at *; omega) (fun a b => by simp; omega) X
  exact this.imp fun h => by simpa using h
@[simp] theorem srt_length {X : List Nat} : (srt X).length = X.length := List.length_mergeSort ..
theorem srt_mem {X : List Nat} {x : Nat} : x ∈ srt X ↔ x ∈ X := List.mem_mergeSort
theorem Tk.pw {C : List Nat} (t : Tk C) : C.Pairwise (· ≤ ·) := List.pairwise_iff_getElem.mpr fun i j hi hj h => t.le hj (by omega)
/-! small data -/
theorem depthAll_le {n : Nat} : ∀ {xs : List Dt}, (∀ x ∈ xs, x.depth ≤ n) → PyData.depthAll xs ≤ n
  | [], _ => Nat.zero_le _
  | x :: xs, h => by
    have h1 := h x (.head _)
    have h2 := depthAll_le (xs := xs) fun y hy => h y (.tail _ hy)
    show max x.depth (PyData.depthAll xs) ≤ n
    omega
/-- small at some depth and weight -/
structure Sml (d : Dt) (k w : Nat) : Prop where
  hs : smD d = true
  hd : d.depth ≤ k
  hw : wtD d ≤ w
theorem Sml.int {i : Int} (h : i.natAbs < 10 ^ 30) : Sml (.int i) 0 40 := ⟨by simpa [smD] using h, Nat.le_refl _, Nat.le_refl _⟩
theorem Sml.none : Sml .none 0 40 := ⟨rfl, Nat.le_refl _, Nat.le_refl _⟩
theorem Sml.bool {b : Bool} : Sml (.bool b) 0 40 := ⟨rfl, Nat.le_refl _, Nat.le_refl _⟩
theorem Sml.str {s : Str} (h : smD (.str s) = true) : Sml (.str s) 0 40 := ⟨h, Nat.le_refl _, Nat.le_refl _⟩
theorem Sml.tup {xs : List Dt} {k w m : Nat} (h : ∀ x ∈ xs, Sml x k w) (hm : xs.length ≤ m) : Sml (.tuple xs) (k + 1) ((w + 2) * m + 4) := by
  refine ⟨by rw [smD, smAll_iff]; exact fun x hx => (h x hx).hs, ?_, ?_⟩
  · have := depthAll_le (n := k) fun x hx => (h x hx).hd
    show PyData.depthAll xs + 1 ≤ _
    omega
  · have := wtAll_le (n := w) fun x hx => (h x hx).hw
    have := Nat.mul_le_mul_left (w + 2) hm
    simp only [wtD]
    omega
theorem Sml.lst {xs : List Dt} {k w m : Nat} (h : ∀ x ∈ xs, Sml x k w) (hm : xs.length ≤ m) : Sml (.list xs) (k + 1) ((w + 2) * m + 4) := by
  refine ⟨by rw [smD, smAll_iff]; exact fun x hx => (h x hx).hs, ?_, ?_⟩
  · have := depthAll_le (n := k) fun x hx => (h x hx).hd
    show PyData.depthAll xs + 1 ≤ _
    omega
  · have := wtAll_le (n := w) fun x hx => (h x hx).hw
    have := Nat.mul_le_mul_left (w + 2) hm
    simp only [wtD]
    omega
theorem Sml.mono {d : Dt} {k w k' w' : Nat} (h : Sml d k w) (h1 : k ≤ k') (h2 : w ≤ w') : Sml d k' w' := ⟨h.hs, Nat.le_trans h.hd h1, Nat.le_trans h.hw h2⟩
theorem Sml.nD {C : List Nat} {m : Nat} (h : ∀ c ∈ C, c ≤ 1000000) (hm : C.length ≤ m) : Sml (.tuple (nD C)) 1 (42 * m + 4) := by
  refine Sml.tup (k := 0) (w := 40) (fun x hx => ?_) (by simpa using hm)
  obtain ⟨c, hc, rfl⟩ := List.mem_map.mp hx
  have := h c hc
  exact .int (by omega)
theorem Sml.iD {L : List Int} {m : Nat} (h : ∀ c ∈ L, -1000000 ≤ c ∧ c ≤ 1000000) (hm : L.length ≤ m) : Sml (.tuple (iD L)) 1 (42 * m + 4) := by
  refine Sml.tup (k := 0) (w := 40) (fun x hx => ?_) (by simpa using hm)
  obtain ⟨c, hc, rfl⟩ := List.mem_map.mp hx
  have := h c hc
  exact .int (by omega)
theorem Sml.ok {d : Dt} {k w : Nat} (h : Sml d k w) (h1 : k ≤ 40) (h2 : w ≤ 10000000) : reprOk d := reprOk_of h.hs (Nat.le_trans h.hd h1) (Nat.le_trans h.hw h2)
theorem eqv_nilT {C : List Nat} {env : Ev} : cmpE .NotEq env (.fr (.tuple (nD C))) (.fr (.tuple [])) = some (!decide (C = [])) := by
  have e : nD C = iD (C.map fun n : Nat => (n : Int)) := nD_iD
  rw [e, Q.cmp_neD (a := .tuple (iD (C.map fun n : Nat => (n : Int)))) (b := .tuple (iD [])) rfl rfl shaped_tints shaped_tints]
  simp only [PyData.eqv, eqv_ints]
  simp
end V
end MP
namespace MP
open PySem L2
namespace R
/-! a stair's places, numbered: K t of them lie below tick t -/
def K (B : List Int) : Nat → Nat
  | 0 => 0
  | t + 1 => K B t + (beatAt B t).toNat
theorem K_mono {B : List Int} {s t : Nat} (h : s ≤ t) : K B s ≤ K B t := by
  induction t with
  | zero => rw [show s = 0 by omega]; exact Nat.le_refl _
  | succ t ih =>
    by_cases c : s ≤ t
    · exact Nat.le_trans (ih c) (Nat.le_add_right _ _)
    · rw [show s = t + 1 by omega]; exact Nat.le_refl _
theorem K_succ {B : List Int} (h : Bt B) {t : Nat} : (K B (t + 1) : Int) = K B t + beatAt B t := by
  have := h.nonneg t
  show ((K B t + (beatAt B t).toNat : Nat) : Int) = _
  omega
theorem adv_slot {B : List Int} (h : Bt B) : ∀ (n t u : Nat), K B (adv B n (t, u)).1 + (adv B n (t, u)).2 = K B t + u
  | 0, t, u => rfl
  | n + 1, t, u => by
    unfold adv
    by_cases c : (u : Int) = beatAt B t
    · rw [if_pos c, adv_slot h n (t + 1) 0]
      have := K_succ h (t := t)
      omega
    · rw [if_neg c]
/-- the place that the next person takes: one of tick f -/
theorem nxt_slot {B : List Int} (h : Bt B) {s : Nat × Nat} {c : Nat} (q : (s.2 : Int) ≤ beatAt B s.1) : K B (nxt B s c).1 + (nxt B s c).2 = max (K B s.1 + s.2) (K B c) ∧ K B (nxt B s c).1 + (nxt B s c).2 < K B ((nxt B s c).1 + 1) := by
  have h1 := nxt_stable h (s := s) (c := c)
  have h2 := nxt_le h (c := c) q
  have h3 := K_succ h (t := (nxt B s c).1)
  refine ⟨?_, by omega⟩
  unfold nxt
  by_cases d : s.1 < c
  · rw [if_pos d, adv_slot h]
    have := K_mono (B := B) (s := s.1 + 1) (t := c) (by omega)
    have := K_succ h (t := s.1)
    omega
  · rw [if_neg d]
    have e := adv_slot h (2 * B.length + 1) s.1 s.2
    have := K_mono (B := B) (s := c) (t := s.1) (by omega)
    have e2 : (s.1, s.2) = s := rfl
    rw [e2] at e
    omega
/-- person i's place -/
def sl (B : List Int) (C : List Nat) (i : Nat) : Nat := max (K B (st B C i).1 + (st B C i).2) (K B (C.getD i 0))
theorem sl_next {B : List Int} (h : Bt B) {C : List Nat} {i : Nat} : K B (st B C (i + 1)).1 + (st B C (i + 1)).2 = sl B C i + 1 := by
  have := (nxt_slot h (c := C.getD i 0) (st_le h (C := C) (i := i))).1
  show K B (nxt B (st B C i) (C.getD i 0)).1 + ((nxt B (st B C i) (C.getD i 0)).2 + 1) = _
  unfold sl
  omega
theorem sl_zero {B : List Int} {C : List Nat} : sl B C 0 = K B (C.getD 0 0) := by
  show max 0 (K B (C.getD 0 0)) = _
  exact Nat.max_eq_right (Nat.zero_le _)
theorem sl_succ {B : List Int} (h : Bt B) {C : List Nat} {i : Nat} : sl B C (i + 1) = max (sl B C i + 1) (K B (C.getD (i + 1) 0)) := by
  rw [sl, sl_next h]
/-- when person i goes -/
theorem sl_tick {B : List Int} (h : Bt B) {C : List Nat} {i : Nat} : K B (st B C (i + 1)).1 ≤ sl B C i ∧ sl B C i < K B ((st B C (i + 1)).1 + 1) := by
  have q := nxt_slot h (c := C.getD i 0) (st_le h (C := C) (i := i))
  show K B (nxt B (st B C i) (C.getD i 0)).1 ≤ sl B C i ∧ sl B C i < K B ((nxt B (st B C i) (C.getD i 0)).1 + 1)
  unfold sl
  omega
theorem tick_le {B : List Int} {g s d : Nat} (h1 : K B g ≤ s) (h2 : s < K B (g + 1)) : g ≤ d ↔ s < K B (d + 1) := by
  refine ⟨fun h => Nat.lt_of_lt_of_le h2 (K_mono (by omega)), fun h => Nat.le_of_not_lt fun c => ?_⟩
  have := K_mono (B := B) (s := d + 1) (t := g) (by omega)
  omega
theorem go_le {B : List Int} (h : Bt B) {C : List Nat} {i d : Nat} : (st B C (i + 1)).1 ≤ d ↔ sl B C i < K B (d + 1) := tick_le (sl_tick h).1 (sl_tick h).2
/-! backward: rr D i: the places that are left below person i, counted from the last one -/
/-- dues as the tick behind: 0: before all ticks -/
def rr (B : List Int) (n : Nat) (E : Nat → Nat) : Nat → Nat
  | 0 => K B (E (n - 1))
  | m + 1 => min (rr B n E m) (K B (E (n - 1 - m))) - 1
/-- the place that person i takes, backward (one more; 0: none) -/
def bk (B : List Int) (n : Nat) (E : Nat → Nat) (i : Nat) : Nat := min (rr B n E (n - 1 - i)) (K B (E i))
theorem bk_succ {B : List Int} {n : Nat} {E : Nat → Nat} {i : Nat} (h : i + 1 < n) : bk B n E i = min (bk B n E (i + 1) - 1) (K B (E i)) := by
  unfold bk
  rw [show n - 1 - i = (n - 1 - (i + 1)) + 1 by omega]
  show min (min (rr B n E (n - 1 - (i + 1))) (K B (E (n - 1 - (n - 1 - (i + 1))))) - 1) _ = _
  rw [show n - 1 - (n - 1 - (i + 1)) = i + 1 by omega]
theorem bk_last {B : List Int} {n : Nat} {E : Nat → Nat} (h : 0 < n) : bk B n E (n - 1) = K B (E (n - 1)) := by
  unfold bk
  rw [show n - 1 - (n - 1) = 0 by omega]
  show min (K B (E (n - 1))) _ = _
  exact Nat.min_self _
/-- all go before their dues exactly if all come before the tick of the backward place -/
theorem in_time {B : List Int} (h : Bt B) {C : List Nat} {E : Nat → Nat} : (∀ i, i < C.length → sl B C i < K B (E i)) ↔ (∀ i, i < C.length → K B (C.getD i 0) < bk B C.length E i) := by
  constructor
  · intro hs
    have key : ∀ m i, i + m + 1 = C.length → sl B C i < bk B C.length E i := by
      intro m
      induction m with
      | zero =>
        intro i hi
        have := hs i (by omega)
        rw [show i = C.length - 1 by omega, bk_last (by omega)]
        rw [show i = C.length - 1 by omega] at this
        exact this
      | succ m ih =>
        intro i hi
        have h1 := ih (i + 1) (by omega)
        have h2 := sl_succ h (C := C) (i := i)
        have h3 := hs i (by omega)
        rw [bk_succ (by omega)]
        omega
    intro i hi
    have := key (C.length - 1 - i) i (by omega)
    have : K B (C.getD i 0) ≤ sl B C i := Nat.le_max_right _ _
    omega
  · intro hk
    have key : ∀ i, i < C.length → sl B C i < bk B C.length E i := by
      intro i
      induction i with
      | zero =>
        intro hi
        rw [sl_zero]
        exact hk 0 hi
      | succ i ih =>
        intro hi
        have h1 := ih (by omega)
        have h2 := hk (i + 1) hi
        rw [bk_succ hi] at h1
        rw [sl_succ h]
        omega
    intro i hi
    have := key i hi
    have : bk B C.length E i ≤ K B (E i) := Nat.min_le_right _ _
    omega
end R
end MP
namespace MP
open PySem L2
namespace R
/-! the latest ticks -/
theorem sl_mono {B : List Int} (h : Bt B) {C C' : List Nat} (q : ∀ i, C.getD i 0 ≤ C'.getD i 0) : ∀ i, sl B C i ≤ sl B C' i
  | 0 => by rw [sl_zero, sl_zero]; exact K_mono (q 0)
  | i + 1 => by
    have := sl_mono h q i
    have := K_mono (B := B) (q (i + 1))
    rw [sl_succ h, sl_succ h]
    omega
theorem goes_at {B : List Int} {C : List Nat} {i : Nat} (h : i < C.length) : (goes B C).getD i 0 = (st B C (i + 1)).1 := by
  rw [List.getD_eq_getElem?_getD, List.getElem?_eq_getElem (by simpa using h)]
  simp [goes]
theorem goes_far {B : List Int} {C : List Nat} {i : Nat} (h : ¬ i < C.length) : (goes B C).getD i 0 = 0 := by
  rw [List.getD_eq_getElem?_getD, List.getElem?_eq_none (by simpa using h)]; rfl
theorem goes_mono {B : List Int} (h : Bt B) {C C' : List Nat} (hl : C.length = C'.length) (q : ∀ i, C.getD i 0 ≤ C'.getD i 0) (i : Nat) : (goes B C).getD i 0 ≤ (goes B C').getD i 0 := by
  by_cases c : i < C.length
  · rw [goes_at c, goes_at (by omega), go_le h]
    have := sl_mono h q i
    have := (sl_tick h (C := C') (i := i)).2
    omega
  · rw [goes_far c]
    exact Nat.zero_le _
theorem map_at {C : List Nat} {t i : Nat} : (C.map (· + t)).getD i 0 = if i < C.length then C.getD i 0 + t else 0 := by
  simp only [List.getD_eq_getElem?_getD]
  by_cases c : i < C.length
  · rw [if_pos c, List.getElem?_eq_getElem (by simpa using c), List.getElem?_eq_getElem c]; simp
  · rw [if_neg c, List.getElem?_eq_none (by simpa using c)]; rfl
theorem cm_mono {W : Rw} (b : Rk W) {T T' : List Nat} (hl : T.length = T'.length) (q : ∀ i, T.getD i 0 ≤ T'.getD i 0) : ∀ j, j ≤ W.length → ∀ i, (cm W T j).getD i 0 ≤ (cm W T' j).getD i 0
  | 0, _, i => q i
  | j + 1, hj, i => by
    have ih := cm_mono b hl q j (by omega)
    have hb := b.b _ (b.at (j := j) (by omega))
    have := goes_mono hb (by simp [hl]) ih i
    unfold cm
    rw [map_at, map_at]
    simp only [goes_length, cm_length, hl]
    split <;> omega
/-- the ticks up to a due -/
def eE (D : List Int) (i : Nat) : Nat := (D.getD i 0 + 1).toNat
/-- X: the latest ticks for the dues D -/
structure IsL (B : List Int) (D : List Int) (X : List Nat) : Prop where
  l : X.length = D.length
  h : ∀ i, i < D.length → K B (X.getD i 0) < bk B D.length (eE D) i ∧ bk B D.length (eE D) i ≤ K B (X.getD i 0 + 1)
/-- all go by their dues -/
def By (C : List Nat) (D : List Int) : Prop := ∀ i, i < D.length → (C.getD i 0 : Int) ≤ D.getD i 0
def Le (C X : List Nat) : Prop := ∀ i, i < C.length → C.getD i 0 ≤ X.getD i 0
theorem by_goes {B : List Int} (h : Bt B) {C : List Nat} {D : List Int} (hl : C.length = D.length) : By (goes B C) D ↔ ∀ i, i < C.length → K B (C.getD i 0) < bk B C.length (eE D) i := by
  rw [← in_time h, By, hl]
  refine forall_congr' fun i => ?_
  refine forall_congr' fun hi => ?_
  rw [goes_at (by omega)]
  unfold eE
  by_cases c : 0 ≤ D.getD i 0
  · obtain ⟨d, hd⟩ := Int.eq_ofNat_of_zero_le c
    rw [hd, show ((d : Int) + 1).toNat = d + 1 by omega, ← go_le h]
    omega
  · have e : (D.getD i 0 + 1).toNat = 0 := by omega
    rw [e]
    refine ⟨fun q => by omega, fun q => ?_⟩
    exact absurd q (Nat.not_lt_zero _)
theorem IsL.iff {B : List Int} (h : Bt B) {D : List Int} {X : List Nat} (q : IsL B D X) {C : List Nat} (hl : C.length = D.length) : By (goes B C) D ↔ Le C X := by
  rw [by_goes h hl]
  refine forall_congr' fun i => ?_
  refine forall_congr' fun hi => ?_
  obtain ⟨q1, q2⟩ := q.h i (by omega)
  rw [hl]
  refine ⟨fun x => Nat.le_of_not_lt fun c => ?_, fun x => ?_⟩
  · have := K_mono (B := B) (s := X.getD i 0 + 1) (t := C.getD i 0) (by omega)
    omega
  · have := K_mono (B := B) x
    omega
theorem not_by {B : List Int} (h : Bt B) {D : List Int} {i : Nat} (hi : i < D.length) (q : bk B D.length (eE D) i = 0) {C : List Nat} (hl : C.length = D.length) : ¬ By (goes B C) D := by
  rw [by_goes h hl]
  intro x
  have := x i (by omega)
  rw [hl, q] at this
  exact Nat.not_lt_zero _ this
theorem bk_le {B : List Int} {n : Nat} {E : Nat → Nat} : ∀ {m i : Nat}, i + m < n → bk B n E i + m ≤ bk B n E (i + m) ∨ bk B n E i = 0
  | 0, i, h => .inl (Nat.le_refl _)
  | m + 1, i, h => by
    have e := bk_succ (B := B) (E := E) (i := i) (n := n) (by omega)
    rcases bk_le (B := B) (n := n) (E := E) (m := m) (i := i + 1) (by omega) with q | q
    · rw [show i + 1 + m = i + (m + 1) by omega] at q
      omega
    · omega
theorem IsL.pos {B : List Int} {D : List Int} {X : List Nat} (q : IsL B D X) {i : Nat} (h : i < D.length) : 0 < bk B D.length (eE D) i := by have := (q.h i h).1; omega
theorem IsL.step {B : List Int} {D : List Int} {X : List Nat} (q : IsL B D X) {m i : Nat} (h : i + m < D.length) : bk B D.length (eE D) i + m ≤ bk B D.length (eE D) (i + m) := by
  rcases bk_le (B := B) (E := eE D) h with x | x
  · exact x
  · have := q.pos (i := i) (by omega); omega
theorem IsL.sorted {B : List Int} {D : List Int} {X : List Nat} (q : IsL B D X) {m i : Nat} (h : i + m < D.length) : X.getD i 0 ≤ X.getD (i + m) 0 := by
  have h1 := q.step h
  have h2 := q.h i (by omega)
  have h3 := q.h (i + m) h
  refine Nat.le_of_not_lt fun c => ?_
  have := K_mono (B := B) (s := X.getD (i + m) 0 + 1) (t := X.getD i 0) (by omega)
  omega
/-- where the least is met -/
theorem bk_at {B : List Int} {n : Nat} {E : Nat → Nat} : ∀ {k i : Nat}, i + k + 1 = n → ∃ m, i + m < n ∧ K B (E (i + m)) ≤ bk B n E i + m
  | 0, i, h => by
    refine ⟨0, by omega, ?_⟩
    rw [show i = n - 1 by omega, bk_last (by omega)]
    exact Nat.le_refl _
  | k + 1, i, h => by
    have e := bk_succ (B := B) (E := E) (i := i) (n := n) (by omega)
    by_cases c : bk B n E (i + 1) - 1 ≤ K B (E i)
    · obtain ⟨m, h1, h2⟩ := bk_at (B := B) (E := E) (n := n) (k := k) (i := i + 1) (by omega)
      refine ⟨m + 1, by omega, ?_⟩
      rw [show i + (m + 1) = i + 1 + m by omega]
      omega
    · refine ⟨0, by omega, ?_⟩
      have : bk B n E i = K B (E i) := by omega
      rw [Nat.add_zero, Nat.add_zero, this]
      exact Nat.le_refl _
/-! beats of one item -/
theorem K_one {c : Int} (h : 0 ≤ c) : ∀ t, K [c] t = c.toNat * t
  | 0 => rfl
  | t + 1 => by
    have e : beatAt [c] t = c := by simp [beatAt, Nat.mod_one]
    show K [c] t + (beatAt [c] t).toNat = _
    rw [K_one h t, e, Nat.mul_add]
    omega
/-- person i + c comes later than person i -/
def Gp (c : Nat) (C : List Nat) : Prop := ∀ i, i + c < C.length → C.getD i 0 + 1 ≤ C.getD (i + c) 0
theorem IsL.gap {c : Int} (h : 1 ≤ c) {D : List Int} {X : List Nat} (q : IsL [c] D X) : Gp c.toNat X := by
  intro i hi
  rw [q.l] at hi
  have h1 := q.step hi
  have h2 := (q.h i (by omega)).1
  have h3 := (q.h (i + c.toNat) hi).2
  rw [K_one (by omega)] at h2 h3
  generalize c.toNat = d at *
  refine Nat.le_of_not_lt fun x => ?_
  have := Nat.mul_le_mul_left d (show X.getD (i + d) 0 + 1 ≤ X.getD i 0 + 1 by omega)
  rw [Nat.mul_add d (X.getD i 0)] at this
  omega
theorem IsL.gap' {c : Int} (h : 1 ≤ c) {D : List Int} {X : List Nat} (q : IsL [c] D X) {e : Nat} (g : ∀ i, i + e < D.length → D.getD i 0 + 1 ≤ D.getD (i + e) 0) : Gp e X := by
  intro i hi
  rw [q.l] at hi
  obtain ⟨m, h1, h2⟩ := bk_at (B := [c]) (E := eE D) (n := D.length) (k := D.length - 1 - (i + e)) (i := i + e) (by omega)
  have h3 := (q.h i (by omega)).1
  have h4 := (q.h (i + e) hi).2
  have h5 := q.step (i := i) (m := m) (by omega)
  have h6 : bk [c] D.length (eE D) (i + m) ≤ K [c] (eE D (i + m)) := Nat.min_le_right _ _
  have h7 := g (i + m) (by omega)
  have h8 : eE D (i + m) + 1 ≤ eE D (i + e + m) := by
    have hp : 0 < K [c] (eE D (i + m)) := by have := q.pos (i := i + m) (by omega); omega
    rw [K_one (by omega)] at hp
    have : 0 < eE D (i + m) := Nat.pos_of_ne_zero fun z => by rw [z] at hp; simp at hp
    rw [show i + m + e = i + e + m by omega] at h7
    unfold eE at *
    omega
  rw [K_one (by omega)] at h2 h3 h4 h6
  generalize c.toNat = d at *
  have h9 := Nat.mul_le_mul_left d h8
  rw [Nat.mul_add] at h9
  refine Nat.le_of_not_lt fun x => ?_
  have := Nat.mul_le_mul_left d (show X.getD (i + e) 0 + 1 ≤ X.getD i 0 + 1 by omega)
  rw [Nat.mul_add d (X.getD i 0)] at this
  omega
theorem Gp.div {c : Nat} {C : List Nat} (hc : 1 ≤ c) (g : Gp c C) (hs : ∀ i, i + 1 < C.length → C.getD i 0 ≤ C.getD (i + 1) 0) {i : Nat} : ∀ m, i + m < C.length → C.getD i 0 + m / c ≤ C.getD (i + m) 0 := by
  intro m
  induction m using Nat.strongRecOn with
  | ind m ih =>
    intro hm
    by_cases d : m < c
    · rw [Nat.div_eq_of_lt d]
      have key : ∀ k, i + k < C.length → C.getD i 0 ≤ C.getD (i + k) 0 := by
        intro k
        induction k with
        | zero => intro _; exact Nat.le_refl _
        | succ k ih => intro hk; exact Nat.le_trans (ih (by omega)) (hs (i + k) hk)
      exact key m hm
    · have h1 := ih (m - c) (by omega) (by omega)
      have h2 := g (i + (m - c)) (by omega)
      rw [show i + (m - c) + c = i + m by omega] at h2
      have : m / c = (m - c) / c + 1 := by
        rw [Nat.div_eq_sub_div (by omega) (by omega)]
      omega
/-- nobody waits -/
theorem goes_gap {c : Int} (h : 1 ≤ c) (hb : Bt [c]) {C : List Nat} (g : Gp c.toNat C) (hs : ∀ i, i + 1 < C.length → C.getD i 0 ≤ C.getD (i + 1) 0) : goes [c] C = C := by
  have hD : ∀ i, (C.map fun x : Nat => (x : Int)).getD i 0 = (C.getD i 0 : Int) := fun i => by
    simp only [List.getD_eq_getElem?_getD, List.getElem?_map]
    cases C[i]? <;> rfl
  have key : By (goes [c] C) (C.map fun x : Nat => (x : Int)) := by
    rw [by_goes hb (by simp)]
    intro i hi
    obtain ⟨m, h1, h2⟩ := bk_at (B := [c]) (E := eE (C.map fun x : Nat => (x : Int))) (n := C.length) (k := C.length - 1 - i) (i := i) (by omega)
    have h3 := g.div (by omega) hs m h1
    have e : eE (C.map fun x : Nat => (x : Int)) (i + m) = C.getD (i + m) 0 + 1 := by unfold eE; rw [hD]; omega
    rw [e, K_one (by omega)] at h2
    rw [K_one (by omega)]
    have hd : 1 ≤ c.toNat := by omega
    generalize c.toNat = d at *
    have h4 := Nat.mul_le_mul_left d (show C.getD i 0 + m / d + 1 ≤ C.getD (i + m) 0 + 1 by omega)
    have h5 : m < d * (m / d + 1) := Nat.lt_mul_div_succ m (show 0 < d by omega)
    rw [show C.getD i 0 + m / d + 1 = C.getD i 0 + (m / d + 1) by omega, Nat.mul_add d (C.getD i 0)] at h4
    omega
  refine List.ext_getElem (by simp) fun i h1 h2 => ?_
  have a := key i (by simpa using h2)
  rw [hD] at a
  rw [goes_at h2] at a
  have b := (nxt_go (B := [c]) (s := st [c] C i) (c := C.getD i 0)).2.1
  have e : (goes [c] C)[i] = (st [c] C (i + 1)).1 := goes_get h1
  have e2 : C.getD i 0 = C[i] := by rw [List.getD_eq_getElem?_getD, List.getElem?_eq_getElem h2]; rfl
  have b2 : C.getD i 0 ≤ (st [c] C (i + 1)).1 := b
  omega
theorem IsL.le {B : List Int} {D : List Int} {X : List Nat} (q : IsL B D X) {i : Nat} (h : i < D.length) : (X.getD i 0 : Int) ≤ D.getD i 0 := by
  have h1 := (q.h i h).1
  have h2 : bk B D.length (eE D) i ≤ K B (eE D i) := Nat.min_le_right _ _
  refine Int.le_of_not_gt fun c => ?_
  have := K_mono (B := B) (s := eE D i) (t := X.getD i 0) (by unfold eE; omega)
  omega
/-! the backward loop -/
structure LI (B : List Int) (D : List Int) (k : Nat) (F : List Nat) (t : Int) (u : Nat) : Prop where
  l : F.length = k
  f : ∀ j, j < k → K B (F.getD j 0) < bk B D.length (eE D) (D.length - 1 - j) ∧ bk B D.length (eE D) (D.length - 1 - j) ≤ K B (F.getD j 0 + 1)
  r : K B (t + 1).toNat = rr B D.length (eE D) k + u
  u1 : 0 ≤ t → (u : Int) ≤ beatAt B t.toNat
  u2 : t < 0 → u = 0
  t1 : t ≤ 1000000
theorem LI.zero {B : List Int} (h : Bt B) {D : List Int} (hD : ∀ i, D.getD i 0 ≤ 1000000) : LI B D 0 [] (D.getD (D.length - 1) 0) 0 :=
  ⟨rfl, fun j hj => by omega, rfl, fun _ => h.nonneg _, fun _ => rfl, hD _⟩
/-- in the middle of a turn: bk places are left -/
structure LJ (B : List Int) (b : Nat) (t : Int) (u : Nat) : Prop where
  r : K B (t + 1).toNat = b + u
  u1 : 0 ≤ t → (u : Int) ≤ beatAt B t.toNat
  u2 : t < 0 → u = 0
  t1 : t ≤ 1000000
theorem LI.turn {B : List Int} (h : Bt B) {D : List Int} (hD : ∀ i, D.getD i 0 ≤ 1000000) {k : Nat} {F : List Nat} {t : Int} {u : Nat} (q : LI B D k F t u) (hk : k < D.length) :
    (D.getD (D.length - 1 - k) 0 < t → LJ B (bk B D.length (eE D) (D.length - 1 - k)) (D.getD (D.length - 1 - k) 0) 0) ∧ (¬ D.getD (D.length - 1 - k) 0 < t → LJ B (bk B D.length (eE D) (D.length - 1 - k)) t u) := by
  have eb : bk B D.length (eE D) (D.length - 1 - k) = min (rr B D.length (eE D) k) (K B (eE D (D.length - 1 - k))) := by
    unfold bk
    rw [show D.length - 1 - (D.length - 1 - k) = k by omega]
  have ee : eE D (D.length - 1 - k) = (D.getD (D.length - 1 - k) 0 + 1).toNat := rfl
  have hd := hD (D.length - 1 - k)
  rw [eb, ee]
  generalize D.getD (D.length - 1 - k) 0 = d at *
  obtain ⟨_, _, hr, h1, h2, h3⟩ := q
  generalize rr B D.length (eE D) k = R at *
  refine ⟨fun c => ⟨?_, fun _ => h.nonneg _, fun _ => rfl, hd⟩, fun c => ⟨?_, h1, h2, h3⟩⟩
  · by_cases z : 0 ≤ t
    · have e1 : (t + 1).toNat = t.toNat + 1 := by omega
      have e2 := K_succ h (t := t.toNat)
      have := h1 z
      have := K_mono (B := B) (s := (d + 1).toNat) (t := t.toNat) (by omega)
      rw [e1] at hr
      omega
    · rw [show (d + 1).toNat = 0 by omega]
      show 0 = min R 0 + 0
      omega
  · have := K_mono (B := B) (s := (t + 1).toNat) (t := (d + 1).toNat) (by omega)
    omega
theorem LJ.down {B : List Int} (h : Bt B) {b : Nat} {t : Nat} {u : Nat} (q : LJ B b (t : Int) u) (e : (u : Int) = beatAt B t) : LJ B b ((t : Int) - 1) 0 := by
  obtain ⟨hr, h1, h2, h3⟩ := q
  refine ⟨?_, fun _ => h.nonneg _, fun _ => rfl, by omega⟩
  have e2 := K_succ h (t := t)
  rw [show ((t : Int) + 1).toNat = t + 1 by omega] at hr
  rw [show ((t : Int) - 1 + 1).toNat = t by omega]
  omega
theorem LJ.none {B : List Int} {b : Nat} {t : Int} {u : Nat} (q : LJ B b t u) (h : t < 0) : b = 0 := by
  have := q.r
  rw [show (t + 1).toNat = 0 by omega] at this
  have : (0 : Nat) = b + u := this
  omega
theorem LJ.next {B : List Int} (h : Bt B) {D : List Int} {k : Nat} {F : List Nat} (hF : F.length = k) (hf : ∀ j, j < k → K B (F.getD j 0) < bk B D.length (eE D) (D.length - 1 - j) ∧ bk B D.length (eE D) (D.length - 1 - j) ≤ K B (F.getD j 0 + 1)) (hk : k < D.length) {t u : Nat} (q : LJ B (bk B D.length (eE D) (D.length - 1 - k)) (t : Int) u) (e : ¬ (u : Int) = beatAt B t) : LI B D (k + 1) (F ++ [t]) (t : Int) (u + 1) := by
  obtain ⟨hr, h1, h2, h3⟩ := q
  have h1 : (u : Int) ≤ beatAt B t := h1 (by omega)
  have e2 := K_succ h (t := t)
  rw [show ((t : Int) + 1).toNat = t + 1 by omega] at hr
  have eb : bk B D.length (eE D) (D.length - 1 - k) = min (rr B D.length (eE D) k) (K B (eE D (D.length - 1 - k))) := by
    unfold bk
    rw [show D.length - 1 - (D.length - 1 - k) = k by omega]
  refine ⟨by simp [hF], fun j hj => ?_, ?_, fun _ => ?_, fun h => by omega, h3⟩
  · by_cases c : j < k
    · have := hf j c
      have e3 : (F ++ [t]).getD j 0 = F.getD j 0 := by
        simp only [List.getD_eq_getElem?_getD]
        rw [List.getElem?_append_left (by omega)]
      rw [e3]
      exact this
    · have : j = k := by omega
      subst this
      have e3 : (F ++ [t]).getD j 0 = t := by
        simp only [List.getD_eq_getElem?_getD]
        rw [List.getElem?_append_right (by omega), hF]
        simp
      rw [e3]
      omega
  · rw [show ((t : Int) + 1).toNat = t + 1 by omega]
    show K B (t + 1) = min (rr B D.length (eE D) k) (K B (eE D (D.length - 1 - k))) - 1 + (u + 1)
    rw [← eb]
    omega
  · show ((u + 1 : Nat) : Int) ≤ beatAt B t
    omega
theorem LI.done {B : List Int} {D : List Int} {F : List Nat} {t : Int} {u : Nat} (q : LI B D D.length F t u) : IsL B D F.reverse := by
  refine ⟨by simp [q.l], fun i hi => ?_⟩
  have h := q.f (D.length - 1 - i) (by omega)
  rw [show D.length - 1 - (D.length - 1 - i) = i by omega] at h
  have e : F.reverse.getD i 0 = F.getD (D.length - 1 - i) 0 := by
    simp only [List.getD_eq_getElem?_getD]
    rw [List.getElem?_reverse (by rw [q.l]; exact hi), q.l]
  rw [e]
  exact h
/-! back through a row -/
def off (X : List Nat) (tm : Nat) : List Int := X.map fun x : Nat => (x : Int) - (tm : Int)
@[simp] theorem off_length {X : List Nat} {tm : Nat} : (off X tm).length = X.length := by simp [off]
theorem off_at {X : List Nat} {tm i : Nat} (h : i < X.length) : (off X tm).getD i 0 = (X.getD i 0 : Int) - (tm : Int) := by
  simp only [off, List.getD_eq_getElem?_getD, List.getElem?_map, List.getElem?_eq_getElem h]
  rfl
structure Lat (W : Rw) (C : List Nat) (j : Nat) (X : List Nat) : Prop where
  l : X.length = C.length
  iff : ∀ T : List Nat, T.length = C.length → (Le (cm W T W.length) C ↔ Le (cm W T j) X)
  le : ∀ i, i < C.length → X.getD i 0 ≤ C.getD i 0
  so : ∀ i m, i + m < C.length → X.getD i 0 ≤ X.getD (i + m) 0
  one : (∀ w ∈ W, w.2.length = 1) → ∀ k, j ≤ k → k < W.length → ∀ c, (W.getD k (0, [])).2 = [c] → Gp c.toNat X
theorem Lat.start {W : Rw} {C : List Nat} (h : ∀ i m, i + m < C.length → C.getD i 0 ≤ C.getD (i + m) 0) : Lat W C W.length C :=
  ⟨rfl, fun T _ => Iff.rfl, fun i _ => Nat.le_refl _, h, fun _ k h1 h2 => by omega⟩
theorem le_by {W : Rw} {T X : List Nat} {j : Nat} (hl : T.length = X.length) : Le (cm W T (j + 1)) X ↔ By (goes (W.getD j (0, [])).2 (cm W T j)) (off X (W.getD j (0, [])).1) := by
  unfold Le By
  rw [off_length, cm_length, hl]
  refine forall_congr' fun i => ?_
  refine forall_congr' fun hi => ?_
  rw [off_at hi]
  have e : cm W T (j + 1) = (goes (W.getD j (0, [])).2 (cm W T j)).map (· + (W.getD j (0, [])).1) := rfl
  rw [e, map_at, if_pos (by rw [goes_length, cm_length, hl]; exact hi)]
  omega
theorem Lat.step {W : Rw} (b : Rk W) {C X X' : List Nat} {j : Nat} (q : Lat W C (j + 1) X) (hj : j < W.length) (h : IsL (W.getD j (0, [])).2 (off X (W.getD j (0, [])).1) X') : Lat W C j X' := by
  have hb := b.b _ (b.at hj)
  have hl := h.l
  rw [off_length, q.l] at hl
  refine ⟨hl, fun T hT => ?_, fun i hi => ?_, fun i m hi => h.sorted (by rw [off_length, q.l]; exact hi), fun h1 k hk hk2 c hc => ?_⟩
  · rw [q.iff T hT, le_by (by rw [hT, q.l]), h.iff hb (by simp [hT, q.l])]
  · have h1 := h.le (i := i) (by rw [off_length, q.l]; exact hi)
    rw [off_at (by rw [q.l]; exact hi)] at h1
    have := q.le i hi
    omega
  · have hw := b.at hj
    have e1 := h1 _ hw
    obtain ⟨d, ed⟩ : ∃ d, (W.getD j (0, [])).2 = [d] := by
      cases e : (W.getD j (0, [])).2 with
      | nil => rw [e] at e1; cases e1
      | cons d r =>
        rw [e] at e1
        have : r = [] := by
          cases r with
          | nil => rfl
          | cons _ _ => simp at e1
        exact ⟨d, by rw [this]⟩
    have hd : 1 ≤ d := by
      have hb' : Bt [d] := ed ▸ hb
      obtain ⟨i, hi, hp⟩ := hb'.p
      have h2 := List.mem_singleton.mp (List.getElem_mem hi)
      omega
    rw [ed] at h
    by_cases x : k = j
    · subst x
      rw [ed] at hc
      cases hc
      exact h.gap hd
    · have g := q.one h1 k (by omega) hk2 c hc
      refine h.gap' hd fun i hi => ?_
      rw [off_length] at hi
      rw [off_at (by omega), off_at hi]
      have := g i hi
      omega
theorem Lat.none {W : Rw} (b : Rk W) {C X : List Nat} {j : Nat} (q : Lat W C (j + 1) X) (hj : j < W.length) {i : Nat} (hi : i < (off X (W.getD j (0, [])).1).length) (h : bk (W.getD j (0, [])).2 (off X (W.getD j (0, [])).1).length (eE (off X (W.getD j (0, [])).1)) i = 0) : ∀ T : List Nat, T.length = C.length → ¬ Le (cm W T W.length) C := by
  intro T hT x
  have hb := b.b _ (b.at hj)
  rw [q.iff T hT, le_by (by rw [hT, q.l])] at x
  exact not_by hb hi h (by simp [hT, q.l]) x
theorem le_def {X Y : List Nat} (hl : X.length = Y.length) (h : Le X Y) (h2 : Le Y X) : X = Y := by
  refine List.ext_getElem hl fun i h1 h3 => ?_
  have a := h i h1
  have c := h2 i h3
  simp only [List.getD_eq_getElem?_getD, List.getElem?_eq_getElem h1, List.getElem?_eq_getElem h3, Option.getD_some] at a c
  omega
theorem Lat.uniq {W : Rw} {C X Y : List Nat} (q : Lat W C 0 X) (r : Lat W C 0 Y) : X = Y := by
  refine le_def (by rw [q.l, r.l]) ?_ ?_
  · exact (r.iff X q.l).mp ((q.iff X q.l).mpr fun i _ => Nat.le_refl _)
  · exact (q.iff Y r.l).mp ((r.iff Y r.l).mpr fun i _ => Nat.le_refl _)
/-- those who are held back come out at the same ticks -/
theorem Lat.same {W : Rw} (b : Rk W) {T X : List Nat} (q : Lat W (cm W T W.length) 0 X) : Le T X ∧ cm W X W.length = cm W T W.length := by
  have hl : X.length = T.length := by rw [q.l]; simp
  have h1 : Le T X := (q.iff T (by simp)).mp fun i _ => Nat.le_refl _
  refine ⟨h1, le_def (by simp [hl]) ((q.iff X q.l).mpr fun i _ => Nat.le_refl _) fun i _ => ?_⟩
  refine cm_mono b hl.symm (fun i => ?_) _ (Nat.le_refl _) i
  by_cases c : i < T.length
  · exact h1 i c
  · rw [List.getD_eq_getElem?_getD, List.getElem?_eq_none (by omega)]
    exact Nat.zero_le _
/-- stairs with one item: nobody waits who is held back -/
theorem Lat.calm {W : Rw} (b : Rk W) {C X : List Nat} (q : Lat W C 0 X) (h1 : ∀ w ∈ W, w.2.length = 1) : ∀ k, k ≤ W.length → (∃ t, cm W X k = X.map (· + t)) ∧ (k < W.length → gm W X k = cm W X k)
  | k, hk => by
    have hex : ∃ t, cm W X k = X.map (· + t) := by
      cases k with
      | zero => exact ⟨0, by simp [cm]⟩
      | succ k =>
        obtain ⟨⟨t, ht⟩, hg⟩ := Lat.calm b q h1 k (by omega)
        have hg := hg (by omega)
        refine ⟨t + (W.getD k (0, [])).1, ?_⟩
        have e : cm W X (k + 1) = (gm W X k).map (· + (W.getD k (0, [])).1) := rfl
        rw [e, hg, ht, List.map_map]
        refine List.map_congr_left fun x _ => ?_
        show x + t + _ = x + (t + _)
        omega
    refine ⟨hex, fun hk => ?_⟩
    obtain ⟨t, ht⟩ := hex
    have hw := b.at hk
    have e1 := h1 _ hw
    have hb := b.b _ hw
    obtain ⟨d, ed⟩ : ∃ d, (W.getD k (0, [])).2 = [d] := by
      cases e : (W.getD k (0, [])).2 with
      | nil => rw [e] at e1; cases e1
      | cons d r =>
        rw [e] at e1
        have : r = [] := by
          cases r with
          | nil => rfl
          | cons _ _ => simp at e1
        exact ⟨d, by rw [this]⟩
    rw [ed] at hb
    have hd : 1 ≤ d := by
      obtain ⟨i, hi, hp⟩ := hb.p
      have h2 := List.mem_singleton.mp (List.getElem_mem hi)
      omega
    have g := q.one h1 k (Nat.zero_le _) hk d ed
    unfold gm
    rw [ed, ht]
    refine goes_gap hd hb (fun i hi => ?_) fun i hi => ?_
    · simp at hi
      rw [map_at, map_at, if_pos (by omega), if_pos hi]
      have := g i hi
      omega
    · simp at hi
      rw [map_at, map_at, if_pos (by omega), if_pos hi]
      have := q.so i 1 (by rw [← q.l]; exact hi)
      omega
theorem goes_b2 {B : List Int} (h : Bt B) {C : List Nat} {M : Nat} (hC : ∀ c ∈ C, c ≤ M) : ∀ c ∈ goes B C, c ≤ M + 13 * C.length := by
  intro c hc
  obtain ⟨i, hi, rfl⟩ := List.mem_map.mp hc
  have hi := List.mem_range.mp hi
  have := st_b h hC (i := i + 1)
  have := Nat.mul_le_mul_left 13 (show i + 1 ≤ C.length by omega)
  omega
theorem cm_b2 {W : Rw} (b : Rk W) {T : List Nat} {M : Nat} (hT : ∀ c ∈ T, c ≤ M) : ∀ {j : Nat}, j ≤ W.length → ∀ c ∈ cm W T j, c ≤ M + (13 * T.length + 6) * j
  | 0, _, c, hc => by simpa using hT c hc
  | j + 1, hj, c, hc => by
    have hw := b.at (j := j) (by omega)
    have e : cm W T (j + 1) = (goes (W.getD j (0, [])).2 (cm W T j)).map (· + (W.getD j (0, [])).1) := rfl
    rw [e] at hc
    obtain ⟨g, hg, rfl⟩ := List.mem_map.mp hc
    have h1 := goes_b2 (b.b _ hw) (cm_b2 b hT (j := j) (by omega)) g hg
    have h2 := b.t _ hw
    rw [cm_length] at h1
    rw [Nat.mul_add (13 * T.length + 6)]
    omega
theorem tk_of {C : List Nat} (hl : C.length ≤ 600) (hb : ∀ i, i < C.length → C.getD i 0 ≤ 10000) (hs : ∀ i m, i + m < C.length → C.getD i 0 ≤ C.getD (i + m) 0) : MP.V.Tk C := by
  refine ⟨hl, fun c hc => ?_, fun i h => ?_⟩
  · obtain ⟨i, hi, rfl⟩ := List.getElem_of_mem hc
    rw [← MP.V.getD_lt hi]
    exact hb i hi
  · rw [← MP.V.getD_lt h, ← MP.V.getD_lt (by omega : i < C.length)]
    exact hs i 1 h
@[simp] theorem is_none_al {env : Ev} {s : Nat} {p : List Nat} : cmpE .Is env (.al s p) (.fr .none) = match res env (.al s p) with | some (.fr .none) => some true | some _ => some false | none => none := rfl
@[simp] theorem isnt_none_al {env : Ev} {s : Nat} {p : List Nat} : cmpE .IsNot env (.al s p) (.fr .none) = match res env (.al s p) with | some (.fr .none) => some false | some _ => some true | none => none := rfl
end R
end MP
namespace MP
open PySem L2
namespace R
/-! how many are out -/
def bt (B : List Int) (t : Nat) : Nat := (beatAt B t).toNat
theorem K_next {B : List Int} {t : Nat} : K B (t + 1) = K B t + bt B t := rfl
/-- how many of C are below s -/
def cl (C : List Nat) (s : Nat) : Nat := (C.filter fun x => decide (x < s)).length
def Srt (C : List Nat) : Prop := ∀ i m, i + m < C.length → C.getD i 0 ≤ C.getD (i + m) 0
theorem cl_iff {C : List Nat} (h : Srt C) {i s : Nat} : i < cl C s ↔ i < C.length ∧ C.getD i 0 < s := by
  constructor
  · intro hi
    have hl : i < C.length := Nat.lt_of_lt_of_le hi (List.length_filter_le ..)
    refine ⟨hl, Nat.lt_of_not_le fun c => ?_⟩
    have := MP.V.filter_le (p := fun x => decide (x < s)) (C := C) (s := 0) (e := i) (fun j hj q => by omega) (fun j hj q => by
      have h1 := h i (j - i) (by omega)
      rw [show i + (j - i) = j by omega, MP.V.getD_lt hj] at h1
      exact decide_eq_false (by omega))
    unfold cl at hi
    omega
  · rintro ⟨hl, c⟩
    have := MP.V.filter_ge (p := fun x => decide (x < s)) (C := C) (s := 0) (e := i + 1) (by omega) (fun j hj _ q => by
      have h1 := h j (i - j) (by omega)
      rw [show j + (i - j) = i by omega, MP.V.getD_lt hj] at h1
      exact decide_eq_true (by omega))
    unfold cl
    omega
theorem cl_mono {C : List Nat} {s t : Nat} (h : s ≤ t) : cl C s ≤ cl C t := by
  unfold cl
  induction C with
  | nil => exact Nat.le_refl _
  | cons x C ih =>
    by_cases c : x < s
    · simp [List.filter_cons, c, show x < t by omega]
      exact ih
    · have e : ((x :: C).filter fun x => decide (x < s)) = C.filter fun x => decide (x < s) := by simp [List.filter_cons, c]
      rw [e]
      exact Nat.le_trans ih (List.Sublist.filter _ (List.sublist_cons_self x C)).length_le
theorem cl_zero {C : List Nat} : cl C 0 = 0 := by
  unfold cl
  rw [List.length_eq_zero_iff, List.filter_eq_nil_iff]
  simp
theorem cl_map {C : List Nat} {t s : Nat} : cl (C.map (· + t)) s = cl C (s - t) := by
  unfold cl
  rw [List.filter_map, List.length_map]
  refine congrArg List.length (List.filter_congr fun x _ => ?_)
  show decide (x + t < s) = decide (x < s - t)
  by_cases c : x + t < s
  · rw [decide_eq_true c, decide_eq_true (by omega)]
  · rw [decide_eq_false c, decide_eq_false (by omega)]
theorem sl_far {B : List Int} (h : Bt B) {C : List Nat} {i : Nat} : ∀ m, sl B C i + m ≤ sl B C (i + m)
  | 0 => Nat.le_refl _
  | m + 1 => by
    have := sl_far h (C := C) (i := i) m
    have := sl_succ h (C := C) (i := i + m)
    rw [show i + (m + 1) = i + m + 1 by omega]
    omega
theorem goes_srt {B : List Int} {C : List Nat} : Srt (goes B C) := by
  intro i m hi
  rw [goes_at (by simp at hi; omega), goes_at (by simpa using hi)]
  induction m with
  | zero => exact Nat.le_refl _
  | succ m ih =>
    refine Nat.le_trans (ih (by simp at hi ⊢; omega)) ?_
    exact (nxt_go (B := B) (s := st B C (i + m + 1)) (c := C.getD (i + m + 1) 0)).1
theorem goes_lt {B : List Int} (h : Bt B) {C : List Nat} {i s : Nat} (hi : i < C.length) : (goes B C).getD i 0 < s ↔ sl B C i < K B s := by
  rw [goes_at hi]
  cases s with
  | zero => exact ⟨fun h => by omega, fun h => absurd h (Nat.not_lt_zero _)⟩
  | succ s =>
    rw [← go_le h]
    omega
/-- tick by tick: as many as can, of those who are there -/
theorem cl_goes {B : List Int} (h : Bt B) {C : List Nat} (hs : Srt C) {s : Nat} : cl (goes B C) (s + 1) = min (cl (goes B C) s + bt B s) (cl C (s + 1)) := by
  have hg := goes_srt (B := B) (C := C)
  have i1 := fun i => cl_iff hg (i := i) (s := s + 1)
  have i0 := fun i => cl_iff hg (i := i) (s := s)
  have ia := fun i => cl_iff hs (i := i) (s := s + 1)
  have hK : K B (s + 1) = K B s + bt B s := rfl
  refine Nat.le_antisymm (Nat.le_min.mpr ⟨?_, ?_⟩) ?_
  · refine Nat.le_of_not_lt fun c => ?_
    obtain ⟨a1, a2⟩ := (i1 (cl (goes B C) (s + 1) - 1)).mp (by omega)
    rw [goes_length] at a1
    rw [goes_lt h a1] at a2
    obtain ⟨j, hj⟩ : ∃ j, cl (goes B C) (s + 1) - 1 = j + bt B s := ⟨cl (goes B C) (s + 1) - 1 - bt B s, by omega⟩
    rw [hj] at a1 a2
    have h1 := sl_far h (C := C) (i := j) (bt B s)
    have h2 : j < cl (goes B C) s := (i0 j).mpr ⟨by rw [goes_length]; omega, (goes_lt h (by omega)).mpr (by omega)⟩
    omega
  · refine Nat.le_of_not_lt fun c => ?_
    obtain ⟨a1, a2⟩ := (i1 (cl (goes B C) (s + 1) - 1)).mp (by omega)
    rw [goes_length] at a1
    refine absurd ((ia (cl (goes B C) (s + 1) - 1)).mpr ⟨a1, ?_⟩) (by omega)
    rw [goes_at a1] at a2
    have := (nxt_go (B := B) (s := st B C (cl (goes B C) (s + 1) - 1)) (c := C.getD (cl (goes B C) (s + 1) - 1) 0)).2.1
    exact Nat.lt_of_le_of_lt this a2
  · refine Nat.le_of_not_lt fun c => ?_
    obtain ⟨a1, a2⟩ := (ia (cl (goes B C) (s + 1))).mp (by omega)
    have a3 : ¬ sl B C (cl (goes B C) (s + 1)) < K B (s + 1) := fun q => by
      have := (i1 (cl (goes B C) (s + 1))).mpr ⟨by rw [goes_length]; exact a1, (goes_lt h a1).mpr q⟩
      omega
    have c1 : cl (goes B C) (s + 1) < cl (goes B C) s + bt B s := by omega
    generalize cl (goes B C) (s + 1) = i at *
    have key : ∀ m, m ≤ bt B s → m ≤ i → K B (s + 1) ≤ sl B C (i - m) + m := by
      intro m
      induction m with
      | zero => intro _ _; simp; omega
      | succ m ih =>
        intro h1 h2
        have q := ih (by omega) (by omega)
        have e := sl_succ h (C := C) (i := i - (m + 1))
        rw [show i - (m + 1) + 1 = i - m by omega] at e
        have h3 := hs (i - m) m (by omega)
        rw [show i - m + m = i by omega] at h3
        have h4 := K_mono (B := B) (s := C.getD (i - m) 0) (t := s) (by omega)
        omega
    by_cases x : bt B s ≤ i
    · have q := key (bt B s) (Nat.le_refl _) x
      have h2 := (i0 (i - bt B s)).mp (by omega)
      have h3 := (goes_lt h (i := i - bt B s) (by omega)).mp h2.2
      omega
    · have q := key i (by omega) (Nat.le_refl _)
      rw [Nat.sub_self, sl_zero] at q
      have h3 := hs 0 i (by omega)
      rw [Nat.zero_add] at h3
      have h4 := K_mono (B := B) (s := C.getD 0 0) (t := s) (by omega)
      omega
/-! the most that can be out: tick by tick -/
def g0 (B : List Int) (b : Nat) : Nat → Nat
  | 0 => 0
  | y + 1 => g0 B b y + bt B (b + y)
def gS (B : List Int) (b : Nat) (F : Nat → Nat) : Nat → Nat
  | 0 => 0
  | y + 1 => min (gS B b F y + bt B (b + y)) (F (y + 1))
abbrev Bk (W : Rw) (k : Nat) : List Int := (W.getD k (0, [])).2
abbrev tk (W : Rw) (k : Nat) : Nat := (W.getD k (0, [])).1
def Fl (W : Rw) (b : Nat) : Nat → Nat → Nat
  | 0 => fun _ => 0
  | k + 1 => fun y => (if k = 0 then g0 (Bk W k) b else gS (Bk W k) b (Fl W b k)) (y - tk W k)
def Gl (W : Rw) (b k : Nat) : Nat → Nat := if k = 0 then g0 (Bk W k) b else gS (Bk W k) b (Fl W b k)
theorem Fl_succ {W : Rw} {b k y : Nat} : Fl W b (k + 1) y = Gl W b k (y - tk W k) := rfl
theorem Gl_zero {W : Rw} {b k : Nat} : Gl W b k 0 = 0 := by unfold Gl; split <;> rfl
theorem Fl_zero {W : Rw} {b k : Nat} : Fl W b k 0 = 0 := by
  cases k with
  | zero => rfl
  | succ k => rw [Fl_succ, Nat.zero_sub, Gl_zero]
theorem Gl_first {W : Rw} {b y : Nat} : Gl W b 0 (y + 1) = Gl W b 0 y + bt (Bk W 0) (b + y) := rfl
theorem Gl_next {W : Rw} {b k y : Nat} : Gl W b (k + 1) (y + 1) = min (Gl W b (k + 1) y + bt (Bk W (k + 1)) (b + y)) (Fl W b (k + 1) (y + 1)) := rfl
/-- no more than the beat lets through -/
theorem Gl_le {W : Rw} {b M k : Nat} (h : ∀ t, bt (Bk W k) t ≤ M) : ∀ y, Gl W b k y ≤ M * y
  | 0 => by rw [Gl_zero]; exact Nat.zero_le _
  | y + 1 => by
    have ih := Gl_le (b := b) h y
    have h1 := h (b + y)
    cases k with
    | zero => rw [Gl_first, Nat.mul_add]; omega
    | succ k => rw [Gl_next, Nat.mul_add]; omega
/-! what comes out of a row -/
theorem cm_srt {W : Rw} {T : List Nat} (hs : Srt T) : ∀ {k : Nat}, Srt (cm W T k)
  | 0 => hs
  | k + 1 => by
    intro i m hi
    have e : cm W T (k + 1) = (goes (Bk W k) (cm W T k)).map (· + tk W k) := rfl
    rw [e] at hi ⊢
    simp at hi
    rw [map_at, map_at, if_pos (by simp; omega), if_pos (by simpa using hi)]
    have := goes_srt (B := Bk W k) (C := cm W T k) i m (by simpa using hi)
    omega
theorem cl_cm {W : Rw} {T : List Nat} {k s : Nat} : cl (cm W T (k + 1)) s = cl (gm W T k) (s - tk W k) := cl_map
theorem cl_gm {W : Rw} (b : Rk W) {T : List Nat} (hs : Srt T) {k s : Nat} (hk : k < W.length) : cl (gm W T k) (s + 1) = min (cl (gm W T k) s + bt (Bk W k) s) (cl (cm W T k) (s + 1)) :=
  cl_goes (b.b _ (b.at hk)) (cm_srt hs)
/-- all of N people who come at begin -/
theorem all_gm {W : Rw} (b : Rk W) {begin N : Nat} : ∀ (k : Nat), k < W.length → (∀ y, cl (gm W (List.replicate N begin) k) (begin + y) = min N (Gl W begin k y))
  | k, hk => by
    have hs : Srt (List.replicate N begin) := fun i m h => by
      simp at h
      rw [MP.V.getD_lt (by simp; omega), MP.V.getD_lt (by simpa using h)]
      simp
    have hc0 : ∀ s, s ≤ begin → cl (gm W (List.replicate N begin) k) s = 0 := by
      intro s hsb
      have h1 : ∀ k, Srt (cm W (List.replicate N begin) k) := fun k => cm_srt hs
      have hge : ∀ k i, i < N → begin ≤ (cm W (List.replicate N begin) k).getD i 0 := by
        intro k
        induction k with
        | zero => intro i hi; show begin ≤ (List.replicate N begin).getD i 0; rw [MP.V.getD_lt (by simpa using hi)]; simp
        | succ k ih =>
          intro i hi
          have e : cm W (List.replicate N begin) (k + 1) = (goes (Bk W k) (cm W (List.replicate N begin) k)).map (· + tk W k) := rfl
          rw [e, map_at, if_pos (by simpa using hi), goes_at (by simpa using hi)]
          have := (nxt_go (B := Bk W k) (s := st (Bk W k) (cm W (List.replicate N begin) k) i) (c := (cm W (List.replicate N begin) k).getD i 0)).2.1
          have h3 := ih i hi
          have h4 : (cm W (List.replicate N begin) k).getD i 0 ≤ (st (Bk W k) (cm W (List.replicate N begin) k) (i + 1)).1 := this
          omega
      refine Nat.eq_zero_of_not_pos fun q => ?_
      have hg : Srt (gm W (List.replicate N begin) k) := goes_srt
      obtain ⟨a1, a2⟩ := (cl_iff hg (i := 0)).mp q
      simp at a1
      have h5 := hge k 0 a1
      have h6 : (gm W (List.replicate N begin) k).getD 0 0 = (st (Bk W k) (cm W (List.replicate N begin) k) (0 + 1)).1 := goes_at (by simpa using a1)
      have := (nxt_go (B := Bk W k) (s := st (Bk W k) (cm W (List.replicate N begin) k) 0) (c := (cm W (List.replicate N begin) k).getD 0 0)).2.1
      have h7 : (cm W (List.replicate N begin) k).getD 0 0 ≤ (st (Bk W k) (cm W (List.replicate N begin) k) (0 + 1)).1 := this
      omega
    intro y
    induction y with
    | zero => rw [Gl_zero, Nat.add_zero, hc0 _ (Nat.le_refl _)]; simp
    | succ y ih =>
      rw [show begin + (y + 1) = begin + y + 1 by omega, cl_gm b hs hk, ih]
      cases k with
      | zero =>
        have e : cl (cm W (List.replicate N begin) 0) (begin + y + 1) = N := by
          show ((List.replicate N begin).filter _).length = N
          rw [List.filter_replicate, if_pos (decide_eq_true (by omega)), List.length_replicate]
        rw [e, Gl_first]
        omega
      | succ k =>
        have e : cl (cm W (List.replicate N begin) (k + 1)) (begin + y + 1) = min N (Fl W begin (k + 1) (y + 1)) := by
          rw [cl_cm, Fl_succ]
          by_cases c : tk W k ≤ y + 1
          · rw [show begin + y + 1 - tk W k = begin + (y + 1 - tk W k) by omega, all_gm b k (by omega)]
          · rw [show y + 1 - tk W k = 0 by omega, Gl_zero]
            have q := all_gm b (begin := begin) (N := N) k (by omega) 0
            rw [Gl_zero, Nat.add_zero] at q
            have := cl_mono (C := gm W (List.replicate N begin) k) (s := begin + y + 1 - tk W k) (t := begin) (by omega)
            omega
        rw [e, Gl_next]
        omega
theorem all_cm {W : Rw} (b : Rk W) {begin N y : Nat} : cl (cm W (List.replicate N begin) W.length) (begin + y) = min N (Fl W begin W.length y) := by
  obtain ⟨k, hk⟩ : ∃ k, W.length = k + 1 := ⟨W.length - 1, by have := b.n1; omega⟩
  rw [hk, cl_cm, Fl_succ]
  by_cases c : tk W k ≤ y
  · rw [show begin + y - tk W k = begin + (y - tk W k) by omega, all_gm b k (by omega)]
  · rw [show y - tk W k = 0 by omega, Gl_zero]
    have q := all_gm b (begin := begin) (N := N) k (by omega) 0
    rw [Gl_zero, Nat.add_zero] at q
    have := cl_mono (C := gm W (List.replicate N begin) k) (s := begin + y - tk W k) (t := begin) (by omega)
    omega
/-- X is the least of f 0 .. f s -/
def Mn (X : Nat) (f : Nat → Nat) (s : Nat) : Prop := (∀ r, r ≤ s → X ≤ f r) ∧ ∃ r, r ≤ s ∧ f r ≤ X
theorem mn_gm {W : Rw} (b : Rk W) {T : List Nat} (hs : Srt T) : ∀ (k : Nat), k < W.length → ∀ s, Mn (cl (gm W T k) s) (fun r => cl T r + Gl W r k (s - r)) s
  | k, hk => by
    have hA : ∀ s, (k = 0 ∧ cl (cm W T k) s = cl T s) ∨ (∃ j, k = j + 1 ∧ Mn (cl (cm W T k) s) (fun r => cl T r + Fl W r k (s - r)) s) := by
      intro s
      cases k with
      | zero => exact .inl ⟨rfl, rfl⟩
      | succ j =>
        refine .inr ⟨j, rfl, ?_⟩
        have q := mn_gm b hs j (by omega) (s - tk W j)
        rw [cl_cm]
        refine ⟨fun r hr => ?_, ?_⟩
        · show _ ≤ cl T r + Gl W r j (s - r - tk W j)
          by_cases c : r ≤ s - tk W j
          · have := q.1 r c
            rw [show s - r - tk W j = s - tk W j - r by omega]
            exact this
          · have h1 := q.1 (s - tk W j) (Nat.le_refl _)
            simp only [Nat.sub_self, Gl_zero] at h1
            have := cl_mono (C := T) (s := s - tk W j) (t := r) (by omega)
            omega
        · obtain ⟨r, hr, h1⟩ := q.2
          refine ⟨r, by omega, ?_⟩
          show cl T r + Gl W r j (s - r - tk W j) ≤ _
          rw [show s - r - tk W j = s - tk W j - r by omega]
          exact h1
    intro s
    induction s with
    | zero =>
      have e : cl (gm W T k) 0 = 0 := cl_zero
      rw [e]
      exact ⟨fun r _ => Nat.zero_le _, 0, Nat.le_refl _, by simp [cl_zero, Gl_zero]⟩
    | succ s ih =>
      rw [cl_gm b hs hk]
      obtain ⟨i1, r0, hr0, i2⟩ := ih
      rcases hA (s + 1) with ⟨rfl, ea⟩ | ⟨j, rfl, m1, r1, hr1, m2⟩
      · rw [ea]
        refine ⟨fun r hr => ?_, ?_⟩
        · by_cases c : r ≤ s
          · have := i1 r c
            simp only at this ⊢
            rw [show s + 1 - r = s - r + 1 by omega, Gl_first, show r + (s - r) = s by omega]
            omega
          · rw [show r = s + 1 by omega]
            simp only [Nat.sub_self, Gl_zero]
            omega
        · by_cases c : cl (gm W T 0) s + bt (Bk W 0) s ≤ cl T (s + 1)
          · refine ⟨r0, by omega, ?_⟩
            simp only at i2 ⊢
            rw [show s + 1 - r0 = s - r0 + 1 by omega, Gl_first, show r0 + (s - r0) = s by omega]
            omega
          · refine ⟨s + 1, Nat.le_refl _, ?_⟩
            simp only [Nat.sub_self, Gl_zero]
            omega
      · have hlast := m1 (s + 1) (Nat.le_refl _)
        simp only [Nat.sub_self, Fl_zero] at hlast
        refine ⟨fun r hr => ?_, ?_⟩
        · by_cases c : r ≤ s
          · have h1 := i1 r c
            have h2 := m1 r hr
            simp only at h1 h2 ⊢
            rw [show s + 1 - r = s - r + 1 by omega] at h2 ⊢
            rw [Gl_next, show r + (s - r) = s by omega]
            omega
          · rw [show r = s + 1 by omega]
            simp only [Nat.sub_self, Gl_zero]
            omega
        · by_cases c : cl (gm W T (j + 1)) s + bt (Bk W (j + 1)) s ≤ cl (cm W T (j + 1)) (s + 1)
          · refine ⟨r0, by omega, ?_⟩
            simp only at i2 ⊢
            rw [show s + 1 - r0 = s - r0 + 1 by omega, Gl_next, show r0 + (s - r0) = s by omega]
            omega
          · by_cases d : r1 ≤ s
            · refine ⟨r1, hr1, ?_⟩
              simp only at m2 ⊢
              rw [show s + 1 - r1 = s - r1 + 1 by omega] at m2 ⊢
              rw [Gl_next]
              omega
            · refine ⟨s + 1, Nat.le_refl _, ?_⟩
              rw [show r1 = s + 1 by omega] at m2
              simp only [Nat.sub_self, Fl_zero, Gl_zero] at m2 ⊢
              omega
theorem mn_cm {W : Rw} (b : Rk W) {T : List Nat} (hs : Srt T) {s : Nat} : Mn (cl (cm W T W.length) s) (fun r => cl T r + Fl W r W.length (s - r)) s := by
  obtain ⟨k, hk⟩ : ∃ k, W.length = k + 1 := ⟨W.length - 1, by have := b.n1; omega⟩
  rw [hk]
  have q := mn_gm b hs k (by omega) (s - tk W k)
  rw [cl_cm]
  refine ⟨fun r hr => ?_, ?_⟩
  · show _ ≤ cl T r + Gl W r k (s - r - tk W k)
    by_cases c : r ≤ s - tk W k
    · have := q.1 r c
      rw [show s - r - tk W k = s - tk W k - r by omega]
      exact this
    · have h1 := q.1 (s - tk W k) (Nat.le_refl _)
      simp only [Nat.sub_self, Gl_zero] at h1
      have := cl_mono (C := T) (s := s - tk W k) (t := r) (by omega)
      omega
  · obtain ⟨r, hr, h1⟩ := q.2
    refine ⟨r, by omega, ?_⟩
    show cl T r + Gl W r k (s - r - tk W k) ≤ _
    rw [show s - r - tk W k = s - tk W k - r by omega]
    exact h1
/-! the far end: period by period -/
theorem bt_per {B : List Int} {t : Nat} : bt B (t + B.length) = bt B t := by
  unfold bt beatAt
  rw [Nat.add_mod_right]
theorem K_per {B : List Int} : ∀ t, K B (t + B.length) = K B t + K B B.length
  | 0 => by rw [Nat.zero_add]; exact (Nat.zero_add _).symm
  | t + 1 => by
    have ih := K_per (B := B) t
    rw [show t + 1 + B.length = t + B.length + 1 by omega, K_next, K_next, bt_per]
    omega
theorem g0_eq {B : List Int} {b : Nat} : ∀ y, g0 B b y + K B b = K B (b + y)
  | 0 => Nat.zero_add _
  | y + 1 => by
    have ih := g0_eq (B := B) (b := b) y
    show g0 B b y + bt B (b + y) + K B b = K B (b + y + 1)
    rw [K_next]
    omega
structure Per (F : Nat → Nat) (L m Y : Nat) : Prop where
  z : F 0 = 0
  mo : ∀ y, F y ≤ F (y + 1)
  u : ∀ y, F (y + L) ≤ F y + m
  lo : ∀ y, Y ≤ y → F y + m ≤ F (y + L)
theorem Per.le {F : Nat → Nat} {L m Y : Nat} (p : Per F L m Y) {x y : Nat} (h : x ≤ y) : F x ≤ F y := by
  induction y with
  | zero => rw [show x = 0 by omega]; exact Nat.le_refl _
  | succ y ih =>
    by_cases c : x ≤ y
    · exact Nat.le_trans (ih c) (p.mo y)
    · rw [show x = y + 1 by omega]; exact Nat.le_refl _
theorem gS_le {B : List Int} {b : Nat} {F : Nat → Nat} (hz : F 0 = 0) : ∀ y s, s ≤ y → gS B b F y + K B (b + s) ≤ F s + K B (b + y)
  | 0, s, h => by
    rw [show s = 0 by omega]
    show 0 + _ ≤ _
    omega
  | y + 1, s, h => by
    show min (gS B b F y + bt B (b + y)) (F (y + 1)) + K B (b + s) ≤ F s + K B (b + y + 1)
    rw [K_next]
    by_cases c : s ≤ y
    · have := gS_le (B := B) (b := b) hz y s c
      omega
    · rw [show s = y + 1 by omega, show b + (y + 1) = b + y + 1 by omega, K_next]
      omega
theorem gS_ex {B : List Int} {b : Nat} {F : Nat → Nat} (hz : F 0 = 0) : ∀ y, ∃ s, s ≤ y ∧ gS B b F y + K B (b + s) = F s + K B (b + y)
  | 0 => ⟨0, Nat.le_refl _, by show 0 + _ = _; omega⟩
  | y + 1 => by
    obtain ⟨s, h1, h2⟩ := gS_ex (B := B) (b := b) hz y
    have e : gS B b F (y + 1) = min (gS B b F y + bt B (b + y)) (F (y + 1)) := rfl
    have e2 : K B (b + (y + 1)) = K B (b + y) + bt B (b + y) := rfl
    by_cases c : gS B b F y + bt B (b + y) ≤ F (y + 1)
    · exact ⟨s, by omega, by rw [e, e2]; omega⟩
    · exact ⟨y + 1, Nat.le_refl _, by rw [e]; omega⟩
theorem Per.first {B : List Int} {b : Nat} : Per (g0 B b) B.length (K B B.length) 0 := by
  have key : ∀ y, g0 B b (y + B.length) = g0 B b y + K B B.length := fun y => by
    have h1 := g0_eq (B := B) (b := b) y
    have h2 := g0_eq (B := B) (b := b) (y + B.length)
    have h3 := K_per (B := B) (b + y)
    rw [show b + (y + B.length) = b + y + B.length by omega] at h2
    omega
  exact ⟨rfl, fun y => Nat.le_add_right _ _, fun y => by rw [key]; omega, fun y _ => by rw [key]; omega⟩
theorem Per.next {B : List Int} {b : Nat} {F : Nat → Nat} {m Y : Nat} (hL : 1 ≤ B.length) (p : Per F B.length m Y) : Per (gS B b F) B.length (min m (K B B.length)) (Y + B.length - 1) := by
  have hle := gS_le (B := B) (b := b) p.z
  have hex := gS_ex (B := B) (b := b) p.z
  have hper := fun t => K_per (B := B) (b + t)
  refine ⟨rfl, fun y => ?_, fun y => ?_, fun y hy => ?_⟩
  · have h1 := hle y y (Nat.le_refl _)
    have h2 := p.mo y
    show _ ≤ min (gS B b F y + bt B (b + y)) (F (y + 1))
    omega
  · obtain ⟨s, h1, h2⟩ := hex y
    have h3 := hle (y + B.length) s (by omega)
    have h4 := hle (y + B.length) (s + B.length) (by omega)
    have h5 := hper y
    have h6 := hper s
    have h7 := p.u s
    rw [show b + (y + B.length) = b + y + B.length by omega] at h3 h4
    rw [show b + (s + B.length) = b + s + B.length by omega] at h4
    omega
  · obtain ⟨s, h1, h2⟩ := hex (y + B.length)
    have h5 := hper y
    rw [show b + (y + B.length) = b + y + B.length by omega] at h2
    by_cases c : s ≤ y
    · have h3 := hle y s c
      omega
    · have h3 := hle y (s - B.length) (by omega)
      have h6 := hper (s - B.length)
      rw [show b + (s - B.length) + B.length = b + s by omega] at h6
      have h7 := p.lo (s - B.length) (by omega)
      rw [show s - B.length + B.length = s by omega] at h7
      omega
theorem Per.shift {G : Nat → Nat} {L m Y t : Nat} (p : Per G L m Y) : Per (fun y => G (y - t)) L m (Y + t) := by
  refine ⟨by simp [p.z], fun y => p.le (by omega), fun y => ?_, fun y hy => ?_⟩
  · show G (y + L - t) ≤ G (y - t) + m
    by_cases c : t ≤ y
    · rw [show y + L - t = y - t + L by omega]
      exact p.u _
    · have h1 := p.le (x := y + L - t) (y := 0 + L) (by omega)
      have h2 := p.u 0
      have h3 := p.z
      omega
  · show G (y - t) + m ≤ G (y + L - t)
    rw [show y + L - t = y - t + L by omega]
    exact p.lo _ (by omega)
/-- the least sum of a beat -/
def ms (W : Rw) : Nat → Nat
  | 0 => K (Bk W 0) (Bk W 0).length
  | k + 1 => min (ms W k) (K (Bk W (k + 1)) (Bk W (k + 1)).length)
theorem per_Gl {W : Rw} (b : Rk W) {begin L : Nat} (hL : ∀ w ∈ W, w.2.length = L) : ∀ k, k < W.length → ∃ Y, Y ≤ k * (L + 6) ∧ Per (Gl W begin k) L (ms W k) Y
  | 0, hk => by
    have e := hL _ (b.at hk)
    refine ⟨0, Nat.zero_le _, ?_⟩
    have := Per.first (B := Bk W 0) (b := begin)
    rw [e] at this
    show Per (g0 (Bk W 0) begin) L (K (Bk W 0) (Bk W 0).length) 0
    rw [e]
    exact this
  | k + 1, hk => by
    obtain ⟨Y, hY, p⟩ := per_Gl b (begin := begin) hL k (by omega)
    have e := hL _ (b.at hk)
    have ht := b.t _ (b.at (j := k) (by omega))
    have hn := (b.b _ (b.at hk)).n1
    have q := (p.shift (t := tk W k))
    have e2 : (fun y => Gl W begin k (y - tk W k)) = Fl W begin (k + 1) := rfl
    rw [e2, ← e] at q
    have r := Per.next (B := Bk W (k + 1)) (b := begin) hn q
    rw [e] at r
    have e' : (Bk W (k + 1)).length = L := e
    have ht' : tk W k ≤ 6 := ht
    refine ⟨Y + tk W k + L - 1, by rw [Nat.add_mul]; omega, ?_⟩
    show Per (gS (Bk W (k + 1)) begin (Fl W begin (k + 1))) L (min (ms W k) (K (Bk W (k + 1)) (Bk W (k + 1)).length)) _
    rw [e']
    exact r
theorem per_Fl {W : Rw} (b : Rk W) {begin L : Nat} (hL : ∀ w ∈ W, w.2.length = L) {y : Nat} (hy : 4 * (L + 6) ≤ y) : ∀ j, Fl W begin W.length (y + j * L) = Fl W begin W.length y + j * ms W (W.length - 1)
  | 0 => by simp
  | j + 1 => by
    have ih := per_Fl b (begin := begin) hL hy j
    obtain ⟨k, hk⟩ : ∃ k, W.length = k + 1 := ⟨W.length - 1, by have := b.n1; omega⟩
    obtain ⟨Y, hY, p⟩ := per_Gl b (begin := begin) hL k (by omega)
    have q := (p.shift (t := tk W k))
    have ht : tk W k ≤ 6 := b.t _ (b.at (j := k) (by omega))
    have e2 : (fun y => Gl W begin k (y - tk W k)) = Fl W begin (k + 1) := rfl
    have hk4 := b.n2
    have h1 := Nat.mul_le_mul_right (L + 6) (show k ≤ 3 by omega)
    rw [e2, ← hk] at q
    have u := q.u (y + j * L)
    have l := q.lo (y + j * L) (by omega)
    rw [show W.length - 1 = k by omega] at ih ⊢
    rw [show y + (j + 1) * L = y + j * L + L by rw [Nat.add_mul]; omega, Nat.add_mul]
    omega
theorem cl_take {C : List Nat} {s q : Nat} (h : q < C.length) : cl (C.take (q + 1)) s = cl (C.take q) s + if C[q] < s then 1 else 0 := by
  unfold cl
  rw [List.take_succ_eq_append_getElem h, List.filter_append, List.length_append]
  congr 1
  by_cases d : C[q] < s
  · rw [if_pos d]; simp [d]
  · rw [if_neg d]; simp [d]
theorem cl_le {C : List Nat} {s : Nat} : cl C s ≤ C.length := List.length_filter_le ..
theorem cl_take_le {C : List Nat} {s q : Nat} : cl (C.take q) s ≤ q := Nat.le_trans cl_le (by simp; omega)
theorem K_sum {B : List Int} (h : Bt B) : ∀ t, t ≤ B.length → (K B t : Int) = (B.take t).sum
  | 0, _ => rfl
  | t + 1, ht => by
    have ih := K_sum h t (by omega)
    have e : beatAt B t = B[t] := by
      unfold beatAt
      rw [Nat.mod_eq_of_lt (by omega), List.getD_eq_getElem?_getD, List.getElem?_eq_getElem (by omega)]
      rfl
    have sa : ∀ (l : List Int) (x : Int), (l ++ [x]).sum = l.sum + x := by
      intro l x
      induction l with
      | nil => simp
      | cons y l ih => rw [List.cons_append, List.sum_cons, List.sum_cons, ih]; omega
    rw [K_succ h, ih, e, List.take_succ_eq_append_getElem (by omega), sa]
theorem ms_le {W : Rw} : ∀ {k j : Nat}, j ≤ k → ms W k ≤ K (Bk W j) (Bk W j).length
  | 0, j, h => by rw [show j = 0 by omega]; exact Nat.le_refl _
  | k + 1, j, h => by
    by_cases c : j ≤ k
    · exact Nat.le_trans (Nat.min_le_left _ _) (ms_le c)
    · rw [show j = k + 1 by omega]; exact Nat.min_le_right _ _
theorem ms_ex {W : Rw} : ∀ k, ∃ j, j ≤ k ∧ ms W k = K (Bk W j) (Bk W j).length
  | 0 => ⟨0, Nat.le_refl _, rfl⟩
  | k + 1 => by
    obtain ⟨j, h1, h2⟩ := ms_ex (W := W) k
    by_cases c : ms W k ≤ K (Bk W (k + 1)) (Bk W (k + 1)).length
    · exact ⟨j, by omega, by show min _ _ = _; rw [Nat.min_eq_left c, h2]⟩
    · exact ⟨k + 1, Nat.le_refl _, by show min _ _ = _; rw [Nat.min_eq_right (by omega)]⟩
/-- the least of the sums -/
def lsum (W : Rw) : Int := minL (W.map fun w => w.2.sum)
theorem lsum_le {W : Rw} {w : Nat × List Int} (h : w ∈ W) : lsum W ≤ w.2.sum := v_minL_le (List.mem_map.mpr ⟨w, h, rfl⟩)
theorem lsum_ex {W : Rw} (h : 1 ≤ W.length) : ∃ w ∈ W, lsum W = w.2.sum := by
  obtain ⟨w, h1, h2⟩ := List.mem_map.mp (v_minL_mem (l := W.map fun w => w.2.sum) (by intro e; rw [List.map_eq_nil_iff] at e; subst e; simp at h))
  exact ⟨w, h1, h2.symm⟩
theorem ms_lsum {W : Rw} (b : Rk W) : (ms W (W.length - 1) : Int) = lsum W := by
  have hK : ∀ j, j < W.length → (K (Bk W j) (Bk W j).length : Int) = (Bk W j).sum := fun j hj => by
    rw [K_sum (b.b _ (b.at hj)) _ (Nat.le_refl _), List.take_length]
  refine Int.le_antisymm ?_ ?_
  · obtain ⟨w, hw, e⟩ := lsum_ex b.n1
    obtain ⟨j, hj, rfl⟩ := List.getElem_of_mem hw
    have h1 := ms_le (W := W) (k := W.length - 1) (j := j) (by omega)
    have h2 := hK j hj
    have e2 : Bk W j = W[j].2 := by show (W.getD j (0, [])).2 = _; rw [List.getD_eq_getElem?_getD, List.getElem?_eq_getElem hj]; rfl
    rw [e2] at h1 h2
    omega
  · obtain ⟨j, hj, e⟩ := ms_ex (W := W) (W.length - 1)
    have h2 := hK j (by have := b.n1; omega)
    have h3 := lsum_le (b.at (j := j) (by have := b.n1; omega))
    have h3 : lsum W ≤ (Bk W j).sum := h3
    omega
end R
end MP
namespace MP
open PySem L2
namespace V
/-! first come, first served; who waits longest, the longest line -/
def tnl (c : Nat) (C : List Nat) : Nat → List Nat
  | 0 => []
  | i + 1 => tnl c C i ++ [if i < c then C.getD i 0 else max (C.getD i 0) ((tnl c C i).getD (i - c) 0 + 1)]
@[simp] theorem tnl_length {c : Nat} {C : List Nat} {i : Nat} : (tnl c C i).length = i := by
  induction i with
  | zero => rfl
  | succ i ih => simp [tnl, ih]
/-- when person i goes -/
def go (c : Nat) (C : List Nat) (i : Nat) : Nat := (tnl c C (i + 1)).getD i 0
theorem tnl_at {c : Nat} {C : List Nat} {k : Nat} : ∀ {i : Nat}, k < i → (tnl c C i).getD k 0 = go c C k := by
  intro i h
  induction i with
  | zero => omega
  | succ i ih =>
    by_cases e : k = i
    · subst e; rfl
    · rw [← ih (by omega), tnl]
      simp only [List.getD_eq_getElem?_getD]
      rw [List.getElem?_append_left (by simp; omega)]
theorem tnl_get {c : Nat} {C : List Nat} {k i : Nat} (h : k < (tnl c C i).length) : (tnl c C i)[k] = go c C k := by
  rw [← getD_lt h, tnl_at (by simpa using h)]
theorem go_eq {c : Nat} {C : List Nat} {i : Nat} (hc : 1 ≤ c) : go c C i = if i < c then C.getD i 0 else max (C.getD i 0) (go c C (i - c) + 1) := by
  unfold go
  rw [tnl]
  by_cases d : i < c
  · rw [if_pos d]
    simp [if_pos d]
  · rw [if_neg d, tnl_at (by omega)]
    simp [if_neg d, go]
theorem tnl_range {c : Nat} {C : List Nat} : ∀ {i : Nat}, tnl c C i = (List.range i).map (go c C)
  | 0 => rfl
  | i + 1 => by
    refine List.ext_getElem (by simp) fun k h1 h2 => ?_
    rw [tnl_get]
    simp
theorem go_ge {c : Nat} {C : List Nat} (hc : 1 ≤ c) : ∀ (n i j : Nat), i ≤ n → j * c ≤ i → C.getD (i - j * c) 0 + j ≤ go c C i
  | n, i, 0, _, _ => by
    rw [go_eq hc]
    simp only [Nat.zero_mul, Nat.sub_zero, Nat.add_zero]
    split
    · exact Nat.le_refl _
    · omega
  | 0, i, j + 1, h, h2 => by
    rw [Nat.add_mul] at h2
    omega
  | n + 1, i, j + 1, h, h2 => by
    rw [Nat.add_mul, Nat.one_mul] at h2
    have := go_ge (C := C) hc n (i - c) j (by omega) (by omega)
    rw [go_eq hc, if_neg (by omega), Nat.add_mul, Nat.one_mul]
    rw [show i - c - j * c = i - (j * c + c) by omega] at this
    omega
theorem go_ex {c : Nat} {C : List Nat} (hc : 1 ≤ c) : ∀ (n i : Nat), i ≤ n → ∃ j, j * c ≤ i ∧ go c C i = C.getD (i - j * c) 0 + j
  | n, i, h => by
    by_cases d : i < c
    · exact ⟨0, by omega, by rw [go_eq hc, if_pos d]; simp⟩
    · by_cases e : go c C (i - c) + 1 ≤ C.getD i 0
      · exact ⟨0, by omega, by rw [go_eq hc, if_neg d, Nat.max_eq_left e]; simp⟩
      · cases n with
        | zero => omega
        | succ n =>
          obtain ⟨j, h1, h2⟩ := go_ex (C := C) hc n (i - c) (by omega)
          refine ⟨j + 1, by rw [Nat.add_mul]; omega, ?_⟩
          rw [go_eq hc, if_neg d, Nat.max_eq_right (by omega), h2, Nat.add_mul, Nat.one_mul, show i - c - j * c = i - (j * c + c) by omega]
          omega
theorem go_le {c : Nat} {C : List Nat} (hc : 1 ≤ c) {m : Nat} (h : ∀ x ∈ C, x ≤ m) {i : Nat} : go c C i ≤ m + i := by
  obtain ⟨j, h1, h2⟩ := go_ex (C := C) hc i i (Nat.le_refl _)
  have h3 : C.getD (i - j * c) 0 ≤ m := by
    by_cases d : i - j * c < C.length
    · rw [getD_lt d]; exact h _ (List.getElem_mem _)
    · rw [List.getD_eq_getElem?_getD, List.getElem?_eq_none (by omega)]; exact Nat.zero_le _
  have := Nat.le_mul_of_pos_right j (show 0 < c by omega)
  omega
/-! the greedy people -/
theorem W_sub {L : List Int} (b : Bd L) {v : Nat} : ∀ (n u : Nat), u ≤ n → W L (u + v) ≤ W L u + W L v
  | _, 0, _ => by rw [Nat.zero_add, W_zero]; omega
  | 0, u + 1, h => by omega
  | n + 1, u + 1, h => by
    obtain ⟨k, hk, e⟩ := W_ex (L := L) (w := u) b.ne
    have q := W_le1 (L := L) (w := u + v) hk
    rw [show u + 1 + v = u + v + 1 by omega, e]
    by_cases c : k ≤ u
    · have := W_sub b (v := v) n (u - k) (by omega)
      rw [show u + v - k = u - k + v by omega] at q
      omega
    · have := W_mono b (v := u + v - k) (w := v) (by omega)
      have := W_nonneg b (u - k) (u - k) (Nat.le_refl _)
      omega
theorem gr_lt {L : List Int} (b : Bd L) {n s : Nat} : s < gr L n ↔ W L (s + 1) ≤ n := by
  have := gr_iff b (n := n) (s := s)
  omega
theorem W_gr {L : List Int} (b : Bd L) {n : Nat} : W L (gr L n) ≤ n := by
  by_cases c : gr L n = 0
  · rw [c, W_zero]; omega
  · have := (gr_lt b (n := n) (s := gr L n - 1)).mp (by omega)
    rwa [show gr L n - 1 + 1 = gr L n by omega] at this
theorem gr_zero {L : List Int} (b : Bd L) : gr L 0 = 0 := by
  have := (gr_iff b (n := 0) (s := 0)).mpr (by
    obtain ⟨v, hv, e⟩ := W_ex (L := L) (w := 0) b.ne
    have := (b.at hv).1
    rw [show 0 + 1 = 1 by omega] at *
    have := W_nonneg b (0 - v) (0 - v) (Nat.le_refl _)
    omega)
  omega
theorem gr_gap {L : List Int} (b : Bd L) {m n : Nat} (h : m ≤ n) : gr L m + gr L (n - m) ≤ gr L n := by
  have h1 := gr_mono b (m := n - m) (n := n) (by omega)
  refine Nat.le_of_not_lt fun q => ?_
  have h2 := (gr_lt b (n := m) (s := gr L n - gr L (n - m))).mp (by omega)
  have h3 := (gr_iff b (n := n) (s := gr L n)).mp (Nat.le_refl _)
  have h4 := W_sub b (v := gr L (n - m)) (gr L n - gr L (n - m) + 1) _ (Nat.le_refl _)
  rw [show gr L n - gr L (n - m) + 1 + gr L (n - m) = gr L n + 1 by omega] at h4
  have h5 := W_gr b (n := n - m)
  omega
/-- ticks that are as far from one another as the bound wants -/
def Gap (L : List Int) (C : List Nat) : Prop := ∀ a d, a + d < C.length → C.getD a 0 + gr L d ≤ C.getD (a + d) 0
def grs (L : List Int) (m : Nat) : List Nat := (List.range m).map (gr L)
@[simp] theorem grs_length {L : List Int} {m : Nat} : (grs L m).length = m := by simp [grs]
theorem grs_succ {L : List Int} {m : Nat} : grs L (m + 1) = grs L m ++ [gr L m] := by unfold grs; rw [map_range_succ]
theorem grs_get {L : List Int} {m i : Nat} (h : i < m) : (grs L m).getD i 0 = gr L i := by
  rw [getD_lt (by simpa using h)]
  simp [grs]
theorem grs_take {L : List Int} {m k : Nat} (h : k ≤ m) : (grs L m).take k = grs L k := by
  unfold grs
  rw [← List.map_take, List.take_range, Nat.min_eq_left h]
theorem grs_gap {L : List Int} (b : Bd L) {m : Nat} : Gap L (grs L m) := by
  intro a d h
  simp at h
  rw [grs_get (by omega), grs_get h]
  have := gr_gap b (m := d) (n := a + d) (by omega)
  rw [show a + d - d = a by omega] at this
  omega
theorem Gap.le {L : List Int} {C : List Nat} (g : Gap L C) {i j : Nat} (h : i ≤ j) (hj : j < C.length) : C.getD i 0 ≤ C.getD j 0 := by
  have := g i (j - i) (by omega)
  rw [show i + (j - i) = j by omega] at this
  omega
theorem gr_le {L : List Int} (b : Bd L) {m n : Nat} (h : n < m) : gr L n ≤ 12 * m := by
  have := (gr_spec b n).2.2
  have := Nat.mul_le_mul b.hl (show n + 1 ≤ m by omega)
  omega
/-! the wait -/
/-- k is the first of the first m at which f is greatest, and v is that -/
def Mx (f : Nat → Int) (m : Nat) (v : Int) (k : Nat) : Prop := k < m ∧ f k = v ∧ ∀ i, i < m → f i ≤ v ∧ (i < k → f i < v)
theorem Mx.uniq {f : Nat → Int} {m : Nat} {v w : Int} {k l : Nat} (h : Mx f m v k) (h2 : Mx f m w l) : v = w ∧ k = l := by
  obtain ⟨a1, a2, a3⟩ := h
  obtain ⟨b1, b2, b3⟩ := h2
  have x1 := a3 l b1
  have x2 := b3 k a1
  have e : v = w := by omega
  subst e
  refine ⟨rfl, ?_⟩
  rcases Nat.lt_trichotomy k l with q | q | q
  · have := x2.2 q; omega
  · exact q
  · have := x1.2 q; omega
theorem mx_max {f : Nat → Int} {m : Nat} (h : 0 < m) : ∃ v k, Mx f m v k ∧ maxL ((List.range m).map f) = v ∧ ((List.range m).map f).findIdx? (fun x => decide (x = v)) = some k := by
  have hne : (List.range m).map f ≠ [] := by simp; omega
  have hm := v_maxL_mem hne
  have hb := fun x (hx : x ∈ (List.range m).map f) => v_le_maxL hx
  generalize maxL ((List.range m).map f) = v at *
  have hs : (((List.range m).map f).findIdx? (fun x => decide (x = v))).isSome = true := by
    rw [List.findIdx?_isSome, List.any_eq_true]
    exact ⟨v, hm, by simp⟩
  obtain ⟨k, hk⟩ := Option.isSome_iff_exists.mp hs
  refine ⟨v, k, ?_, rfl, hk⟩
  obtain ⟨h1, h2, h3⟩ := List.findIdx?_eq_some_iff_getElem.mp hk
  have hkm : k < m := by simpa using h1
  simp at h2
  refine ⟨hkm, h2, fun i hi => ?_⟩
  have h4 := hb (f i) (List.mem_map.mpr ⟨i, List.mem_range.mpr hi, rfl⟩)
  refine ⟨h4, fun hik => ?_⟩
  have h5 := h3 i hik
  simp at h5
  omega
theorem mt_indexI {env : Ev} {a : En} {L : List Int} {v : Int} (h : lItems env a = some (iD L)) : mtE .index env a [.fr (.int v)] = (L.findIdx? (fun x => decide (x = v))).map fun j => (env, .fr (.int (j : Nat))) := by
  have e : (iD L).all flatD = true := by
    rw [List.all_eq_true]
    intro x hx
    obtain ⟨i, _, rfl⟩ := List.mem_map.mp hx
    rfl
  have e2 : (iD L).findIdx? (fun e => PyData.eqv e (.int v)) = L.findIdx? (fun x => decide (x = v)) := by
    unfold iD
    rw [List.findIdx?_map]
    refine congrArg (fun p => List.findIdx? p L) (funext fun x => ?_)
    exact Q.eqv_int
  have e3 : mtE .index env a [.fr (.int v)] = if flatD (.int v) && (iD L).all flatD then ((iD L).findIdx? fun e => PyData.eqv e (.int v)).map fun j => (env, .fr (.int (j : Nat))) else none := by
    simp only [mtE, h]
    rfl
  rw [e3, e, e2]
  rfl
/-- what person n gains on the greedy -/
def val (L : List Int) (c n : Nat) : Int := ((n / c : Nat) : Int) - (gr L n : Int)
/-- the capacity is enough for the item k -/
structure Ok (L : List Int) (c k : Nat) : Prop where
  hk : k < L.length
  h : L.getD k 0 ≤ (c : Int) * (k + 1)
theorem Ok.itm {L : List Int} {c k : Nat} (b : Bd L) (o : Ok L c k) : L.getD k 0 = (itm L k : Int) ∧ itm L k ≤ c * (k + 1) ∧ 1 ≤ itm L k ∧ itm L k ≤ 60 := by
  have hk := o.hk
  have e : L.getD k 0 = L[k] := by rw [List.getD_eq_getElem?_getD, List.getElem?_eq_getElem hk]; rfl
  have h1 := itm_eq b hk
  have h2 := b.at hk
  have h3 := o.h
  rw [e, h1] at h3
  refine ⟨by rw [e, h1], by exact_mod_cast h3, by omega, by omega⟩
theorem val_back {L : List Int} {c k : Nat} (hc : 1 ≤ c) (b : Bd L) (o : Ok L c k) {n : Nat} (h : itm L k ≤ n) : val L c n ≤ val L c (n - itm L k) := by
  obtain ⟨h1, h2, h3, h4⟩ := o.itm b
  have hk := o.hk
  have e : L[k] = (itm L k : Int) := itm_eq b hk
  have q1 := (gr_spec b n).1
  have q2 := W_le1 (L := L) (w := gr L n) hk
  rw [e] at q2
  have q3 : ((n - itm L k : Nat) : Int) < W L (gr L n - k) := by omega
  have q4 : 1 ≤ gr L n - k := by
    refine Nat.le_of_not_lt fun d => ?_
    rw [show gr L n - k = 0 by omega, W_zero] at q3
    omega
  have q5 := (gr_iff b (n := n - itm L k) (s := gr L n - k - 1)).mpr (by rw [show gr L n - k - 1 + 1 = gr L n - k by omega]; exact q3)
  have q6 : n / c ≤ (n - itm L k) / c + (k + 1) := by
    have : n ≤ n - itm L k + c * (k + 1) := by omega
    have := Nat.div_le_div_right (c := c) this
    rwa [Nat.add_mul_div_left _ _ (by omega)] at this
  unfold val
  omega
theorem val_low {L : List Int} {c k : Nat} (hc : 1 ≤ c) (b : Bd L) (o : Ok L c k) : ∀ n : Nat, ∃ m, m < itm L k ∧ m ≤ n ∧ val L c n ≤ val L c m := by
  intro n
  induction n using Nat.strongRecOn with
  | ind n ih =>
    by_cases d : n < itm L k
    · exact ⟨n, d, Nat.le_refl _, Int.le_refl _⟩
    · have h3 := (o.itm b).2.2.1
      obtain ⟨m, h1, h2, h4⟩ := ih (n - itm L k) (by omega)
      exact ⟨m, h1, by omega, Int.le_trans (val_back hc b o (by omega)) h4⟩
/-- the wait of person i -/
def wt (c : Nat) (C : List Nat) (i : Nat) : Int := (go c C i : Int) - (C.getD i 0 : Int)
theorem wt_le {L : List Int} {c : Nat} {C : List Nat} (hc : 1 ≤ c) (g : Gap L C) {i : Nat} (hi : i < C.length) : ∃ n, n ≤ i ∧ wt c C i ≤ val L c n := by
  obtain ⟨j, h1, h2⟩ := go_ex (C := C) hc i i (Nat.le_refl _)
  refine ⟨j * c, h1, ?_⟩
  have := g (i - j * c) (j * c) (by omega)
  rw [show i - j * c + j * c = i by omega] at this
  unfold wt val
  rw [Nat.mul_div_cancel _ (by omega)]
  omega
theorem wt_ge {L : List Int} {c m : Nat} (hc : 1 ≤ c) {i : Nat} (hi : i < m) : val L c i ≤ wt c (grs L m) i := by
  have h1 := Nat.div_mul_le_self i c
  have := go_ge (C := grs L m) hc i i (i / c) (Nat.le_refl _) h1
  unfold wt val
  rw [grs_get hi]
  omega
/-- the law's worst wait is the program's -/
theorem mx_wt {L : List Int} {c k : Nat} (hc : 1 ≤ c) (b : Bd L) (o : Ok L c k) {v : Int} {n : Nat} (h : Mx (val L c) (itm L k) v n) {C : List Nat} (g : Gap L C) : (∀ i, i < C.length → wt c C i ≤ v) ∧ ∀ m, n < m → C = grs L m → Mx (wt c C) m v n := by
  obtain ⟨h1, h2, h3⟩ := h
  have key : ∀ i, i < C.length → wt c C i ≤ v ∧ (i < n → wt c C i < v) := fun i hi => by
    obtain ⟨p, p1, p2⟩ := wt_le hc g hi
    obtain ⟨q, q1, q2, q3⟩ := val_low hc b o p
    have := h3 q q1
    refine ⟨by omega, fun hin => ?_⟩
    have := this.2 (by omega)
    omega
  refine ⟨fun i hi => (key i hi).1, fun m hm e => ?_⟩
  subst e
  refine ⟨hm, ?_, fun i hi => key i (by simpa using hi)⟩
  have a1 := (key n (by simpa using hm)).1
  have a2 := wt_ge (L := L) (m := m) hc hm
  omega
/-! the line -/
/-- what w ticks bring above what they take -/
def exc (L : List Int) (c w : Nat) : Int := W L w - (c : Int) * w
theorem exc_back {L : List Int} {c k : Nat} (b : Bd L) (o : Ok L c k) {w : Nat} (h : k < w) : exc L c w ≤ exc L c (w - (k + 1)) := by
  obtain ⟨h1, h2, h3, h4⟩ := o.itm b
  have hk := o.hk
  have e : L[k] = (itm L k : Int) := itm_eq b hk
  obtain ⟨u, rfl⟩ : ∃ u, w = u + 1 := ⟨w - 1, by omega⟩
  have q := W_le1 (L := L) (w := u) hk
  rw [e] at q
  unfold exc
  rw [show u + 1 - (k + 1) = u - k by omega]
  have h5 : (itm L k : Int) ≤ ((c * (k + 1) : Nat) : Int) := by exact_mod_cast h2
  have h6 : (c : Int) * ((u + 1 : Nat) : Int) = ((c * (u - k) : Nat) : Int) + ((c * (k + 1) : Nat) : Int) := by
    rw [← Int.natCast_add, ← Nat.mul_add, show u - k + (k + 1) = u + 1 by omega]
    simp
  have h7 : (c : Int) * ((u - k : Nat) : Int) = ((c * (u - k) : Nat) : Int) := by simp
  omega
theorem exc_low {L : List Int} {c k : Nat} (b : Bd L) (o : Ok L c k) : ∀ w : Nat, ∃ u, u ≤ k ∧ u ≤ w ∧ exc L c w ≤ exc L c u := by
  intro w
  induction w using Nat.strongRecOn with
  | ind w ih =>
    by_cases d : w ≤ k
    · exact ⟨w, d, Nat.le_refl _, Int.le_refl _⟩
    · obtain ⟨u, h1, h2, h3⟩ := ih (w - (k + 1)) (by omega)
      exact ⟨u, h1, by omega, Int.le_trans (exc_back b o (by omega)) h3⟩
/-- the line behind tick t, of the first e -/
def lin (c : Nat) (C : List Nat) (e t : Nat) : Nat := (((List.range e).map (go c C)).filter fun x => decide (t < x)).length
theorem lin_le {L : List Int} {c : Nat} {C : List Nat} (hc : 1 ≤ c) (b : Bd L) (g : Gap L C) {e t : Nat} (he : e ≤ C.length) (ht : ∀ i, i < e → C.getD i 0 ≤ t) : lin c C e t = 0 ∨ ∃ w, 1 ≤ w ∧ (lin c C e t : Int) ≤ exc L c w ∧ lin c C e t + c * w ≤ e := by
  by_cases hex : ∃ p, p < e ∧ t < go c C p
  · right
    obtain ⟨p0, hp0⟩ := hex
    obtain ⟨p, _, ⟨h1, h2⟩, h3⟩ := first_ex (P := fun p => p < e ∧ t < go c C p) p0 hp0
    have hl : lin c C e t ≤ e - p := by
      refine filter_le (fun i h q => ?_) (fun i h q => by simp at h; omega)
      simp only [List.getElem_map, List.getElem_range]
      simp at h
      exact decide_eq_false fun d => h3 i q ⟨by omega, d⟩
    obtain ⟨j, j1, j2⟩ := go_ex (C := C) hc p p (Nat.le_refl _)
    have hs := ht (p - j * c) (by omega)
    generalize hS : C.getD (p - j * c) 0 = s at *
    have hj : t - s + 1 ≤ j := by omega
    have hg := g (p - j * c) (e - 1 - (p - j * c)) (by omega)
    rw [show p - j * c + (e - 1 - (p - j * c)) = e - 1 by omega, hS] at hg
    have ht2 := ht (e - 1) (by omega)
    have hW := (gr_iff b (n := e - 1 - (p - j * c)) (s := t - s)).mp (by omega)
    have hm : c * (t - s + 1) ≤ j * c := by rw [Nat.mul_comm]; exact Nat.mul_le_mul_right c hj
    refine ⟨t - s + 1, by omega, ?_, by omega⟩
    unfold exc
    have h7 : (c : Int) * ((t - s + 1 : Nat) : Int) = ((c * (t - s + 1) : Nat) : Int) := by simp
    rw [h7]
    generalize c * (t - s + 1) = z at *
    omega
  · left
    have := filter_le (p := fun x => decide (t < x)) (C := (List.range e).map (go c C)) (s := 0) (e := 0) (fun i h q => by omega) (fun i h q => by
      simp only [List.getElem_map, List.getElem_range]
      simp at h
      exact decide_eq_false fun d => hex ⟨i, h, d⟩)
    unfold lin
    omega
theorem lin_ge {c : Nat} {C : List Nat} (hc : 1 ≤ c) {e t : Nat} : e - c * (t + 1) ≤ lin c C e t := by
  refine filter_ge (s := c * (t + 1)) (by simp) fun i hi h1 h2 => ?_
  simp only [List.getElem_map, List.getElem_range]
  refine decide_eq_true ?_
  have h3 := Nat.div_mul_le_self i c
  have := go_ge (C := C) hc i i (i / c) (Nat.le_refl _) h3
  have h4 : t + 1 ≤ i / c := (Nat.le_div_iff_mul_le (by omega)).mpr (by rw [Nat.mul_comm]; exact h1)
  omega
/-- the law's longest line: 0, or the first of the twelve at which most is above -/
structure Ln (L : List Int) (c : Nat) (v : Int) (n : Nat) : Prop where
  h0 : 0 ≤ v
  hb : ∀ w, 1 ≤ w → w ≤ 12 → exc L c w ≤ v
  hn : (v = 0 ∧ n = 0) ∨ (0 < v ∧ ∃ w, 1 ≤ w ∧ w ≤ 12 ∧ exc L c w = v ∧ (∀ u, 1 ≤ u → u < w → exc L c u < v) ∧ W L w = n)
theorem Ln.far {L : List Int} {c k : Nat} {v : Int} {n : Nat} (b : Bd L) (o : Ok L c k) (l : Ln L c v n) (w : Nat) : exc L c w ≤ v := by
  obtain ⟨u, h1, h2, h3⟩ := exc_low b o w
  have hk := o.hk
  have hl := b.hl
  by_cases e : u = 0
  · subst e
    have := l.h0
    have : exc L c 0 = 0 := by simp [exc, W_zero]
    omega
  · have := l.hb u (by omega) (by omega)
    omega
theorem Ln.small {L : List Int} {c k : Nat} {v : Int} {n : Nat} (b : Bd L) (o : Ok L c k) (l : Ln L c v n) : n ≤ itm L k := by
  have ⟨h1, h2, h3, h4⟩ := o.itm b
  rcases l.hn with ⟨_, rfl⟩ | ⟨hv, w, w1, w2, w3, w4, w5⟩
  · exact Nat.zero_le _
  · have hw : w ≤ k := by
      refine Nat.le_of_not_lt fun d => ?_
      have q := exc_back b o d
      by_cases e : w - (k + 1) = 0
      · rw [e] at q
        have : exc L c 0 = 0 := by simp [exc, W_zero]
        omega
      · have := w4 (w - (k + 1)) (by omega) (by omega)
        omega
    have hk := o.hk
    have q := W_le1 (L := L) (w := w - 1) (v := w - 1) (by omega)
    rw [show w - 1 + 1 = w by omega, show w - 1 - (w - 1) = 0 by omega, W_zero] at q
    have lev : ∀ a d (h : a + d < L.length), L[a] ≤ L[a + d] := by
      intro a d
      induction d with
      | zero => intro h; exact Int.le_refl _
      | succ d ih => intro h; exact Int.le_trans (ih (by omega)) (b.h (a + d) h)
    have q2 := lev (w - 1) (k - (w - 1)) (by omega)
    have e2 : L[w - 1 + (k - (w - 1))]'(by omega) = L[k] := by congr 1; omega
    have e3 := itm_eq b hk
    omega
/-- nobody's line is longer; the first n people have it, and no fewer do -/
theorem ln_le {L : List Int} {c k : Nat} (hc : 1 ≤ c) (b : Bd L) (o : Ok L c k) {v : Int} {n : Nat} (l : Ln L c v n) {C : List Nat} (g : Gap L C) {e t : Nat} (he : e ≤ C.length) (ht : ∀ i, i < e → C.getD i 0 ≤ t) : (lin c C e t : Int) ≤ v ∧ (0 < v → e < n → (lin c C e t : Int) < v) := by
  have h0 := l.h0
  rcases lin_le hc b g he ht with q | ⟨w, w1, w2, w3⟩
  · rw [q]
    exact ⟨h0, fun h _ => h⟩
  · have hf := l.far b o w
    refine ⟨by omega, fun hv hn => ?_⟩
    refine Int.lt_of_not_ge fun d => ?_
    rcases l.hn with ⟨hv0, _⟩ | ⟨_, u, u1, u2, u3, u4, u5⟩
    · omega
    · have huw : u ≤ w := by
        refine Nat.le_of_not_lt fun x => ?_
        have := u4 w w1 x
        omega
      have hm : c * u ≤ c * w := Nat.mul_le_mul_left c huw
      have h7 : (c : Int) * (u : Int) = ((c * u : Nat) : Int) := by simp
      unfold exc at u3
      rw [h7] at u3
      generalize c * u = y at *
      generalize c * w = z at *
      omega
theorem ln_at {L : List Int} {c k : Nat} (hc : 1 ≤ c) (b : Bd L) (o : Ok L c k) {v : Int} {n m : Nat} (l : Ln L c v n) (hv : 0 < v) (hm : n ≤ m) : 1 ≤ n ∧ (lin c (grs L m) n (gr L (n - 1)) : Int) = v := by
  rcases l.hn with ⟨hv0, _⟩ | ⟨_, u, u1, u2, u3, u4, u5⟩
  · omega
  · have h7 : (c : Int) * (u : Int) = ((c * u : Nat) : Int) := by simp
    unfold exc at u3
    rw [h7] at u3
    have hn : 1 ≤ n := by omega
    refine ⟨hn, Int.le_antisymm ?_ ?_⟩
    · refine (ln_le hc b o l (grs_gap b) (by simpa using hm) fun i hi => ?_).1
      rw [grs_get (by omega)]
      exact gr_mono b (by omega)
    · have ht : gr L (n - 1) ≤ u - 1 := (gr_iff b).mpr (by rw [show u - 1 + 1 = u by omega]; omega)
      have q := lin_ge (C := grs L m) hc (e := n) (t := gr L (n - 1))
      have hcu : c * (gr L (n - 1) + 1) ≤ c * u := Nat.mul_le_mul_left c (by omega)
      generalize c * u = y at *
      generalize c * (gr L (n - 1) + 1) = z at *
      omega
/-- the best of 1 .. i: how much, and the first at which; 0, 0 if there is nothing -/
structure Bst (f : Nat → Nat) (i mo fe : Nat) : Prop where
  hi : fe ≤ i
  hb : ∀ e, 1 ≤ e → e ≤ i → f e ≤ mo
  hc : (mo = 0 ∧ fe = 0) ∨ (0 < mo ∧ 1 ≤ fe ∧ f fe = mo ∧ ∀ e, 1 ≤ e → e < fe → f e < mo)
theorem Bst.zero {f : Nat → Nat} : Bst f 0 0 0 := ⟨Nat.le_refl _, fun e h1 h2 => by omega, .inl ⟨rfl, rfl⟩⟩
theorem Bst.up {f : Nat → Nat} {i mo fe : Nat} (b : Bst f i mo fe) (h : mo < f (i + 1)) : Bst f (i + 1) (f (i + 1)) (i + 1) := by
  obtain ⟨h1, h2, h3⟩ := b
  refine ⟨Nat.le_refl _, fun e a1 a2 => ?_, .inr ⟨by omega, by omega, rfl, fun e a1 a2 => ?_⟩⟩
  · by_cases c : e = i + 1
    · subst c; exact Nat.le_refl _
    · have := h2 e a1 (by omega); omega
  · have := h2 e a1 (by omega); omega
theorem Bst.stay {f : Nat → Nat} {i mo fe : Nat} (b : Bst f i mo fe) (h : ¬ mo < f (i + 1)) : Bst f (i + 1) mo fe := by
  obtain ⟨h1, h2, h3⟩ := b
  refine ⟨by omega, fun e a1 a2 => ?_, h3⟩
  by_cases c : e = i + 1
  · subst c; omega
  · exact h2 e a1 (by omega)
/-- the law's longest line is the program's -/
theorem bst_ln {L : List Int} {c k m : Nat} (hc : 1 ≤ c) (b : Bd L) (o : Ok L c k) {v : Int} {n : Nat} (l : Ln L c v n) (hm : 60 ≤ m) {mo fe : Nat} (q : Bst (fun e => lin c (grs L m) e (gr L (e - 1))) m mo fe) : v = (mo : Int) ∧ n = fe := by
  have hs := l.small b o
  have hi := (o.itm b).2.2.2
  have key : ∀ e, 1 ≤ e → e ≤ m → ((lin c (grs L m) e (gr L (e - 1)) : Nat) : Int) ≤ v ∧ (0 < v → e < n → ((lin c (grs L m) e (gr L (e - 1)) : Nat) : Int) < v) := fun e h1 h2 => ln_le hc b o l (grs_gap b) (by simpa using h2) fun i hi => by
    rw [grs_get (by omega)]
    exact gr_mono b (by omega)
  obtain ⟨q1, q2, q3⟩ := q
  have q2 : ∀ e, 1 ≤ e → e ≤ m → lin c (grs L m) e (gr L (e - 1)) ≤ mo := q2
  have q3 : (mo = 0 ∧ fe = 0) ∨ (0 < mo ∧ 1 ≤ fe ∧ lin c (grs L m) fe (gr L (fe - 1)) = mo ∧ ∀ e, 1 ≤ e → e < fe → lin c (grs L m) e (gr L (e - 1)) < mo) := q3
  have h0 := l.h0
  rcases l.hn with ⟨hv, hn⟩ | ⟨hv, _⟩
  · rcases q3 with ⟨a, b⟩ | ⟨a, b, c, d⟩
    · omega
    · have := (key fe b q1).1
      omega
  · obtain ⟨a1, a2⟩ := ln_at hc b o l hv (m := m) (by omega)
    have h3 := q2 n a1 (by omega)
    rcases q3 with ⟨a, b⟩ | ⟨a, b, c, d⟩
    · omega
    · have h4 := key fe b q1
      have e : v = (mo : Int) := by omega
      refine ⟨e, ?_⟩
      rcases Nat.lt_trichotomy n fe with x | x | x
      · have := d n a1 x; omega
      · exact x
      · have := h4.2 hv x; omega
/-- the first width for which the capacity is enough -/
structure Fst (L : List Int) (c k : Nat) : Prop where
  o : Ok L c k
  h : ∀ j, j < k → ¬ Ok L c j
theorem lev_le {L : List Int} (b : Bd L) {i : Nat} : ∀ {j : Nat} (hj : j < L.length) (h : i ≤ j), L[i] ≤ L[j]
  | 0, hj, h => by
    have : i = 0 := by omega
    subst this
    exact Int.le_refl _
  | j + 1, hj, h => by
    by_cases c : i = j + 1
    · subst c; exact Int.le_refl _
    · exact Int.le_trans (lev_le b (j := j) (by omega) (by omega)) (b.h j hj)
theorem Fst.low {L : List Int} {c k : Nat} (b : Bd L) (f : Fst L c k) : ∀ (n w : Nat), w ≤ n → w ≤ k + 1 → (itm L k : Int) ≤ W L w ∨ ((c * w : Nat) : Int) ≤ W L w
  | _, 0, _, _ => by right; rw [W_zero]; simp
  | 0, w + 1, h, _ => by omega
  | n + 1, w + 1, h, hk => by
    obtain ⟨v, hv, e⟩ := W_ex (L := L) (w := w) b.ne
    have hw := W_nonneg b (w - v) (w - v) (Nat.le_refl _)
    by_cases d : k ≤ v
    · left
      have := lev_le b hv d
      have := itm_eq b f.o.hk
      omega
    · have hn := f.h v (by omega)
      have e2 : L.getD v 0 = L[v] := by rw [List.getD_eq_getElem?_getD, List.getElem?_eq_getElem hv]; rfl
      have h3 : ((c * (v + 1) : Nat) : Int) < L[v] := by
        refine Int.lt_of_not_ge fun q => hn ⟨hv, ?_⟩
        rw [e2]
        simpa using q
      by_cases x : v ≤ w
      · rcases Fst.low b f n (w - v) (by omega) (by omega) with q | q
        · left; omega
        · right
          have : c * (w + 1) = c * (v + 1) + c * (w - v) := by rw [← Nat.mul_add]; congr 1; omega
          omega
      · right
        have : c * (w + 1) ≤ c * (v + 1) := Nat.mul_le_mul_left c (by omega)
        omega
theorem Fst.gr {L : List Int} {c k : Nat} (b : Bd L) (f : Fst L c k) {i : Nat} (h : i < itm L k) : gr L i ≤ k := by
  obtain ⟨h1, h2, h3, h4⟩ := f.o.itm b
  rw [gr_iff b]
  rcases f.low b (k + 1) (k + 1) (Nat.le_refl _) (Nat.le_refl _) with q | q <;> omega
theorem Mx.up {f : Nat → Int} {i k : Nat} {v : Int} (h : Mx f i v k) (d : v < f i) : Mx f (i + 1) (f i) i := by
  refine ⟨by omega, rfl, fun j hj => ?_⟩
  by_cases c : j = i
  · subst c; exact ⟨Int.le_refl _, fun h => by omega⟩
  · have := (h.2.2 j (by omega)).1
    exact ⟨by omega, fun _ => by omega⟩
theorem Mx.stay {f : Nat → Int} {i k : Nat} {v : Int} (h : Mx f i v k) (d : ¬ v < f i) : Mx f (i + 1) v k := by
  have h1 := h.1
  refine ⟨by omega, h.2.1, fun j hj => ?_⟩
  by_cases c : j = i
  · subst c; exact ⟨by omega, fun h => by omega⟩
  · exact h.2.2 j (by omega)
theorem Mx.one {f : Nat → Int} (h : f 0 = 0) : Mx f 1 0 0 := ⟨by omega, h, fun j hj => by
  have : j = 0 := by omega
  subst this
  exact ⟨by omega, fun h => by omega⟩⟩
theorem val_zero {L : List Int} (b : Bd L) {c : Nat} : val L c 0 = 0 := by simp [val, gr_zero b]
/-- the law's longest line, read off its twelve numbers -/
theorem ln_of {L : List Int} {c : Nat} (b : Bd L) : ∃ v n, Ln L c v n ∧ maxL (0 :: (List.range 12).map fun k => exc L c (k + 1)) = v ∧ ((v = 0 ∧ n = 0) ∨ (0 < v ∧ ∃ j, j < 12 ∧ ((List.range 12).map fun k => exc L c (k + 1)).findIdx? (fun x => decide (x = v)) = some j ∧ W L (j + 1) = (n : Int))) := by
  have hm := v_maxL_mem (l := 0 :: (List.range 12).map fun k => exc L c (k + 1)) (by simp)
  have hb := fun x (hx : x ∈ 0 :: (List.range 12).map fun k => exc L c (k + 1)) => v_le_maxL hx
  generalize maxL (0 :: (List.range 12).map fun k => exc L c (k + 1)) = v at *
  have h0 := hb 0 (.head _)
  have hb2 : ∀ w, 1 ≤ w → w ≤ 12 → exc L c w ≤ v := fun w h1 h2 => hb _ (.tail _ (List.mem_map.mpr ⟨w - 1, List.mem_range.mpr (by omega), by rw [show w - 1 + 1 = w by omega]⟩))
  by_cases d : v = 0
  · exact ⟨v, 0, ⟨h0, hb2, .inl ⟨d, rfl⟩⟩, rfl, .inl ⟨d, rfl⟩⟩
  · have hv : 0 < v := by omega
    have hm2 : v ∈ (List.range 12).map fun k => exc L c (k + 1) := by
      rcases List.mem_cons.mp hm with e | e
      · exact absurd e d
      · exact e
    have hs : (((List.range 12).map fun k => exc L c (k + 1)).findIdx? (fun x => decide (x = v))).isSome = true := by
      rw [List.findIdx?_isSome, List.any_eq_true]
      exact ⟨v, hm2, by simp⟩
    obtain ⟨j, hj⟩ := Option.isSome_iff_exists.mp hs
    obtain ⟨h1, h2, h3⟩ := List.findIdx?_eq_some_iff_getElem.mp hj
    have hj12 : j < 12 := by simpa using h1
    have hw := W_nonneg b (j + 1) (j + 1) (Nat.le_refl _)
    have e : W L (j + 1) = (((W L (j + 1)).toNat : Nat) : Int) := by omega
    simp only [List.getElem_map, List.getElem_range, decide_eq_true_eq] at h2
    refine ⟨v, (W L (j + 1)).toNat, ⟨h0, hb2, .inr ⟨hv, j + 1, by omega, by omega, h2, fun u u1 u2 => ?_, e⟩⟩, rfl, .inr ⟨hv, j, hj12, hj, e⟩⟩
    have h4 := h3 (u - 1) (by omega)
    simp only [List.getElem_map, List.getElem_range, decide_eq_true_eq] at h4
    rw [show u - 1 + 1 = u by omega] at h4
    have := hb2 u u1 (by omega)
    omega
theorem eq_emptyN {env : Ev} {x : En} {X : List Nat} (h : peek env x = some (.list (nD X))) : cmpE .Eq env x (.own (.nd .ls [])) = some (decide (X = [])) := by
  rw [nD_iD] at h
  rw [eq_empty h]
  simp
/-- who is there by tick t and goes later -/
def inl (c : Nat) (C : List Nat) (n t : Nat) : Nat := ((List.range n).filter fun i => decide (C.getD i 0 ≤ t) && decide (t < go c C i)).length
theorem inl_succ {c n t : Nat} {C : List Nat} : inl c C (n + 1) t = inl c C n t + if C.getD n 0 ≤ t ∧ t < go c C n then 1 else 0 := by
  unfold inl
  rw [List.range_succ, List.filter_append, List.length_append]
  congr 1
  by_cases d : C.getD n 0 ≤ t ∧ t < go c C n
  · rw [if_pos d, List.filter_cons_of_pos (by rw [decide_eq_true d.1, decide_eq_true d.2]; rfl)]; rfl
  · rw [if_neg d, List.filter_cons_of_neg (by rw [Bool.and_eq_true, decide_eq_true_eq, decide_eq_true_eq]; exact d)]; rfl
theorem inl_le_n {c t : Nat} {C : List Nat} {n : Nat} : inl c C n t ≤ n := by
  unfold inl
  exact Nat.le_trans (List.length_filter_le ..) (by simp)
theorem lin_succ {c n t : Nat} {C : List Nat} : lin c C (n + 1) t = lin c C n t + if t < go c C n then 1 else 0 := by
  unfold lin
  rw [List.range_succ, List.map_append, List.filter_append, List.length_append]
  congr 1
  by_cases d : t < go c C n
  · rw [if_pos d]; simp [d]
  · rw [if_neg d]; simp [d]
theorem inl_lin {c t : Nat} {C : List Nat} : ∀ {e : Nat}, (∀ i, i < e → C.getD i 0 ≤ t) → inl c C e t = lin c C e t
  | 0, _ => rfl
  | e + 1, h => by
    rw [inl_succ, lin_succ, inl_lin fun i hi => h i (by omega)]
    have q := h e (by omega)
    congr 1
    by_cases d : t < go c C e
    · rw [if_pos ⟨q, d⟩, if_pos d]
    · rw [if_neg fun x => d x.2, if_neg d]
theorem inl_far {c t : Nat} {C : List Nat} {e : Nat} : ∀ {n : Nat}, e ≤ n → (∀ i, e ≤ i → i < n → t < C.getD i 0) → inl c C n t = inl c C e t
  | 0, h, _ => by
    have : e = 0 := by omega
    subst this
    rfl
  | n + 1, h, h2 => by
    by_cases d : e = n + 1
    · subst d; rfl
    · rw [inl_succ, inl_far (n := n) (by omega) fun i h3 h4 => h2 i h3 (by omega)]
      have := h2 n (by omega) (by omega)
      rw [if_neg (by omega)]
      rfl
/-- people who keep their distance: nobody's line is longer -/
theorem inl_le {L : List Int} {c k : Nat} (hc : 1 ≤ c) (b : Bd L) (o : Ok L c k) {v : Int} {n : Nat} (l : Ln L c v n) {C : List Nat} (g : Gap L C) {t : Nat} : (inl c C C.length t : Int) ≤ v := by
  by_cases hex : ∃ e, e < C.length ∧ t < C.getD e 0
  · obtain ⟨e0, he0⟩ := hex
    obtain ⟨e, _, ⟨h1, h2⟩, h3⟩ := first_ex (P := fun e => e < C.length ∧ t < C.getD e 0) e0 he0
    have hlt : ∀ i, i < e → C.getD i 0 ≤ t := fun i hi => Nat.le_of_not_lt fun d => h3 i hi ⟨by omega, d⟩
    rw [inl_far (e := e) (by omega) fun i hi hi2 => Nat.lt_of_lt_of_le h2 (g.le hi hi2), inl_lin hlt]
    exact (ln_le hc b o l g (by omega) hlt).1
  · have hlt : ∀ i, i < C.length → C.getD i 0 ≤ t := fun i hi => Nat.le_of_not_lt fun d => hex ⟨i, hi, d⟩
    rw [inl_lin hlt]
    exact (ln_le hc b o l g (Nat.le_refl _) hlt).1
/-- one person more, later than the greedy -/
theorem Gap.snoc {L : List Int} {C : List Nat} (b : Bd L) (g : Gap L C) {mo : Nat} (h : ∀ a, a < C.length → C.getD a 0 ≤ gr L a + mo) : Gap L (C ++ [gr L C.length + mo]) := by
  intro a d hd
  simp at hd
  have e : ∀ i, i < C.length → (C ++ [gr L C.length + mo]).getD i 0 = C.getD i 0 := fun i hi => by
    simp only [List.getD_eq_getElem?_getD]
    rw [List.getElem?_append_left hi]
  have e2 : (C ++ [gr L C.length + mo]).getD C.length 0 = gr L C.length + mo := by
    simp [List.getD_eq_getElem?_getD]
  by_cases x : a + d < C.length
  · rw [e _ (by omega), e _ x]
    exact g a d x
  · rw [show a + d = C.length by omega, e2]
    by_cases y : a = C.length
    · rw [y, e2, show d = 0 by omega, gr_zero b]; omega
    · rw [e _ (by omega)]
      have := h a (by omega)
      have := gr_gap b (m := a) (n := C.length) (by omega)
      rw [show C.length - a = d by omega] at this
      omega
theorem shaped_small {d : Dt} {k w : Nat} (h : Sml d k w) (hk : k ≤ 40) : SeqAt.shaped d = true := shaped_of h.hs (Nat.le_trans h.hd hk)
theorem eqv_nD {X Y : List Nat} : PyData.eqv (.tuple (nD X)) (.tuple (nD Y)) = decide (X = Y) := by
  simp only [PyData.eqv]
  rw [nD_iD, nD_iD, eqv_ints]
  by_cases d : X = Y
  · subst d; simp
  · have : ¬ (X.map fun n : Nat => (n : Int)) = Y.map fun n : Nat => (n : Int) := fun e => d ((List.map_inj_right (fun a b h => by exact_mod_cast h)).mp e)
    simp [d, this]
theorem ne_nD {env : Ev} {X Y : List Nat} : cmpE .NotEq env (.fr (.tuple (nD X))) (.fr (.tuple (nD Y))) = some (!decide (X = Y)) := by
  have h : ∀ Z : List Nat, SeqAt.shaped (.tuple (nD Z)) = true := fun Z => by rw [nD_iD]; exact shaped_tints
  rw [Q.cmp_neD rfl rfl (h X) (h Y), eqv_nD]
end V
end MP
/-! halls: places, stairs, ways and least ticks; crowds -/
namespace MP.H
open PySem L2 MP
/-- a stair: begin, end, time, capacity -/
structure Sr where
  b : Nat
  e : Nat
  t : Nat
  c : Nat
def sD (s : Sr) : Dt := .tuple [.int (s.b : Int), .int (s.e : Int), .int (s.t : Int), .int (s.c : Int)]
def ssD (S : List Sr) : List Dt := S.map sD
@[simp] theorem ssD_length {S : List Sr} : (ssD S).length = S.length := by simp [ssD]
@[simp] theorem ssD_get {S : List Sr} {i : Nat} (h : i < (ssD S).length) : (ssD S)[i] = .tuple [.int ((S[i]'(by simpa using h)).b : Int), .int ((S[i]'(by simpa using h)).e : Int), .int ((S[i]'(by simpa using h)).t : Int), .int ((S[i]'(by simpa using h)).c : Int)] := by simp [ssD, sD]
@[simp] theorem ssD_nil : ssD [] = [] := rfl
/-- a stair of a hall with m places -/
structure Sk (m : Nat) (s : Sr) : Prop where
  b : s.b < m
  e : s.e < m
  d : s.b ≠ s.e
  t1 : 1 ≤ s.t
  t2 : s.t ≤ 6
  c1 : 1 ≤ s.c
  c2 : s.c ≤ 9
/-- a hall -/
structure Hk (m : Nat) (S : List Sr) : Prop where
  m1 : 1 ≤ m
  m2 : m ≤ 8
  l : S.length ≤ 16
  s : ∀ s ∈ S, Sk m s
def hD (m : Nat) (S : List Sr) : Dt := .tuple [.int (m : Int), .tuple (ssD S)]
/-! ### ways -/
/-- a way from a place to g: where its stairs begin, its time -/
inductive Wk (S : List Sr) (g : Nat) : List Nat → Nat → Nat → Prop
  | z : Wk S g [] g 0
  | s {s : Sr} {L : List Nat} {t : Nat} : s ∈ S → Wk S g L s.e t → Wk S g (s.b :: L) s.b (s.t + t)
section
variable {S : List Sr} {g m : Nat}
theorem Wk.suf {L : List Nat} {p t v : Nat} (h : Wk S g L p t) (hv : v ∈ L) : ∃ L' t', Wk S g L' v t' ∧ t' ≤ t ∧ L' <:+ L := by
  induction h with
  | z => cases hv
  | @s s L t hs h ih =>
    by_cases e : v = s.b
    · subst e
      exact ⟨_, _, .s hs h, Nat.le_refl _, List.suffix_refl _⟩
    · have hv : v ∈ L := by
        rcases List.mem_cons.mp hv with h | h
        · exact absurd h e
        · exact h
      obtain ⟨L', t', h1, h2, h3⟩ := ih hv
      exact ⟨L', t', h1, by omega, List.IsSuffix.trans h3 (List.suffix_cons _ _)⟩
/-- a way with no place twice -/
theorem Wk.simple {L : List Nat} {p t : Nat} (h : Wk S g L p t) : ∃ L' t', Wk S g L' p t' ∧ t' ≤ t ∧ (g :: L').Nodup := by
  induction h with
  | z => exact ⟨[], 0, .z, Nat.le_refl _, by simp⟩
  | @s s L t hs h ih =>
    obtain ⟨L', t', h1, h2, h3⟩ := ih
    by_cases e : s.b = g
    · refine ⟨[], 0, ?_, Nat.zero_le _, by simp⟩
      rw [e]; exact .z
    · by_cases hm : s.b ∈ L'
      · obtain ⟨L2, t2, q1, q2, q3⟩ := h1.suf hm
        refine ⟨L2, t2, q1, by omega, ?_⟩
        have h3' := List.nodup_cons.mp h3
        exact List.nodup_cons.mpr ⟨fun z => h3'.1 (q3.mem z), h3'.2.sublist q3.sublist⟩
      · refine ⟨s.b :: L', s.t + t', .s hs h1, by omega, ?_⟩
        have h3' := List.nodup_cons.mp h3
        refine List.nodup_cons.mpr ⟨fun z => ?_, List.nodup_cons.mpr ⟨hm, h3'.2⟩⟩
        rcases List.mem_cons.mp z with z | z
        · exact e z.symm
        · exact h3'.1 z
theorem nodup_len : ∀ {n : Nat} {L : List Nat}, L.Nodup → (∀ x ∈ L, x < n) → L.length ≤ n
  | 0, [], _, _ => Nat.le_refl _
  | 0, x :: L, _, h => absurd (h x List.mem_cons_self) (Nat.not_lt_zero _)
  | n + 1, L, hn, h => by
    have h1 : (L.erase n).length ≤ n := nodup_len (hn.erase n) fun x hx => by
      have h2 := (List.Nodup.mem_erase_iff hn).mp hx
      have := h x h2.2
      omega
    have h2 := List.length_erase (a := n) (l := L)
    split at h2 <;> omega
theorem Wk.lt (hk : Hk m S) {L : List Nat} {p t : Nat} (h : Wk S g L p t) : (∀ x ∈ L, x < m) ∧ t ≤ 6 * L.length ∧ (p = g ∨ p < m) := by
  induction h with
  | z => exact ⟨by simp, Nat.le_refl _, .inl rfl⟩
  | @s s L t hs h ih =>
    obtain ⟨h1, h2, _⟩ := ih
    have k := hk.s s hs
    refine ⟨fun x hx => ?_, ?_, .inr k.b⟩
    · rcases List.mem_cons.mp hx with rfl | hx
      · exact k.b
      · exact h1 x hx
    · have := k.t2
      simp only [List.length_cons]
      omega
theorem Wk.short (hk : Hk m S) (hg : g < m) {L : List Nat} {p t : Nat} (h : Wk S g L p t) : ∃ L' t', Wk S g L' p t' ∧ t' ≤ t ∧ L'.length < m ∧ t' ≤ 42 := by
  obtain ⟨L', t', h1, h2, h3⟩ := h.simple
  obtain ⟨q1, q2, _⟩ := h1.lt hk
  have hl := nodup_len (n := m) h3 fun x hx => by
    rcases List.mem_cons.mp hx with rfl | hx
    · exact hg
    · exact q1 x hx
  simp only [List.length_cons] at hl
  have := hk.m2
  exact ⟨L', t', h1, h2, by omega, by omega⟩
/-- o: the least time of a way from p, none where there is none -/
def Dst (S : List Sr) (g p : Nat) : Option Nat → Prop
  | none => ∀ L t, ¬ Wk S g L p t
  | some v => (∃ L, Wk S g L p v) ∧ ∀ L t, Wk S g L p t → v ≤ t
theorem Dst.uniq {p : Nat} : ∀ {o o' : Option Nat}, Dst S g p o → Dst S g p o' → o = o'
  | none, none, _, _ => rfl
  | none, some v, h, ⟨⟨L, q⟩, _⟩ => absurd q (h L v)
  | some v, none, ⟨⟨L, q⟩, _⟩, h => absurd q (h L v)
  | some v, some w, ⟨⟨L, q⟩, h⟩, ⟨⟨L', q'⟩, h'⟩ => congrArg some (Nat.le_antisymm (h L' w q') (h' L v q))
theorem Dst.le (hk : Hk m S) (hg : g < m) {p v : Nat} (h : Dst S g p (some v)) : v ≤ 42 := by
  obtain ⟨⟨L, q⟩, h⟩ := h
  obtain ⟨L', t', h1, h2, _, h4⟩ := q.short hk hg
  have := h L' t' h1
  omega
/-! ### going on tick by tick -/
inductive Fw (S : List Sr) (p : Nat) : Nat → Nat → Prop
  | z : Fw S p p 0
  | w {q t : Nat} : Fw S p q t → Fw S p q (t + 1)
  | r {s : Sr} {t : Nat} : s ∈ S → Fw S p s.b t → Fw S p s.e (t + s.t)
theorem Fw.of {L : List Nat} {x t : Nat} (h : Wk S g L x t) {p u : Nat} (f : Fw S p x u) : Fw S p g (u + t) := by
  induction h generalizing u with
  | z => exact f
  | @s s L t hs h ih =>
    have := ih (.r hs f)
    rw [show u + (s.t + t) = u + s.t + t by omega]
    exact this
theorem Fw.wk {p q t : Nat} (f : Fw S p q t) : ∀ {L : List Nat} {t' : Nat}, Wk S g L q t' → ∃ L' t2, Wk S g L' p t2 ∧ t2 ≤ t + t' := by
  induction f with
  | z => intro L t' h; exact ⟨L, t', h, by omega⟩
  | w f ih =>
    intro L t' h
    obtain ⟨L', t2, h1, h2⟩ := ih h
    exact ⟨L', t2, h1, by omega⟩
  | r hs f ih =>
    intro L t' h
    obtain ⟨L', t2, h1, h2⟩ := ih (.s hs h)
    exact ⟨L', t2, h1, by omega⟩
theorem Dst.some_of {p t : Nat} (f : Fw S p g t) (h : ∀ u < t, ¬ Fw S p g u) : Dst S g p (some t) := by
  obtain ⟨L, t2, h1, h2⟩ := f.wk (g := g) .z
  have h3 := Fw.of h1 .z
  have : t2 = t := by
    refine Classical.byContradiction fun n => h t2 (by omega) ?_
    simpa using h3
  subst this
  refine ⟨⟨L, h1⟩, fun L' t' h' => ?_⟩
  have h4 := Fw.of h' .z
  refine Classical.byContradiction fun n => h t' (by omega) ?_
  simpa using h4
theorem Dst.none_of (hk : Hk m S) (hg : g < m) {p : Nat} (h : ∀ u < 43, ¬ Fw S p g u) : Dst S g p none := by
  intro L t q
  obtain ⟨L', t', h1, _, _, h4⟩ := q.short hk hg
  have h3 := Fw.of h1 .z
  exact h t' (by omega) (by simpa using h3)
/-! ### the places that are come to, row by row -/
/-- rows: no place twice -/
def Nd (m : Nat) (R : List (List Nat)) : Prop := ∀ u, (R.getD u []).Nodup ∧ ∀ q ∈ R.getD u [], q < m
theorem Nd.len {R : List (List Nat)} (h : Nd m R) (u : Nat) : (R.getD u []).length ≤ m := nodup_len (h u).1 (h u).2
structure Rws (S : List Sr) (m p T : Nat) (R : List (List Nat)) : Prop where
  l : R.length = 60
  n : Nd m R
  z : p ∈ R.getD 0 []
  snd : ∀ t q, t < 60 → q ∈ R.getD t [] → Fw S p q t
  w : ∀ u q, u < T → q ∈ R.getD u [] → q ∈ R.getD (u + 1) []
  r : ∀ u s, u < T → s ∈ S → s.b ∈ R.getD u [] → s.e ∈ R.getD (u + s.t) []
theorem Rws.all (hk : Hk m S) {p T : Nat} {R : List (List Nat)} (h : Rws S m p T R) : ∀ {q t : Nat}, Fw S p q t → t ≤ T → q ∈ R.getD t [] := by
  intro q t f
  induction f with
  | z => exact fun _ => h.z
  | w f ih => exact fun ht => h.w _ _ (by omega) (ih (by omega))
  | @r s t hs f ih =>
    intro ht
    have := (hk.s s hs).t1
    exact h.r _ s (by omega) hs (ih (by omega))
end
/-! ### crowds -/
/-- a crowd: place, tick, people -/
structure Cw where
  p : Nat
  t : Nat
  n : Nat
def cD (c : Cw) : Dt := .tuple [.int (c.p : Int), .int (c.t : Int), .int (c.n : Int)]
def csD (C : List Cw) : List Dt := C.map cD
@[simp] theorem csD_length {C : List Cw} : (csD C).length = C.length := by simp [csD]
@[simp] theorem csD_get {C : List Cw} {i : Nat} (h : i < (csD C).length) : (csD C)[i] = .tuple [.int ((C[i]'(by simpa using h)).p : Int), .int ((C[i]'(by simpa using h)).t : Int), .int ((C[i]'(by simpa using h)).n : Int)] := by simp [csD, cD]
@[simp] theorem csD_nil : csD [] = [] := rfl
/-- what a crowd's place and tick are as a pair -/
def pkD (k : Nat × Nat) : Dt := .tuple [.int (k.1 : Int), .int (k.2 : Int)]
def pksD (K : List (Nat × Nat)) : List Dt := K.map pkD
@[simp] theorem pksD_length {C : List (Nat × Nat)} : (pksD C).length = C.length := by simp [pksD]
@[simp] theorem pksD_get {C : List (Nat × Nat)} {i : Nat} (h : i < (pksD C).length) : (pksD C)[i] = .tuple [.int ((C[i]'(by simpa using h)).1 : Int), .int ((C[i]'(by simpa using h)).2 : Int)] := by simp [pksD, pkD]
@[simp] theorem pksD_nil : pksD [] = [] := rfl
@[simp] theorem pksD_tail {C : List (Nat × Nat)} : (pksD C).tail = pksD C.tail := by simp [pksD]
@[simp] theorem pksD_drop {C : List (Nat × Nat)} {n : Nat} : (pksD C).drop n = pksD (C.drop n) := by simp [pksD]
def ltK (a b : Nat × Nat) : Prop := a.1 < b.1 ∨ a.1 = b.1 ∧ a.2 < b.2
def Asc (K : List (Nat × Nat)) : Prop := ∀ (i : Nat) (h : i + 1 < K.length), ltK K[i] K[i + 1]
theorem lexD_ltK {a b : Nat × Nat} (h : ltK a b) : lexD [(a.1 : Int), (a.2 : Int)] [(b.1 : Int), (b.2 : Int)] = true := by
  show (if (a.1 : Int) = (b.1 : Int) then (if (a.2 : Int) = (b.2 : Int) then false else decide ((a.2 : Int) < (b.2 : Int))) else decide ((a.1 : Int) < (b.1 : Int))) = true
  rcases h with h | ⟨h1, h2⟩
  · rw [if_neg (by omega), decide_eq_true_eq]; omega
  · rw [if_pos (by omega), if_neg (by omega), decide_eq_true_eq]; omega
@[simp] theorem cmp_lt2 {env : Ev} {a b c d : Int} : cmpE .Lt env (.fr (.tuple [.int a, .int b])) (.fr (.tuple [.int c, .int d])) = some (lexD [a, b] [c, d]) := rfl
/-- crowds of a hall with m places -/
structure Ck (m : Nat) (C : List Cw) : Prop where
  l : C.length ≤ 40
  p : ∀ c ∈ C, c.p < m
  t : ∀ c ∈ C, c.t ≤ 40
  n1 : ∀ c ∈ C, 1 ≤ c.n
  n2 : ∀ c ∈ C, c.n ≤ 60
  a : Asc (C.map fun c => (c.p, c.t))
def tot (C : List Cw) : Nat := (C.map Cw.n).sum
theorem intsOf_nD {L : List Nat} : intsOf (nD L) = some (L.map fun n : Nat => (n : Int)) := by rw [nD_iD]; simp
theorem sum_nat : ∀ {L : List Nat}, (L.map fun n : Nat => (n : Int)).sum = ((L.sum : Nat) : Int)
  | [] => rfl
  | x :: L => by simp [sum_nat (L := L)]
/-! ### places' ticks as data -/
def oD : Option Nat → Dt
  | none => .none
  | some v => .int (v : Int)
def osD (F : List (Option Nat)) : List Dt := F.map oD
@[simp] theorem osD_length {F : List (Option Nat)} : (osD F).length = F.length := by simp [osD]
@[simp] theorem osD_get {F : List (Option Nat)} {i : Nat} : (osD F)[i]? = F[i]?.map oD := by simp [osD]
@[simp] theorem osD_set {F : List (Option Nat)} {i v : Nat} : (osD F).set i (.int (v : Int)) = osD (F.set i (some v)) := by simp [osD, oD, List.map_set]
theorem osD_rep {n : Nat} : (List.replicate n [PyData.none]).flatten = osD (List.replicate n none) := by
  induction n with
  | zero => rfl
  | succ n ih => rw [List.replicate_succ, List.flatten_cons, ih]; rfl
/-! ### what the laws draw from -/
structure Sc where
  a : Int
  b : Int
  c : Int
abbrev scT (s : Sc) : Tr := .nd .ls (fL (iD [s.a, s.b, s.c]))
structure Sv (k : Int) (s : Sc) : Prop where
  b0 : 0 ≤ s.b
  b1 : s.b ≤ 10 ^ 24 + 7
  c0 : 0 ≤ s.c
  c1 : s.c ≤ k
theorem Sv.mono {k l : Int} {s : Sc} (h : Sv k s) (e : k ≤ l) : Sv l s := ⟨h.b0, h.b1, h.c0, Int.le_trans h.c1 e⟩
/-! ### dicts whose keys are pairs -/
abbrev PD := List ((Nat × Nat) × Nat)
def kN (k : Nat × Nat) : List Key := [.inl (k.1 : Int), .inl (k.2 : Int)]
theorem kN_inj {a b : Nat × Nat} (h : kN a = kN b) : a = b := by
  unfold kN at h
  injection h with h1 h2
  injection h2 with h2 h3
  injection h1 with h1
  injection h2 with h2
  exact Prod.ext (by omega) (by omega)
def pdK (D : PD) : List (List Key) := D.map fun x => kN x.1
def pdV (D : PD) : List Tr := D.map fun x => Tr.fr (.int (x.2 : Int))
@[simp] theorem pdK_length {D : PD} : (pdK D).length = D.length := by simp [pdK]
@[simp] theorem pdV_length {D : PD} : (pdV D).length = D.length := by simp [pdV]
def pdG : PD → Nat × Nat → Option Nat
  | [], _ => none
  | (k, v) :: D, j => if k = j then some v else pdG D j
def pdS : PD → Nat × Nat → Nat → PD
  | [], j, x => [(j, x)]
  | (k, v) :: D, j, x => if k = j then (k, x) :: D else (k, v) :: pdS D j x
theorem pos1_pdG : ∀ (D : PD) (j : Nat × Nat), (pos1 (kN j) (pdK D)).map (fun i => (pdV D)[i]?) = (pdG D j).map fun v => some (Tr.fr (.int (v : Int)))
  | [], j => rfl
  | (k, v) :: D, j => by
    have ih := pos1_pdG D j
    unfold pdG
    by_cases c : k = j
    · subst c
      simp [pdK, pdV]
    · have c2 : ¬ kN k = kN j := fun h => c (kN_inj h)
      rw [if_neg c, ← ih]
      show (pos1 (kN j) (kN k :: pdK D)).map (fun i => (Tr.fr (.int (v : Int)) :: pdV D)[i]?) = _
      rw [Q.pos1_cons, if_neg c2, Option.map_map]
      rfl
theorem pos1_none_pdS : ∀ (D : PD) (j : Nat × Nat) (x : Nat), pos1 (kN j) (pdK D) = none → pdK (pdS D j x) = pdK D ++ [kN j] ∧ pdV (pdS D j x) = pdV D ++ [.fr (.int (x : Int))]
  | [], j, x, _ => ⟨rfl, rfl⟩
  | (k, v) :: D, j, x, h => by
    have h : pos1 (kN j) (kN k :: pdK D) = none := h
    rw [Q.pos1_cons] at h
    by_cases c : k = j
    · subst c; simp at h
    · have c2 : ¬ kN k = kN j := fun h => c (kN_inj h)
      rw [if_neg c2, Option.map_eq_none_iff] at h
      obtain ⟨h1, h2⟩ := pos1_none_pdS D j x h
      unfold pdS
      rw [if_neg c]
      exact ⟨congrArg (kN k :: ·) h1, congrArg (Tr.fr (.int (v : Int)) :: ·) h2⟩
theorem pos1_some_pdS : ∀ (D : PD) (j : Nat × Nat) (x : Nat) (i : Nat), pos1 (kN j) (pdK D) = some i → pdK (pdS D j x) = pdK D ∧ pdV (pdS D j x) = (pdV D).set i (.fr (.int (x : Int)))
  | [], j, x, i, h => by cases h
  | (k, v) :: D, j, x, i, h => by
    have h : pos1 (kN j) (kN k :: pdK D) = some i := h
    rw [Q.pos1_cons] at h
    unfold pdS
    by_cases c : k = j
    · subst c
      rw [if_pos rfl] at h
      cases h
      rw [if_pos rfl]
      exact ⟨rfl, rfl⟩
    · have c2 : ¬ kN k = kN j := fun h => c (kN_inj h)
      rw [if_neg c2] at h
      cases e : pos1 (kN j) (pdK D) with
      | none => rw [e] at h; cases h
      | some m =>
        rw [e] at h
        cases h
        obtain ⟨h1, h2⟩ := pos1_some_pdS D j x m e
        rw [if_neg c]
        exact ⟨congrArg (kN k :: ·) h1, congrArg (Tr.fr (.int (v : Int)) :: ·) h2⟩
theorem pdS_length (D : PD) (j : Nat × Nat) (x : Nat) : (pdS D j x).length ≤ D.length + 1 := by
  induction D with
  | nil => simp [pdS]
  | cons p D ih =>
    obtain ⟨k, v⟩ := p
    unfold pdS
    split <;> simp
    exact ih
theorem pdS_mem {D : PD} {j : Nat × Nat} {x : Nat} {y : (Nat × Nat) × Nat} (h : y ∈ pdS D j x) : y = (j, x) ∨ y ∈ D := by
  induction D with
  | nil => exact .inl (by simpa [pdS] using h)
  | cons p D ih =>
    obtain ⟨k, v⟩ := p
    unfold pdS at h
    split at h
    · rename_i e
      subst e
      rcases List.mem_cons.mp h with h | h
      · exact .inl h
      · exact .inr (List.mem_cons_of_mem _ h)
    · rcases List.mem_cons.mp h with h | h
      · exact .inr (by rw [h]; exact List.mem_cons_self)
      · exact (ih h).imp id (List.mem_cons_of_mem _)
theorem pdS_nodup : ∀ {D : PD} {j : Nat × Nat} {x : Nat}, (D.map (·.1)).Nodup → ((pdS D j x).map (·.1)).Nodup
  | [], j, x, _ => by simp [pdS]
  | (k, v) :: D, j, x, h => by
    have h' := List.nodup_cons.mp (show (k :: D.map (·.1)).Nodup from h)
    unfold pdS
    split
    · exact h
    · rename_i ne
      refine List.nodup_cons.mpr ⟨fun hm => ?_, pdS_nodup h'.2⟩
      obtain ⟨y, hy, e⟩ := List.mem_map.mp hm
      rcases pdS_mem hy with rfl | hy
      · exact ne e.symm
      · exact h'.1 (List.mem_map.mpr ⟨y, hy, e⟩)
theorem pdG_of : ∀ {D : PD} {k : Nat × Nat} {v : Nat}, (D.map (·.1)).Nodup → (k, v) ∈ D → pdG D k = some v
  | (k', v') :: D, k, v, h, hm => by
    have h' := List.nodup_cons.mp (show (k' :: D.map (·.1)).Nodup from h)
    unfold pdG
    rcases List.mem_cons.mp hm with e | hm
    · cases e; rw [if_pos rfl]
    · rw [if_neg fun e => h'.1 (by rw [e]; exact List.mem_map.mpr ⟨_, hm, rfl⟩)]
      exact pdG_of h'.2 hm
theorem pdG_mem {D : PD} {k : Nat × Nat} {v : Nat} (h : pdG D k = some v) : (k, v) ∈ D := by
  induction D with
  | nil => cases h
  | cons p D ih =>
    obtain ⟨k', v'⟩ := p
    unfold pdG at h
    split at h
    · rename_i e
      subst e
      cases h
      exact List.mem_cons_self
    · exact List.mem_cons_of_mem _ (ih h)
/-- d[k] -/
theorem sub_dt {env : Ev} {s : Nat} {D : PD} {k : Nat × Nat} {v : Nat} (h : env[s]? = some (.own (.nd (.dt (pdK D)) (pdV D)))) (hv : pdG D k = some v) : subE env (.al s []) (.fr (.tuple [.int (k.1 : Int), .int (k.2 : Int)])) = some (.fr (.int (v : Int))) := by
  have q := pos1_pdG D k
  rw [hv] at q
  have e0 : res env (.al s []) = some (.nd (.dt (pdK D)) (pdV D)) := by simp [h]
  unfold subE
  simp only [Q.peek_fr, e0]
  have e1 : (Sh.dt (pdK D)).find (.tuple [.int (k.1 : Int), .int (k.2 : Int)]) = some (pos1 (kN k) (pdK D)) := rfl
  cases e : pos1 (kN k) (pdK D) with
  | none => rw [e] at q; cases q
  | some i =>
    rw [e] at q e1
    have q : (pdV D)[i]? = some (Tr.fr (.int (v : Int))) := Option.some.inj q
    simp only [e1, Option.join_some]
    rw [Q.pickE_def, q]
theorem find_pd {D : PD} {k : Nat × Nat} {v : Nat} (hv : pdG D k = some v) : ∃ j, (Sh.dt (pdK D)).find (.tuple [.int (k.1 : Int), .int (k.2 : Int)]) = some (some j) ∧ (pdV D)[j]? = some (Tr.fr (.int (v : Int))) := by
  have q := pos1_pdG D k
  rw [hv] at q
  have e1 : (Sh.dt (pdK D)).find (.tuple [.int (k.1 : Int), .int (k.2 : Int)]) = some (pos1 (kN k) (pdK D)) := rfl
  cases e : pos1 (kN k) (pdK D) with
  | none => rw [e] at q; cases q
  | some i =>
    rw [e] at q e1
    exact ⟨i, e1, Option.some.inj q⟩
/-- d[k] = x -/
theorem set_dt {env : Ev} {s : Nat} {D : PD} {k : Nat × Nat} {x : Nat} (h : env[s]? = some (.own (.nd (.dt (pdK D)) (pdV D)))) (hl : D.length < lineN) (hu : ∀ j, env.any (under s [j]) = false) : setE env (.al s []) (.fr (.tuple [.int (k.1 : Int), .int (k.2 : Int)])) (.fr (.int (x : Int))) = some (env.set s (.own (.nd (.dt (pdK (pdS D k x))) (pdV (pdS D k x))))) := by
  have e1 : setSh (.dt (pdK D)) (pdV D).length (.tuple [.int (k.1 : Int), .int (k.2 : Int)]) = match pos1 (kN k) (pdK D) with
      | some j => some (.dt (pdK D), some j)
      | none => some (.dt (pdK D ++ [kN k]), none) := rfl
  have hl2 : ¬ lineN ≤ D.length := by omega
  rw [pdV_length] at e1
  cases e : pos1 (kN k) (pdK D) with
  | none =>
    obtain ⟨h1, h2⟩ := pos1_none_pdS D k x e
    rw [e] at e1
    have e1 : setSh (.dt (pdK D)) D.length (.tuple [.int (k.1 : Int), .int (k.2 : Int)]) = some (.dt (pdK D ++ [kN k]), none) := e1
    simp only [Q.setE_al, Q.toTr_fr, h, Q.at_nil, pdV_length, e1, hl, if_true, Q.chgE_def, Q.put_nil, h1, h2, Q.peek_fr]
  | some i =>
    obtain ⟨h1, h2⟩ := pos1_some_pdS D k x i e
    rw [e] at e1
    have e1 : setSh (.dt (pdK D)) D.length (.tuple [.int (k.1 : Int), .int (k.2 : Int)]) = some (.dt (pdK D), some i) := e1
    have hu := hu i
    simp only [Q.setE_al, Q.toTr_fr, h, Q.at_nil, pdV_length, e1, Q.chgE_def, Q.put_nil, h1, h2, List.nil_append, hu, Bool.false_or, decide_eq_true_eq, hl2, if_false, Q.peek_fr]
/-! the keys, sorted -/
def cI (k : Nat × Nat) : Int × Int := (k.1, k.2)
def srtK (K : List (Nat × Nat)) : List (Nat × Nat) := K.mergeSort fun a b => lexLe (cI a) (cI b)
theorem keyPs_pdK : ∀ D : PD, keyPs (pdK D) = some ((D.map (·.1)).map cI)
  | [] => rfl
  | (k, v) :: D => by
    show (match keyP (kN k), keyPs (pdK D) with | some p, some l => some (p :: l) | _, _ => none) = _
    rw [keyPs_pdK D]
    rfl
theorem sorted_dt {env : Ev} {s : Nat} {D : PD} (h : env[s]? = some (.own (.nd (.dt (pdK D)) (pdV D)))) : biE .sorted env [.al s []] = some (env, .own (.nd .ls (fL (pksD (srtK (D.map (·.1))))))) := by
  have e0 : res env (.al s []) = some (.nd (.dt (pdK D)) (pdV D)) := by simp [h]
  have e1 : lItems env (.al s []) = none := by unfold lItems; rw [e0]; rfl
  have e2 : sortP ((D.map (·.1)).map cI) = (srtK (D.map (·.1))).map cI := by
    unfold sortP srtK
    rw [List.map_mergeSort (s := lexLe)]
    intro a _ b _
    rfl
  unfold biE
  simp only [e1, Option.bind_none, e0, keyPs_pdK, Option.map_some, e2]
  simp [newList, pksD, pkD, cI, Function.comp_def, fL]
theorem srtK_mem {K : List (Nat × Nat)} {k : Nat × Nat} : k ∈ srtK K ↔ k ∈ K := (List.mergeSort_perm K _).mem_iff
@[simp] theorem srtK_length {K : List (Nat × Nat)} : (srtK K).length = K.length := (List.mergeSort_perm K _).length_eq
theorem lexLe_cI {a b : Nat × Nat} (h : lexLe (cI a) (cI b) = true) : a.1 < b.1 ∨ a.1 = b.1 ∧ a.2 ≤ b.2 := by
  obtain ⟨a1, a2⟩ := a
  obtain ⟨b1, b2⟩ := b
  simp [lexLe, cI] at h
  have h : a1 < b1 ∨ (a1 : Int) = b1 ∧ a2 ≤ b2 := h.imp id fun h => ⟨of_decide_eq_true h.1, h.2⟩
  show a1 < b1 ∨ a1 = b1 ∧ a2 ≤ b2
  omega
theorem srtK_asc {K : List (Nat × Nat)} (h : K.Nodup) : Asc (srtK K) := by
  have h1 : (srtK K).Pairwise fun a b => lexLe (cI a) (cI b) = true := List.pairwise_mergeSort (fun a b c h1 h2 => by simp [lexLe] at *; omega) (fun a b => by simp [lexLe]; omega) K
  have h2 : (srtK K).Nodup := (List.mergeSort_perm K _).nodup_iff.mpr h
  intro i hi
  have a1 := lexLe_cI (List.pairwise_iff_getElem.mp h1 i (i + 1) (by omega) hi (by omega))
  have a2 := List.pairwise_iff_getElem.mp h2 i (i + 1) (by omega) hi (by omega)
  unfold ltK
  generalize (srtK K)[i] = x at *
  generalize (srtK K)[i + 1] = y at *
  have : ¬ (x.1 = y.1 ∧ x.2 = y.2) := fun e => a2 (Prod.ext e.1 e.2)
  omega
/-! ### the least ticks, round by round -/
section
variable {S : List Sr} {g m : Nat}
/-- one stair is looked at -/
def rlx (F : List (Option Nat)) (s : Sr) : List (Option Nat) := match F.getD s.e none with
  | none => F
  | some v => match F.getD s.b none with
    | none => F.set s.b (some (v + s.t))
    | some w => if v + s.t < w then F.set s.b (some (v + s.t)) else F
@[simp] theorem rlx_length {F : List (Option Nat)} {s : Sr} : (rlx F s).length = F.length := by
  unfold rlx
  split
  · rfl
  · split
    · simp
    · split <;> simp
def Snd (S : List Sr) (g : Nat) (F : List (Option Nat)) : Prop := ∀ p v, F.getD p none = some v → ∃ L, Wk S g L p v
/-- F' is nowhere greater than F -/
def Lsr (F F' : List (Option Nat)) : Prop := ∀ p v, F.getD p none = some v → ∃ w, F'.getD p none = some w ∧ w ≤ v
theorem Lsr.refl (F : List (Option Nat)) : Lsr F F := fun p v h => ⟨v, h, Nat.le_refl _⟩
theorem Lsr.trans {A B C : List (Option Nat)} (h : Lsr A B) (k : Lsr B C) : Lsr A C := fun p v e => by
  obtain ⟨w, h1, h2⟩ := h p v e
  obtain ⟨x, h3, h4⟩ := k p w h1
  exact ⟨x, h3, by omega⟩
theorem getD_set {F : List (Option Nat)} {i p : Nat} {x : Option Nat} (h : i < F.length) : (F.set i x).getD p none = if i = p then x else F.getD p none := by
  rw [List.getD_eq_getElem?_getD, List.getD_eq_getElem?_getD, List.getElem?_set]
  by_cases e : i = p
  · subst e; simp [h]
  · simp [e]
/-- what a stair does to F -/
theorem rlx_ok {F : List (Option Nat)} {s : Sr} (hs : s ∈ S) (hb : s.b < F.length) (h : Snd S g F) : Snd S g (rlx F s) ∧ Lsr F (rlx F s) ∧ ∀ v, F.getD s.e none = some v → ∃ w, (rlx F s).getD s.b none = some w ∧ w ≤ v + s.t := by
  unfold rlx
  cases e1 : F.getD s.e none with
  | none => exact ⟨h, Lsr.refl F, fun v e => by cases e⟩
  | some v =>
    have put : (∀ w, F.getD s.b none = some w → v + s.t ≤ w) → Snd S g (F.set s.b (some (v + s.t))) ∧ Lsr F (F.set s.b (some (v + s.t))) ∧ ∀ v', some v = some v' → ∃ w, (F.set s.b (some (v + s.t))).getD s.b none = some w ∧ w ≤ v' + s.t := fun hw => by
      refine ⟨fun p x e => ?_, fun p x e => ?_, fun v' e => ?_⟩
      · rw [getD_set hb] at e
        split at e
        · rename_i e2
          subst e2
          cases e
          obtain ⟨L, q⟩ := h _ _ e1
          exact ⟨_, by rw [Nat.add_comm]; exact .s hs q⟩
        · exact h p x e
      · rw [getD_set hb]
        split
        · rename_i e2
          subst e2
          exact ⟨_, rfl, hw x e⟩
        · exact ⟨x, e, Nat.le_refl _⟩
      · cases e
        exact ⟨_, by rw [getD_set hb, if_pos rfl], Nat.le_refl _⟩
    dsimp only
    cases e2 : F.getD s.b none with
    | none =>
      dsimp only
      exact put fun w e => by rw [e2] at e; cases e
    | some w =>
      dsimp only
      split
      · exact put fun w' e => by rw [e2] at e; cases e; omega
      · exact ⟨h, Lsr.refl F, fun v' e => by cases e; exact ⟨w, e2, by omega⟩⟩
/-- behind T rounds -/
structure Bf (S : List Sr) (g m T : Nat) (F : List (Option Nat)) : Prop where
  l : F.length = m
  s : Snd S g F
  u : ∀ L p t, Wk S g L p t → L.length ≤ T → ∃ v, F.getD p none = some v ∧ v ≤ t
/-- within a round, behind i stairs -/
structure Bi (S : List Sr) (g m i : Nat) (F0 F : List (Option Nat)) : Prop where
  l : F.length = m
  s : Snd S g F
  d : Lsr F0 F
  j : ∀ j, j < i → ∀ s, S[j]? = some s → ∀ v, F0.getD s.e none = some v → ∃ w, F.getD s.b none = some w ∧ w ≤ v + s.t
theorem Bi.next (hk : Hk m S) {i : Nat} {F0 F : List (Option Nat)} (h : Bi S g m i F0 F) {s : Sr} (e : S[i]? = some s) : Bi S g m (i + 1) F0 (rlx F s) := by
  have hs := List.mem_of_getElem? e
  have hb : s.b < F.length := by rw [h.l]; exact (hk.s s hs).b
  obtain ⟨h1, h2, h3⟩ := rlx_ok hs hb h.s
  refine ⟨by simpa using h.l, h1, h.d.trans h2, fun j hj s' e' v hv => ?_⟩
  by_cases c : j = i
  · subst c
    rw [e] at e'
    cases e'
    obtain ⟨w, q1, q2⟩ := h.d _ _ hv
    obtain ⟨x, q3, q4⟩ := h3 w q1
    exact ⟨x, q3, by omega⟩
  · obtain ⟨w, q1, q2⟩ := h.j j (by omega) s' e' v hv
    obtain ⟨x, q3, q4⟩ := h2 _ _ q1
    exact ⟨x, q3, by omega⟩
theorem Bf.next {T : Nat} {F0 F : List (Option Nat)} (h : Bf S g m T F0) (k : Bi S g m S.length F0 F) : Bf S g m (T + 1) F := by
  refine ⟨k.l, k.s, fun L p t q hl => ?_⟩
  cases q with
  | z =>
    obtain ⟨v, e, hv⟩ := h.u [] g 0 .z (Nat.zero_le _)
    obtain ⟨w, e2, hw⟩ := k.d _ _ e
    exact ⟨w, e2, by omega⟩
  | @s s L t hs q =>
    obtain ⟨v, e, hv⟩ := h.u L s.e t q (by simpa using hl)
    obtain ⟨j, hj⟩ := List.mem_iff_getElem?.mp hs
    obtain ⟨w, e2, hw⟩ := k.j j (List.getElem?_eq_some_iff.mp hj).1 s hj v e
    exact ⟨w, e2, by omega⟩
theorem Bf.dst (hk : Hk m S) (hg : g < m) {F : List (Option Nat)} (h : Bf S g m m F) (p : Nat) : Dst S g p (F.getD p none) := by
  have up : ∀ L t, Wk S g L p t → ∃ v, F.getD p none = some v ∧ v ≤ t := fun L t q => by
    obtain ⟨L', t', q1, q2, q3, _⟩ := q.short hk hg
    obtain ⟨v, e, hv⟩ := h.u L' p t' q1 (by omega)
    exact ⟨v, e, by omega⟩
  cases e : F.getD p none with
  | none =>
    intro L t q
    obtain ⟨v, e2, _⟩ := up L t q
    rw [e] at e2
    cases e2
  | some v =>
    refine ⟨h.s p v e, fun L t q => ?_⟩
    obtain ⟨w, e2, hw⟩ := up L t q
    rw [e] at e2
    cases e2
    exact hw
theorem Bf.start (hg : g < m) : Bf S g m 0 ((List.replicate m none).set g (some 0)) := by
  refine ⟨by simp, fun p v e => ?_, fun L p t q hl => ?_⟩
  · rw [getD_set (by simpa using hg)] at e
    split at e
    · rename_i c
      subst c
      cases e
      exact ⟨[], .z⟩
    · rw [List.getD_eq_getElem?_getD, List.getElem?_replicate] at e
      split at e <;> cases e
  · cases q with
    | z => exact ⟨0, by rw [getD_set (by simpa using hg), if_pos rfl], Nat.le_refl _⟩
    | s hs q => simp at hl
end
/-! ### is it in the row? -/
theorem any_nD {q : Nat} : ∀ X : List Nat, ((nD X).any fun e => PyData.eqv e (.int (q : Int))) = decide (q ∈ X)
  | [] => rfl
  | x :: X => by
    have h1 : PyData.eqv (.int (x : Int)) (.int (q : Int)) = decide (x = q) := by
      have : PyData.eqv (.int (x : Int)) (.int (q : Int)) = decide ((x : Int) = (q : Int)) := by simp [PyData.eqv]; rfl
      rw [this]
      by_cases e : x = q
      · subst e; simp
      · have e2 : ¬ (x : Int) = (q : Int) := by omega
        simp [e, e2]
    show (PyData.eqv (.int (x : Int)) (.int (q : Int)) || (nD X).any fun e => PyData.eqv e (.int (q : Int))) = _
    rw [h1, any_nD X]
    by_cases e : x = q
    · subst e; simp
    · have e2 : ¬ q = x := fun z => e z.symm
      simp [e, e2]
theorem flat_nD (X : List Nat) : (nD X).all flatD = true := by
  rw [List.all_eq_true]
  intro d hd
  obtain ⟨x, _, rfl⟩ := List.mem_map.mp hd
  rfl
theorem in_nD {env : Ev} {y : En} {X : List Nat} {q : Nat} (h : res env y = some (.nd .ls (fL (nD X)))) : cmpE .In env (.fr (.int (q : Int))) y = some (decide (q ∈ X)) := by
  have e1 : seqItems env y = some (nD X) := by
    unfold seqItems
    rw [h]
    show allFr (fL (nD X)) = _
    exact allFr_fL
  unfold cmpE
  dsimp only
  unfold cmpE.inn
  rw [h]
  simp only [Q.peek_fr, e1]
  rw [any_nD, flat_nD]
  rfl
theorem notin_nD {env : Ev} {y : En} {X : List Nat} {q : Nat} (h : res env y = some (.nd .ls (fL (nD X)))) : cmpE .NotIn env (.fr (.int (q : Int))) y = some (!decide (q ∈ X)) := by
  have e := in_nD (q := q) h
  unfold cmpE at e ⊢
  dsimp only at e ⊢
  rw [e]
  rfl
/-- rows as trees -/
def rwT (R : List (List Nat)) : List Tr := R.map fun r => Tr.nd .ls (fL (nD r))
@[simp] theorem rwT_length {R : List (List Nat)} : (rwT R).length = R.length := by simp [rwT]
theorem rwT_get {R : List (List Nat)} {i : Nat} (h : i < R.length) : (rwT R)[i]? = some (.nd .ls (fL (nD (R.getD i [])))) := by
  rw [List.getD_eq_getElem?_getD, List.getElem?_eq_getElem h]
  simp [rwT, h]
@[simp] theorem rwT_set {R : List (List Nat)} {i : Nat} {X : List Nat} : (rwT R).set i (.nd .ls (fL (nD X))) = rwT (R.set i X) := by simp [rwT, List.map_set]
theorem getD_setR {R : List (List Nat)} {i u : Nat} {X : List Nat} (h : i < R.length) : (R.set i X).getD u [] = if i = u then X else R.getD u [] := by
  rw [List.getD_eq_getElem?_getD, List.getD_eq_getElem?_getD, List.getElem?_set]
  by_cases e : i = u
  · subst e; simp [h]
  · simp [e]
section
variable {S : List Sr} {m p T i j : Nat} {R R' : List (List Nat)}
/-- within a tick -/
structure Rwi (S : List Sr) (m p T : Nat) (R : List (List Nat)) (i j : Nat) (R' : List (List Nat)) : Prop where
  l : R'.length = 60
  n : Nd m R'
  same : ∀ u, u ≤ T → R'.getD u [] = R.getD u []
  grow : ∀ u q, q ∈ R.getD u [] → q ∈ R'.getD u []
  snd : ∀ t q, t < 60 → q ∈ R'.getD t [] → Fw S p q t
  a : ∀ k, k < i → ∀ q, (R.getD T [])[k]? = some q → q ∈ R'.getD (T + 1) []
  b : ∀ k, k < j → ∀ s, S[k]? = some s → s.b ∈ R.getD T [] → s.e ∈ R'.getD (T + s.t) []
theorem Rws.start (h : Rws S m p T R) : Rwi S m p T R 0 0 R := ⟨h.l, h.n, fun _ _ => rfl, fun _ _ x => x, h.snd, fun k hk => absurd hk (Nat.not_lt_zero _), fun k hk => absurd hk (Nat.not_lt_zero _)⟩
theorem Rws.done (h : Rws S m p T R) (k : Rwi S m p T R (R.getD T []).length S.length R') : Rws S m p (T + 1) R' := by
  refine ⟨k.l, k.n, k.grow _ _ h.z, k.snd, fun u q hu hq => ?_, fun u s hu hs hb => ?_⟩
  · rw [k.same u (by omega)] at hq
    by_cases e : u = T
    · subst e
      obtain ⟨i, hi⟩ := List.mem_iff_getElem?.mp hq
      exact k.a i (List.getElem?_eq_some_iff.mp hi).1 q hi
    · exact k.grow _ _ (h.w u q (by omega) hq)
  · rw [k.same u (by omega)] at hb
    by_cases e : u = T
    · subst e
      obtain ⟨i, hi⟩ := List.mem_iff_getElem?.mp hs
      exact k.b i (List.getElem?_eq_some_iff.mp hi).1 s hi hb
    · exact k.grow _ _ (h.r u s (by omega) hs hb)
/-- q comes into row u -/
theorem Rwi.add (k : Rwi S m p T R i j R') {u q : Nat} (hu : T < u) (hu2 : u < 60) (hq : q < m) (hn : q ∉ R'.getD u []) (f : Fw S p q u) : Rwi S m p T R i j (R'.set u (R'.getD u [] ++ [q])) ∧ q ∈ (R'.set u (R'.getD u [] ++ [q])).getD u [] := by
  have hl : u < R'.length := by rw [k.l]; exact hu2
  have up : ∀ v x, x ∈ R'.getD v [] → x ∈ (R'.set u (R'.getD u [] ++ [q])).getD v [] := fun v x hx => by
    rw [getD_setR hl]
    split
    · rename_i e
      subst e
      exact List.mem_append_left _ hx
    · exact hx
  refine ⟨⟨by simpa using k.l, fun v => ?_, fun v hv => ?_, fun v x hx => up _ _ (k.grow _ _ hx), fun t x ht hx => ?_, fun m hm x hx => up _ _ (k.a m hm x hx), fun m hm s hs hb => up _ _ (k.b m hm s hs hb)⟩, ?_⟩
  · rw [getD_setR hl]
    split
    · rename_i e
      subst e
      refine ⟨List.nodup_append.mpr ⟨(k.n u).1, by simp, fun a ha b hb e => hn ?_⟩, fun x hx => ?_⟩
      · rw [← List.mem_singleton.mp hb, ← e]; exact ha
      · rcases List.mem_append.mp hx with hx | hx
        · exact (k.n u).2 x hx
        · rw [List.mem_singleton.mp hx]; exact hq
    · exact k.n v
  · rw [getD_setR hl, if_neg (by omega)]
    exact k.same v hv
  · rw [getD_setR hl] at hx
    split at hx
    · rename_i e
      subst e
      rcases List.mem_append.mp hx with hx | hx
      · exact k.snd _ _ ht hx
      · rw [List.mem_singleton.mp hx]; exact f
    · exact k.snd _ _ ht hx
  · rw [getD_setR hl, if_pos rfl]
    simp
theorem Rwi.nextA (k : Rwi S m p T R i j R') {q : Nat} (e : (R.getD T [])[i]? = some q) (hq : q ∈ R'.getD (T + 1) []) : Rwi S m p T R (i + 1) j R' :=
  ⟨k.l, k.n, k.same, k.grow, k.snd, fun m hm x hx => by
    by_cases c : m = i
    · subst c
      rw [e] at hx
      cases hx
      exact hq
    · exact k.a m (by omega) x hx, k.b⟩
theorem Rwi.nextB (k : Rwi S m p T R i j R') {s : Sr} (e : S[j]? = some s) (hq : s.b ∈ R.getD T [] → s.e ∈ R'.getD (T + s.t) []) : Rwi S m p T R i (j + 1) R' :=
  ⟨k.l, k.n, k.same, k.grow, k.snd, k.a, fun m hm x hx => by
    by_cases c : m = j
    · subst c
      rw [e] at hx
      cases hx
      exact hq
    · exact k.b m (by omega) x hx⟩
theorem Rws.begin (hp : p < m) : Rws S m p 0 ((List.replicate 60 []).set 0 [p]) := by
  refine ⟨by simp, fun u => ?_, by rw [getD_setR (by simp), if_pos rfl]; simp, fun t q ht hq => ?_, fun u q hu => absurd hu (Nat.not_lt_zero _), fun u s hu => absurd hu (Nat.not_lt_zero _)⟩
  · rw [getD_setR (by simp)]
    split
    · exact ⟨by simp, fun q hq => by rw [List.mem_singleton.mp hq]; exact hp⟩
    · have e : (List.replicate 60 ([] : List Nat)).getD u [] = [] := by
        rw [List.getD_eq_getElem?_getD, List.getElem?_replicate]
        split <;> rfl
      rw [e]
      exact ⟨by simp, fun q hq => by cases hq⟩
  · rw [getD_setR (by simp)] at hq
    split at hq
    · rename_i e
      subst e
      rw [List.mem_singleton.mp hq]
      exact .z
    · rw [List.getD_eq_getElem?_getD, List.getElem?_replicate] at hq
      split at hq <;> cases hq
end
end MP.H
namespace K01
open PySem L2 MP PyProof.Rows
def top (i : Nat) : Stmt := PySem.Challenge.pw_stairsintime_k01_ticks_to_a_goal.main.body.getD i (.Pass ⟨0, 0, 0, 0⟩)
/-- is_integer(value) : 0 value -/
def m_0 : Df := ⟨[false], 1, (.ret (.and (.bi .isInt (.cons (.var 0) .nil)) (.not (.bi .isBool (.cons (.var 0) .nil)))))⟩
def t_0 : DT := ⟨"is_integer", top 6, ["value"], m_0⟩
/-- is_between(value, low, high) : 0 value, 1 low, 2 high -/
def m_1 : Df := ⟨[false, false, false], 3, (.ret (.and (.call 0 (.cons (.var 0) .nil)) (.and (.cmp .LtE (.var 1) (.var 0)) (.or (.cmp .Is (.var 2) .non) (.cmp .LtE (.var 0) (.var 2))))))⟩
def t_1 : DT := ⟨"is_between", top 7, ["value", "low", "high"], m_1⟩
/-- is_tuple(value, low, high) : 0 value, 1 low, 2 high -/
def m_2 : Df := ⟨[false, false, false], 3, (.ret (.and (.bi .isTuple (.cons (.var 0) .nil)) (.chain .LtE .LtE (.var 1) (.bi .len (.cons (.var 0) .nil)) (.var 2))))⟩
def t_2 : DT := ⟨"is_tuple", top 8, ["value", "low", "high"], m_2⟩
/-- need_number(number, low, high) : 0 number, 1 low, 2 high -/
def m_3 : Df := ⟨[false, false, false], 3, (.ite (.or (.cmp .Lt (.var 0) (.var 1)) (.and (.cmp .IsNot (.var 2) .non) (.cmp .Gt (.var 0) (.var 2)))) .nev .skip)⟩
def t_3 : DT := ⟨"need_number", top 9, ["number", "low", "high"], m_3⟩
/-- is_ascending(items) : 0 items, 1 one, 2 other -/
def m_4 : Df := ⟨[false], 3, (.ret (.bi .all (.cons (.lc (.cmp .Lt (.var 1) (.var 2)) (.tup (.cons (.nm 1) (.cons (.nm 2) .nil))) .zip (.cons (.var 0) (.cons (.slc (.var 0) (.cons (.int 1) .nil) .nil) .nil)) (.bl true) [1, 2]) .nil)))⟩
def t_4 : DT := ⟨"is_ascending", top 10, ["items"], m_4⟩
/-- anew(value) : 0 value, 1 part -/
def m_5 : Df := ⟨[false], 2, (.seq (.ite (.bi .isList (.cons (.var 0) .nil)) (.ret (.lc (.call 5 (.cons (.var 1) .nil)) (.nm 1) .seq (.cons (.var 0) .nil) (.bl true) [1])) .skip) (.seq (.ite (.bi .isTuple (.cons (.var 0) .nil)) (.ret (.bi .tuple (.cons (.lc (.call 5 (.cons (.var 1) .nil)) (.nm 1) .seq (.cons (.var 0) .nil) (.bl true) [1]) .nil))) .skip) (.ret (.var 0))))⟩
def t_5 : DT := ⟨"anew", top 11, ["value"], m_5⟩
/-- is_stair(many, value) : 0 many, 1 value, 2 begin, 3 end, 4 time, 5 capacity, 6 item -/
def m_6 : Df := ⟨[false, false], 7, (.seq (.ite (.or (.not (.call 2 (.cons (.var 1) (.cons (.int 4) (.cons (.int 4) .nil))))) (.not (.bi .all (.cons (.lc (.call 0 (.cons (.var 6) .nil)) (.nm 6) .seq (.cons (.var 1) .nil) (.bl true) [6]) .nil)))) (.ret (.bl false)) .skip) (.seq (.asg (.tup (.cons (.nm 2) (.cons (.nm 3) (.cons (.nm 4) (.cons (.nm 5) .nil))))) (.var 1)) (.seq (.ite (.or (.not (.call 1 (.cons (.var 2) (.cons (.int 0) (.cons (.bin .Sub (.var 0) (.int 1)) .nil))))) (.or (.not (.call 1 (.cons (.var 3) (.cons (.int 0) (.cons (.bin .Sub (.var 0) (.int 1)) .nil))))) (.cmp .Eq (.var 2) (.var 3)))) (.ret (.bl false)) .skip) (.ret (.and (.call 1 (.cons (.var 4) (.cons (.int 1) (.cons (.glob "MOST_TIME" 6) .nil)))) (.call 1 (.cons (.var 5) (.cons (.int 1) (.cons (.glob "MOST_CAPACITY" 9) .nil)))))))))⟩
def t_6 : DT := ⟨"is_stair", top 20, ["many", "value"], m_6⟩
/-- is_hall(value) : 0 value, 1 stair -/
def m_7 : Df := ⟨[false], 2, (.seq (.ite (.or (.not (.call 2 (.cons (.var 0) (.cons (.int 2) (.cons (.int 2) .nil))))) (.or (.not (.call 1 (.cons (.sub (.var 0) (.int 0)) (.cons (.int 1) (.cons (.glob "MOST_PLACES" 8) .nil))))) (.not (.call 2 (.cons (.sub (.var 0) (.int 1)) (.cons (.int 0) (.cons (.glob "MOST_STAIRS" 16) .nil))))))) (.ret (.bl false)) .skip) (.ret (.bi .all (.cons (.lc (.call 6 (.cons (.sub (.var 0) (.int 0)) (.cons (.var 1) .nil))) (.nm 1) .seq (.cons (.sub (.var 0) (.int 1)) .nil) (.bl true) [1]) .nil))))⟩
def t_7 : DT := ⟨"is_hall", top 21, ["value"], m_7⟩
/-- need_hall(hall) : 0 hall -/
def m_8 : Df := ⟨[false], 1, (.ite (.not (.call 7 (.cons (.var 0) .nil))) .nev .skip)⟩
def t_8 : DT := ⟨"need_hall", top 22, ["hall"], m_8⟩
/-- need_place(hall, place) : 0 hall, 1 place -/
def m_9 : Df := ⟨[false, false], 2, (.ex (.call 3 (.cons (.var 1) (.cons (.int 0) (.cons (.bin .Sub (.sub (.var 0) (.int 0)) (.int 1)) .nil)))))⟩
def t_9 : DT := ⟨"need_place", top 23, ["hall", "place"], m_9⟩
/-- is_crowd(hall, value) : 0 hall, 1 value -/
def m_10 : Df := ⟨[false, false], 2, (.seq (.ite (.or (.not (.call 2 (.cons (.var 1) (.cons (.int 3) (.cons (.int 3) .nil))))) (.not (.call 1 (.cons (.sub (.var 1) (.int 0)) (.cons (.int 0) (.cons (.bin .Sub (.sub (.var 0) (.int 0)) (.int 1)) .nil)))))) (.ret (.bl false)) .skip) (.ret (.and (.call 1 (.cons (.sub (.var 1) (.int 1)) (.cons (.int 0) (.cons (.glob "LAST_TICK" 40) .nil)))) (.call 1 (.cons (.sub (.var 1) (.int 2)) (.cons (.int 1) (.cons (.glob "MOST_MANY" 60) .nil)))))))⟩
def t_10 : DT := ⟨"is_crowd", top 24, ["hall", "value"], m_10⟩
/-- are_these_crowds(hall, value) : 0 hall, 1 value, 2 own -/
def m_11 : Df := ⟨[false, false], 3, (.seq (.ite (.or (.not (.call 2 (.cons (.var 1) (.cons (.int 0) (.cons (.glob "MOST_CROWDS" 40) .nil))))) (.not (.bi .all (.cons (.lc (.call 10 (.cons (.var 0) (.cons (.var 2) .nil))) (.nm 2) .seq (.cons (.var 1) .nil) (.bl true) [2]) .nil)))) (.ret (.bl false)) .skip) (.ret (.call 4 (.cons (.lc (.slc (.var 2) .nil (.cons (.int 2) .nil)) (.nm 2) .seq (.cons (.var 1) .nil) (.bl true) [2]) .nil))))⟩
def t_11 : DT := ⟨"are_these_crowds", top 25, ["hall", "value"], m_11⟩
/-- need_crowds(hall, crowds) : 0 hall, 1 crowds -/
def m_12 : Df := ⟨[false, false], 2, (.seq (.ex (.call 8 (.cons (.var 0) .nil))) (.ite (.not (.call 11 (.cons (.var 0) (.cons (.var 1) .nil)))) .nev .skip))⟩
def t_12 : DT := ⟨"need_crowds", top 26, ["hall", "crowds"], m_12⟩
/-- total_of(crowds) : 0 crowds, 1 place, 2 tick, 3 many -/
def m_13 : Df := ⟨[false], 4, (.ret (.bi .sum (.cons (.lc (.var 3) (.tup (.cons (.nm 1) (.cons (.nm 2) (.cons (.nm 3) .nil)))) .seq (.cons (.var 0) .nil) (.bl true) [1, 2, 3]) .nil)))⟩
def t_13 : DT := ⟨"total_of", top 27, ["crowds"], m_13⟩
/-- people_in(hall, crowds) : 0 hall, 1 crowds -/
def m_14 : Df := ⟨[false, false], 2, (.seq (.ex (.call 12 (.cons (.var 0) (.cons (.var 1) .nil)))) (.ret (.call 13 (.cons (.var 1) .nil))))⟩
def t_14 : DT := ⟨"people_in", top 28, ["hall", "crowds"], m_14⟩
/-- ticks_to(hall, goal) : 0 hall, 1 goal, 2 found, 3 turn, 4 begin, 5 end, 6 time, 7 capacity -/
def m_15 : Df := ⟨[false, false], 8, (.seq (.ex (.call 8 (.cons (.var 0) .nil))) (.seq (.ex (.call 9 (.cons (.var 0) (.cons (.var 1) .nil)))) (.seq (.asg (.nm 2) (.bin .Mult (.lst (.cons .non .nil)) (.sub (.var 0) (.int 0)))) (.seq (.sets (.var 2) (.var 1) (.int 0)) (.seq (.for_ (.nm 3) .rng (.cons (.sub (.var 0) (.int 0)) .nil) (.for_ (.tup (.cons (.nm 4) (.cons (.nm 5) (.cons (.nm 6) (.cons (.nm 7) .nil))))) .seq (.cons (.sub (.var 0) (.int 1)) .nil) (.ite (.and (.cmp .IsNot (.sub (.var 2) (.var 5)) .non) (.or (.cmp .Is (.sub (.var 2) (.var 4)) .non) (.cmp .Lt (.bin .Add (.sub (.var 2) (.var 5)) (.var 6)) (.sub (.var 2) (.var 4))))) (.sets (.var 2) (.var 4) (.bin .Add (.sub (.var 2) (.var 5)) (.var 6))) .skip))) (.ret (.bi .tuple (.cons (.var 2) .nil))))))))⟩
def t_15 : DT := ⟨"ticks_to", top 29, ["hall", "goal"], m_15⟩
/-- turned_all(hall) : 0 hall, 1 begin, 2 end, 3 time, 4 capacity -/
def m_16 : Df := ⟨[false], 5, (.seq (.ex (.call 8 (.cons (.var 0) .nil))) (.ret (.tup (.cons (.sub (.var 0) (.int 0)) (.cons (.bi .tuple (.cons (.lc (.tup (.cons (.var 2) (.cons (.var 1) (.cons (.var 3) (.cons (.var 4) .nil))))) (.tup (.cons (.nm 1) (.cons (.nm 2) (.cons (.nm 3) (.cons (.nm 4) .nil))))) .seq (.cons (.sub (.var 0) (.int 1)) .nil) (.bl true) [1, 2, 3, 4]) .nil)) .nil)))))⟩
def t_16 : DT := ⟨"turned_all", top 30, ["hall"], m_16⟩
/-- _law_source(script, turn) : 0 script, 1 turn, 2 cell, 3 seed, 4 part -/
def m_17 : Df := ⟨[false, false], 5, (.seq (.asg (.nm 2) (.ife (.cmp .Lt (.var 1) (.bi .len (.cons (.var 0) .nil))) (.bi .abs (.cons (.bi .int (.cons (.sub (.var 0) (.var 1)) .nil)) .nil)) (.int 0))) (.seq (.asg (.nm 3) (.bin .Add (.bin .Add (.int 211) (.bin .Mult (.int 13) (.bi .len (.cons (.var 0) .nil)))) (.bin .Mult (.int 10007) (.var 1)))) (.seq (.for_ (.nm 4) .seq (.cons (.var 0) .nil) (.asg (.nm 3) (.bin .Mod (.bi .int (.cons (.bin .Add (.bin .Add (.bin .Mult (.var 3) (.int 69069)) (.bin .Mod (.bi .int (.cons (.var 4) .nil)) (.bin .Add (.bin .Pow (.int 10) (.int 20)) (.int 39)))) (.int 7)) .nil)) (.bin .Add (.bin .Pow (.int 10) (.int 24)) (.int 7))))) (.ret (.lst (.cons (.bin .FloorDiv (.var 2) (.bin .Pow (.int 10) (.int 18))) (.cons (.var 3) (.cons (.int 0) .nil))))))))⟩
def t_17 : DT := ⟨"_law_source", top 32, ["script", "turn"], m_17⟩
/-- _law_pick(source, many) : 0 source, 1 many, 2 found, 3 mixed -/
def m_18 : Df := ⟨[true, false], 4, (.seq (.ite (.cmp .Gt (.sub (.var 0) (.int 0)) (.int 0)) (.seq (.asg (.nm 2) (.bin .Mod (.bi .int (.cons (.sub (.var 0) (.int 0)) .nil)) (.var 1))) (.seq (.sets (.var 0) (.int 0) (.bin .FloorDiv (.sub (.var 0) (.int 0)) (.var 1))) (.ret (.var 2)))) .skip) (.seq (.sets (.var 0) (.int 2) (.bin .Add (.sub (.var 0) (.int 2)) (.int 1))) (.seq (.asg (.nm 3) (.bin .Mod (.bi .int (.cons (.bin .Mult (.bin .Add (.sub (.var 0) (.int 1)) (.bin .Mult (.int 104729) (.sub (.var 0) (.int 2)))) (.bin .Add (.bin .Mult (.sub (.var 0) (.int 2)) (.sub (.var 0) (.int 2))) (.int 40503))) .nil)) (.bin .Add (.bin .Pow (.int 10) (.int 29)) (.int 319)))) (.seq (.asg (.nm 3) (.bin .Mod (.bi .int (.cons (.bin .Add (.bin .Add (.bin .Mult (.var 3) (.var 3)) (.bin .Mult (.int 97) (.sub (.var 0) (.int 2)))) (.sub (.var 0) (.int 1))) .nil)) (.bin .Add (.bin .Pow (.int 10) (.int 31)) (.int 33)))) (.seq (.asg (.nm 3) (.bin .Mod (.bi .int (.cons (.bin .Add (.bin .Mult (.var 3) (.var 3)) (.bin .Mult (.int 3) (.var 3))) .nil)) (.bin .Add (.bin .Pow (.int 10) (.int 33)) (.int 603)))) (.ret (.bin .Mod (.bi .int (.cons (.bin .FloorDiv (.var 3) (.int 65537)) .nil)) (.var 1))))))))⟩
def t_18 : DT := ⟨"_law_pick", top 33, ["source", "many"], m_18⟩
/-- _law_hall(source, places, stairs) : 0 source, 1 places, 2 stairs, 3 many, 4 found, 5 turn, 6 begin, 7 end, 8 time -/
def m_19 : Df := ⟨[true, false, false], 9, (.seq (.asgp (.tup (.cons (.nm 3) (.cons (.nm 4) .nil))) (.cons (.bin .Sub (.var 1) (.call 18 (.cons (.var 0) (.cons (.var 1) .nil)))) (.cons (.lst .nil) .nil))) (.seq (.ite (.and (.cmp .Eq (.var 3) (.int 1)) (.cmp .Gt (.call 18 (.cons (.var 0) (.cons (.int 4) .nil))) (.int 0))) (.asg (.nm 3) (.var 1)) .skip) (.seq (.for_ (.nm 5) .rng (.cons (.ife (.cmp .Gt (.var 3) (.int 1)) (.bin .Sub (.var 2) (.call 18 (.cons (.var 0) (.cons (.bin .Add (.var 2) (.int 1)) .nil)))) (.int 0)) .nil) (.seq (.asg (.nm 6) (.call 18 (.cons (.var 0) (.cons (.var 3) .nil)))) (.seq (.asg (.nm 7) (.bin .Mod (.bi .int (.cons (.bin .Add (.bin .Add (.var 6) (.int 1)) (.call 18 (.cons (.var 0) (.cons (.bin .Sub (.var 3) (.int 1)) .nil)))) .nil)) (.var 3))) (.seq (.asg (.nm 8) (.bin .Add (.int 1) (.call 18 (.cons (.var 0) (.cons (.sub (.lst (.cons (.int 1) (.cons (.int 3) (.cons (.int 6) .nil)))) (.call 18 (.cons (.var 0) (.cons (.int 3) .nil)))) .nil))))) (.ex (.mth .append (.var 4) (.cons (.tup (.cons (.var 6) (.cons (.var 7) (.cons (.var 8) (.cons (.bin .Add (.int 1) (.call 18 (.cons (.var 0) (.cons (.sub (.lst (.cons (.int 1) (.cons (.int 3) (.cons (.int 9) .nil)))) (.call 18 (.cons (.var 0) (.cons (.int 3) .nil)))) .nil)))) .nil))))) .nil))))))) (.ret (.tup (.cons (.var 3) (.cons (.bi .tuple (.cons (.var 4) .nil)) .nil)))))))⟩
def t_19 : DT := ⟨"_law_hall", top 34, ["source", "places", "stairs"], m_19⟩
/-- _law_crowds(source, many, count, last, people) : 0 source, 1 many, 2 count, 3 last, 4 people, 5 found, 6 turn, 7 place, 8 tick, 9 spot -/
def m_20 : Df := ⟨[true, false, false, false, false], 10, (.seq (.asg (.nm 5) (.dnew true)) (.seq (.for_ (.nm 6) .rng (.cons (.bin .Sub (.var 2) (.call 18 (.cons (.var 0) (.cons (.bin .Add (.var 2) (.int 1)) .nil)))) .nil) (.seq (.asgp (.tup (.cons (.nm 7) (.cons (.nm 8) .nil))) (.cons (.call 18 (.cons (.var 0) (.cons (.var 1) .nil))) (.cons (.call 18 (.cons (.var 0) (.cons (.bin .Add (.var 3) (.int 1)) .nil))) .nil))) (.sets (.var 5) (.tup (.cons (.var 7) (.cons (.var 8) .nil))) (.bin .Add (.int 1) (.call 18 (.cons (.var 0) (.cons (.var 4) .nil))))))) (.ret (.bi .tuple (.cons (.lc (.bin .Add (.var 9) (.tup (.cons (.sub (.var 5) (.var 9)) .nil))) (.nm 9) .seq (.cons (.bi .sorted (.cons (.var 5) .nil)) .nil) (.bl true) [9]) .nil)))))⟩
def t_20 : DT := ⟨"_law_crowds", top 35, ["source", "many", "count", "last", "people"], m_20⟩
/-- _law_total(crowds) : 0 crowds, 1 place, 2 tick, 3 many -/
def m_21 : Df := ⟨[false], 4, (.ret (.bi .sum (.cons (.lc (.var 3) (.tup (.cons (.nm 1) (.cons (.nm 2) (.cons (.nm 3) .nil)))) .seq (.cons (.var 0) .nil) (.bl true) [1, 2, 3]) .nil)))⟩
def t_21 : DT := ⟨"_law_total", top 36, ["crowds"], m_21⟩
/-- _law_first_tick(hall, place, goal) : 0 hall, 1 place, 2 goal, 3 rows, 4 row, 5 tick, 6 later, 7 own, 8 begin, 9 end, 10 time, 11 capacity, 12 far -/
def m_22 : Df := ⟨[false, false, false], 13, (.seq (.asg (.nm 3) (.lc (.lst .nil) (.nm 5) .rng (.cons (.int 60) .nil) (.bl true) [5])) (.seq (.asg (.nm 4) (.sub (.var 3) (.int 0))) (.seq (.ex (.mth .append (.var 4) (.cons (.var 1) .nil))) (.seq (.for_ (.nm 5) .rng (.cons (.int 43) .nil) (.seq (.asgp (.tup (.cons (.nm 4) (.cons (.nm 6) .nil))) (.cons (.sub (.var 3) (.var 5)) (.cons (.sub (.var 3) (.bin .Add (.var 5) (.int 1))) .nil))) (.seq (.ite (.cmp .In (.var 2) (.var 4)) (.ret (.var 5)) .skip) (.seq (.for_ (.nm 7) .seq (.cons (.var 4) .nil) (.ite (.cmp .NotIn (.var 7) (.var 6)) (.ex (.mth .append (.var 6) (.cons (.var 7) .nil))) .skip)) (.for_ (.tup (.cons (.nm 8) (.cons (.nm 9) (.cons (.nm 10) (.cons (.nm 11) .nil))))) .seq (.cons (.sub (.var 0) (.int 1)) .nil) (.seq (.asg (.nm 12) (.sub (.var 3) (.bin .Add (.var 5) (.var 10)))) (.ite (.and (.cmp .In (.var 8) (.var 4)) (.cmp .NotIn (.var 9) (.var 12))) (.ex (.mth .append (.var 12) (.cons (.var 9) .nil))) .skip))))))) (.ret .non)))))⟩
def t_22 : DT := ⟨"_law_first_tick", top 37, ["hall", "place", "goal"], m_22⟩
/-- _law_steps_fit(hall, goal, told) : 0 hall, 1 goal, 2 told, 3 kept, 4 begin, 5 end, 6 time, 7 capacity, 8 place -/
def m_23 : Df := ⟨[false, false, false], 9, (.seq (.asg (.nm 3) (.lc (.or (.cmp .Eq (.var 8) (.var 1)) (.cmp .Is (.sub (.var 2) (.var 8)) .non)) (.nm 8) .rng (.cons (.sub (.var 0) (.int 0)) .nil) (.bl true) [8])) (.seq (.for_ (.tup (.cons (.nm 4) (.cons (.nm 5) (.cons (.nm 6) (.cons (.nm 7) .nil))))) .seq (.cons (.sub (.var 0) (.int 1)) .nil) (.ite (.cmp .IsNot (.sub (.var 2) (.var 5)) .non) (.seq (.ite (.or (.cmp .Is (.sub (.var 2) (.var 4)) .non) (.cmp .Gt (.sub (.var 2) (.var 4)) (.bin .Add (.sub (.var 2) (.var 5)) (.var 6)))) (.ret (.bl false)) .skip) (.ite (.cmp .Eq (.sub (.var 2) (.var 4)) (.bin .Add (.sub (.var 2) (.var 5)) (.var 6))) (.sets (.var 3) (.var 4) (.bl true)) .skip)) .skip)) (.ret (.cmp .NotIn (.bl false) (.var 3)))))⟩
def t_23 : DT := ⟨"_law_steps_fit", top 38, ["hall", "goal", "told"], m_23⟩
/-- law(script) : 0 script, 1 turn, 2 source, 3 hall, 4 crowds, 5 goal, 6 due, 7 told, 8 many, 9 other, 10 place, 11 begin, 12 end, 13 time, 14 capacity -/
def m_24 : Df := ⟨[false], 15, (.seq (.for_ (.nm 1) .rng (.cons (.bi .max2 (.cons (.int 1) (.cons (.bi .min2 (.cons (.int 3) (.cons (.bi .len (.cons (.var 0) .nil)) .nil))) .nil))) .nil) (.seq (.asg (.nm 2) (.call 17 (.cons (.var 0) (.cons (.var 1) .nil)))) (.seq (.asg (.nm 3) (.call 19 (.cons (.var 2) (.cons (.sub (.lst (.cons (.int 3) (.cons (.int 5) (.cons (.int 8) .nil)))) (.call 18 (.cons (.var 2) (.cons (.int 3) .nil)))) (.cons (.int 16) .nil))))) (.seq (.asg (.nm 4) (.call 20 (.cons (.var 2) (.cons (.sub (.var 3) (.int 0)) (.cons (.int 9) (.cons (.int 40) (.cons (.int 60) .nil))))))) (.seq (.for_ (.nm 5) .rng (.cons (.sub (.var 3) (.int 0)) .nil) (.seq (.asg (.nm 6) (.bi .tuple (.cons (.lc (.call 22 (.cons (.var 3) (.cons (.var 10) (.cons (.var 5) .nil)))) (.nm 10) .rng (.cons (.sub (.var 3) (.int 0)) .nil) (.bl true) [10]) .nil))) (.seq (.asg (.nm 7) (.call 15 (.cons (.var 3) (.cons (.var 5) .nil)))) (.seq (.ite (.or (.cmp .NotEq (.bi .repr (.cons (.var 7) .nil)) (.bi .repr (.cons (.var 6) .nil))) (.cmp .NotEq (.bi .repr (.cons (.callk 15 .nil (.cons (.var 5) (.cons (.var 3) .nil)) [1, 0]) .nil)) (.bi .repr (.cons (.var 6) .nil)))) (.ret (.bl false)) .skip) (.ite (.not (.call 23 (.cons (.var 3) (.cons (.var 5) (.cons (.var 7) .nil))))) (.ret (.bl false)) .skip))))) (.seq (.asg (.nm 8) (.lst (.cons (.call 14 (.cons (.var 3) (.cons (.var 4) .nil))) (.cons (.callk 14 .nil (.cons (.var 4) (.cons (.var 3) .nil)) [1, 0]) .nil)))) (.seq (.ite (.cmp .NotEq (.bi .repr (.cons (.var 8) .nil)) (.bi .repr (.cons (.bin .Mult (.lst (.cons (.call 21 (.cons (.var 4) .nil)) .nil)) (.int 2)) .nil))) (.ret (.bl false)) .skip) (.seq (.asg (.nm 9) (.tup (.cons (.sub (.var 3) (.int 0)) (.cons (.bi .tuple (.cons (.lc (.tup (.cons (.var 12) (.cons (.var 11) (.cons (.var 13) (.cons (.var 14) .nil))))) (.tup (.cons (.nm 11) (.cons (.nm 12) (.cons (.nm 13) (.cons (.nm 14) .nil))))) .seq (.cons (.sub (.var 3) (.int 1)) .nil) (.bl true) [11, 12, 13, 14]) .nil)) .nil)))) (.ite (.or (.cmp .NotEq (.bi .repr (.cons (.call 16 (.cons (.var 3) .nil)) .nil)) (.bi .repr (.cons (.var 9) .nil))) (.cmp .NotEq (.bi .repr (.cons (.callk 16 .nil (.cons (.var 9) .nil) [0]) .nil)) (.bi .repr (.cons (.var 3) .nil)))) (.ret (.bl false)) .skip))))))))) (.ret (.bl true)))⟩
def t_24 : DT := ⟨"law", top 39, ["script"], m_24⟩
def T : List DT := [t_0, t_1, t_2, t_3, t_4, t_5, t_6, t_7, t_8, t_9, t_10, t_11, t_12, t_13, t_14, t_15, t_16, t_17, t_18, t_19, t_20, t_21, t_22, t_23, t_24]
def zs : List Str := ["isinstance", "int", "bool", "tuple", "len", "zip", "all", "list", "sum", "range", "abs", "sorted", "min", "max", "repr"]
def gs : List (Str × Int) := [("MOST_TIME", 6), ("MOST_CAPACITY", 9), ("MOST_PLACES", 8), ("MOST_STAIRS", 16), ("LAST_TICK", 40), ("MOST_MANY", 60), ("MOST_CROWDS", 40)]
def bs : List (Str × String) := []
theorem p_0 : pOf T 0 = some m_0 := rfl
@[simp] theorem md_0 : mdOf (pOf T) 0 = [false] := rfl
theorem p_1 : pOf T 1 = some m_1 := rfl
@[simp] theorem md_1 : mdOf (pOf T) 1 = [false, false, false] := rfl
theorem p_2 : pOf T 2 = some m_2 := rfl
@[simp] theorem md_2 : mdOf (pOf T) 2 = [false, false, false] := rfl
theorem p_3 : pOf T 3 = some m_3 := rfl
@[simp] theorem md_3 : mdOf (pOf T) 3 = [false, false, false] := rfl
theorem p_4 : pOf T 4 = some m_4 := rfl
@[simp] theorem md_4 : mdOf (pOf T) 4 = [false] := rfl
theorem p_5 : pOf T 5 = some m_5 := rfl
@[simp] theorem md_5 : mdOf (pOf T) 5 = [false] := rfl
theorem p_6 : pOf T 6 = some m_6 := rfl
@[simp] theorem md_6 : mdOf (pOf T) 6 = [false, false] := rfl
theorem p_7 : pOf T 7 = some m_7 := rfl
@[simp] theorem md_7 : mdOf (pOf T) 7 = [false] := rfl
theorem p_8 : pOf T 8 = some m_8 := rfl
@[simp] theorem md_8 : mdOf (pOf T) 8 = [false] := rfl
theorem p_9 : pOf T 9 = some m_9 := rfl
@[simp] theorem md_9 : mdOf (pOf T) 9 = [false, false] := rfl
theorem p_10 : pOf T 10 = some m_10 := rfl
@[simp] theorem md_10 : mdOf (pOf T) 10 = [false, false] := rfl
theorem p_11 : pOf T 11 = some m_11 := rfl
@[simp] theorem md_11 : mdOf (pOf T) 11 = [false, false] := rfl
theorem p_12 : pOf T 12 = some m_12 := rfl
@[simp] theorem md_12 : mdOf (pOf T) 12 = [false, false] := rfl
theorem p_13 : pOf T 13 = some m_13 := rfl
@[simp] theorem md_13 : mdOf (pOf T) 13 = [false] := rfl
theorem p_14 : pOf T 14 = some m_14 := rfl
@[simp] theorem md_14 : mdOf (pOf T) 14 = [false, false] := rfl
theorem p_15 : pOf T 15 = some m_15 := rfl
@[simp] theorem md_15 : mdOf (pOf T) 15 = [false, false] := rfl
theorem p_16 : pOf T 16 = some m_16 := rfl
@[simp] theorem md_16 : mdOf (pOf T) 16 = [false] := rfl
theorem p_17 : pOf T 17 = some m_17 := rfl
@[simp] theorem md_17 : mdOf (pOf T) 17 = [false, false] := rfl
theorem p_18 : pOf T 18 = some m_18 := rfl
@[simp] theorem md_18 : mdOf (pOf T) 18 = [true, false] := rfl
theorem p_19 : pOf T 19 = some m_19 := rfl
@[simp] theorem md_19 : mdOf (pOf T) 19 = [true, false, false] := rfl
theorem p_20 : pOf T 20 = some m_20 := rfl
@[simp] theorem md_20 : mdOf (pOf T) 20 = [true, false, false, false, false] := rfl
theorem p_21 : pOf T 21 = some m_21 := rfl
@[simp] theorem md_21 : mdOf (pOf T) 21 = [false] := rfl
theorem p_22 : pOf T 22 = some m_22 := rfl
@[simp] theorem md_22 : mdOf (pOf T) 22 = [false, false, false] := rfl
theorem p_23 : pOf T 23 = some m_23 := rfl
@[simp] theorem md_23 : mdOf (pOf T) 23 = [false, false, false] := rfl
theorem p_24 : pOf T 24 = some m_24 := rfl
@[simp] theorem md_24 : mdOf (pOf T) 24 = [false] := rfl
end K01
namespace K01
open PySem L2 MP MP.H
open MP.V (Sml)
theorem f_0 {n : Nat} {i : Int} : callN (pOf T) (n + 1) 0 [.fr (.int i)] = .ok ⟨.inl (.bool true), []⟩ := by
  refine callN_eq p_0 rfl rfl ?_
  simp -dsimp [m_0]
theorem f_1 {n : Nat} {i lo hi : Int} : callN (pOf T) (n + 2) 1 [.fr (.int i), .fr (.int lo), .fr (.int hi)] = .ok ⟨.inl (.bool (decide (lo ≤ i ∧ i ≤ hi))), []⟩ := by
  refine callN_eq p_1 rfl rfl ?_
  simp -dsimp [m_1, f_0]
theorem f_2 {n : Nat} {ds : List Dt} {lo hi : Int} : callN (pOf T) (n + 1) 2 [.fr (.tuple ds), .fr (.int lo), .fr (.int hi)] = .ok ⟨.inl (.bool (decide (lo ≤ ds.length ∧ ds.length ≤ hi))), []⟩ := by
  refine callN_eq p_2 rfl rfl ?_
  simp -dsimp [m_2]
theorem f_3 {n : Nat} {i lo hi : Int} (h1 : lo ≤ i) (h2 : i ≤ hi) : callN (pOf T) (n + 1) 3 [.fr (.int i), .fr (.int lo), .fr (.int hi)] = .ok ⟨.inl .none, []⟩ := by
  refine callN_eq p_3 rfl rfl ?_
  have q1 : ¬ i < lo := by omega
  have q2 : ¬ hi < i := by omega
  simp -dsimp [m_3, q1, q2]
theorem f_4 {n : Nat} {K : List (Nat × Nat)} (hl : K.length ≤ 40) (h : Asc K) : callN (pOf T) (n + 1) 4 [.fr (.list (pksD K))] = .ok ⟨.inl (.bool true), []⟩ := by
  refine callN_eq p_4 rfl rfl ?_
  simp -dsimp [m_4]
  refine lcB_zip (l := true) (k := true) (ds := pksD K) (es := pksD K.tail) (fun i e acc => ∃ o1 o2, e = [.fr (.list (pksD K)), oE o1, oE o2, .fr (.list (pksD K)), .fr (.list (pksD K.tail)), .un, .un] ∧ acc = fL (bD (List.replicate i true)))
    (lt_bigW (by simp; omega)) ⟨none, none, rfl, rfl⟩ ?_ ?_ ?_
  · rintro i e acc ⟨o1, o2, rfl, rfl⟩
    exact ⟨.mk rfl, .mk rfl⟩
  · rintro i hi hj e acc ⟨o1, o2, rfl, rfl⟩
    have h3 : i + 1 < K.length := by simp at hj; omega
    have h5 := lexD_ltK (h i h3)
    simp -dsimp [LcTurn, h5]
    exact lt_lineN (by omega)
  · rintro e acc ⟨o1, o2, rfl, rfl⟩
    simp -dsimp [m_4]
theorem f_6 {n m : Nat} {s : Sr} (h : Sk m s) : callN (pOf T) (n + 3) 6 [.fr (.int (m : Int)), .fr (.tuple [.int (s.b : Int), .int (s.e : Int), .int (s.t : Int), .int (s.c : Int)])] = .ok ⟨.inl (.bool true), []⟩ := by
  refine callN_eq p_6 rfl rfl ?_
  obtain ⟨h1, h2, h3, h4, h5, h6, h7⟩ := h
  simp -dsimp [m_6, f_2]
  refine lcB_seq (l := false) (ds := [.int (s.b : Int), .int (s.e : Int), .int (s.t : Int), .int (s.c : Int)]) (fun i e acc => ∃ p6, e = [.fr (.int (m : Int)), .fr (.tuple [.int (s.b : Int), .int (s.e : Int), .int (s.t : Int), .int (s.c : Int)]), .un, .un, .un, .un, oE p6, .fr (.tuple [.int (s.b : Int), .int (s.e : Int), .int (s.t : Int), .int (s.c : Int)]), .un] ∧ acc = fL (bD (List.replicate i true)))
    (lt_bigW (by simp)) ⟨none, rfl, rfl⟩ ?_ ?_ ?_
  · rintro i e acc ⟨o1, rfl, rfl⟩
    exact .mk rfl
  · rintro i hi e acc ⟨o1, rfl, rfl⟩
    have hi : i < 4 := by simpa using hi
    have e1 : ∃ z : Int, [PyData.int (s.b : Int), .int (s.e : Int), .int (s.t : Int), .int (s.c : Int)][i] = .int z := by
      match i, hi with
      | 0, _ => exact ⟨_, rfl⟩
      | 1, _ => exact ⟨_, rfl⟩
      | 2, _ => exact ⟨_, rfl⟩
      | 3, _ => exact ⟨_, rfl⟩
    obtain ⟨z, e1⟩ := e1
    rw [e1]
    simp -dsimp [LcTurn, f_0]
    exact lt_lineN (by omega)
  · rintro e acc ⟨o1, rfl, rfl⟩
    have q1 : (s.b : Int) ≤ (m : Int) - 1 := by omega
    have q2 : (s.e : Int) ≤ (m : Int) - 1 := by omega
    have q3 : ¬ (s.b : Int) = (s.e : Int) := by omega
    have q4 : (1 : Int) ≤ (s.t : Int) := by omega
    have q5 : (s.t : Int) ≤ 6 := by omega
    have q6 : (1 : Int) ≤ (s.c : Int) := by omega
    have q7 : (s.c : Int) ≤ 9 := by omega
    simp -dsimp [m_6, f_1, q1, q2, q3, q4, q5, q6, q7]
theorem f_7 {n m : Nat} {S : List Sr} (h : Hk m S) : callN (pOf T) (n + 4) 7 [.fr (hD m S)] = .ok ⟨.inl (.bool true), []⟩ := by
  refine callN_eq p_7 rfl rfl ?_
  obtain ⟨h1, h2, h3, h4⟩ := h
  have j0 : ixN 2 0 = some 0 := rfl
  have j1 : ixN 2 1 = some 1 := rfl
  have q1 : (1 : Int) ≤ (m : Int) := by omega
  have q2 : (m : Int) ≤ 8 := by omega
  have q3 : (S.length : Int) ≤ 16 := by omega
  simp -dsimp [m_7, hD, f_2, f_1, j0, j1, q1, q2, q3]
  refine lcB_seq (l := false) (ds := ssD S) (fun i e acc => ∃ p1, e = [.fr (.tuple [.int (m : Int), .tuple (ssD S)]), oE p1, .fr (.tuple (ssD S)), .un] ∧ acc = fL (bD (List.replicate i true)))
    (lt_bigW (by simp; omega)) ⟨none, rfl, rfl⟩ ?_ ?_ ?_
  · rintro i e acc ⟨p1, rfl, rfl⟩
    exact .mk rfl
  · rintro i hi e acc ⟨p1, rfl, rfl⟩
    have hi : i < S.length := by simpa using hi
    have hs := f_6 (n := n) (h4 S[i] (by simp))
    simp -dsimp [LcTurn, j0, hs]
    exact lt_lineN (by omega)
  · rintro e acc ⟨p1, rfl, rfl⟩
    simp -dsimp [m_7]
theorem f_8 {n m : Nat} {S : List Sr} (h : Hk m S) : callN (pOf T) (n + 5) 8 [.fr (hD m S)] = .ok ⟨.inl .none, []⟩ := by
  refine callN_eq p_8 rfl rfl ?_
  simp -dsimp [m_8, f_7 h]
theorem f_9 {n m g : Nat} {S : List Sr} (h : g < m) : callN (pOf T) (n + 2) 9 [.fr (hD m S), .fr (.int (g : Int))] = .ok ⟨.inl .none, []⟩ := by
  refine callN_eq p_9 rfl rfl ?_
  have j0 : ixN 2 0 = some 0 := rfl
  have h3 := f_3 (n := n) (i := (g : Int)) (lo := 0) (hi := (m : Int) - 1) (by omega) (by omega)
  simp -dsimp [m_9, hD, j0, h3]
theorem f_10 {n m : Nat} {S : List Sr} {c : Cw} (h1 : c.p < m) (h2 : c.t ≤ 40) (h3 : 1 ≤ c.n) (h4 : c.n ≤ 60) : callN (pOf T) (n + 3) 10 [.fr (hD m S), .fr (.tuple [.int (c.p : Int), .int (c.t : Int), .int (c.n : Int)])] = .ok ⟨.inl (.bool true), []⟩ := by
  refine callN_eq p_10 rfl rfl ?_
  have j0 : ixN 2 0 = some 0 := rfl
  have k0 : ixN 3 0 = some 0 := rfl
  have k1 : ixN 3 1 = some 1 := rfl
  have k2 : ixN 3 2 = some 2 := rfl
  have q1 : (c.p : Int) ≤ (m : Int) - 1 := by omega
  have q2 : (c.t : Int) ≤ 40 := by omega
  have q3 : (1 : Int) ≤ (c.n : Int) := by omega
  have q4 : (c.n : Int) ≤ 60 := by omega
  simp -dsimp [m_10, hD, f_2, f_1, j0, k0, k1, k2, q1, q2, q3, q4]
def pks (C : List Cw) : List (Nat × Nat) := C.map fun c => (c.p, c.t)
theorem f_11 {n m : Nat} {S : List Sr} {C : List Cw} (h : Ck m C) : callN (pOf T) (n + 4) 11 [.fr (hD m S), .fr (.tuple (csD C))] = .ok ⟨.inl (.bool true), []⟩ := by
  refine callN_eq p_11 rfl rfl ?_
  have hl := h.l
  have q3 : (C.length : Int) ≤ 40 := by omega
  simp -dsimp [m_11, f_2, q3]
  refine lcB_seq (l := false) (ds := csD C) (fun i e acc => ∃ p2, e = [.fr (hD m S), .fr (.tuple (csD C)), oE p2, .fr (.tuple (csD C)), .un] ∧ acc = fL (bD (List.replicate i true)))
    (lt_bigW (by simp; omega)) ⟨none, rfl, rfl⟩ ?_ ?_ ?_
  · rintro i e acc ⟨p1, rfl, rfl⟩
    exact .mk rfl
  · rintro i hi e acc ⟨p1, rfl, rfl⟩
    have hi : i < C.length := by simpa using hi
    have hs := f_10 (n := n) (S := S) (h.p C[i] (by simp)) (h.t C[i] (by simp)) (h.n1 C[i] (by simp)) (h.n2 C[i] (by simp))
    simp -dsimp [LcTurn, hs]
    exact lt_lineN (by omega)
  · rintro e acc ⟨p1, rfl, rfl⟩
    simp -dsimp
    refine lcB_seq (l := false) (ds := csD C) (fun i e acc => ∃ p2, e = [.fr (hD m S), .fr (.tuple (csD C)), oE p2, .fr (.tuple (csD C)), .un] ∧ acc = fL (pksD ((pks C).take i)))
      (lt_bigW (by simp; omega)) ⟨none, rfl, rfl⟩ ?_ ?_ ?_
    · rintro i e acc ⟨p1, rfl, rfl⟩
      exact .mk rfl
    · rintro i hi e acc ⟨p1, rfl, rfl⟩
      have hi : i < C.length := by simpa using hi
      simp -dsimp [LcTurn]
      refine ⟨lt_lineN (by omega), ?_⟩
      have hp : i < (pks C).length := by simpa [pks] using hi
      rw [List.take_succ_eq_append_getElem hp]
      simp [pksD, pks, pkD]
    · rintro e acc ⟨p1, rfl, rfl⟩
      have h4 := f_4 (n := n + 2) (K := pks C) (by simpa [pks] using hl) h.a
      have e1 : (pks C).take C.length = pks C := List.take_of_length_le (by simp [pks])
      simp -dsimp [m_11, e1, h4]
theorem f_12 {n m : Nat} {S : List Sr} {C : List Cw} (hh : Hk m S) (h : Ck m C) : callN (pOf T) (n + 6) 12 [.fr (hD m S), .fr (.tuple (csD C))] = .ok ⟨.inl .none, []⟩ := by
  refine callN_eq p_12 rfl rfl ?_
  simp -dsimp [m_12, f_8 hh, f_11 h]
theorem f_13 {n m : Nat} {C : List Cw} (h : Ck m C) : callN (pOf T) (n + 1) 13 [.fr (.tuple (csD C))] = .ok ⟨.inl (.int (tot C : Int)), []⟩ := by
  refine callN_eq p_13 rfl rfl ?_
  have hl := h.l
  simp -dsimp [m_13]
  refine lcB_seq (l := false) (ds := csD C) (fun i e acc => ∃ p1 p2 p3, e = [.fr (.tuple (csD C)), oE p1, oE p2, oE p3, .fr (.tuple (csD C)), .un, .un, .un] ∧ acc = fL (nD ((C.map Cw.n).take i)))
    (lt_bigW (by simp; omega)) ⟨none, none, none, rfl, rfl⟩ ?_ ?_ ?_
  · rintro i e acc ⟨p1, p2, p3, rfl, rfl⟩
    exact .mk rfl
  · rintro i hi e acc ⟨p1, p2, p3, rfl, rfl⟩
    have hi : i < C.length := by simpa using hi
    simp -dsimp [LcTurn]
    refine ⟨lt_lineN (by omega), ?_⟩
    rw [List.take_succ_eq_append_getElem (by simpa using hi), List.getElem_map]
  · rintro e acc ⟨p1, p2, p3, rfl, rfl⟩
    have e1 : (C.map Cw.n).take C.length = C.map Cw.n := List.take_of_length_le (by simp)
    have e2 : ((C.map Cw.n).map fun n : Nat => (n : Int)).sum = ((tot C : Nat) : Int) := sum_nat
    simp -dsimp only [csD_length, e1]
    simp -dsimp [m_13, intsOf_nD, -List.map_map, e2]
theorem f_21 {n m : Nat} {C : List Cw} (h : Ck m C) : callN (pOf T) (n + 1) 21 [.fr (.tuple (csD C))] = .ok ⟨.inl (.int (tot C : Int)), []⟩ := by
  refine callN_eq p_21 rfl rfl ?_
  have hl := h.l
  simp -dsimp [m_21]
  refine lcB_seq (l := false) (ds := csD C) (fun i e acc => ∃ p1 p2 p3, e = [.fr (.tuple (csD C)), oE p1, oE p2, oE p3, .fr (.tuple (csD C)), .un, .un, .un] ∧ acc = fL (nD ((C.map Cw.n).take i)))
    (lt_bigW (by simp; omega)) ⟨none, none, none, rfl, rfl⟩ ?_ ?_ ?_
  · rintro i e acc ⟨p1, p2, p3, rfl, rfl⟩
    exact .mk rfl
  · rintro i hi e acc ⟨p1, p2, p3, rfl, rfl⟩
    have hi : i < C.length := by simpa using hi
    simp -dsimp [LcTurn]
    refine ⟨lt_lineN (by omega), ?_⟩
    rw [List.take_succ_eq_append_getElem (by simpa using hi), List.getElem_map]
  · rintro e acc ⟨p1, p2, p3, rfl, rfl⟩
    have e1 : (C.map Cw.n).take C.length = C.map Cw.n := List.take_of_length_le (by simp)
    have e2 : ((C.map Cw.n).map fun n : Nat => (n : Int)).sum = ((tot C : Nat) : Int) := sum_nat
    simp -dsimp only [csD_length, e1]
    simp -dsimp [m_21, intsOf_nD, -List.map_map, e2]
theorem f_14 {n m : Nat} {S : List Sr} {C : List Cw} (hh : Hk m S) (h : Ck m C) : callN (pOf T) (n + 7) 14 [.fr (hD m S), .fr (.tuple (csD C))] = .ok ⟨.inl (.int (tot C : Int)), []⟩ := by
  refine callN_eq p_14 rfl rfl ?_
  simp -dsimp [m_14, f_12 hh h, f_13 h]
/-- turned round -/
def trn (S : List Sr) : List Sr := S.map fun s => ⟨s.e, s.b, s.t, s.c⟩
theorem trn_trn (S : List Sr) : trn (trn S) = S := by simp [trn, Function.comp_def]
theorem Hk.trn {m : Nat} {S : List Sr} (h : Hk m S) : Hk m (trn S) := by
  refine ⟨h.m1, h.m2, by simpa [K01.trn] using h.l, fun s hs => ?_⟩
  obtain ⟨r, hr, rfl⟩ := List.mem_map.mp hs
  obtain ⟨h1, h2, h3, h4, h5, h6, h7⟩ := h.s r hr
  exact ⟨h2, h1, fun e => h3 e.symm, h4, h5, h6, h7⟩
theorem f_16 {n m : Nat} {S : List Sr} (h : Hk m S) : callN (pOf T) (n + 6) 16 [.fr (hD m S)] = .ok ⟨.inl (hD m (trn S)), []⟩ := by
  refine callN_eq p_16 rfl rfl ?_
  have hl := h.l
  have j0 : ixN 2 0 = some 0 := rfl
  have j1 : ixN 2 1 = some 1 := rfl
  simp -dsimp [m_16, f_8 h]
  simp -dsimp [hD, j0, j1]
  refine lcB_seq (l := false) (ds := ssD S) (fun i e acc => ∃ p1 p2 p3 p4, e = [.fr (.tuple [.int (m : Int), .tuple (ssD S)]), oE p1, oE p2, oE p3, oE p4, .fr (.tuple (ssD S)), .un, .un, .un, .un] ∧ acc = fL (ssD ((trn S).take i)))
    (lt_bigW (by simp; omega)) ⟨none, none, none, none, rfl, rfl⟩ ?_ ?_ ?_
  · rintro i e acc ⟨p1, p2, p3, p4, rfl, rfl⟩
    exact .mk rfl
  · rintro i hi e acc ⟨p1, p2, p3, p4, rfl, rfl⟩
    have hi : i < S.length := by simpa using hi
    simp -dsimp [LcTurn]
    refine ⟨le_lineN (by omega), lt_lineN (by omega), ?_⟩
    have hp : i < (trn S).length := by simpa [trn] using hi
    rw [List.take_succ_eq_append_getElem hp]
    simp [ssD, trn, sD]
  · rintro e acc ⟨p1, p2, p3, p4, rfl, rfl⟩
    have e1 : (trn S).take S.length = trn S := List.take_of_length_le (by simp [trn])
    simp -dsimp [m_16, e1, hD]
    exact le_lineN (by omega)
theorem f_17 {n : Nat} {S : List Int} (hS : S.length ≤ 63) {i : Nat} (hi : i ≤ 10) : (callN (pOf T) (n + 1) 17 [.fr (.list (iD S)), .fr (.int (i : Int))]).to fun r => ∃ s, r = ⟨.inr (scT s), []⟩ ∧ Sv 0 s := by
  refine callN_to p_17 rfl rfl ?_
  have l1 : lim64 13 = true := lim64_of (by decide) (by decide)
  have l2 : lim64 10007 = true := lim64_of (by decide) (by decide)
  have l3 : lim64 69069 = true := lim64_of (by decide) (by decide)
  have pw : (10 : Int) ^ (18 : Int).toNat = 1000000000000000000 := by decide
  have pw2 : (10 : Int) ^ (20 : Int).toNat = 100000000000000000000 := by decide
  have pw3 : (10 : Int) ^ (24 : Int).toNat = 1000000000000000000000000 := by decide
  simp -dsimp only [m_17]
  refine seq_to (fun e => ∃ c : Int, e = [.fr (.list (iD S)), .fr (.int (i : Int)), .fr (.int c), .un, .un]) ?_ ?_
  · simp -dsimp
    by_cases c : i < S.length
    · have c2 : (i : Int) < (S.length : Int) := by omega
      have i0 : ixN S.length (i : Int) = some i := ixN_nat c
      simp -dsimp [c2, i0, c]
    · have c2 : ¬ (i : Int) < (S.length : Int) := by omega
      simp -dsimp [c]
  rintro e ⟨c, rfl⟩
  simp -dsimp [l1, l2]
  refine forB_seqI (l := true) (ds := iD S) (fun j e => ∃ x o4, e = [.fr (.list (iD S)), .fr (.int (i : Int)), .fr (.int c), .fr (.int x), oE o4, .fr (.list (iD S))] ∧ 0 ≤ x ∧ x ≤ 10 ^ 24 + 7) (lt_bigW (by simp; omega)) ⟨_, none, rfl, by omega, by omega⟩ ?_ ?_ ?_
  · rintro j e ⟨x, o4, rfl, x0, x1⟩
    exact .mk rfl
  · rintro j hj e ⟨x, o4, rfl, x0, x1⟩
    simp -dsimp [l3, pw2, pw3]
    refine ⟨Int.emod_nonneg _ (by decide), ?_⟩
    have := Int.emod_lt_of_pos (x * 69069 + S[j]'(by simpa using hj) % 100000000000000000039 + 7) (b := 1000000000000000000000007) (by decide)
    omega
  · rintro e ⟨x, o4, rfl, x0, x1⟩
    have dv : (1000000000000000000 : Int) < divN := by decide
    simp -dsimp [m_17, pw, dv]
    exact ⟨le_lineN (by decide), ⟨_, x, 0⟩, rfl, x0, x1, Int.le_refl _, Int.le_refl _⟩
theorem f_18 {n : Nat} {s : Sc} {k many : Int} (hs : Sv k s) (hk : k ≤ 1000000) (hm : 0 < many) (hm2 : many ≤ 1000000) : (callN (pOf T) (n + 1) 18 [.io (scT s), .fr (.int many)]).to fun r => ∃ v s', r = ⟨.inl (.int v), [scT s']⟩ ∧ 0 ≤ v ∧ v < many ∧ Sv (k + 1) s' := by
  refine callN_to p_18 rfl rfl ?_
  obtain ⟨a, b, c⟩ := s
  obtain ⟨b0, b1, c0, c1⟩ := hs
  have j0 : ixN 3 0 = some 0 := rfl
  have j1 : ixN 3 1 = some 1 := rfl
  have j2 : ixN 3 2 = some 2 := rfl
  have b0 : 0 ≤ b := b0
  have b1 : b ≤ 10 ^ 24 + 7 := b1
  have c0 : 0 ≤ c := c0
  have c1 : c ≤ k := c1
  simp -dsimp [m_18, scT, j0, j1, j2]
  have hL : ¬ lineN ≤ 3 := by have := lt_lineN (n := 3) (by decide); omega
  have l1 : lim64 104729 = true := lim64_of (by decide) (by decide)
  have l2 : lim64 (c + 1) = true := lim64_of (by omega) (by omega)
  have l3 : lim64 97 = true := lim64_of (by decide) (by decide)
  have l4 : lim64 3 = true := lim64_of (by decide) (by decide)
  have pw : (10 : Int) ^ (29 : Int).toNat = 100000000000000000000000000000 := by decide
  have pw2 : (10 : Int) ^ (31 : Int).toNat = 10000000000000000000000000000000 := by decide
  have pw3 : (10 : Int) ^ (33 : Int).toNat = 1000000000000000000000000000000000 := by decide
  refine to_ite (fun q => ?_) (fun q => ?_)
  · have dv : many < divN := by unfold divN; omega
    simp -dsimp [hm, dv, j0]
    refine ⟨by omega, ?_⟩
    simp -dsimp [hL, m_18]
    exact ⟨_, ⟨a / many, b, c⟩, ⟨rfl, rfl, rfl, rfl⟩, Int.emod_nonneg _ (by omega), Int.emod_lt_of_pos _ hm, b0, b1, c0, by show c ≤ k + 1; omega⟩
  · simp -dsimp [j0, j1, j2, hL, l1, l2]
    have lB : ∀ x y : Int, 0 < y → y ≤ 10 ^ 33 + 603 → limB (x % y) = true := fun x y h0 h1 => by
      have e1 := Int.emod_nonneg x (b := y) (by omega)
      have e2 := Int.emod_lt_of_pos x h0
      refine limB_of ?_
      have e3 : (x % y).natAbs < 10 ^ 33 + 604 := by omega
      exact Nat.lt_trans e3 (by decide)
    have m1 : lim64 ((c + 1) * (c + 1) + 40503) = true := by
      have e1 : 0 ≤ (c + 1) * (c + 1) := Int.mul_nonneg (by omega) (by omega)
      have e2 : (c + 1) * (c + 1) ≤ 1000001 * 1000001 := Int.mul_le_mul (by omega) (by omega) (by omega) (by omega)
      exact lim64_of (by omega) (by omega)
    have m2 := lB ((b + 104729 * (c + 1)) * ((c + 1) * (c + 1) + 40503)) 100000000000000000000000000319 (by decide) (by decide)
    generalize (b + 104729 * (c + 1)) * ((c + 1) * (c + 1) + 40503) % 100000000000000000000000000319 = x at *
    have m3 := lB (x * x + 97 * (c + 1) + b) 10000000000000000000000000000033 (by decide) (by decide)
    generalize (x * x + 97 * (c + 1) + b) % 10000000000000000000000000000033 = y at *
    simp -dsimp [m1, m2, m3, l4, hm, m_18]
    exact ⟨_, ⟨a, b, c + 1⟩, ⟨rfl, rfl, rfl, rfl⟩, Int.emod_nonneg _ (by omega), Int.emod_lt_of_pos _ hm, b0, b1, by show 0 ≤ c + 1; omega, by show c + 1 ≤ k + 1; omega⟩
theorem mod_next {v w m : Int} (h0 : 0 ≤ v) (h1 : v < m) (h2 : 0 ≤ w) (h3 : w < m - 1) : 0 ≤ (v + 1 + w) % m ∧ (v + 1 + w) % m < m ∧ (v + 1 + w) % m ≠ v := by
  refine ⟨Int.emod_nonneg _ (by omega), Int.emod_lt_of_pos _ (by omega), ?_⟩
  by_cases c : v + 1 + w < m
  · rw [Int.emod_eq_of_lt (by omega) c]; omega
  · have e : v + 1 + w = (v + 1 + w - m) + m := by omega
    rw [e, Int.add_emod_right, Int.emod_eq_of_lt (by omega) (by omega)]
    omega
theorem pick3 {a b c u : Int} (h0 : 0 ≤ u) (h1 : u < 3) (ha : 1 ≤ a) (ha2 : a ≤ 9) (hb : 1 ≤ b) (hb2 : b ≤ 9) (hc : 1 ≤ c) (hc2 : c ≤ 9) : ∃ z : Int, [Tr.fr (.int a), Tr.fr (.int b), Tr.fr (.int c)][u.toNat]? = some (Tr.fr (.int z)) ∧ 1 ≤ z ∧ z ≤ 9 ∧ (z = a ∨ z = b ∨ z = c) := by
  have : u = 0 ∨ u = 1 ∨ u = 2 := by omega
  rcases this with rfl | rfl | rfl
  · exact ⟨a, rfl, ha, ha2, .inl rfl⟩
  · exact ⟨b, rfl, hb, hb2, .inr (.inl rfl)⟩
  · exact ⟨c, rfl, hc, hc2, .inr (.inr rfl)⟩
theorem f_19 {n : Nat} {s : Sc} {k places stairs : Int} (hs : Sv k s) (hk : k ≤ 10000) (h1 : 3 ≤ places) (h2 : places ≤ 8) (h3 : 1 ≤ stairs) (h4 : stairs ≤ 16) : (callN (pOf T) (n + 2) 19 [.io (scT s), .fr (.int places), .fr (.int stairs)]).to fun r => ∃ m S s', r = ⟨.inl (hD m S), [scT s']⟩ ∧ Hk m S ∧ Sv (k + 100) s' := by
  refine callN_to p_19 rfl rfl ?_
  simp -dsimp only [m_19]
  refine seq_to (fun e => ∃ (m : Nat) (s : Sc), e = [.al 9 [], .fr (.int places), .fr (.int stairs), .fr (.int (m : Int)), .own (.nd .ls (fL (ssD []))), .un, .un, .un, .un, .own (scT s)] ∧ 1 ≤ m ∧ m ≤ 8 ∧ Sv (k + 1) s) ?_ ?_
  · simp -dsimp
    refine (f_18 (n := n) hs (by omega) (many := places) (by omega) (by omega)).mono ?_
    rintro _ ⟨v, s, rfl, v0, v1, hs⟩
    obtain ⟨m, hm⟩ := Int.eq_ofNat_of_zero_le (a := places - v) (by omega)
    simp -dsimp
    exact ⟨m, s, ⟨hm, rfl, rfl, rfl⟩, by omega, by omega, hs⟩
  rintro e ⟨m, s, rfl, m1, m2, hs⟩
  refine seq_to (fun e => ∃ (m : Nat) (s : Sc), e = [.al 9 [], .fr (.int places), .fr (.int stairs), .fr (.int (m : Int)), .own (.nd .ls (fL (ssD []))), .un, .un, .un, .un, .own (scT s)] ∧ 1 ≤ m ∧ m ≤ 8 ∧ Sv (k + 2) s) ?_ ?_
  · simp -dsimp
    refine to_ite (fun c => ?_) (fun c => ?_)
    · simp -dsimp
      refine (f_18 (n := n) hs (by omega) (many := 4) (by omega) (by omega)).mono ?_
      rintro _ ⟨v, s, rfl, v0, v1, hs⟩
      obtain ⟨m', hm⟩ := Int.eq_ofNat_of_zero_le (a := places) (by omega)
      subst hm
      simp -dsimp
      refine to_ite (fun c => ?_) (fun c => ?_)
      · simp -dsimp
        exact ⟨m', s, ⟨rfl, rfl, rfl, rfl⟩, by omega, by omega, hs.mono (by omega)⟩
      · simp -dsimp
        exact ⟨m, s, ⟨rfl, rfl, rfl, rfl⟩, m1, m2, hs.mono (by omega)⟩
    · simp -dsimp
      exact ⟨m, s, ⟨rfl, rfl, rfl, rfl⟩, m1, m2, hs.mono (by omega)⟩
  rintro e ⟨m, s, rfl, m1, m2, hs⟩
  refine seq_to (fun e => ∃ S s o5 o6 o7 o8, e = [.al 9 [], .fr (.int places), .fr (.int stairs), .fr (.int (m : Int)), .own (.nd .ls (fL (ssD S))), oE o5, oE o6, oE o7, oE o8, .own (scT s)] ∧ S.length ≤ 16 ∧ (∀ x ∈ S, Sk m x) ∧ Sv (k + 100) s) ?_ ?_
  · simp -dsimp
    refine to_ite (fun c => ?_) (fun c => ?_)
    · simp -dsimp
      refine (f_18 (n := n) hs (by omega) (many := stairs + 1) (by omega) (by omega)).mono ?_
      rintro _ ⟨v, s, rfl, v0, v1, hs⟩
      have l1 : lim62 (stairs - v) = true := lim62_of (by omega) (by omega)
      simp -dsimp [l1]
      refine forB_rng (fun i e => ∃ S s o5 o6 o7 o8, e = [.al 9 [], .fr (.int places), .fr (.int stairs), .fr (.int (m : Int)), .own (.nd .ls (fL (ssD S))), oE o5, oE o6, oE o7, oE o8, .own (scT s)] ∧ S.length = i ∧ (∀ x ∈ S, Sk m x) ∧ Sv (k + 3 + 6 * i) s) (lt_bigW (by omega)) ⟨[], s, none, none, none, none, rfl, rfl, by simp, hs.mono (by omega)⟩ ?_ ?_
      · rintro i e hi ⟨S, s, o5, o6, o7, o8, rfl, hS, hk2, hs⟩
        have hi : i < 16 := by omega
        have hm : 1 < m := by omega
        simp -dsimp
        refine (f_18 (n := n) hs (by omega) (many := (m : Int)) (by omega) (by omega)).mono ?_
        rintro _ ⟨v, s, rfl, v0, v1, hs⟩
        simp -dsimp
        refine (f_18 (n := n) hs (by omega) (many := (m : Int) - 1) (by omega) (by omega)).mono ?_
        rintro _ ⟨w, s, rfl, w0, w1, hs⟩
        obtain ⟨q1, q2, q3⟩ := mod_next v0 v1 w0 w1
        have hm0 : 0 < m := by omega
        simp -dsimp [hm0]
        generalize (v + 1 + w) % (m : Int) = y at *
        refine ⟨le_lineN (by decide), ?_⟩
        refine (f_18 (n := n) hs (by omega) (many := 3) (by omega) (by omega)).mono ?_
        rintro _ ⟨u, s, rfl, u0, u1, hs⟩
        have iu : ixN 3 u = some u.toNat := ixN_of u0 u1
        obtain ⟨z, hz, z1, z2, z3⟩ := pick3 (a := 1) (b := 3) (c := 6) u0 u1 (by decide) (by decide) (by decide) (by decide) (by decide) (by decide)
        simp -dsimp [iu, hz]
        refine (f_18 (n := n) hs (by omega) (many := z) (by omega) (by omega)).mono ?_
        rintro _ ⟨tm, s, rfl, t0, t1, hs⟩
        simp -dsimp
        refine ⟨le_lineN (by decide), ?_⟩
        refine (f_18 (n := n) hs (by omega) (many := 3) (by omega) (by omega)).mono ?_
        rintro _ ⟨u', s, rfl, u0', u1', hs⟩
        have iu' : ixN 3 u' = some u'.toNat := ixN_of u0' u1'
        obtain ⟨z', hz', z1', z2', z3'⟩ := pick3 (a := 1) (b := 3) (c := 9) u0' u1' (by decide) (by decide) (by decide) (by decide) (by decide) (by decide)
        simp -dsimp [iu', hz']
        refine (f_18 (n := n) hs (by omega) (many := z') (by omega) (by omega)).mono ?_
        rintro _ ⟨cp, s, rfl, cp0, cp1, hs⟩
        simp -dsimp
        obtain ⟨vb, rfl⟩ := Int.eq_ofNat_of_zero_le v0
        obtain ⟨ye, rfl⟩ := Int.eq_ofNat_of_zero_le q1
        obtain ⟨tt, ht⟩ := Int.eq_ofNat_of_zero_le (a := 1 + tm) (by omega)
        obtain ⟨cc, hc⟩ := Int.eq_ofNat_of_zero_le (a := 1 + cp) (by omega)
        rw [ht, hc]
        refine ⟨le_lineN (by decide), lt_lineN (by omega), S ++ [⟨vb, ye, tt, cc⟩], s, ⟨by simp [ssD, sD], rfl, rfl, rfl⟩, by simp [hS], fun x hx => ?_, hs.mono (by omega)⟩
        rcases List.mem_append.mp hx with hx | hx
        · exact hk2 x hx
        · have := List.mem_singleton.mp hx
          subst this
          exact ⟨by show vb < m; omega, by show ye < m; omega, by show vb ≠ ye; omega, by show 1 ≤ tt; omega, by show tt ≤ 6; omega, by show 1 ≤ cc; omega, by show cc ≤ 9; omega⟩
      · rintro e ⟨S, s, o5, o6, o7, o8, rfl, hS, hk2, hs⟩
        simp -dsimp
        exact ⟨S, s, ⟨rfl, rfl, rfl, rfl⟩, by omega, hk2, hs.mono (by omega)⟩
    · have l0 : lim62 0 = true := lim62_of (by decide) (by decide)
      simp -dsimp [l0]
      refine forB_rng (fun i e => e = [.al 9 [], .fr (.int places), .fr (.int stairs), .fr (.int (m : Int)), .own (.nd .ls (fL (ssD []))), .un, .un, .un, .un, .own (scT s)]) (lt_bigW (by decide)) rfl ?_ ?_
      · rintro i e hi rfl
        exact absurd hi (Nat.not_lt_zero _)
      · rintro e rfl
        simp -dsimp
        exact ⟨[], s, ⟨rfl, rfl, rfl, rfl⟩, by simp, by simp, hs.mono (by omega)⟩
  rintro e ⟨S, s, o5, o6, o7, o8, rfl, hS, hk2, hs⟩
  simp -dsimp [m_19]
  exact ⟨le_lineN (by decide), m, S, s, ⟨rfl, rfl, rfl, rfl⟩, ⟨m1, m2, hS, hk2⟩, hs⟩
def Dok (m : Nat) (D : PD) : Prop := ∀ x ∈ D, x.1.1 < m ∧ x.1.2 ≤ 40 ∧ 1 ≤ x.2 ∧ x.2 ≤ 60
theorem f_20 {n m : Nat} {s : Sc} {k : Int} (hs : Sv k s) (hk : k ≤ 10000) (m1 : 1 ≤ m) (m2 : m ≤ 8) : (callN (pOf T) (n + 2) 20 [.io (scT s), .fr (.int (m : Int)), .fr (.int 9), .fr (.int 40), .fr (.int 60)]).to fun r => ∃ C s', r = ⟨.inl (.tuple (csD C)), [scT s']⟩ ∧ Ck m C ∧ Sv (k + 100) s' := by
  refine callN_to p_20 rfl rfl ?_
  simp -dsimp [m_20]
  refine (f_18 (n := n) hs (by omega) (many := 10) (by omega) (by omega)).mono ?_
  rintro _ ⟨v, s, rfl, v0, v1, hs⟩
  have l1 : lim62 (9 - v) = true := lim62_of (by omega) (by omega)
  simp -dsimp [l1]
  refine forB_rng (fun i e => ∃ (D : PD) (s : Sc) (o6 o7 o8 o9 : Option Dt), e = [.al 10 [], .fr (.int (m : Int)), .fr (.int 9), .fr (.int 40), .fr (.int 60), .own (.nd (.dt (pdK D)) (pdV D)), oE o6, oE o7, oE o8, oE o9, .own (scT s)] ∧ D.length ≤ i ∧ (D.map (·.1)).Nodup ∧ Dok m D ∧ Sv (k + 1 + 3 * i) s) (lt_bigW (by omega)) ⟨[], s, none, none, none, none, rfl, by simp, by simp, by unfold Dok; simp, hs.mono (by omega)⟩ ?_ ?_
  · rintro i e hi ⟨D, s, o6, o7, o8, o9, rfl, hD, nd, hb, hs⟩
    have hi : i < 9 := by omega
    simp -dsimp
    refine (f_18 (n := n) hs (by omega) (many := (m : Int)) (by omega) (by omega)).mono ?_
    rintro _ ⟨v, s, rfl, v0, v1, hs⟩
    simp -dsimp
    refine (f_18 (n := n) hs (by omega) (many := 41) (by omega) (by omega)).mono ?_
    rintro _ ⟨w, s, rfl, w0, w1, hs⟩
    simp -dsimp
    refine (f_18 (n := n) hs (by omega) (many := 60) (by omega) (by omega)).mono ?_
    rintro _ ⟨z, s, rfl, z0, z1, hs⟩
    obtain ⟨p, rfl⟩ := Int.eq_ofNat_of_zero_le v0
    obtain ⟨t, rfl⟩ := Int.eq_ofNat_of_zero_le w0
    obtain ⟨x, hx⟩ := Int.eq_ofNat_of_zero_le (a := 1 + z) (by omega)
    simp -dsimp [-Q.setE_al, hx]
    rw [set_dt (D := D) (k := (p, t)) rfl (lt_lineN (by omega)) (by intro j; simp)]
    simp -dsimp
    have hl := pdS_length D (p, t) x
    refine ⟨le_lineN (by decide), pdS D (p, t) x, s, ⟨⟨rfl, rfl⟩, rfl, rfl, rfl⟩, by omega, pdS_nodup nd, fun y hy => ?_, hs.mono (by omega)⟩
    rcases pdS_mem hy with rfl | hy
    · exact ⟨by show p < m; omega, by show t ≤ 40; omega, by show 1 ≤ x; omega, by show x ≤ 60; omega⟩
    · exact hb y hy
  · rintro e ⟨D, s, o6, o7, o8, o9, rfl, hD, nd, hb, hs⟩
    have hl : D.length ≤ 9 := by omega
    have vals : ∀ k' ∈ srtK (D.map (·.1)), ∃ v, pdG D k' = some v ∧ k'.1 < m ∧ k'.2 ≤ 40 ∧ 1 ≤ v ∧ v ≤ 60 := fun k' hk' => by
      obtain ⟨y, hy, rfl⟩ := List.mem_map.mp (srtK_mem.mp hk')
      obtain ⟨b1, b2, b3, b4⟩ := hb y hy
      exact ⟨y.2, pdG_of nd hy, b1, b2, b3, b4⟩
    have asc := srtK_asc nd
    have kl : (srtK (D.map (·.1))).length ≤ 9 := by simpa using hl
    have ext : ∃ C : List Cw, C.length = (srtK (D.map (·.1))).length ∧ (∀ (i : Nat) (h : i < C.length) (h2 : i < (srtK (D.map (·.1))).length), (C[i].p, C[i].t) = (srtK (D.map (·.1)))[i] ∧ pdG D ((srtK (D.map (·.1)))[i]) = some C[i].n) := by
      refine ⟨(srtK (D.map (·.1))).map fun k' => ⟨k'.1, k'.2, (pdG D k').getD 0⟩, by simp, fun i h h2 => ?_⟩
      obtain ⟨v, hv, _⟩ := vals _ (List.getElem_mem h2)
      rw [List.getElem_map]
      exact ⟨rfl, by rw [hv]; rfl⟩
    obtain ⟨C, hC, hCi⟩ := ext
    have hck : Ck m C := by
      have ep : (C.map fun c => (c.p, c.t)) = srtK (D.map (·.1)) := by
        apply List.ext_getElem (by simpa using hC)
        intro i h1 h2
        rw [List.getElem_map]
        exact (hCi i (by simpa using h1) h2).1
      have all : ∀ c ∈ C, c.p < m ∧ c.t ≤ 40 ∧ 1 ≤ c.n ∧ c.n ≤ 60 := fun c hc => by
        obtain ⟨i, hi, rfl⟩ := List.getElem_of_mem hc
        have h2 : i < (srtK (D.map (·.1))).length := by omega
        obtain ⟨e1, e2⟩ := hCi i hi h2
        obtain ⟨v, hv, v1, v2, v3, v4⟩ := vals _ (List.getElem_mem h2)
        rw [e2] at hv
        cases hv
        rw [← e1] at v1 v2
        exact ⟨v1, v2, v3, v4⟩
      exact ⟨by omega, fun c hc => (all c hc).1, fun c hc => (all c hc).2.1, fun c hc => (all c hc).2.2.1, fun c hc => (all c hc).2.2.2, by rw [ep]; exact asc⟩
    simp -dsimp [sorted_dt (D := D)]
    generalize srtK (D.map (·.1)) = K at *
    refine lcB_seq (l := true) (ds := pksD K) (fun i e acc => ∃ p9, e = [.al 10 [], .fr (.int (m : Int)), .fr (.int 9), .fr (.int 40), .fr (.int 60), .own (.nd (.dt (pdK D)) (pdV D)), oE o6, oE o7, oE o8, oE p9, .own (scT s), .fr (.list (pksD K)), oE o9] ∧ acc = fL (csD (C.take i))) (lt_bigW (by simp; omega)) ⟨none, rfl, rfl⟩ ?_ ?_ ?_
    · rintro i e acc ⟨p9, rfl, rfl⟩
      exact .mk rfl
    · rintro i hi e acc ⟨p9, rfl, rfl⟩
      have hi : i < K.length := by simpa using hi
      obtain ⟨e1, e2⟩ := hCi i (by omega) hi
      obtain ⟨j, f1, f2⟩ := find_pd e2
      simp -dsimp [LcTurn, f1, f2]
      refine ⟨le_lineN (by decide), le_lineN (by decide), lt_lineN (by omega), ?_⟩
      rw [List.take_succ_eq_append_getElem (by omega : i < C.length), ← e1]
      unfold csD
      rw [List.map_append]
      rfl
    · rintro e acc ⟨p9, rfl, rfl⟩
      have e1 : C.take K.length = C := List.take_of_length_le (by omega)
      simp -dsimp [m_20, e1]
      exact ⟨C, s, ⟨rfl, rfl, rfl, rfl⟩, hck, hs.mono (by omega)⟩
theorem get_getD {F : List (Option Nat)} {i : Nat} (h : i < F.length) : F[i]? = some (F.getD i none) := by
  rw [List.getD_eq_getElem?_getD, List.getElem?_eq_getElem h]; rfl
theorem f_15 {n m g : Nat} {S : List Sr} (h : Hk m S) (hg : g < m) : (callN (pOf T) (n + 6) 15 [.fr (hD m S), .fr (.int (g : Int))]).to fun r => ∃ F, r = ⟨.inl (.tuple (osD F)), []⟩ ∧ F.length = m ∧ ∀ p, Dst S g p (F.getD p none) := by
  refine callN_to p_15 rfl rfl ?_
  have hm := h.m2
  have hl := h.l
  have j0 : ixN 2 0 = some 0 := rfl
  have j1 : ixN 2 1 = some 1 := rfl
  have ig : ixN m (g : Int) = some g := ixN_nat hg
  have l1 : lim62 (m : Int) = true := lim62_of (by omega) (by omega)
  have hL : m < lineN := lt_lineN (by omega)
  have hL2 : ¬ lineN ≤ m := by omega
  have r0 : (List.replicate m [PyData.none]).flatten = osD (List.replicate m none) := osD_rep
  have mul : ∀ env, binE .Mult env (.own (.nd .ls [.fr .none])) (.fr (.int (m : Int))) = some (.own (.nd .ls (fL (osD (List.replicate m none))))) := fun env => by
    have c : -(2 ^ 63) ≤ (m : Int) ∧ (m : Int) < 2 ^ 63 ∧ [PyData.none].length * (m : Int).toNat ≤ lineN := by
      refine ⟨by omega, by omega, by simp; omega⟩
    have e1 : lItems env (.own (.nd .ls [.fr .none])) = some [PyData.none] := rfl
    have e2 : res env (.fr (.int (m : Int))) = some (.fr (.int (m : Int))) := rfl
    unfold binE
    simp only [e1, e2]
    rw [if_pos c, Int.toNat_natCast, r0]
    rfl
  simp -dsimp [m_15, f_8 h, f_9 hg]
  refine ⟨le_lineN (by decide), ?_⟩
  simp -dsimp [hD, j0, j1, mul, ig, hL2, l1]
  have e0 : (osD (List.replicate m none)).set g (.int 0) = osD ((List.replicate m none).set g (some 0)) := osD_set (v := 0)
  rw [e0]
  refine forB_rng (fun i e => ∃ (F : List (Option Nat)) (o3 o4 o5 o6 o7 : Option Dt), e = [.fr (.tuple [.int (m : Int), .tuple (ssD S)]), .fr (.int (g : Int)), .own (.nd .ls (fL (osD F))), oE o3, oE o4, oE o5, oE o6, oE o7] ∧ Bf S g m i F) (lt_bigW (by omega)) ⟨_, none, none, none, none, none, rfl, Bf.start hg⟩ ?_ ?_
  · rintro i e hi ⟨F0, o3, o4, o5, o6, o7, rfl, hB⟩
    simp -dsimp [j1]
    refine forB_seqI (l := false) (ds := ssD S) (fun i' e => ∃ (F : List (Option Nat)) (o4 o5 o6 o7 : Option Dt), e = [.fr (.tuple [.int (m : Int), .tuple (ssD S)]), .fr (.int (g : Int)), .own (.nd .ls (fL (osD F))), .fr (.int (i : Int)), oE o4, oE o5, oE o6, oE o7, .fr (.tuple (ssD S))] ∧ Bi S g m i' F0 F) (lt_bigW (by simp; omega)) ⟨F0, o4, o5, o6, o7, rfl, hB.l, hB.s, Lsr.refl F0, fun j hj => absurd hj (Nat.not_lt_zero _)⟩ ?_ ?_ ?_
    · rintro i' e ⟨F, o4, o5, o6, o7, rfl, hI⟩
      exact .mk rfl
    · rintro i' hi' e ⟨F, o4, o5, o6, o7, rfl, hI⟩
      have hi' : i' < S.length := by simpa using hi'
      have hs := h.s S[i'] (by simp)
      have nx := hI.next h (List.getElem?_eq_getElem hi')
      have hl' := hI.l
      rw [ssD_get]
      generalize S[i'] = s at *
      have ie : ixN F.length (s.e : Int) = some s.e := ixN_nat (by have := hs.e; omega)
      have ib : ixN F.length (s.b : Int) = some s.b := ixN_nat (by have := hs.b; omega)
      have ge := get_getD (F := F) (i := s.e) (by have := hs.e; omega)
      have gb := get_getD (F := F) (i := s.b) (by have := hs.b; omega)
      have oN : oD none = .none := rfl
      have oS : ∀ v, oD (some v) = .int (v : Int) := fun v => rfl
      unfold rlx at nx
      cases e1 : F.getD s.e none with
      | none =>
        rw [e1] at ge nx
        simp -dsimp [ie, ge, oN]
        exact ⟨F, rfl, nx⟩
      | some v =>
        rw [e1] at ge nx
        dsimp only at nx
        rw [hl'] at ie ib
        have hset : ∀ x : Nat, (osD F).set s.b (.int (x : Int)) = osD (F.set s.b (some x)) := fun x => osD_set
        cases e2 : F.getD s.b none with
        | none =>
          rw [e2] at gb nx
          simp -dsimp [ie, ge, ib, gb, oN, oS, hl', hL2]
          exact ⟨_, hset (v + s.t), nx⟩
        | some w =>
          rw [e2] at gb nx
          dsimp only at nx
          simp -dsimp [ie, ge, ib, gb, oN, oS, hl', hL2]
          refine to_ite (fun c => ?_) (fun c => ?_)
          · rw [if_pos (by omega)] at nx
            simp -dsimp
            exact ⟨_, hset (v + s.t), nx⟩
          · rw [if_neg (by omega)] at nx
            simp -dsimp
            exact ⟨F, rfl, nx⟩
    · rintro e ⟨F, o4, o5, o6, o7, rfl, hI⟩
      simp -dsimp
      exact ⟨F, rfl, hB.next (by simpa using hI)⟩
  · rintro e ⟨F, o3, o4, o5, o6, o7, rfl, hB⟩
    simp -dsimp [m_15]
    refine ⟨F, rfl, hB.l, fun p => ?_⟩
    rw [← List.getD_eq_getElem?_getD]
    exact hB.dst h hg p
/-- empty rows -/
def em (i : Nat) : List (List Nat) := List.replicate i []
theorem f_22 {n m p g : Nat} {S : List Sr} (h : Hk m S) (hg : g < m) (hp : p < m) : (callN (pOf T) (n + 1) 22 [.fr (hD m S), .fr (.int (p : Int)), .fr (.int (g : Int))]).to fun r => ∃ o, r = ⟨.inl (oD o), []⟩ ∧ Dst S g p o := by
  refine callN_to p_22 rfl rfl ?_
  have hl := h.l
  have l1 : lim62 60 = true := lim62_of (by decide) (by decide)
  have l2 : lim62 43 = true := lim62_of (by decide) (by decide)
  have j1 : ixN 2 1 = some 1 := rfl
  have i0 : ixN 60 0 = some 0 := rfl
  simp -dsimp [m_22, hD, l1]
  refine lcB_rng (fun i e acc => ∃ p5, e = [.fr (.tuple [.int (m : Int), .tuple (ssD S)]), .fr (.int (p : Int)), .fr (.int (g : Int)), .un, .un, oE p5, .un, .un, .un, .un, .un, .un, .un, .un] ∧ acc = rwT (em i)) (lt_bigW (by decide)) ⟨none, rfl, rfl⟩ ?_ ?_
  · rintro i e acc hi ⟨p5, rfl, rfl⟩
    simp -dsimp [LcTurn]
    refine ⟨lt_lineN (by simp [em]; omega), ?_⟩
    have e1 : em (i + 1) = em i ++ [[]] := List.replicate_succ'
    rw [e1]
    simp [rwT]
  · rintro e acc ⟨p5, rfl, rfl⟩
    generalize hR : em 60 = R0
    have hR' : R0 = List.replicate 60 [] := hR.symm
    have l0 : R0.length = 60 := by rw [hR']; exact List.length_replicate
    have d0 : R0.getD 0 [] = [] := by rw [hR']; rfl
    have g0 : (rwT R0)[0]? = some (.nd .ls (fL (nD []))) := by rw [← d0]; exact rwT_get (by omega)
    have st : Rws S m p 0 (R0.set 0 [p]) := by rw [hR']; exact Rws.begin hp
    have lr : (rwT R0).length = 60 := by rw [rwT_length]; exact l0
    have g1 : (rwT R0).set 0 (.nd .ls [.fr (.int (p : Int))]) = rwT (R0.set 0 [p]) := rwT_set (X := [p])
    clear hR hR' d0
    have i0 : ixN R0.length 0 = some 0 := by rw [l0]; rfl
    simp -dsimp [i0, g0, l2, g1]
    refine ⟨lt_lineN (by decide), ?_⟩
    refine forB_rng (fun T e => ∃ (R : List (List Nat)) (o4 o6 o12 : Option Nat) (o5 o7 o8 o9 o10 o11 : Option Dt), e = [.fr (.tuple [.int (m : Int), .tuple (ssD S)]), .fr (.int (p : Int)), .fr (.int (g : Int)), .own (.nd .ls (rwT R)), aE 3 o4, oE o5, aE 3 o6, oE o7, oE o8, oE o9, oE o10, oE o11, aE 3 o12] ∧ Rws S m p T R ∧ ∀ u < T, g ∉ R.getD u []) (lt_bigW (by decide)) ⟨_, some 0, none, none, none, none, none, none, none, none, rfl, st, fun u hu => absurd hu (Nat.not_lt_zero _)⟩ ?_ ?_
    · rintro T e hT ⟨R, o4, o6, o12, o5, o7, o8, o9, o10, o11, rfl, hR, hn⟩
      have hT : T < 43 := hT
      have hRl := hR.l
      have iT : ixN R.length (T : Int) = some T := ixN_nat (by omega)
      have iT1 : ixN R.length ((T : Int) + 1) = some (T + 1) := ixN_nat (i := T + 1) (by omega)
      have wT := rwT_get (R := R) (i := T) (by omega)
      have wT1 := rwT_get (R := R) (i := T + 1) (by omega)
      have st := hR.start
      have fin := fun R' => hR.done (R' := R')
      generalize hX : R.getD T [] = X at *
      simp -dsimp [iT, iT1, wT, wT1, unr_aE]
      rw [in_nD (X := X)]
      rotate_left
      · simp [wT]
      by_cases c : g ∈ X
      · simp -dsimp [c, m_22]
        exact ⟨some T, rfl, Dst.some_of (hR.snd T g (by omega) (by rw [hX]; exact c)) fun u hu f => hn u hu (hR.all h f (by omega))⟩
      · simp -dsimp [c, wT]
        have hXl : X.length ≤ 8 := by have := hR.n.len T; have := h.m2; rw [hX] at *; omega
        refine forB_seqI (l := true) (ds := nD X) (fun i e => ∃ (R' : List (List Nat)) (o7 : Option Dt), e = [.fr (.tuple [.int (m : Int), .tuple (ssD S)]), .fr (.int (p : Int)), .fr (.int (g : Int)), .own (.nd .ls (rwT R')), .al 3 [T], .fr (.int (T : Int)), .al 3 [T + 1], oE o7, oE o8, oE o9, oE o10, oE o11, aE 3 o12, .al 3 [T]] ∧ Rwi S m p T R i 0 R') (lt_bigW (by simp; omega)) ⟨R, o7, rfl, st⟩ ?_ ?_ ?_
        · rintro i e ⟨R', o7, rfl, hI⟩
          have w : (rwT R')[T]? = some (.nd .ls (fL (nD X))) := by rw [rwT_get (by rw [hI.l]; omega), hI.same T (Nat.le_refl _), hX]
          exact .own rfl (by simp [w])
        · rintro i hi e ⟨R', o7, rfl, hI⟩
          have hi : i < X.length := by simpa using hi
          have hx : (R.getD T [])[i]? = some X[i] := by rw [hX]; exact List.getElem?_eq_getElem hi
          have hq : X[i] ∈ R'.getD T [] := by rw [hI.same T (Nat.le_refl _), hX]; exact List.getElem_mem hi
          have hfw : Fw S p X[i] (T + 1) := .w (hI.snd T _ (by omega) hq)
          have hqm := (hI.n T).2 _ hq
          have w1 := rwT_get (R := R') (i := T + 1) (by rw [hI.l]; omega)
          have w2 : ∀ Z, (rwT R').set (T + 1) (.nd .ls (fL (nD Z))) = rwT (R'.set (T + 1) Z) := fun Z => rwT_set
          have ad := fun (hn : ¬ X[i] ∈ R'.getD (T + 1) []) => hI.add (u := T + 1) (q := X[i]) (by omega) (by omega) hqm hn hfw
          have nx := fun R'' (k : Rwi S m p T R i 0 R'') => k.nextA hx
          have hYl := hI.n.len (T + 1)
          have := h.m2
          rw [nD_getElem]
          generalize X[i] = q at *
          generalize hY : R'.getD (T + 1) [] = Y at *
          simp -dsimp [unr_aE]
          rw [notin_nD (X := Y)]
          rotate_left
          · simp [w1]
          by_cases c : q ∈ Y
          · simp -dsimp [c]
            exact ⟨R', rfl, nx R' hI (by rw [hY]; exact c)⟩
          · simp -dsimp [c, w1, unr_aE]
            obtain ⟨a1, a2⟩ := ad c
            exact ⟨lt_lineN (by omega), _, rfl, nx _ a1 a2⟩
        · rintro e ⟨R1, o7, rfl, hI⟩
          simp -dsimp [j1]
          refine forB_seqI (l := false) (ds := ssD S) (fun j e => ∃ (R' : List (List Nat)) (o12 : Option Nat) (o8 o9 o10 o11 : Option Dt), e = [.fr (.tuple [.int (m : Int), .tuple (ssD S)]), .fr (.int (p : Int)), .fr (.int (g : Int)), .own (.nd .ls (rwT R')), .al 3 [T], .fr (.int (T : Int)), .al 3 [T + 1], oE o7, oE o8, oE o9, oE o10, oE o11, aE 3 o12, .fr (.tuple (ssD S))] ∧ Rwi S m p T R X.length j R') (lt_bigW (by simp; omega)) ⟨R1, o12, o8, o9, o10, o11, rfl, by simpa using hI⟩ ?_ ?_ ?_
          · rintro j e ⟨R', o12, o8, o9, o10, o11, rfl, hI⟩
            exact .mk rfl
          · rintro j hj e ⟨R', o12, o8, o9, o10, o11, rfl, hI⟩
            have hj : j < S.length := by simpa using hj
            have hs : S[j]? = some S[j] := List.getElem?_eq_getElem hj
            have hk := h.s S[j] (by simp)
            have hin : S[j] ∈ S := by simp
            rw [ssD_get]
            generalize S[j] = s at *
            have t1 := hk.t1
            have t2 := hk.t2
            have hm := h.m2
            have hl' := hI.l
            have it : ixN R'.length ((T : Int) + (s.t : Int)) = some (T + s.t) := ixN_nat (i := T + s.t) (by omega)
            have w0 : (rwT R')[T]? = some (.nd .ls (fL (nD X))) := by rw [rwT_get (by omega), hI.same T (Nat.le_refl _), hX]
            have w1 := rwT_get (R := R') (i := T + s.t) (by omega)
            have w2 : ∀ Z, (rwT R').set (T + s.t) (.nd .ls (fL (nD Z))) = rwT (R'.set (T + s.t) Z) := fun Z => rwT_set
            have nx := fun R'' (k : Rwi S m p T R X.length j R'') => k.nextB hs
            have hf : s.b ∈ X → Fw S p s.e (T + s.t) := fun hb => .r hin (hI.snd T _ (by omega) (by rw [hI.same T (Nat.le_refl _), hX]; exact hb))
            have ad := fun (hn : ¬ s.e ∈ R'.getD (T + s.t) []) (f : Fw S p s.e (T + s.t)) => hI.add (u := T + s.t) (q := s.e) (by omega) (by omega) hk.e hn f
            have hYl := hI.n.len (T + s.t)
            rw [hX] at nx
            generalize hY : R'.getD (T + s.t) [] = Y at *
            simp -dsimp [unr_aE, it, w1]
            rw [in_nD (X := X)]
            rotate_left
            · simp [w0]
            by_cases c : s.b ∈ X
            · simp -dsimp [c]
              rw [notin_nD (X := Y)]
              rotate_left
              · simp [w1]
              by_cases c2 : s.e ∈ Y
              · simp -dsimp [c2]
                exact ⟨R', rfl, nx R' hI fun _ => by rw [hY]; exact c2⟩
              · simp -dsimp [c2, w1, unr_aE]
                obtain ⟨a1, a2⟩ := ad c2 (hf c)
                exact ⟨lt_lineN (by omega), _, rfl, nx _ a1 fun _ => a2⟩
            · simp -dsimp [c]
              exact ⟨R', rfl, nx R' hI fun hb => absurd hb c⟩
          · rintro e ⟨R', o12, o8, o9, o10, o11, rfl, hI⟩
            simp -dsimp
            have f2 := fin R' (by simpa using hI)
            refine ⟨R', rfl, f2, fun u hu => ?_⟩
            try rw [← List.getD_eq_getElem?_getD]
            by_cases e : u = T
            · subst e
              rw [hI.same u (Nat.le_refl _), hX]
              exact c
            · rw [hI.same u (by omega)]
              exact hn u (by omega)
    · rintro e ⟨R, o4, o6, o12, o5, o7, o8, o9, o10, o11, rfl, hR, hn⟩
      simp -dsimp [m_22]
      refine ⟨none, rfl, Dst.none_of h hg fun u hu f => hn u hu (hR.all h f (by simpa using Nat.le_of_lt hu))⟩
theorem notin_bD {env : Ev} {y : En} {n : Nat} (h : res env y = some (.nd .ls (fL (bD (List.replicate n true))))) : cmpE .NotIn env (.fr (.bool false)) y = some true := by
  have e1 : seqItems env y = some (bD (List.replicate n true)) := by
    unfold seqItems
    rw [h]
    show allFr (fL _) = _
    exact allFr_fL
  have e2 : (bD (List.replicate n true)).all flatD = true := by
    rw [List.all_eq_true]
    intro d hd
    obtain ⟨x, _, rfl⟩ := List.mem_map.mp hd
    rfl
  have e3 : ((bD (List.replicate n true)).any fun e => PyData.eqv e (.bool false)) = false := by
    rw [List.any_eq_false]
    intro d hd
    obtain ⟨x, hx, rfl⟩ := List.mem_map.mp hd
    rw [List.eq_of_mem_replicate hx]
    simp [PyData.eqv]
  unfold cmpE
  dsimp only
  unfold cmpE.inn
  rw [h]
  simp only [Q.peek_fr, e1]
  rw [e2, e3]
  rfl
/-- what is kept -/
structure Kp (S : List Sr) (g m i : Nat) (F : List (Option Nat)) (K : List Bool) : Prop where
  l : K.length = m
  a : ∀ p, p < m → p = g ∨ F.getD p none = none → K.getD p false = true
  b : ∀ j, j < i → ∀ s v, S[j]? = some s → F.getD s.e none = some v → F.getD s.b none = some (v + s.t) → K.getD s.b false = true
theorem getD_setB {K : List Bool} {i u : Nat} (h : i < K.length) : (K.set i true).getD u false = if i = u then true else K.getD u false := by
  rw [List.getD_eq_getElem?_getD, List.getD_eq_getElem?_getD, List.getElem?_set]
  by_cases e : i = u
  · subst e; simp [h]
  · simp [e]
theorem Kp.set {S : List Sr} {g m i : Nat} {F : List (Option Nat)} {K : List Bool} (k : Kp S g m i F K) {q : Nat} (hq : q < m) : Kp S g m i F (K.set q true) ∧ (K.set q true).getD q false = true := by
  have hl : q < K.length := by rw [k.l]; exact hq
  refine ⟨⟨by simpa using k.l, fun p hp h => ?_, fun j hj s v e1 e2 e3 => ?_⟩, ?_⟩
  · rw [getD_setB hl]
    split
    · rfl
    · exact k.a p hp h
  · rw [getD_setB hl]
    split
    · rfl
    · exact k.b j hj s v e1 e2 e3
  · rw [getD_setB hl, if_pos rfl]
theorem Kp.next {S : List Sr} {g m i : Nat} {F : List (Option Nat)} {K : List Bool} (k : Kp S g m i F K) {s : Sr} (e : S[i]? = some s) (h : ∀ v, F.getD s.e none = some v → F.getD s.b none = some (v + s.t) → K.getD s.b false = true) : Kp S g m (i + 1) F K := by
  refine ⟨k.l, k.a, fun j hj s' v e1 e2 e3 => ?_⟩
  by_cases c : j = i
  · subst c
    rw [e] at e1
    cases e1
    exact h v e2 e3
  · exact k.b j (by omega) s' v e1 e2 e3
theorem Kp.all {S : List Sr} {g m : Nat} {F : List (Option Nat)} {K : List Bool} (hF : ∀ p, Dst S g p (F.getD p none)) (k : Kp S g m S.length F K) : K = List.replicate m true := by
  apply List.ext_getElem (by simpa using k.l)
  intro p h1 h2
  have hp : p < m := by simpa using h2
  rw [List.getElem_replicate]
  have key : K.getD p false = true := by
    have d := hF p
    cases e : F.getD p none with
    | none => exact k.a p hp (.inr e)
    | some t =>
      by_cases c : p = g
      · exact k.a p hp (.inl c)
      · rw [e] at d
        obtain ⟨⟨L, q⟩, least⟩ := d
        cases q with
        | z => exact absurd rfl c
        | @s s L t' hs q =>
          obtain ⟨j, hj⟩ := List.mem_iff_getElem?.mp hs
          have d2 := hF s.e
          cases e2 : F.getD s.e none with
          | none => rw [e2] at d2; exact absurd q (d2 _ _)
          | some v =>
            rw [e2] at d2
            obtain ⟨⟨L2, q2⟩, l2⟩ := d2
            have h3 := l2 _ _ q
            have h4 := least _ _ (.s hs q2)
            have : v = t' := by omega
            subst this
            exact k.b j (List.getElem?_eq_some_iff.mp hj).1 s v hj e2 (by rw [e, Nat.add_comm])
  rw [List.getD_eq_getElem?_getD, List.getElem?_eq_getElem h1] at key
  exact key
/-- the first i of what is kept -/
def Ki (g : Nat) (F : List (Option Nat)) (i : Nat) (K : List Bool) : Prop := K.length = i ∧ ∀ p, p < i → p = g ∨ F.getD p none = none → K.getD p false = true
theorem f_23 {n m g : Nat} {S : List Sr} {F : List (Option Nat)} (h : Hk m S) (hg : g < m) (hl : F.length = m) (hF : ∀ p, Dst S g p (F.getD p none)) : callN (pOf T) (n + 1) 23 [.fr (hD m S), .fr (.int (g : Int)), .fr (.tuple (osD F))] = .ok ⟨.inl (.bool true), []⟩ := by
  refine callN_eq p_23 rfl rfl ?_
  have hm := h.m2
  have hsl := h.l
  have j0 : ixN 2 0 = some 0 := rfl
  have j1 : ixN 2 1 = some 1 := rfl
  have l1 : lim62 (m : Int) = true := lim62_of (by omega) (by omega)
  have oN : oD none = .none := rfl
  have oS : ∀ v, oD (some v) = .int (v : Int) := fun v => rfl
  simp -dsimp [m_23, hD, j0, l1]
  refine lcB_rng (fun i e acc => ∃ p8 K, e = [.fr (.tuple [.int (m : Int), .tuple (ssD S)]), .fr (.int (g : Int)), .fr (.tuple (osD F)), .un, .un, .un, .un, .un, oE p8, .un] ∧ acc = fL (bD K) ∧ Ki g F i K) (lt_bigW (by omega)) ⟨none, [], rfl, rfl, rfl, fun p hp => absurd hp (Nat.not_lt_zero _)⟩ ?_ ?_
  · rintro i e acc hi ⟨p8, K, rfl, rfl, hK, hk⟩
    have ii : ixN F.length (i : Int) = some i := ixN_nat (by omega)
    have gi := get_getD (F := F) (i := i) (by omega)
    have step : ∀ b : Bool, (i = g ∨ F.getD i none = none → b = true) → Ki g F (i + 1) (K ++ [b]) := fun b hb => by
      refine ⟨by simp [hK], fun p hp h => ?_⟩
      rw [List.getD_eq_getElem?_getD]
      by_cases c : p < i
      · rw [List.getElem?_append_left (by omega), ← List.getD_eq_getElem?_getD]
        exact hk p c h
      · have : p = i := by omega
        subst this
        rw [List.getElem?_append_right (by omega), hK]
        simpa using hb h
    have hL : i < lineN := lt_lineN (by omega)
    by_cases c : i = g
    · subst c
      simp -dsimp [LcTurn, hK]
      have := step true fun _ => rfl
      exact ⟨hL, _, rfl, this⟩
    · have c2 : ¬ (i : Int) = (g : Int) := by omega
      cases e1 : F.getD i none with
      | none =>
        rw [e1] at gi
        simp -dsimp [LcTurn, hK, c2, ii, gi, oN]
        exact ⟨hL, _, rfl, step true fun _ => rfl⟩
      | some v =>
        rw [e1] at gi
        simp -dsimp [LcTurn, hK, c2, ii, gi, oS]
        exact ⟨hL, _, rfl, step false fun hh => hh.elim (fun z => absurd z c) fun z => by rw [e1] at z; cases z⟩
  · rintro e acc ⟨p8, K, rfl, rfl, hK, hk⟩
    simp -dsimp [j1]
    have k0 : Kp S g m 0 F K := ⟨hK, hk, fun j hj => absurd hj (Nat.not_lt_zero _)⟩
    refine forB_seqI (l := false) (ds := ssD S) (fun i e => ∃ (K : List Bool) (o4 o5 o6 o7 : Option Dt), e = [.fr (.tuple [.int (m : Int), .tuple (ssD S)]), .fr (.int (g : Int)), .fr (.tuple (osD F)), .own (.nd .ls (fL (bD K))), oE o4, oE o5, oE o6, oE o7, .un, .fr (.tuple (ssD S))] ∧ Kp S g m i F K) (lt_bigW (by simp; omega)) ⟨K, none, none, none, none, rfl, k0⟩ ?_ ?_ ?_
    · rintro i e ⟨K, o4, o5, o6, o7, rfl, hI⟩
      exact .mk rfl
    · rintro i hi e ⟨K, o4, o5, o6, o7, rfl, hI⟩
      have hi : i < S.length := by simpa using hi
      have hs : S[i]? = some S[i] := List.getElem?_eq_getElem hi
      have hk := h.s S[i] (by simp)
      have hin : S[i] ∈ S := by simp
      rw [ssD_get]
      generalize S[i] = s at *
      have kb := hk.b
      have ke := hk.e
      have ie : ixN F.length (s.e : Int) = some s.e := ixN_nat (by omega)
      have ib : ixN F.length (s.b : Int) = some s.b := ixN_nat (by omega)
      have ib2 : ixN K.length (s.b : Int) = some s.b := ixN_nat (by rw [hI.l]; omega)
      have ge := get_getD (F := F) (i := s.e) (by omega)
      have gb := get_getD (F := F) (i := s.b) (by omega)
      have hL : ¬ lineN ≤ K.length := by rw [hI.l]; have := lt_lineN (n := m) (by omega); omega
      have d1 := hF s.e
      have d2 := hF s.b
      have nx := fun K' (k : Kp S g m i F K') => k.next hs
      cases e1 : F.getD s.e none with
      | none =>
        rw [e1] at ge
        simp -dsimp [ie, ge, oN]
        exact ⟨K, rfl, nx K hI fun v e => by rw [e1] at e; cases e⟩
      | some v =>
        rw [e1] at ge d1
        obtain ⟨⟨L, q⟩, l1⟩ := d1
        cases e2 : F.getD s.b none with
        | none => rw [e2] at d2; exact absurd (.s hin q) (d2 _ _)
        | some w =>
          rw [e2] at gb d2
          obtain ⟨_, l2⟩ := d2
          have hw := l2 _ _ (.s hin q)
          have c : ¬ (v : Int) + (s.t : Int) < (w : Int) := by omega
          simp -dsimp [ie, ge, ib, gb, oS, c]
          by_cases c2 : w = v + s.t
          · have c3 : (w : Int) = (v : Int) + (s.t : Int) := by omega
            simp -dsimp [c3, ib2, hL]
            obtain ⟨a1, a2⟩ := hI.set kb
            exact ⟨_, by simp [bD, List.map_set], nx _ a1 fun _ _ _ => a2⟩
          · have c3 : ¬ (w : Int) = (v : Int) + (s.t : Int) := by omega
            simp -dsimp [c3]
            exact ⟨K, rfl, nx K hI fun v' e1' e2' => by rw [e1] at e1'; cases e1'; rw [e2] at e2'; cases e2'; exact absurd rfl c2⟩
    · rintro e ⟨K, o4, o5, o6, o7, rfl, hI⟩
      have hK := Kp.all hF (by simpa using hI)
      subst hK
      simp -dsimp [m_23]
      rw [notin_bD (n := m)]
      · simp -dsimp [m_23]
      · simp
theorem sml_sD {m : Nat} {s : Sr} (h : Sk m s) (hm : m ≤ 8) : Sml (sD s) 1 172 := by
  refine Sml.tup (k := 0) (w := 40) (m := 4) (fun x hx => ?_) (by simp)
  have := h.b; have := h.e; have := h.t2; have := h.c2
  simp only [List.mem_cons, List.not_mem_nil, or_false] at hx
  rcases hx with rfl | rfl | rfl | rfl <;> exact Sml.int (by omega)
theorem sml_hD {m : Nat} {S : List Sr} (h : Hk m S) : Sml (hD m S) 3 6000 := by
  have h1 : Sml (.tuple (ssD S)) 2 2788 := Sml.tup (k := 1) (w := 172) (m := 16) (fun x hx => by
    obtain ⟨s, hs, rfl⟩ := List.mem_map.mp hx
    exact sml_sD (h.s s hs) h.m2) (by simpa using h.l)
  have h2 := Sml.tup (k := 2) (w := 2788) (m := 2) (xs := [.int (m : Int), .tuple (ssD S)]) (fun x hx => by
    simp only [List.mem_cons, List.not_mem_nil, or_false] at hx
    have := h.m2
    rcases hx with rfl | rfl
    · exact (Sml.int (by omega)).mono (by decide) (by decide)
    · exact h1) (by simp)
  exact h2.mono (by decide) (by decide)
theorem sml_osD {F : List (Option Nat)} (hl : F.length ≤ 8) (h : ∀ p v, F.getD p none = some v → v ≤ 42) : Sml (.tuple (osD F)) 1 400 := by
  have := Sml.tup (k := 0) (w := 40) (m := 8) (xs := osD F) (fun x hx => by
    obtain ⟨o, ho, rfl⟩ := List.mem_map.mp hx
    cases o with
    | none => exact Sml.none
    | some v =>
      obtain ⟨p, hp⟩ := List.mem_iff_getElem?.mp ho
      have := h p v (by rw [List.getD_eq_getElem?_getD, hp]; rfl)
      exact Sml.int (by omega)) (by simpa using hl)
  exact this.mono (Nat.le_refl _) (by decide)
theorem tot_le {m : Nat} {C : List Cw} (h : Ck m C) : tot C ≤ 2400 := by
  have key : ∀ L : List Nat, (∀ x ∈ L, x ≤ 60) → L.sum ≤ 60 * L.length := by
    intro L
    induction L with
    | nil => intro _; simp
    | cons x L ih =>
      intro h
      have h1 := ih fun y hy => h y (List.mem_cons_of_mem _ hy)
      have h2 := h x List.mem_cons_self
      simp only [List.sum_cons, List.length_cons]
      omega
  have := key (C.map Cw.n) fun x hx => by
    obtain ⟨c, hc, rfl⟩ := List.mem_map.mp hx
    exact h.n2 c hc
  have := h.l
  simp only [List.length_map] at *
  unfold tot
  omega
theorem ok_two {m : Nat} {C : List Cw} (h : Ck m C) : reprOk (.list [.int (tot C : Int), .int (tot C : Int)]) := by
  have h1 := tot_le h
  exact (Sml.lst (k := 0) (w := 40) (m := 2) (xs := [.int (tot C : Int), .int (tot C : Int)]) (fun x hx => by
    simp only [List.mem_cons, List.not_mem_nil, or_false] at hx
    rcases hx with rfl | rfl <;> exact Sml.int (by omega)) (by simp)).ok (by decide) (by decide)
theorem repr_hD {env : Ev} {m : Nat} {S : List Sr} (h : Hk m S) : biE .repr env [.fr (hD m S)] = some (env, .fr (.str (hD m S).shown)) :=
  repr_tuple (x := .fr (hD m S)) (ds := [.int (m : Int), .tuple (ssD S)]) rfl ((sml_hD h).ok (by decide) (by decide))
theorem mul2 {env : Ev} {x : Int} : binE .Mult env (.own (.nd .ls [.fr (.int x)])) (.fr (.int 2)) = some (.own (.nd .ls (fL [.int x, .int x]))) := by
  have e : lItems env (.own (.nd .ls [.fr (.int x)])) = some [PyData.int x] := rfl
  have c : -(2 ^ 63) ≤ (2 : Int) ∧ (2 : Int) < 2 ^ 63 ∧ [PyData.int x].length * (2 : Int).toNat ≤ lineN := ⟨by decide, by decide, le_lineN (by show 1 * 2 ≤ _; decide)⟩
  rw [Q.bin_mulL e, if_pos c]
  rfl
theorem hD_0 {env : Ev} {m : Nat} {S : List Sr} : subE env (.fr (hD m S)) (.fr (.int 0)) = some (.fr (.int (m : Int))) := by
  have j0 : ixN 2 0 = some 0 := rfl
  simp [hD, j0]
theorem hD_1 {env : Ev} {m : Nat} {S : List Sr} : subE env (.fr (hD m S)) (.fr (.int 1)) = some (.fr (.tuple (ssD S))) := by
  have j1 : ixN 2 1 = some 1 := rfl
  simp [hD, j1]
/-- the least ticks of the first k places -/
def Os (S : List Sr) (g k : Nat) (O : List (Option Nat)) : Prop := O.length = k ∧ ∀ q, q < k → Dst S g q (O.getD q none)
theorem Os.next {S : List Sr} {g k : Nat} {O : List (Option Nat)} (h : Os S g k O) {o : Option Nat} (d : Dst S g k o) : Os S g (k + 1) (O ++ [o]) := by
  refine ⟨by simp [h.1], fun q hq => ?_⟩
  rw [List.getD_eq_getElem?_getD]
  by_cases c : q < k
  · rw [List.getElem?_append_left (by rw [h.1]; exact c), ← List.getD_eq_getElem?_getD]
    exact h.2 q c
  · have : q = k := by omega
    subst this
    rw [List.getElem?_append_right (by rw [h.1]; omega), h.1]
    simpa using d
theorem Os.eq {S : List Sr} {g m : Nat} {O F : List (Option Nat)} (h : Os S g m O) (hl : F.length = m) (hF : ∀ p, Dst S g p (F.getD p none)) : O = F := by
  apply List.ext_getElem (by rw [h.1, hl])
  intro p h1 h2
  have a := h.2 p (by rw [← h.1]; exact h1)
  have b := hF p
  rw [List.getD_eq_getElem?_getD, List.getElem?_eq_getElem h1] at a
  rw [List.getD_eq_getElem?_getD, List.getElem?_eq_getElem h2] at b
  exact a.uniq b
theorem law_ok (S : List Int) (hS : S.length ≤ 63) : (callN (pOf T) 12 24 [.fr (scD S)]).to fun r => r.val = .inl (.bool true) := by
  refine callN_to p_24 rfl rfl ?_
  show (evS (clN (pOf T) 11) m_24.body (env0 m_24 [.fr (.list (iD S))])).to (RetTo m_24.nl _)
  simp -dsimp [m_24]
  generalize hN : (if 1 < if (S.length : Int) < 3 then (S.length : Int) else 3 then if (S.length : Int) < 3 then (S.length : Int) else 3 else 1) = N
  have hN1 : N ≤ 3 := by rw [← hN]; split <;> (try split) <;> omega
  have hN0 : 1 ≤ N := by rw [← hN]; split <;> omega
  clear hN
  have lN : lim62 N = true := lim62_of (by omega) (by omega)
  refine ⟨lN, ?_⟩
  refine forB_rng (fun i e => ∃ o1 o2 o3 o4 o5 o6 o7 o8 o9 o10 o11 o12 o13 o14, e = [.fr (.list (iD S)), oE o1, jE o2, oE o3, oE o4, oE o5, oE o6, oE o7, jE o8, oE o9, oE o10, oE o11, oE o12, oE o13, oE o14]) (lt_bigW (by omega)) ⟨none, none, none, none, none, none, none, none, none, none, none, none, none, none, rfl⟩ ?_ ?_
  · rintro i e hi ⟨o1, o2, o3, o4, o5, o6, o7, o8, o9, o10, o11, o12, o13, o14, rfl⟩
    have hi : i < 3 := by omega
    refine to_ofO_of (a := [.fr (.list (iD S)), .fr (.int (i : Int)), jE o2, oE o3, oE o4, oE o5, oE o6, oE o7, jE o8, oE o9, oE o10, oE o11, oE o12, oE o13, oE o14]) (by simp) ?_
    refine seq_to (fun e => ∃ s, e = [.fr (.list (iD S)), .fr (.int (i : Int)), .own (scT s), oE o3, oE o4, oE o5, oE o6, oE o7, jE o8, oE o9, oE o10, oE o11, oE o12, oE o13, oE o14] ∧ Sv 0 s) ?_ ?_
    · simp -dsimp
      refine (f_17 (n := 10) hS (i := i) (by omega)).mono ?_
      rintro _ ⟨s, rfl, hs⟩
      simp -dsimp
      exact ⟨s, ⟨rfl, rfl, rfl⟩, hs⟩
    rintro e ⟨s, rfl, hs⟩
    refine seq_to (fun e => ∃ s m Q, e = [.fr (.list (iD S)), .fr (.int (i : Int)), .own (scT s), .fr (hD m Q), oE o4, oE o5, oE o6, oE o7, jE o8, oE o9, oE o10, oE o11, oE o12, oE o13, oE o14] ∧ Sv 200 s ∧ Hk m Q) ?_ ?_
    · simp -dsimp
      refine ⟨le_lineN (by decide), ?_⟩
      refine (f_18 (n := 10) hs (by decide) (many := 3) (by decide) (by decide)).mono ?_
      rintro _ ⟨u, s, rfl, u0, u1, hs⟩
      have iu : ixN 3 u = some u.toNat := ixN_of u0 u1
      obtain ⟨z, hz, z1, z2, z3⟩ := pick3 (a := 3) (b := 5) (c := 8) u0 u1 (by decide) (by decide) (by decide) (by decide) (by decide) (by decide)
      simp -dsimp [iu, hz]
      refine (f_19 (n := 9) hs (by decide) (places := z) (stairs := 16) (by omega) (by omega) (by decide) (by decide)).mono ?_
      rintro _ ⟨m, Q, s, rfl, hk, hs⟩
      simp -dsimp
      exact ⟨s, m, Q, ⟨⟨rfl, rfl, rfl⟩, rfl⟩, hs.mono (by decide), hk⟩
    rintro e ⟨s, m, Q, rfl, hs, hk⟩
    have m1 := hk.m1
    have m2 := hk.m2
    have hQl := hk.l
    refine seq_to (fun e => ∃ s C, e = [.fr (.list (iD S)), .fr (.int (i : Int)), .own (scT s), .fr (hD m Q), .fr (.tuple (csD C)), oE o5, oE o6, oE o7, jE o8, oE o9, oE o10, oE o11, oE o12, oE o13, oE o14] ∧ Sv 400 s ∧ Ck m C) ?_ ?_
    · simp -dsimp [hD_0]
      refine (f_20 (n := 9) hs (by decide) m1 m2).mono ?_
      rintro _ ⟨C, s, rfl, hc, hs⟩
      simp -dsimp
      exact ⟨s, C, ⟨⟨rfl, rfl, rfl⟩, rfl⟩, hs.mono (by decide), hc⟩
    rintro e ⟨s, C, rfl, hs, hc⟩
    have lm : lim62 (m : Int) = true := lim62_of (by omega) (by omega)
    refine seq_to (fun e => ∃ o5 o6 o7 o10, e = [.fr (.list (iD S)), .fr (.int (i : Int)), .own (scT s), .fr (hD m Q), .fr (.tuple (csD C)), oE o5, oE o6, oE o7, jE o8, oE o9, oE o10, oE o11, oE o12, oE o13, oE o14]) ?_ ?_
    · simp -dsimp [hD_0, lm]
      refine forB_rng (fun g e => ∃ o5 o6 o7 o10, e = [.fr (.list (iD S)), .fr (.int (i : Int)), .own (scT s), .fr (hD m Q), .fr (.tuple (csD C)), oE o5, oE o6, oE o7, jE o8, oE o9, oE o10, oE o11, oE o12, oE o13, oE o14]) (lt_bigW (by omega)) ⟨o5, o6, o7, o10, rfl⟩ ?_ ?_
      · rintro g e hg ⟨o5, o6, o7, o10, rfl⟩
        have hg : g < m := hg
        refine to_ofO_of (a := [.fr (.list (iD S)), .fr (.int (i : Int)), .own (scT s), .fr (hD m Q), .fr (.tuple (csD C)), .fr (.int (g : Int)), oE o6, oE o7, jE o8, oE o9, oE o10, oE o11, oE o12, oE o13, oE o14]) (by simp) ?_
        refine seq_to (fun e => ∃ O o10, e = [.fr (.list (iD S)), .fr (.int (i : Int)), .own (scT s), .fr (hD m Q), .fr (.tuple (csD C)), .fr (.int (g : Int)), .fr (.tuple (osD O)), oE o7, jE o8, oE o9, oE o10, oE o11, oE o12, oE o13, oE o14] ∧ Os Q g m O) ?_ ?_
        · simp -dsimp [hD_0, lm]
          refine lcB_rng (fun k e acc => ∃ O p10, e = [.fr (.list (iD S)), .fr (.int (i : Int)), .own (scT s), .fr (hD m Q), .fr (.tuple (csD C)), .fr (.int (g : Int)), oE o6, oE o7, jE o8, oE o9, oE p10, oE o11, oE o12, oE o13, oE o14, oE o10] ∧ acc = fL (osD O) ∧ Os Q g k O) (lt_bigW (by omega)) ⟨[], none, rfl, rfl, rfl, fun q hq => absurd hq (Nat.not_lt_zero _)⟩ ?_ ?_
          · rintro k e acc hkk ⟨O, p10, rfl, rfl, hO⟩
            have hkk : k < m := by omega
            have hOl := hO.1
            simp -dsimp [LcTurn]
            refine (f_22 (n := 10) hk hg hkk).mono ?_
            rintro _ ⟨o, rfl, d⟩
            simp -dsimp
            refine ⟨by rw [hOl]; exact lt_lineN (by omega), O ++ [o], by simp [osD, fL], hO.next d⟩
          · rintro e acc ⟨O, p10, rfl, rfl, hO⟩
            simp -dsimp
            exact ⟨O, rfl, hO⟩
        rintro e ⟨O, o10, rfl, hO⟩
        simp -dsimp
        refine (f_15 (n := 5) hk hg).mono ?_
        rintro _ ⟨F, rfl, hFl, hF⟩
        have e1 := hO.eq hFl hF
        subst e1
        have rp : reprOk (.tuple (osD O)) := (sml_osD (by omega) fun p v e => by have d := hF p; rw [e] at d; exact d.le hk hg).ok (by decide) (by decide)
        have h23 := f_23 (n := 10) hk hg hFl hF
        simp -dsimp [rp]
        refine (f_15 (n := 5) hk hg).mono ?_
        rintro _ ⟨F2, rfl, hFl2, hF2⟩
        have e2 := hO.eq hFl2 hF2
        subst e2
        simp -dsimp [rp, h23]
      · rintro e ⟨o5, o6, o7, o10, rfl⟩
        simp -dsimp
    rintro e ⟨o5, o6, o7, o10, rfl⟩
    have h14 := f_14 (n := 4) hk hc
    have h21 := f_21 (n := 10) hc
    have h16 := f_16 (n := 5) hk
    have h16b := f_16 (n := 5) (Hk.trn hk)
    rw [trn_trn] at h16b
    have r2 := ok_two hc
    have rh := fun env => repr_hD (env := env) hk
    have rt := fun env => repr_hD (env := env) (Hk.trn hk)
    refine seq_to (fun e => e = [.fr (.list (iD S)), .fr (.int (i : Int)), .own (scT s), .fr (hD m Q), .fr (.tuple (csD C)), oE o5, oE o6, oE o7, .own (.nd .ls (fL [.int (tot C : Int), .int (tot C : Int)])), oE o9, oE o10, oE o11, oE o12, oE o13, oE o14]) ?_ ?_
    · simp -dsimp [h14]
      exact ⟨le_lineN (by decide), rfl⟩
    rintro e rfl
    refine seq_to (fun e => e = [.fr (.list (iD S)), .fr (.int (i : Int)), .own (scT s), .fr (hD m Q), .fr (.tuple (csD C)), oE o5, oE o6, oE o7, .own (.nd .ls (fL [.int (tot C : Int), .int (tot C : Int)])), oE o9, oE o10, oE o11, oE o12, oE o13, oE o14]) ?_ ?_
    · simp -dsimp [h21]
      refine ⟨r2, le_lineN (by decide), ?_⟩
      simp -dsimp [mul2, r2]
    rintro e rfl
    refine seq_to (fun e => ∃ o11 o12 o13 o14, e = [.fr (.list (iD S)), .fr (.int (i : Int)), .own (scT s), .fr (hD m Q), .fr (.tuple (csD C)), oE o5, oE o6, oE o7, .own (.nd .ls (fL [.int (tot C : Int), .int (tot C : Int)])), .fr (hD m (trn Q)), oE o10, oE o11, oE o12, oE o13, oE o14]) ?_ ?_
    · simp -dsimp [hD_0, hD_1]
      refine lcB_seq (l := false) (ds := ssD Q) (fun k e acc => ∃ p11 p12 p13 p14, e = [.fr (.list (iD S)), .fr (.int (i : Int)), .own (scT s), .fr (hD m Q), .fr (.tuple (csD C)), oE o5, oE o6, oE o7, .own (.nd .ls (fL [.int (tot C : Int), .int (tot C : Int)])), oE o9, oE o10, oE p11, oE p12, oE p13, oE p14, .fr (.tuple (ssD Q)), oE o11, oE o12, oE o13, oE o14] ∧ acc = fL (ssD ((trn Q).take k))) (lt_bigW (by simp; omega)) ⟨none, none, none, none, rfl, rfl⟩ ?_ ?_ ?_
      · rintro k e acc ⟨p11, p12, p13, p14, rfl, rfl⟩
        exact .mk rfl
      · rintro k hkk e acc ⟨p11, p12, p13, p14, rfl, rfl⟩
        have hkk : k < Q.length := by simpa using hkk
        simp -dsimp [LcTurn]
        refine ⟨le_lineN (by omega), lt_lineN (by omega), ?_⟩
        have hp : k < (trn Q).length := by simpa [trn] using hkk
        rw [List.take_succ_eq_append_getElem hp]
        simp [ssD, trn, sD]
      · rintro e acc ⟨p11, p12, p13, p14, rfl, rfl⟩
        have e1 : (trn Q).take Q.length = trn Q := List.take_of_length_le (by simp [trn])
        simp -dsimp [e1]
        exact ⟨le_lineN (by omega), rfl⟩
    rintro e ⟨o11, o12, o13, o14, rfl⟩
    simp -dsimp [h16, h16b, rh, rt]
  · rintro e ⟨o1, o2, o3, o4, o5, o6, o7, o8, o9, o10, o11, o12, o13, o14, rfl⟩
    simp -dsimp [m_24]
theorem law_sp (a : Addr) (vs : List Value) (ns : List Int) (hl : ns.length ≤ 63) : spD (pOf K01.T) 12 24 1 [.ref a] (scH a vs ns) (fun v _ => v = .bl true) noE := by
  obtain ⟨r, h1, h2⟩ := to_def.mp (law_ok ns hl)
  exact end_sp a vs ns (Nat.le_trans hl (by decide)) h1 h2
end K01
namespace K01
open PySem L2 MP PyProof.Rows
section
variable {c : Md} {n : Nat}
theorem sc_0 : FnScope ["value"] ["value"] (defScope (top 6)) := ⟨rfl, rfl, rfl, by decide +kernel, rfl, by decide +kernel, by decide +kernel⟩
theorem g_0 (fx : Fx0 c T zs gs bs) (ih : ∀ j, GA c T n j) : GA c T (n + 1) 0 := ga_def (t := t_0) fx rfl sc_0 rfl fun b A outer s H E cdv hC hn hgd hr hu hnd => have hu1 := lt1 hu; (pSs_one (pS_ret (pE_and (pE_isi rfl rfl (fx.z 0 _ rfl) rfl (by decide) rfl rfl (fx.z 1 _ rfl) rfl (by decide) rfl (pE_var hn rfl (.inl rfl) rfl rfl) rfl rfl rfl) (pE_one (pE_not (pE_isi rfl rfl (fx.z 0 _ rfl) rfl (by decide) rfl rfl (fx.z 2 _ rfl) rfl (by decide) rfl (pE_var hn rfl (.inl rfl) rfl rfl) rfl rfl rfl))))))
theorem sc_1 : FnScope ["value", "low", "high"] ["value", "low", "high"] (defScope (top 7)) := ⟨rfl, rfl, rfl, by decide +kernel, rfl, by decide +kernel, by decide +kernel⟩
theorem g_1 (fx : Fx0 c T zs gs bs) (ih : ∀ j, GA c T n j) : GA c T (n + 1) 1 := ga_def (t := t_1) fx rfl sc_1 rfl fun b A outer s H E cdv hC hn hgd hr hu hnd => have hu1 := lt1 hu; (pSs_one (pS_ret (pE_and (gE_call fx ih (t := t_0) 0 rfl rfl rfl rfl rfl rfl rfl hC hgd hr rfl (fun _ _ _ _ _ _ us hl => match us, hl with | [_], _ => rfl) (pA_cons (pE_var hn rfl (.inl rfl) rfl rfl) pA_nil rfl) rfl rfl rfl) (pE_and (pE_cmp hu (pE_var hn rfl (.inl rfl) rfl rfl) (pE_var hn rfl (.inl rfl) rfl rfl) rfl) (pE_one (pE_or (pE_cmp hu (pE_var hn rfl (.inl rfl) rfl rfl) pE_non rfl) (pE_one (pE_cmp hu (pE_var hn rfl (.inl rfl) rfl rfl) (pE_var hn rfl (.inl rfl) rfl rfl) rfl))))))))
theorem sc_2 : FnScope ["value", "low", "high"] ["value", "low", "high"] (defScope (top 8)) := ⟨rfl, rfl, rfl, by decide +kernel, rfl, by decide +kernel, by decide +kernel⟩
theorem g_2 (fx : Fx0 c T zs gs bs) (ih : ∀ j, GA c T n j) : GA c T (n + 1) 2 := ga_def (t := t_2) fx rfl sc_2 rfl fun b A outer s H E cdv hC hn hgd hr hu hnd => have hu1 := lt1 hu; (pSs_one (pS_ret (pE_and (pE_isi rfl rfl (fx.z 0 _ rfl) rfl (by decide) rfl rfl (fx.z 3 _ rfl) rfl (by decide) rfl (pE_var hn rfl (.inl rfl) rfl rfl) rfl rfl rfl) (pE_one (pE_chain hu (pE_var hn rfl (.inl rfl) rfl rfl) (pE_biB bi_len rfl (fx.z 4 _ rfl) rfl (pA_cons (pE_var hn rfl (.inl rfl) rfl rfl) pA_nil rfl) (by decide) rfl rfl rfl) (pE_var hn rfl (.inl rfl) rfl rfl) rfl)))))
theorem sc_3 : FnScope ["number", "low", "high"] ["number", "low", "high"] (defScope (top 9)) := ⟨rfl, rfl, rfl, by decide +kernel, rfl, by decide +kernel, by decide +kernel⟩
theorem g_3 (fx : Fx0 c T zs gs bs) (ih : ∀ j, GA c T n j) : GA c T (n + 1) 3 := ga_def (t := t_3) fx rfl sc_3 rfl fun b A outer s H E cdv hC hn hgd hr hu hnd => have hu1 := lt1 hu; (pSs_one (pS_if (PW.pt (pW_or (pT_cmp hu (pE_var hn rfl (.inl rfl) rfl rfl) (pE_var hn rfl (.inl rfl) rfl rfl) rfl) (pW_or1 (PW.pt (pW_and (pT_cmp hu (pE_var hn rfl (.inl rfl) rfl rfl) pE_non rfl) (pW_and1 (pT_cmp hu (pE_var hn rfl (.inl rfl) rfl rfl) (pE_var hn rfl (.inl rfl) rfl rfl) rfl))))))) (pSs_one pS_nev) pSs_nil))
theorem sc_4 : FnScope ["items", "one", "other"] ["items"] (defScope (top 10)) := ⟨rfl, rfl, rfl, by decide +kernel, rfl, by decide +kernel, by decide +kernel⟩
theorem g_4 (fx : Fx0 c T zs gs bs) (ih : ∀ j, GA c T n j) : GA c T (n + 1) 4 := ga_def (t := t_4) fx rfl sc_4 rfl fun b A outer s H E cdv hC hn hgd hr hu hnd => have hu1 := lt1 hu; (pSs_one (pS_ret (pE_biB (bi_all rfl) rfl (fx.z 6 _ rfl) rfl (pA_cons (pE_lc (own := [("one", 1), ("other", 2)]) hn rfl hnd (pI_zip rfl (fx.z 5 _ rfl) (pA_cons (pE_var hn rfl (.inl rfl) rfl rfl) (pA_cons (pE_slc (pE_var hn rfl (.inl rfl) rfl rfl) (pO_some pE_int) pO_none) pA_nil rfl) rfl) rfl rfl) (blkOk_by rfl) (fun _ _ _ _ _ => (pG_tup rfl (pGs_cons (pG_nm hnd rfl (.inl rfl) (.inr rfl)) (pGs_cons (pG_nm hnd rfl (.inl rfl) (.inr rfl)) pGs_nil rfl) rfl) rfl rfl)) (fun _ _ _ _ _ => pTs_nil) (fun _ _ _ _ _ => (pE_cmp hu (pE_var hn rfl (.inl rfl) rfl rfl) (pE_var hn rfl (.inl rfl) rfl rfl) rfl)) rfl rfl (fun _ => rfl)) pA_nil rfl) (by decide) rfl rfl rfl)))
theorem sc_5 : FnScope ["value", "part"] ["value"] (defScope (top 11)) := ⟨rfl, rfl, rfl, by decide +kernel, rfl, by decide +kernel, by decide +kernel⟩
theorem g_5 (fx : Fx0 c T zs gs bs) (ih : ∀ j, GA c T n j) : GA c T (n + 1) 5 := ga_def (t := t_5) fx rfl sc_5 rfl fun b A outer s H E cdv hC hn hgd hr hu hnd => have hu1 := lt1 hu; (pSs_cons (pS_if (pT_val (pE_isi rfl rfl (fx.z 0 _ rfl) rfl (by decide) rfl rfl (fx.z 7 _ rfl) rfl (by decide) rfl (pE_var hn rfl (.inl rfl) rfl rfl) rfl rfl rfl) (fun _ => rfl)) (pSs_one (pS_ret (pE_lc (own := [("part", 1)]) hn rfl hnd (pI_seq (pE_var hn rfl (.inl rfl) rfl rfl)) (blkOk_by rfl) (fun _ _ _ _ _ => (pG_nm hnd rfl (.inl rfl) (.inr rfl))) (fun _ _ _ _ _ => pTs_nil) (fun _ _ _ _ _ => (gE_call fx ih (t := t_5) 5 rfl rfl rfl rfl rfl rfl rfl hC hgd hr rfl (fun _ _ _ _ _ _ us hl => match us, hl with | [_], _ => rfl) (pA_cons (pE_var hn rfl (.inl rfl) rfl rfl) pA_nil rfl) rfl rfl rfl)) rfl rfl (fun _ => rfl)))) pSs_nil) (pSs_cons (pS_if (pT_val (pE_isi rfl rfl (fx.z 0 _ rfl) rfl (by decide) rfl rfl (fx.z 3 _ rfl) rfl (by decide) rfl (pE_var hn rfl (.inl rfl) rfl rfl) rfl rfl rfl) (fun _ => rfl)) (pSs_one (pS_ret (pE_biT bi_tuple rfl (fx.z 3 _ rfl) rfl (pA_cons (pE_lc (own := [("part", 1)]) hn rfl hnd (pI_seq (pE_var hn rfl (.inl rfl) rfl rfl)) (blkOk_by rfl) (fun _ _ _ _ _ => (pG_nm hnd rfl (.inl rfl) (.inr rfl))) (fun _ _ _ _ _ => pTs_nil) (fun _ _ _ _ _ => (gE_call fx ih (t := t_5) 5 rfl rfl rfl rfl rfl rfl rfl hC hgd hr rfl (fun _ _ _ _ _ _ us hl => match us, hl with | [_], _ => rfl) (pA_cons (pE_var hn rfl (.inl rfl) rfl rfl) pA_nil rfl) rfl rfl rfl)) rfl rfl (fun _ => rfl)) pA_nil rfl) (by decide) rfl rfl rfl))) pSs_nil) (pSs_one (pS_ret (pE_var hn rfl (.inl rfl) rfl rfl)))))
theorem sc_6 : FnScope ["many", "value", "begin", "end", "time", "capacity", "item"] ["many", "value"] (defScope (top 20)) := ⟨rfl, rfl, rfl, by decide +kernel, rfl, by decide +kernel, by decide +kernel⟩
theorem g_6 (fx : Fx0 c T zs gs bs) (ih : ∀ j, GA c T n j) : GA c T (n + 1) 6 := ga_def (t := t_6) fx rfl sc_6 rfl fun b A outer s H E cdv hC hn hgd hr hu hnd => have hu1 := lt1 hu; (pSs_cons (pS_if (PW.pt (pW_or (pT_not (pT_val (gE_call fx ih (t := t_2) 2 rfl rfl rfl rfl rfl rfl rfl hC hgd hr rfl (fun _ _ _ _ _ _ us hl => match us, hl with | [_, _, _], _ => rfl) (pA_cons (pE_var hn rfl (.inl rfl) rfl rfl) (pA_cons pE_int (pA_cons pE_int pA_nil rfl) rfl) rfl) rfl rfl rfl) (fun _ => rfl))) (pW_or1 (pT_not (pT_val (pE_biB (bi_all rfl) rfl (fx.z 6 _ rfl) rfl (pA_cons (pE_lc (own := [("item", 6)]) hn rfl hnd (pI_seq (pE_var hn rfl (.inl rfl) rfl rfl)) (blkOk_by rfl) (fun _ _ _ _ _ => (pG_nm hnd rfl (.inl rfl) (.inr rfl))) (fun _ _ _ _ _ => pTs_nil) (fun _ _ _ _ _ => (gE_call fx ih (t := t_0) 0 rfl rfl rfl rfl rfl rfl rfl hC hgd hr rfl (fun _ _ _ _ _ _ us hl => match us, hl with | [_], _ => rfl) (pA_cons (pE_var hn rfl (.inl rfl) rfl rfl) pA_nil rfl) rfl rfl rfl)) rfl rfl (fun _ => rfl)) pA_nil rfl) (by decide) rfl rfl rfl) (fun _ => rfl)))))) (pSs_one (pS_ret pE_bl)) pSs_nil) (pSs_cons (pS_asg hn (pE_var hn rfl (.inl rfl) rfl rfl) (pG_tup rfl (pGs_cons (pG_nm hnd rfl (.inl rfl) (.inl rfl)) (pGs_cons (pG_nm hnd rfl (.inl rfl) (.inl rfl)) (pGs_cons (pG_nm hnd rfl (.inl rfl) (.inl rfl)) (pGs_cons (pG_nm hnd rfl (.inl rfl) (.inl rfl)) pGs_nil rfl) rfl) rfl) rfl) rfl rfl) rfl (fun _ h => nomatch h) rfl rfl rfl) (pSs_cons (pS_if (PW.pt (pW_or (pT_not (pT_val (gE_call fx ih (t := t_1) 1 rfl rfl rfl rfl rfl rfl rfl hC hgd hr rfl (fun _ _ _ _ _ _ us hl => match us, hl with | [_, _, _], _ => rfl) (pA_cons (pE_var hn rfl (.inl rfl) rfl rfl) (pA_cons pE_int (pA_cons (pe_bin2 (pE_var hn rfl (.inl rfl) rfl rfl) pE_int (op_binE _)) pA_nil rfl) rfl) rfl) rfl rfl rfl) (fun _ => rfl))) (pW_or (pT_not (pT_val (gE_call fx ih (t := t_1) 1 rfl rfl rfl rfl rfl rfl rfl hC hgd hr rfl (fun _ _ _ _ _ _ us hl => match us, hl with | [_, _, _], _ => rfl) (pA_cons (pE_var hn rfl (.inl rfl) rfl rfl) (pA_cons pE_int (pA_cons (pe_bin2 (pE_var hn rfl (.inl rfl) rfl rfl) pE_int (op_binE _)) pA_nil rfl) rfl) rfl) rfl rfl rfl) (fun _ => rfl))) (pW_or1 (pT_cmp hu (pE_var hn rfl (.inl rfl) rfl rfl) (pE_var hn rfl (.inl rfl) rfl rfl) rfl))))) (pSs_one (pS_ret pE_bl)) pSs_nil) (pSs_one (pS_ret (pE_and (gE_call fx ih (t := t_1) 1 rfl rfl rfl rfl rfl rfl rfl hC hgd hr rfl (fun _ _ _ _ _ _ us hl => match us, hl with | [_, _, _], _ => rfl) (pA_cons (pE_var hn rfl (.inl rfl) rfl rfl) (pA_cons pE_int (pA_cons (gE_glob (j := 0) fx rfl rfl rfl rfl) pA_nil rfl) rfl) rfl) rfl rfl rfl) (pE_one (gE_call fx ih (t := t_1) 1 rfl rfl rfl rfl rfl rfl rfl hC hgd hr rfl (fun _ _ _ _ _ _ us hl => match us, hl with | [_, _, _], _ => rfl) (pA_cons (pE_var hn rfl (.inl rfl) rfl rfl) (pA_cons pE_int (pA_cons (gE_glob (j := 1) fx rfl rfl rfl rfl) pA_nil rfl) rfl) rfl) rfl rfl rfl))))))))
theorem sc_7 : FnScope ["value", "stair"] ["value"] (defScope (top 21)) := ⟨rfl, rfl, rfl, by decide +kernel, rfl, by decide +kernel, by decide +kernel⟩
theorem g_7 (fx : Fx0 c T zs gs bs) (ih : ∀ j, GA c T n j) : GA c T (n + 1) 7 := ga_def (t := t_7) fx rfl sc_7 rfl fun b A outer s H E cdv hC hn hgd hr hu hnd => have hu1 := lt1 hu; (pSs_cons (pS_if (PW.pt (pW_or (pT_not (pT_val (gE_call fx ih (t := t_2) 2 rfl rfl rfl rfl rfl rfl rfl hC hgd hr rfl (fun _ _ _ _ _ _ us hl => match us, hl with | [_, _, _], _ => rfl) (pA_cons (pE_var hn rfl (.inr (.inl rfl)) rfl rfl) (pA_cons pE_int (pA_cons pE_int pA_nil rfl) rfl) rfl) rfl rfl rfl) (fun _ => rfl))) (pW_or (pT_not (pT_val (gE_call fx ih (t := t_1) 1 rfl rfl rfl rfl rfl rfl rfl hC hgd hr rfl (fun _ _ _ _ _ _ us hl => match us, hl with | [_, _, _], _ => rfl) (pA_cons (pE_sub hu1 (pE_var hn rfl (.inr (.inl rfl)) rfl rfl) pE_int (fun _ _ => rfl)) (pA_cons pE_int (pA_cons (gE_glob (j := 2) fx rfl rfl rfl rfl) pA_nil rfl) rfl) rfl) rfl rfl rfl) (fun _ => rfl))) (pW_or1 (pT_not (pT_val (gE_call fx ih (t := t_2) 2 rfl rfl rfl rfl rfl rfl rfl hC hgd hr rfl (fun _ _ _ _ _ _ us hl => match us, hl with | [_, _, _], _ => rfl) (pA_cons (pE_sub hu1 (pE_var hn rfl (.inr (.inl rfl)) rfl rfl) pE_int (fun _ _ => rfl)) (pA_cons pE_int (pA_cons (gE_glob (j := 3) fx rfl rfl rfl rfl) pA_nil rfl) rfl) rfl) rfl rfl rfl) (fun _ => rfl))))))) (pSs_one (pS_ret pE_bl)) pSs_nil) (pSs_one (pS_ret (pE_biB (bi_all rfl) rfl (fx.z 6 _ rfl) rfl (pA_cons (pE_lc (own := [("stair", 1)]) hn rfl hnd (pI_seq (pE_sub hu1 (pE_var hn rfl (.inr (.inl rfl)) rfl rfl) pE_int (fun _ _ => rfl))) (blkOk_by rfl) (fun _ _ _ _ _ => (pG_nm hnd rfl (.inl rfl) (.inr rfl))) (fun _ _ _ _ _ => pTs_nil) (fun _ _ _ _ _ => (gE_call fx ih (t := t_6) 6 rfl rfl rfl rfl rfl rfl rfl hC hgd hr rfl (fun _ _ _ _ _ _ us hl => match us, hl with | [_, _], _ => rfl) (pA_cons (pE_sub hu1 (pE_var hn rfl (.inr (.inl rfl)) rfl rfl) pE_int (fun _ _ => rfl)) (pA_cons (pE_var hn rfl (.inl rfl) rfl rfl) pA_nil rfl) rfl) rfl rfl rfl)) rfl rfl (fun _ => rfl)) pA_nil rfl) (by decide) rfl rfl rfl))))
theorem sc_8 : FnScope ["hall"] ["hall"] (defScope (top 22)) := ⟨rfl, rfl, rfl, by decide +kernel, rfl, by decide +kernel, by decide +kernel⟩
theorem g_8 (fx : Fx0 c T zs gs bs) (ih : ∀ j, GA c T n j) : GA c T (n + 1) 8 := ga_def (t := t_8) fx rfl sc_8 rfl fun b A outer s H E cdv hC hn hgd hr hu hnd => have hu1 := lt1 hu; (pSs_one (pS_if (pT_not (pT_val (gE_call fx ih (t := t_7) 7 rfl rfl rfl rfl rfl rfl rfl hC hgd hr rfl (fun _ _ _ _ _ _ us hl => match us, hl with | [_], _ => rfl) (pA_cons (pE_var hn rfl (.inl rfl) rfl rfl) pA_nil rfl) rfl rfl rfl) (fun _ => rfl))) (pSs_one pS_nev) pSs_nil))
theorem sc_9 : FnScope ["hall", "place"] ["hall", "place"] (defScope (top 23)) := ⟨rfl, rfl, rfl, by decide +kernel, rfl, by decide +kernel, by decide +kernel⟩
theorem g_9 (fx : Fx0 c T zs gs bs) (ih : ∀ j, GA c T n j) : GA c T (n + 1) 9 := ga_def (t := t_9) fx rfl sc_9 rfl fun b A outer s H E cdv hC hn hgd hr hu hnd => have hu1 := lt1 hu; (pSs_one (pS_expr (gE_call fx ih (t := t_3) 3 rfl rfl rfl rfl rfl rfl rfl hC hgd hr rfl (fun _ _ _ _ _ _ us hl => match us, hl with | [_, _, _], _ => rfl) (pA_cons (pE_var hn rfl (.inl rfl) rfl rfl) (pA_cons pE_int (pA_cons (pe_bin2 (pE_sub hu1 (pE_var hn rfl (.inl rfl) rfl rfl) pE_int (fun _ _ => rfl)) pE_int (op_binE _)) pA_nil rfl) rfl) rfl) rfl rfl rfl) rfl))
theorem sc_10 : FnScope ["hall", "value"] ["hall", "value"] (defScope (top 24)) := ⟨rfl, rfl, rfl, by decide +kernel, rfl, by decide +kernel, by decide +kernel⟩
theorem g_10 (fx : Fx0 c T zs gs bs) (ih : ∀ j, GA c T n j) : GA c T (n + 1) 10 := ga_def (t := t_10) fx rfl sc_10 rfl fun b A outer s H E cdv hC hn hgd hr hu hnd => have hu1 := lt1 hu; (pSs_cons (pS_if (PW.pt (pW_or (pT_not (pT_val (gE_call fx ih (t := t_2) 2 rfl rfl rfl rfl rfl rfl rfl hC hgd hr rfl (fun _ _ _ _ _ _ us hl => match us, hl with | [_, _, _], _ => rfl) (pA_cons (pE_var hn rfl (.inl rfl) rfl rfl) (pA_cons pE_int (pA_cons pE_int pA_nil rfl) rfl) rfl) rfl rfl rfl) (fun _ => rfl))) (pW_or1 (pT_not (pT_val (gE_call fx ih (t := t_1) 1 rfl rfl rfl rfl rfl rfl rfl hC hgd hr rfl (fun _ _ _ _ _ _ us hl => match us, hl with | [_, _, _], _ => rfl) (pA_cons (pE_sub hu1 (pE_var hn rfl (.inl rfl) rfl rfl) pE_int (fun _ _ => rfl)) (pA_cons pE_int (pA_cons (pe_bin2 (pE_sub hu1 (pE_var hn rfl (.inl rfl) rfl rfl) pE_int (fun _ _ => rfl)) pE_int (op_binE _)) pA_nil rfl) rfl) rfl) rfl rfl rfl) (fun _ => rfl)))))) (pSs_one (pS_ret pE_bl)) pSs_nil) (pSs_one (pS_ret (pE_and (gE_call fx ih (t := t_1) 1 rfl rfl rfl rfl rfl rfl rfl hC hgd hr rfl (fun _ _ _ _ _ _ us hl => match us, hl with | [_, _, _], _ => rfl) (pA_cons (pE_sub hu1 (pE_var hn rfl (.inl rfl) rfl rfl) pE_int (fun _ _ => rfl)) (pA_cons pE_int (pA_cons (gE_glob (j := 4) fx rfl rfl rfl rfl) pA_nil rfl) rfl) rfl) rfl rfl rfl) (pE_one (gE_call fx ih (t := t_1) 1 rfl rfl rfl rfl rfl rfl rfl hC hgd hr rfl (fun _ _ _ _ _ _ us hl => match us, hl with | [_, _, _], _ => rfl) (pA_cons (pE_sub hu1 (pE_var hn rfl (.inl rfl) rfl rfl) pE_int (fun _ _ => rfl)) (pA_cons pE_int (pA_cons (gE_glob (j := 5) fx rfl rfl rfl rfl) pA_nil rfl) rfl) rfl) rfl rfl rfl))))))
theorem sc_11 : FnScope ["hall", "value", "own"] ["hall", "value"] (defScope (top 25)) := ⟨rfl, rfl, rfl, by decide +kernel, rfl, by decide +kernel, by decide +kernel⟩
theorem g_11 (fx : Fx0 c T zs gs bs) (ih : ∀ j, GA c T n j) : GA c T (n + 1) 11 := ga_def (t := t_11) fx rfl sc_11 rfl fun b A outer s H E cdv hC hn hgd hr hu hnd => have hu1 := lt1 hu; (pSs_cons (pS_if (PW.pt (pW_or (pT_not (pT_val (gE_call fx ih (t := t_2) 2 rfl rfl rfl rfl rfl rfl rfl hC hgd hr rfl (fun _ _ _ _ _ _ us hl => match us, hl with | [_, _, _], _ => rfl) (pA_cons (pE_var hn rfl (.inl rfl) rfl rfl) (pA_cons pE_int (pA_cons (gE_glob (j := 6) fx rfl rfl rfl rfl) pA_nil rfl) rfl) rfl) rfl rfl rfl) (fun _ => rfl))) (pW_or1 (pT_not (pT_val (pE_biB (bi_all rfl) rfl (fx.z 6 _ rfl) rfl (pA_cons (pE_lc (own := [("own", 2)]) hn rfl hnd (pI_seq (pE_var hn rfl (.inl rfl) rfl rfl)) (blkOk_by rfl) (fun _ _ _ _ _ => (pG_nm hnd rfl (.inl rfl) (.inr rfl))) (fun _ _ _ _ _ => pTs_nil) (fun _ _ _ _ _ => (gE_call fx ih (t := t_10) 10 rfl rfl rfl rfl rfl rfl rfl hC hgd hr rfl (fun _ _ _ _ _ _ us hl => match us, hl with | [_, _], _ => rfl) (pA_cons (pE_var hn rfl (.inr (.inl rfl)) rfl rfl) (pA_cons (pE_var hn rfl (.inl rfl) rfl rfl) pA_nil rfl) rfl) rfl rfl rfl)) rfl rfl (fun _ => rfl)) pA_nil rfl) (by decide) rfl rfl rfl) (fun _ => rfl)))))) (pSs_one (pS_ret pE_bl)) pSs_nil) (pSs_one (pS_ret (gE_call fx ih (t := t_4) 4 rfl rfl rfl rfl rfl rfl rfl hC hgd hr rfl (fun _ _ _ _ _ _ us hl => match us, hl with | [_], _ => rfl) (pA_cons (pE_lc (own := [("own", 2)]) hn rfl hnd (pI_seq (pE_var hn rfl (.inl rfl) rfl rfl)) (blkOk_by rfl) (fun _ _ _ _ _ => (pG_nm hnd rfl (.inl rfl) (.inr rfl))) (fun _ _ _ _ _ => pTs_nil) (fun _ _ _ _ _ => (pE_slc (pE_var hn rfl (.inl rfl) rfl rfl) pO_none (pO_some pE_int))) rfl rfl (fun _ => rfl)) pA_nil rfl) rfl rfl rfl))))
theorem sc_12 : FnScope ["hall", "crowds"] ["hall", "crowds"] (defScope (top 26)) := ⟨rfl, rfl, rfl, by decide +kernel, rfl, by decide +kernel, by decide +kernel⟩
theorem g_12 (fx : Fx0 c T zs gs bs) (ih : ∀ j, GA c T n j) : GA c T (n + 1) 12 := ga_def (t := t_12) fx rfl sc_12 rfl fun b A outer s H E cdv hC hn hgd hr hu hnd => have hu1 := lt1 hu; (pSs_cons (pS_expr (gE_call fx ih (t := t_8) 8 rfl rfl rfl rfl rfl rfl rfl hC hgd hr rfl (fun _ _ _ _ _ _ us hl => match us, hl with | [_], _ => rfl) (pA_cons (pE_var hn rfl (.inl rfl) rfl rfl) pA_nil rfl) rfl rfl rfl) rfl) (pSs_one (pS_if (pT_not (pT_val (gE_call fx ih (t := t_11) 11 rfl rfl rfl rfl rfl rfl rfl hC hgd hr rfl (fun _ _ _ _ _ _ us hl => match us, hl with | [_, _], _ => rfl) (pA_cons (pE_var hn rfl (.inl rfl) rfl rfl) (pA_cons (pE_var hn rfl (.inl rfl) rfl rfl) pA_nil rfl) rfl) rfl rfl rfl) (fun _ => rfl))) (pSs_one pS_nev) pSs_nil)))
theorem sc_13 : FnScope ["crowds", "place", "tick", "many"] ["crowds"] (defScope (top 27)) := ⟨rfl, rfl, rfl, by decide +kernel, rfl, by decide +kernel, by decide +kernel⟩
theorem g_13 (fx : Fx0 c T zs gs bs) (ih : ∀ j, GA c T n j) : GA c T (n + 1) 13 := ga_def (t := t_13) fx rfl sc_13 rfl fun b A outer s H E cdv hC hn hgd hr hu hnd => have hu1 := lt1 hu; (pSs_one (pS_ret (pE_biB (bi_sum rfl) rfl (fx.z 8 _ rfl) rfl (pA_cons (pE_lc (own := [("place", 1), ("tick", 2), ("many", 3)]) hn rfl hnd (pI_seq (pE_var hn rfl (.inl rfl) rfl rfl)) (blkOk_by rfl) (fun _ _ _ _ _ => (pG_tup rfl (pGs_cons (pG_nm hnd rfl (.inl rfl) (.inr rfl)) (pGs_cons (pG_nm hnd rfl (.inl rfl) (.inr rfl)) (pGs_cons (pG_nm hnd rfl (.inl rfl) (.inr rfl)) pGs_nil rfl) rfl) rfl) rfl rfl)) (fun _ _ _ _ _ => pTs_nil) (fun _ _ _ _ _ => (pE_var hn rfl (.inl rfl) rfl rfl)) rfl rfl (fun _ => rfl)) pA_nil rfl) (by decide) rfl rfl rfl)))
theorem sc_14 : FnScope ["hall", "crowds"] ["hall", "crowds"] (defScope (top 28)) := ⟨rfl, rfl, rfl, by decide +kernel, rfl, by decide +kernel, by decide +kernel⟩
theorem g_14 (fx : Fx0 c T zs gs bs) (ih : ∀ j, GA c T n j) : GA c T (n + 1) 14 := ga_def (t := t_14) fx rfl sc_14 rfl fun b A outer s H E cdv hC hn hgd hr hu hnd => have hu1 := lt1 hu; (pSs_cons (pS_expr (gE_call fx ih (t := t_12) 12 rfl rfl rfl rfl rfl rfl rfl hC hgd hr rfl (fun _ _ _ _ _ _ us hl => match us, hl with | [_, _], _ => rfl) (pA_cons (pE_var hn rfl (.inl rfl) rfl rfl) (pA_cons (pE_var hn rfl (.inl rfl) rfl rfl) pA_nil rfl) rfl) rfl rfl rfl) rfl) (pSs_one (pS_ret (gE_call fx ih (t := t_13) 13 rfl rfl rfl rfl rfl rfl rfl hC hgd hr rfl (fun _ _ _ _ _ _ us hl => match us, hl with | [_], _ => rfl) (pA_cons (pE_var hn rfl (.inl rfl) rfl rfl) pA_nil rfl) rfl rfl rfl))))
theorem sc_15 : FnScope ["hall", "goal", "found", "turn", "begin", "end", "time", "capacity"] ["hall", "goal"] (defScope (top 29)) := ⟨rfl, rfl, rfl, by decide +kernel, rfl, by decide +kernel, by decide +kernel⟩
theorem g_15 (fx : Fx0 c T zs gs bs) (ih : ∀ j, GA c T n j) : GA c T (n + 1) 15 := ga_def (t := t_15) fx rfl sc_15 rfl fun b A outer s H E cdv hC hn hgd hr hu hnd => have hu1 := lt1 hu; (pSs_cons (pS_expr (gE_call fx ih (t := t_8) 8 rfl rfl rfl rfl rfl rfl rfl hC hgd hr rfl (fun _ _ _ _ _ _ us hl => match us, hl with | [_], _ => rfl) (pA_cons (pE_var hn rfl (.inl rfl) rfl rfl) pA_nil rfl) rfl rfl rfl) rfl) (pSs_cons (pS_expr (gE_call fx ih (t := t_9) 9 rfl rfl rfl rfl rfl rfl rfl hC hgd hr rfl (fun _ _ _ _ _ _ us hl => match us, hl with | [_, _], _ => rfl) (pA_cons (pE_var hn rfl (.inl rfl) rfl rfl) (pA_cons (pE_var hn rfl (.inl rfl) rfl rfl) pA_nil rfl) rfl) rfl rfl rfl) rfl) (pSs_cons (pS_set hn hnd rfl (.inl rfl) (pe_bin2 (pE_lst (pA_cons pE_non pA_nil rfl)) (pE_sub hu1 (pE_var hn rfl (.inl rfl) rfl rfl) pE_int (fun _ _ => rfl)) (op_binE _)) rfl (.inl rfl)) (pSs_cons (pS_sets hu1 (pE_var hn rfl (.inl rfl) rfl rfl) (pE_var hn rfl (.inl rfl) rfl rfl) pE_int (fun _ => rfl) rfl rfl rfl) (pSs_cons (pS_for hn (passes_of rfl) rfl (pI_rng1 rfl (fx.z 9 _ rfl) (pA_cons (pE_sub hu1 (pE_var hn rfl (.inl rfl) rfl rfl) pE_int (fun _ _ => rfl)) pA_nil rfl) rfl ⟨_, rfl⟩) (pG_nm hnd rfl (.inl rfl) (.inl rfl)) rfl (pSs_one (pS_for hn (passes_of rfl) rfl (pI_seq (pE_sub hu1 (pE_var hn rfl (.inl rfl) rfl rfl) pE_int (fun _ _ => rfl))) (pG_tup rfl (pGs_cons (pG_nm hnd rfl (.inl rfl) (.inl rfl)) (pGs_cons (pG_nm hnd rfl (.inl rfl) (.inl rfl)) (pGs_cons (pG_nm hnd rfl (.inl rfl) (.inl rfl)) (pGs_cons (pG_nm hnd rfl (.inl rfl) (.inl rfl)) pGs_nil rfl) rfl) rfl) rfl) rfl rfl) rfl (pSs_one (pS_if (PW.pt (pW_and (pT_cmp hu (pE_sub hu1 (pE_var hn rfl (.inl rfl) rfl rfl) (pE_var hn rfl (.inl rfl) rfl rfl) (fun _ _ => rfl)) pE_non rfl) (pW_and1 (PW.pt (pW_or (pT_cmp hu (pE_sub hu1 (pE_var hn rfl (.inl rfl) rfl rfl) (pE_var hn rfl (.inl rfl) rfl rfl) (fun _ _ => rfl)) pE_non rfl) (pW_or1 (pT_cmp hu (pe_bin2 (pE_sub hu1 (pE_var hn rfl (.inl rfl) rfl rfl) (pE_var hn rfl (.inl rfl) rfl rfl) (fun _ _ => rfl)) (pE_var hn rfl (.inl rfl) rfl rfl) (op_binE _)) (pE_sub hu1 (pE_var hn rfl (.inl rfl) rfl rfl) (pE_var hn rfl (.inl rfl) rfl rfl) (fun _ _ => rfl)) rfl))))))) (pSs_one (pS_sets hu1 (pE_var hn rfl (.inl rfl) rfl rfl) (pE_var hn rfl (.inl rfl) rfl rfl) (pe_bin2 (pE_sub hu1 (pE_var hn rfl (.inl rfl) rfl rfl) (pE_var hn rfl (.inl rfl) rfl rfl) (fun _ _ => rfl)) (pE_var hn rfl (.inl rfl) rfl rfl) (op_binE _)) (fun _ => rfl) rfl rfl rfl)) pSs_nil)) (fun _ => rfl))) (fun _ => rfl)) (pSs_one (pS_ret (pE_biT bi_tuple rfl (fx.z 3 _ rfl) rfl (pA_cons (pE_var hn rfl (.inl rfl) rfl rfl) pA_nil rfl) (by decide) rfl rfl rfl))))))))
theorem sc_16 : FnScope ["hall", "begin", "end", "time", "capacity"] ["hall"] (defScope (top 30)) := ⟨rfl, rfl, rfl, by decide +kernel, rfl, by decide +kernel, by decide +kernel⟩
theorem g_16 (fx : Fx0 c T zs gs bs) (ih : ∀ j, GA c T n j) : GA c T (n + 1) 16 := ga_def (t := t_16) fx rfl sc_16 rfl fun b A outer s H E cdv hC hn hgd hr hu hnd => have hu1 := lt1 hu; (pSs_cons (pS_expr (gE_call fx ih (t := t_8) 8 rfl rfl rfl rfl rfl rfl rfl hC hgd hr rfl (fun _ _ _ _ _ _ us hl => match us, hl with | [_], _ => rfl) (pA_cons (pE_var hn rfl (.inl rfl) rfl rfl) pA_nil rfl) rfl rfl rfl) rfl) (pSs_one (pS_ret (pE_tup (pA_cons (pE_sub hu1 (pE_var hn rfl (.inl rfl) rfl rfl) pE_int (fun _ _ => rfl)) (pA_cons (pE_biT bi_tuple rfl (fx.z 3 _ rfl) rfl (pA_cons (pE_lc (own := [("begin", 1), ("end", 2), ("time", 3), ("capacity", 4)]) hn rfl hnd (pI_seq (pE_sub hu1 (pE_var hn rfl (.inl rfl) rfl rfl) pE_int (fun _ _ => rfl))) (blkOk_by rfl) (fun _ _ _ _ _ => (pG_tup rfl (pGs_cons (pG_nm hnd rfl (.inl rfl) (.inr rfl)) (pGs_cons (pG_nm hnd rfl (.inl rfl) (.inr rfl)) (pGs_cons (pG_nm hnd rfl (.inl rfl) (.inr rfl)) (pGs_cons (pG_nm hnd rfl (.inl rfl) (.inr rfl)) pGs_nil rfl) rfl) rfl) rfl) rfl rfl)) (fun _ _ _ _ _ => pTs_nil) (fun _ _ _ _ _ => (pE_tup (pA_cons (pE_var hn rfl (.inl rfl) rfl rfl) (pA_cons (pE_var hn rfl (.inl rfl) rfl rfl) (pA_cons (pE_var hn rfl (.inl rfl) rfl rfl) (pA_cons (pE_var hn rfl (.inl rfl) rfl rfl) pA_nil rfl) rfl) rfl) rfl))) rfl rfl (fun _ => rfl)) pA_nil rfl) (by decide) rfl rfl rfl) pA_nil rfl) rfl)))))
theorem sc_17 : FnScope ["script", "turn", "cell", "seed", "part"] ["script", "turn"] (defScope (top 32)) := ⟨rfl, rfl, rfl, by decide +kernel, rfl, by decide +kernel, by decide +kernel⟩
theorem g_17 (fx : Fx0 c T zs gs bs) (ih : ∀ j, GA c T n j) : GA c T (n + 1) 17 := ga_def (t := t_17) fx rfl sc_17 rfl fun b A outer s H E cdv hC hn hgd hr hu hnd => have hu1 := lt1 hu; (pSs_cons (pS_set hn hnd rfl (.inl rfl) (pE_ife (pT_cmp hu (pE_var hn rfl (.inl rfl) rfl rfl) (pE_biB bi_len rfl (fx.z 4 _ rfl) rfl (pA_cons (pE_var hn rfl (.inl rfl) rfl rfl) pA_nil rfl) (by decide) rfl rfl rfl) rfl) (pE_biB bi_abs rfl (fx.z 10 _ rfl) rfl (pA_cons (pE_biT bi_int rfl (fx.z 1 _ rfl) rfl (pA_cons (pE_sub hu1 (pE_var hn rfl (.inl rfl) rfl rfl) (pE_var hn rfl (.inl rfl) rfl rfl) (fun _ _ => rfl)) pA_nil rfl) (by decide) rfl rfl rfl) pA_nil rfl) (by decide) rfl rfl rfl) pE_int) rfl (.inl rfl)) (pSs_cons (pS_set hn hnd rfl (.inl rfl) (pe_bin2 (pe_bin2 pE_int (pe_bin2 pE_int (pE_biB bi_len rfl (fx.z 4 _ rfl) rfl (pA_cons (pE_var hn rfl (.inl rfl) rfl rfl) pA_nil rfl) (by decide) rfl rfl rfl) (op_binE _)) (op_binE _)) (pe_bin2 pE_int (pE_var hn rfl (.inl rfl) rfl rfl) (op_binE _)) (op_binE _)) rfl (.inl rfl)) (pSs_cons (pS_for hn (passes_of rfl) rfl (pI_seq (pE_var hn rfl (.inl rfl) rfl rfl)) (pG_nm hnd rfl (.inl rfl) (.inl rfl)) rfl (pSs_one (pS_set hn hnd rfl (.inl rfl) (pe_bin2 (pE_biT bi_int rfl (fx.z 1 _ rfl) rfl (pA_cons (pe_bin2 (pe_bin2 (pe_bin2 (pE_var hn rfl (.inl rfl) rfl rfl) pE_int (op_binE _)) (pe_bin2 (pE_biT bi_int rfl (fx.z 1 _ rfl) rfl (pA_cons (pE_var hn rfl (.inl rfl) rfl rfl) pA_nil rfl) (by decide) rfl rfl rfl) (pe_bin2 (pe_bin2 pE_int pE_int (op_binE _)) pE_int (op_binE _)) (op_binE _)) (op_binE _)) pE_int (op_binE _)) pA_nil rfl) (by decide) rfl rfl rfl) (pe_bin2 (pe_bin2 pE_int pE_int (op_binE _)) pE_int (op_binE _)) (op_binE _)) rfl (.inl rfl))) (fun _ => rfl)) (pSs_one (pS_ret (pE_lst (pA_cons (pe_bin2 (pE_var hn rfl (.inl rfl) rfl rfl) (pe_bin2 pE_int pE_int (op_binE _)) (op_binE _)) (pA_cons (pE_var hn rfl (.inl rfl) rfl rfl) (pA_cons pE_int pA_nil rfl) rfl) rfl)))))))
theorem sc_18 : FnScope ["source", "many", "found", "mixed"] ["source", "many"] (defScope (top 33)) := ⟨rfl, rfl, rfl, by decide +kernel, rfl, by decide +kernel, by decide +kernel⟩
theorem g_18 (fx : Fx0 c T zs gs bs) (ih : ∀ j, GA c T n j) : GA c T (n + 1) 18 := ga_def (t := t_18) fx rfl sc_18 rfl fun b A outer s H E cdv hC hn hgd hr hu hnd => have hu1 := lt1 hu; (pSs_cons (pS_if (pT_cmp hu (pE_sub hu1 (pE_var hn rfl (.inl rfl) rfl rfl) pE_int (fun _ _ => rfl)) pE_int rfl) (pSs_cons (pS_set hn hnd rfl (.inl rfl) (pe_bin2 (pE_biT bi_int rfl (fx.z 1 _ rfl) rfl (pA_cons (pE_sub hu1 (pE_var hn rfl (.inl rfl) rfl rfl) pE_int (fun _ _ => rfl)) pA_nil rfl) (by decide) rfl rfl rfl) (pE_var hn rfl (.inl rfl) rfl rfl) (op_binE _)) rfl (.inl rfl)) (pSs_cons (pS_sets hu1 (pE_var hn rfl (.inl rfl) rfl rfl) pE_int (pe_bin2 (pE_sub hu1 (pE_var hn rfl (.inl rfl) rfl rfl) pE_int (fun _ _ => rfl)) (pE_var hn rfl (.inl rfl) rfl rfl) (op_binE _)) (fun _ => rfl) rfl rfl rfl) (pSs_one (pS_ret (pE_var hn rfl (.inl rfl) rfl rfl))))) pSs_nil) (pSs_cons (pS_sets hu1 (pE_var hn rfl (.inl rfl) rfl rfl) pE_int (pe_bin2 (pE_sub hu1 (pE_var hn rfl (.inl rfl) rfl rfl) pE_int (fun _ _ => rfl)) pE_int (op_binE _)) (fun _ => rfl) rfl rfl rfl) (pSs_cons (pS_set hn hnd rfl (.inl rfl) (pe_bin2 (pE_biT bi_int rfl (fx.z 1 _ rfl) rfl (pA_cons (pe_bin2 (pe_bin2 (pE_sub hu1 (pE_var hn rfl (.inl rfl) rfl rfl) pE_int (fun _ _ => rfl)) (pe_bin2 pE_int (pE_sub hu1 (pE_var hn rfl (.inl rfl) rfl rfl) pE_int (fun _ _ => rfl)) (op_binE _)) (op_binE _)) (pe_bin2 (pe_bin2 (pE_sub hu1 (pE_var hn rfl (.inl rfl) rfl rfl) pE_int (fun _ _ => rfl)) (pE_sub hu1 (pE_var hn rfl (.inl rfl) rfl rfl) pE_int (fun _ _ => rfl)) (op_binE _)) pE_int (op_binE _)) (op_binE _)) pA_nil rfl) (by decide) rfl rfl rfl) (pe_bin2 (pe_bin2 pE_int pE_int (op_binE _)) pE_int (op_binE _)) (op_binE _)) rfl (.inl rfl)) (pSs_cons (pS_set hn hnd rfl (.inl rfl) (pe_bin2 (pE_biT bi_int rfl (fx.z 1 _ rfl) rfl (pA_cons (pe_bin2 (pe_bin2 (pe_bin2 (pE_var hn rfl (.inl rfl) rfl rfl) (pE_var hn rfl (.inl rfl) rfl rfl) (op_binE _)) (pe_bin2 pE_int (pE_sub hu1 (pE_var hn rfl (.inl rfl) rfl rfl) pE_int (fun _ _ => rfl)) (op_binE _)) (op_binE _)) (pE_sub hu1 (pE_var hn rfl (.inl rfl) rfl rfl) pE_int (fun _ _ => rfl)) (op_binE _)) pA_nil rfl) (by decide) rfl rfl rfl) (pe_bin2 (pe_bin2 pE_int pE_int (op_binE _)) pE_int (op_binE _)) (op_binE _)) rfl (.inl rfl)) (pSs_cons (pS_set hn hnd rfl (.inl rfl) (pe_bin2 (pE_biT bi_int rfl (fx.z 1 _ rfl) rfl (pA_cons (pe_bin2 (pe_bin2 (pE_var hn rfl (.inl rfl) rfl rfl) (pE_var hn rfl (.inl rfl) rfl rfl) (op_binE _)) (pe_bin2 pE_int (pE_var hn rfl (.inl rfl) rfl rfl) (op_binE _)) (op_binE _)) pA_nil rfl) (by decide) rfl rfl rfl) (pe_bin2 (pe_bin2 pE_int pE_int (op_binE _)) pE_int (op_binE _)) (op_binE _)) rfl (.inl rfl)) (pSs_one (pS_ret (pe_bin2 (pE_biT bi_int rfl (fx.z 1 _ rfl) rfl (pA_cons (pe_bin2 (pE_var hn rfl (.inl rfl) rfl rfl) pE_int (op_binE _)) pA_nil rfl) (by decide) rfl rfl rfl) (pE_var hn rfl (.inl rfl) rfl rfl) (op_binE _)))))))))
theorem sc_19 : FnScope ["source", "places", "stairs", "many", "found", "turn", "begin", "end", "time"] ["source", "places", "stairs"] (defScope (top 34)) := ⟨rfl, rfl, rfl, by decide +kernel, rfl, by decide +kernel, by decide +kernel⟩
theorem g_19 (fx : Fx0 c T zs gs bs) (ih : ∀ j, GA c T n j) : GA c T (n + 1) 19 := ga_def (t := t_19) fx rfl sc_19 rfl fun b A outer s H E cdv hC hn hgd hr hu hnd => have hu1 := lt1 hu; (pSs_cons (pS_par hn rfl hnd rfl rfl (by decide) rfl rfl (pA_cons (pe_bin2 (pE_var hn rfl (.inl rfl) rfl rfl) (gE_call fx ih (t := t_18) 18 rfl rfl rfl rfl rfl rfl rfl hC hgd hr rfl (fun _ _ _ _ _ _ us hl => match us, hl with | [_, _], _ => rfl) (pA_cons (pE_var hn rfl (.inl rfl) rfl rfl) (pA_cons (pE_var hn rfl (.inl rfl) rfl rfl) pA_nil rfl) rfl) rfl rfl rfl) (op_binE _)) (pA_cons (pE_lst pA_nil) pA_nil rfl) rfl) rfl rfl) (pSs_cons (pS_if (PW.pt (pW_and (pT_cmp hu (pE_var hn rfl (.inl rfl) rfl rfl) pE_int rfl) (pW_and1 (pT_cmp hu (gE_call fx ih (t := t_18) 18 rfl rfl rfl rfl rfl rfl rfl hC hgd hr rfl (fun _ _ _ _ _ _ us hl => match us, hl with | [_, _], _ => rfl) (pA_cons (pE_var hn rfl (.inl rfl) rfl rfl) (pA_cons pE_int pA_nil rfl) rfl) rfl rfl rfl) pE_int rfl)))) (pSs_one (pS_set hn hnd rfl (.inl rfl) (pE_var hn rfl (.inl rfl) rfl rfl) rfl (.inl rfl))) pSs_nil) (pSs_cons (pS_for hn (passes_of rfl) rfl (pI_rng1 rfl (fx.z 9 _ rfl) (pA_cons (pE_ife (pT_cmp hu (pE_var hn rfl (.inl rfl) rfl rfl) pE_int rfl) (pe_bin2 (pE_var hn rfl (.inl rfl) rfl rfl) (gE_call fx ih (t := t_18) 18 rfl rfl rfl rfl rfl rfl rfl hC hgd hr rfl (fun _ _ _ _ _ _ us hl => match us, hl with | [_, _], _ => rfl) (pA_cons (pE_var hn rfl (.inl rfl) rfl rfl) (pA_cons (pe_bin2 (pE_var hn rfl (.inl rfl) rfl rfl) pE_int (op_binE _)) pA_nil rfl) rfl) rfl rfl rfl) (op_binE _)) pE_int) pA_nil rfl) rfl ⟨_, rfl⟩) (pG_nm hnd rfl (.inl rfl) (.inl rfl)) rfl (pSs_cons (pS_set hn hnd rfl (.inl rfl) (gE_call fx ih (t := t_18) 18 rfl rfl rfl rfl rfl rfl rfl hC hgd hr rfl (fun _ _ _ _ _ _ us hl => match us, hl with | [_, _], _ => rfl) (pA_cons (pE_var hn rfl (.inl rfl) rfl rfl) (pA_cons (pE_var hn rfl (.inl rfl) rfl rfl) pA_nil rfl) rfl) rfl rfl rfl) rfl (.inl rfl)) (pSs_cons (pS_set hn hnd rfl (.inl rfl) (pe_bin2 (pE_biT bi_int rfl (fx.z 1 _ rfl) rfl (pA_cons (pe_bin2 (pe_bin2 (pE_var hn rfl (.inl rfl) rfl rfl) pE_int (op_binE _)) (gE_call fx ih (t := t_18) 18 rfl rfl rfl rfl rfl rfl rfl hC hgd hr rfl (fun _ _ _ _ _ _ us hl => match us, hl with | [_, _], _ => rfl) (pA_cons (pE_var hn rfl (.inl rfl) rfl rfl) (pA_cons (pe_bin2 (pE_var hn rfl (.inl rfl) rfl rfl) pE_int (op_binE _)) pA_nil rfl) rfl) rfl rfl rfl) (op_binE _)) pA_nil rfl) (by decide) rfl rfl rfl) (pE_var hn rfl (.inl rfl) rfl rfl) (op_binE _)) rfl (.inl rfl)) (pSs_cons (pS_set hn hnd rfl (.inl rfl) (pe_bin2 pE_int (gE_call fx ih (t := t_18) 18 rfl rfl rfl rfl rfl rfl rfl hC hgd hr rfl (fun _ _ _ _ _ _ us hl => match us, hl with | [_, _], _ => rfl) (pA_cons (pE_var hn rfl (.inl rfl) rfl rfl) (pA_cons (pE_sub hu1 (pE_lst (pA_cons pE_int (pA_cons pE_int (pA_cons pE_int pA_nil rfl) rfl) rfl)) (gE_call fx ih (t := t_18) 18 rfl rfl rfl rfl rfl rfl rfl hC hgd hr rfl (fun _ _ _ _ _ _ us hl => match us, hl with | [_, _], _ => rfl) (pA_cons (pE_var hn rfl (.inl rfl) rfl rfl) (pA_cons pE_int pA_nil rfl) rfl) rfl rfl rfl) (fun _ _ => rfl)) pA_nil rfl) rfl) rfl rfl rfl) (op_binE _)) rfl (.inl rfl)) (pSs_one (pS_expr (pE_mth PySem.F.plainAttrs_list PySem.F.slot_list_append rfl mtr_append (pE_var hn rfl (.inl rfl) rfl rfl) (pA_cons (pE_tup (pA_cons (pE_var hn rfl (.inl rfl) rfl rfl) (pA_cons (pE_var hn rfl (.inl rfl) rfl rfl) (pA_cons (pE_var hn rfl (.inl rfl) rfl rfl) (pA_cons (pe_bin2 pE_int (gE_call fx ih (t := t_18) 18 rfl rfl rfl rfl rfl rfl rfl hC hgd hr rfl (fun _ _ _ _ _ _ us hl => match us, hl with | [_, _], _ => rfl) (pA_cons (pE_var hn rfl (.inl rfl) rfl rfl) (pA_cons (pE_sub hu1 (pE_lst (pA_cons pE_int (pA_cons pE_int (pA_cons pE_int pA_nil rfl) rfl) rfl)) (gE_call fx ih (t := t_18) 18 rfl rfl rfl rfl rfl rfl rfl hC hgd hr rfl (fun _ _ _ _ _ _ us hl => match us, hl with | [_, _], _ => rfl) (pA_cons (pE_var hn rfl (.inl rfl) rfl rfl) (pA_cons pE_int pA_nil rfl) rfl) rfl rfl rfl) (fun _ _ => rfl)) pA_nil rfl) rfl) rfl rfl rfl) (op_binE _)) pA_nil rfl) rfl) rfl) rfl)) pA_nil rfl) rfl rfl rfl rfl rfl) rfl))))) (fun _ => rfl)) (pSs_one (pS_ret (pE_tup (pA_cons (pE_var hn rfl (.inl rfl) rfl rfl) (pA_cons (pE_biT bi_tuple rfl (fx.z 3 _ rfl) rfl (pA_cons (pE_var hn rfl (.inl rfl) rfl rfl) pA_nil rfl) (by decide) rfl rfl rfl) pA_nil rfl) rfl)))))))
theorem sc_20 : FnScope ["source", "many", "count", "last", "people", "found", "turn", "place", "tick", "spot"] ["source", "many", "count", "last", "people"] (defScope (top 35)) := ⟨rfl, rfl, rfl, by decide +kernel, rfl, by decide +kernel, by decide +kernel⟩
theorem g_20 (fx : Fx0 c T zs gs bs) (ih : ∀ j, GA c T n j) : GA c T (n + 1) 20 := ga_def (t := t_20) fx rfl sc_20 rfl fun b A outer s H E cdv hC hn hgd hr hu hnd => have hu1 := lt1 hu; (pSs_cons (pS_set hn hnd rfl (.inr rfl) (pE_dnewT) rfl (.inl rfl)) (pSs_cons (pS_for hn (passes_of rfl) rfl (pI_rng1 rfl (fx.z 9 _ rfl) (pA_cons (pe_bin2 (pE_var hn rfl (.inl rfl) rfl rfl) (gE_call fx ih (t := t_18) 18 rfl rfl rfl rfl rfl rfl rfl hC hgd hr rfl (fun _ _ _ _ _ _ us hl => match us, hl with | [_, _], _ => rfl) (pA_cons (pE_var hn rfl (.inl rfl) rfl rfl) (pA_cons (pe_bin2 (pE_var hn rfl (.inl rfl) rfl rfl) pE_int (op_binE _)) pA_nil rfl) rfl) rfl rfl rfl) (op_binE _)) pA_nil rfl) rfl ⟨_, rfl⟩) (pG_nm hnd rfl (.inl rfl) (.inl rfl)) rfl (pSs_cons (pS_par hn rfl hnd rfl rfl (by decide) rfl rfl (pA_cons (gE_call fx ih (t := t_18) 18 rfl rfl rfl rfl rfl rfl rfl hC hgd hr rfl (fun _ _ _ _ _ _ us hl => match us, hl with | [_, _], _ => rfl) (pA_cons (pE_var hn rfl (.inl rfl) rfl rfl) (pA_cons (pE_var hn rfl (.inl rfl) rfl rfl) pA_nil rfl) rfl) rfl rfl rfl) (pA_cons (gE_call fx ih (t := t_18) 18 rfl rfl rfl rfl rfl rfl rfl hC hgd hr rfl (fun _ _ _ _ _ _ us hl => match us, hl with | [_, _], _ => rfl) (pA_cons (pE_var hn rfl (.inl rfl) rfl rfl) (pA_cons (pe_bin2 (pE_var hn rfl (.inl rfl) rfl rfl) pE_int (op_binE _)) pA_nil rfl) rfl) rfl rfl rfl) pA_nil rfl) rfl) rfl rfl) (pSs_one (pS_sets hu1 (pE_var hn rfl (.inr (.inl rfl)) rfl rfl) (pE_tup (pA_cons (pE_var hn rfl (.inl rfl) rfl rfl) (pA_cons (pE_var hn rfl (.inl rfl) rfl rfl) pA_nil rfl) rfl)) (pe_bin2 pE_int (gE_call fx ih (t := t_18) 18 rfl rfl rfl rfl rfl rfl rfl hC hgd hr rfl (fun _ _ _ _ _ _ us hl => match us, hl with | [_, _], _ => rfl) (pA_cons (pE_var hn rfl (.inl rfl) rfl rfl) (pA_cons (pE_var hn rfl (.inl rfl) rfl rfl) pA_nil rfl) rfl) rfl rfl rfl) (op_binE _)) (fun _ => rfl) rfl rfl rfl))) (fun _ => rfl)) (pSs_one (pS_ret (pE_biT bi_tuple rfl (fx.z 3 _ rfl) rfl (pA_cons (pE_lc (own := [("spot", 9)]) hn rfl hnd (pI_seq (pE_biB (bi_sorted rfl) rfl (fx.z 11 _ rfl) rfl (pA_cons (pE_var hn rfl (.inr (.inl rfl)) rfl rfl) pA_nil rfl) (by decide) rfl rfl rfl)) (blkOk_by rfl) (fun _ _ _ _ _ => (pG_nm hnd rfl (.inl rfl) (.inr rfl))) (fun _ _ _ _ _ => pTs_nil) (fun _ _ _ _ _ => (pe_bin2 (pE_var hn rfl (.inl rfl) rfl rfl) (pE_tup (pA_cons (pE_sub hu1 (pE_var hn rfl (.inr (.inl rfl)) rfl rfl) (pE_var hn rfl (.inl rfl) rfl rfl) (fun _ _ => rfl)) pA_nil rfl)) (op_binE _))) rfl rfl (fun _ => rfl)) pA_nil rfl) (by decide) rfl rfl rfl)))))
theorem sc_21 : FnScope ["crowds", "place", "tick", "many"] ["crowds"] (defScope (top 36)) := ⟨rfl, rfl, rfl, by decide +kernel, rfl, by decide +kernel, by decide +kernel⟩
theorem g_21 (fx : Fx0 c T zs gs bs) (ih : ∀ j, GA c T n j) : GA c T (n + 1) 21 := ga_def (t := t_21) fx rfl sc_21 rfl fun b A outer s H E cdv hC hn hgd hr hu hnd => have hu1 := lt1 hu; (pSs_one (pS_ret (pE_biB (bi_sum rfl) rfl (fx.z 8 _ rfl) rfl (pA_cons (pE_lc (own := [("place", 1), ("tick", 2), ("many", 3)]) hn rfl hnd (pI_seq (pE_var hn rfl (.inl rfl) rfl rfl)) (blkOk_by rfl) (fun _ _ _ _ _ => (pG_tup rfl (pGs_cons (pG_nm hnd rfl (.inl rfl) (.inr rfl)) (pGs_cons (pG_nm hnd rfl (.inl rfl) (.inr rfl)) (pGs_cons (pG_nm hnd rfl (.inl rfl) (.inr rfl)) pGs_nil rfl) rfl) rfl) rfl rfl)) (fun _ _ _ _ _ => pTs_nil) (fun _ _ _ _ _ => (pE_var hn rfl (.inl rfl) rfl rfl)) rfl rfl (fun _ => rfl)) pA_nil rfl) (by decide) rfl rfl rfl)))
theorem sc_22 : FnScope ["hall", "place", "goal", "rows", "row", "tick", "later", "own", "begin", "end", "time", "capacity", "far"] ["hall", "place", "goal"] (defScope (top 37)) := ⟨rfl, rfl, rfl, by decide +kernel, rfl, by decide +kernel, by decide +kernel⟩
theorem g_22 (fx : Fx0 c T zs gs bs) (ih : ∀ j, GA c T n j) : GA c T (n + 1) 22 := ga_def (t := t_22) fx rfl sc_22 rfl fun b A outer s H E cdv hC hn hgd hr hu hnd => have hu1 := lt1 hu; (pSs_cons (pS_setLc (own := [("tick", 5)]) hn rfl hnd rfl rfl rfl (pI_rng1 rfl (fx.z 9 _ rfl) (pA_cons pE_int pA_nil rfl) rfl ⟨_, rfl⟩) (blkOk_by rfl) (fun _ _ _ _ _ => (pG_nm hnd rfl (.inl rfl) (.inr rfl))) (fun _ _ _ _ _ => pTs_nil) (fun _ _ _ _ _ => (pE_lst pA_nil)) rfl rfl (fun _ => rfl)) (pSs_cons (pS_set hn hnd rfl (.inl rfl) (pE_sub hu1 (pE_var hn rfl (.inl rfl) rfl rfl) pE_int (fun _ _ => rfl)) rfl (.inl rfl)) (pSs_cons (pS_expr (pE_mth PySem.F.plainAttrs_list PySem.F.slot_list_append rfl mtr_append (pE_var hn rfl (.inl rfl) rfl rfl) (pA_cons (pE_var hn rfl (.inl rfl) rfl rfl) pA_nil rfl) rfl rfl rfl rfl rfl) rfl) (pSs_cons (pS_for hn (passes_of rfl) rfl (pI_rng1 rfl (fx.z 9 _ rfl) (pA_cons pE_int pA_nil rfl) rfl ⟨_, rfl⟩) (pG_nm hnd rfl (.inl rfl) (.inl rfl)) rfl (pSs_cons (pS_par hn rfl hnd rfl rfl (by decide) rfl rfl (pA_cons (pE_sub hu1 (pE_var hn rfl (.inl rfl) rfl rfl) (pE_var hn rfl (.inl rfl) rfl rfl) (fun _ _ => rfl)) (pA_cons (pE_sub hu1 (pE_var hn rfl (.inl rfl) rfl rfl) (pe_bin2 (pE_var hn rfl (.inl rfl) rfl rfl) pE_int (op_binE _)) (fun _ _ => rfl)) pA_nil rfl) rfl) rfl rfl) (pSs_cons (pS_if (pT_cmp hu (pE_var hn rfl (.inl rfl) rfl rfl) (pE_var hn rfl (.inl rfl) rfl rfl) rfl) (pSs_one (pS_ret (pE_var hn rfl (.inl rfl) rfl rfl))) pSs_nil) (pSs_cons (pS_for hn (passes_of rfl) rfl (pI_seq (pE_var hn rfl (.inl rfl) rfl rfl)) (pG_nm hnd rfl (.inl rfl) (.inl rfl)) rfl (pSs_one (pS_if (pT_cmp hu (pE_var hn rfl (.inl rfl) rfl rfl) (pE_var hn rfl (.inl rfl) rfl rfl) rfl) (pSs_one (pS_expr (pE_mth PySem.F.plainAttrs_list PySem.F.slot_list_append rfl mtr_append (pE_var hn rfl (.inl rfl) rfl rfl) (pA_cons (pE_var hn rfl (.inl rfl) rfl rfl) pA_nil rfl) rfl rfl rfl rfl rfl) rfl)) pSs_nil)) (fun _ => rfl)) (pSs_one (pS_for hn (passes_of rfl) rfl (pI_seq (pE_sub hu1 (pE_var hn rfl (.inl rfl) rfl rfl) pE_int (fun _ _ => rfl))) (pG_tup rfl (pGs_cons (pG_nm hnd rfl (.inl rfl) (.inl rfl)) (pGs_cons (pG_nm hnd rfl (.inl rfl) (.inl rfl)) (pGs_cons (pG_nm hnd rfl (.inl rfl) (.inl rfl)) (pGs_cons (pG_nm hnd rfl (.inl rfl) (.inl rfl)) pGs_nil rfl) rfl) rfl) rfl) rfl rfl) rfl (pSs_cons (pS_set hn hnd rfl (.inl rfl) (pE_sub hu1 (pE_var hn rfl (.inl rfl) rfl rfl) (pe_bin2 (pE_var hn rfl (.inl rfl) rfl rfl) (pE_var hn rfl (.inl rfl) rfl rfl) (op_binE _)) (fun _ _ => rfl)) rfl (.inl rfl)) (pSs_one (pS_if (PW.pt (pW_and (pT_cmp hu (pE_var hn rfl (.inl rfl) rfl rfl) (pE_var hn rfl (.inl rfl) rfl rfl) rfl) (pW_and1 (pT_cmp hu (pE_var hn rfl (.inl rfl) rfl rfl) (pE_var hn rfl (.inl rfl) rfl rfl) rfl)))) (pSs_one (pS_expr (pE_mth PySem.F.plainAttrs_list PySem.F.slot_list_append rfl mtr_append (pE_var hn rfl (.inl rfl) rfl rfl) (pA_cons (pE_var hn rfl (.inl rfl) rfl rfl) pA_nil rfl) rfl rfl rfl rfl rfl) rfl)) pSs_nil))) (fun _ => rfl)))))) (fun _ => rfl)) (pSs_one (pS_ret pE_non))))))
theorem sc_23 : FnScope ["hall", "goal", "told", "kept", "begin", "end", "time", "capacity", "place"] ["hall", "goal", "told"] (defScope (top 38)) := ⟨rfl, rfl, rfl, by decide +kernel, rfl, by decide +kernel, by decide +kernel⟩
theorem g_23 (fx : Fx0 c T zs gs bs) (ih : ∀ j, GA c T n j) : GA c T (n + 1) 23 := ga_def (t := t_23) fx rfl sc_23 rfl fun b A outer s H E cdv hC hn hgd hr hu hnd => have hu1 := lt1 hu; (pSs_cons (pS_setLc (own := [("place", 8)]) hn rfl hnd rfl rfl rfl (pI_rng1 rfl (fx.z 9 _ rfl) (pA_cons (pE_sub hu1 (pE_var hn rfl (.inl rfl) rfl rfl) pE_int (fun _ _ => rfl)) pA_nil rfl) rfl ⟨_, rfl⟩) (blkOk_by rfl) (fun _ _ _ _ _ => (pG_nm hnd rfl (.inl rfl) (.inr rfl))) (fun _ _ _ _ _ => pTs_nil) (fun _ _ _ _ _ => (pE_or (pE_cmp hu (pE_var hn rfl (.inl rfl) rfl rfl) (pE_var hn rfl (.inr (.inl rfl)) rfl rfl) rfl) (pE_one (pE_cmp hu (pE_sub hu1 (pE_var hn rfl (.inr (.inl rfl)) rfl rfl) (pE_var hn rfl (.inl rfl) rfl rfl) (fun _ _ => rfl)) pE_non rfl)))) rfl rfl (fun _ => rfl)) (pSs_cons (pS_for hn (passes_of rfl) rfl (pI_seq (pE_sub hu1 (pE_var hn rfl (.inl rfl) rfl rfl) pE_int (fun _ _ => rfl))) (pG_tup rfl (pGs_cons (pG_nm hnd rfl (.inl rfl) (.inl rfl)) (pGs_cons (pG_nm hnd rfl (.inl rfl) (.inl rfl)) (pGs_cons (pG_nm hnd rfl (.inl rfl) (.inl rfl)) (pGs_cons (pG_nm hnd rfl (.inl rfl) (.inl rfl)) pGs_nil rfl) rfl) rfl) rfl) rfl rfl) rfl (pSs_one (pS_if (pT_cmp hu (pE_sub hu1 (pE_var hn rfl (.inr (.inl rfl)) rfl rfl) (pE_var hn rfl (.inl rfl) rfl rfl) (fun _ _ => rfl)) pE_non rfl) (pSs_cons (pS_if (PW.pt (pW_or (pT_cmp hu (pE_sub hu1 (pE_var hn rfl (.inr (.inl rfl)) rfl rfl) (pE_var hn rfl (.inl rfl) rfl rfl) (fun _ _ => rfl)) pE_non rfl) (pW_or1 (pT_cmp hu (pE_sub hu1 (pE_var hn rfl (.inr (.inl rfl)) rfl rfl) (pE_var hn rfl (.inl rfl) rfl rfl) (fun _ _ => rfl)) (pe_bin2 (pE_sub hu1 (pE_var hn rfl (.inr (.inl rfl)) rfl rfl) (pE_var hn rfl (.inl rfl) rfl rfl) (fun _ _ => rfl)) (pE_var hn rfl (.inl rfl) rfl rfl) (op_binE _)) rfl)))) (pSs_one (pS_ret pE_bl)) pSs_nil) (pSs_one (pS_if (pT_cmp hu (pE_sub hu1 (pE_var hn rfl (.inr (.inl rfl)) rfl rfl) (pE_var hn rfl (.inl rfl) rfl rfl) (fun _ _ => rfl)) (pe_bin2 (pE_sub hu1 (pE_var hn rfl (.inr (.inl rfl)) rfl rfl) (pE_var hn rfl (.inl rfl) rfl rfl) (fun _ _ => rfl)) (pE_var hn rfl (.inl rfl) rfl rfl) (op_binE _)) rfl) (pSs_one (pS_sets hu1 (pE_var hn rfl (.inl rfl) rfl rfl) (pE_var hn rfl (.inl rfl) rfl rfl) pE_bl (fun _ => rfl) rfl rfl rfl)) pSs_nil))) pSs_nil)) (fun _ => rfl)) (pSs_one (pS_ret (pE_cmp hu pE_bl (pE_var hn rfl (.inl rfl) rfl rfl) rfl)))))
theorem sc_24 : FnScope ["script", "turn", "source", "hall", "crowds", "goal", "due", "told", "many", "other", "place", "begin", "end", "time", "capacity"] ["script"] (defScope (top 39)) := ⟨rfl, rfl, rfl, by decide +kernel, rfl, by decide +kernel, by decide +kernel⟩
theorem g_24 (fx : Fx0 c T zs gs bs) (ih : ∀ j, GA c T n j) : GA c T (n + 1) 24 := ga_def (t := t_24) fx rfl sc_24 rfl fun b A outer s H E cdv hC hn hgd hr hu hnd => have hu1 := lt1 hu; (pSs_cons (pS_for hn (passes_of rfl) rfl (pI_rng1 rfl (fx.z 9 _ rfl) (pA_cons (pE_biB (bi_max2 rfl) rfl (fx.z 13 _ rfl) rfl (pA_cons pE_int (pA_cons (pE_biB (bi_min2 rfl) rfl (fx.z 12 _ rfl) rfl (pA_cons pE_int (pA_cons (pE_biB bi_len rfl (fx.z 4 _ rfl) rfl (pA_cons (pE_var hn rfl (.inl rfl) rfl rfl) pA_nil rfl) (by decide) rfl rfl rfl) pA_nil rfl) rfl) (by decide) rfl rfl rfl) pA_nil rfl) rfl) (by decide) rfl rfl rfl) pA_nil rfl) rfl ⟨_, rfl⟩) (pG_nm hnd rfl (.inl rfl) (.inl rfl)) rfl (pSs_cons (pS_set hn hnd rfl (.inl rfl) (gE_call fx ih (t := t_17) 17 rfl rfl rfl rfl rfl rfl rfl hC hgd hr rfl (fun _ _ _ _ _ _ us hl => match us, hl with | [_, _], _ => rfl) (pA_cons (pE_var hn rfl (.inl rfl) rfl rfl) (pA_cons (pE_var hn rfl (.inl rfl) rfl rfl) pA_nil rfl) rfl) rfl rfl rfl) rfl (.inl rfl)) (pSs_cons (pS_set hn hnd rfl (.inr rfl) (gE_call fx ih (t := t_19) 19 rfl rfl rfl rfl rfl rfl rfl hC hgd hr rfl (fun _ _ _ _ _ _ us hl => match us, hl with | [_, _, _], _ => rfl) (pA_cons (pE_var hn rfl (.inl rfl) rfl rfl) (pA_cons (pE_sub hu1 (pE_lst (pA_cons pE_int (pA_cons pE_int (pA_cons pE_int pA_nil rfl) rfl) rfl)) (gE_call fx ih (t := t_18) 18 rfl rfl rfl rfl rfl rfl rfl hC hgd hr rfl (fun _ _ _ _ _ _ us hl => match us, hl with | [_, _], _ => rfl) (pA_cons (pE_var hn rfl (.inl rfl) rfl rfl) (pA_cons pE_int pA_nil rfl) rfl) rfl rfl rfl) (fun _ _ => rfl)) (pA_cons pE_int pA_nil rfl) rfl) rfl) rfl rfl rfl) rfl (.inl rfl)) (pSs_cons (pS_set hn hnd rfl (.inl rfl) (gE_call fx ih (t := t_20) 20 rfl rfl rfl rfl rfl rfl rfl hC hgd hr rfl (fun _ _ _ _ _ _ us hl => match us, hl with | [_, _, _, _, _], _ => rfl) (pA_cons (pE_var hn rfl (.inl rfl) rfl rfl) (pA_cons (pE_sub hu1 (pE_var hn rfl (.inr (.inl rfl)) rfl rfl) pE_int (fun _ _ => rfl)) (pA_cons pE_int (pA_cons pE_int (pA_cons pE_int pA_nil rfl) rfl) rfl) rfl) rfl) rfl rfl rfl) rfl (.inl rfl)) (pSs_cons (pS_for hn (passes_of rfl) rfl (pI_rng1 rfl (fx.z 9 _ rfl) (pA_cons (pE_sub hu1 (pE_var hn rfl (.inr (.inl rfl)) rfl rfl) pE_int (fun _ _ => rfl)) pA_nil rfl) rfl ⟨_, rfl⟩) (pG_nm hnd rfl (.inr rfl) (.inl rfl)) rfl (pSs_cons (pS_set hn hnd rfl (.inl rfl) (pE_biT bi_tuple rfl (fx.z 3 _ rfl) rfl (pA_cons (pE_lc (own := [("place", 10)]) hn rfl hnd (pI_rng1 rfl (fx.z 9 _ rfl) (pA_cons (pE_sub hu1 (pE_var hn rfl (.inr (.inl rfl)) rfl rfl) pE_int (fun _ _ => rfl)) pA_nil rfl) rfl ⟨_, rfl⟩) (blkOk_by rfl) (fun _ _ _ _ _ => (pG_nm hnd rfl (.inl rfl) (.inr rfl))) (fun _ _ _ _ _ => pTs_nil) (fun _ _ _ _ _ => (gE_call fx ih (t := t_22) 22 rfl rfl rfl rfl rfl rfl rfl hC hgd hr rfl (fun _ _ _ _ _ _ us hl => match us, hl with | [_, _, _], _ => rfl) (pA_cons (pE_var hn rfl (.inr (.inl rfl)) rfl rfl) (pA_cons (pE_var hn rfl (.inl rfl) rfl rfl) (pA_cons (pE_var hn rfl (.inr (.inl rfl)) rfl rfl) pA_nil rfl) rfl) rfl) rfl rfl rfl)) rfl rfl (fun _ => rfl)) pA_nil rfl) (by decide) rfl rfl rfl) rfl (.inl rfl)) (pSs_cons (pS_set hn hnd rfl (.inl rfl) (gE_call fx ih (t := t_15) 15 rfl rfl rfl rfl rfl rfl rfl hC hgd hr rfl (fun _ _ _ _ _ _ us hl => match us, hl with | [_, _], _ => rfl) (pA_cons (pE_var hn rfl (.inr (.inl rfl)) rfl rfl) (pA_cons (pE_var hn rfl (.inr (.inl rfl)) rfl rfl) pA_nil rfl) rfl) rfl rfl rfl) rfl (.inl rfl)) (pSs_cons (pS_if (PW.pt (pW_or (pT_cmp hu (pE_biB (bi_repr hgd hu) rfl (fx.z 14 _ rfl) rfl (pA_cons (pE_var hn rfl (.inl rfl) rfl rfl) pA_nil rfl) (by decide) rfl rfl rfl) (pE_biB (bi_repr hgd hu) rfl (fx.z 14 _ rfl) rfl (pA_cons (pE_var hn rfl (.inl rfl) rfl rfl) pA_nil rfl) (by decide) rfl rfl rfl) rfl) (pW_or1 (pT_cmp hu (pE_biB (bi_repr hgd hu) rfl (fx.z 14 _ rfl) rfl (pA_cons (gE_callk0 fx ih (t := t_15) 15 (ks := ["goal", "hall"]) (at_ := [1, 0]) rfl rfl rfl rfl rfl rfl rfl hC hgd hr rfl (by decide) (fun _ _ _ _ _ _ us ws h1 h2 => match us, ws, h1, h2 with | [], [_, _], _, _ => rfl) (pK_cons (pE_var hn rfl (.inr (.inl rfl)) rfl rfl) (pK_cons (pE_var hn rfl (.inr (.inl rfl)) rfl rfl) pK_nil)) rfl rfl rfl rfl) pA_nil rfl) (by decide) rfl rfl rfl) (pE_biB (bi_repr hgd hu) rfl (fx.z 14 _ rfl) rfl (pA_cons (pE_var hn rfl (.inl rfl) rfl rfl) pA_nil rfl) (by decide) rfl rfl rfl) rfl)))) (pSs_one (pS_ret pE_bl)) pSs_nil) (pSs_one (pS_if (pT_not (pT_val (gE_call fx ih (t := t_23) 23 rfl rfl rfl rfl rfl rfl rfl hC hgd hr rfl (fun _ _ _ _ _ _ us hl => match us, hl with | [_, _, _], _ => rfl) (pA_cons (pE_var hn rfl (.inr (.inl rfl)) rfl rfl) (pA_cons (pE_var hn rfl (.inr (.inl rfl)) rfl rfl) (pA_cons (pE_var hn rfl (.inl rfl) rfl rfl) pA_nil rfl) rfl) rfl) rfl rfl rfl) (fun _ => rfl))) (pSs_one (pS_ret pE_bl)) pSs_nil))))) (fun _ => rfl)) (pSs_cons (pS_set hn hnd rfl (.inl rfl) (pE_lst (pA_cons (gE_call fx ih (t := t_14) 14 rfl rfl rfl rfl rfl rfl rfl hC hgd hr rfl (fun _ _ _ _ _ _ us hl => match us, hl with | [_, _], _ => rfl) (pA_cons (pE_var hn rfl (.inr (.inl rfl)) rfl rfl) (pA_cons (pE_var hn rfl (.inl rfl) rfl rfl) pA_nil rfl) rfl) rfl rfl rfl) (pA_cons (gE_callk0 fx ih (t := t_14) 14 (ks := ["crowds", "hall"]) (at_ := [1, 0]) rfl rfl rfl rfl rfl rfl rfl hC hgd hr rfl (by decide) (fun _ _ _ _ _ _ us ws h1 h2 => match us, ws, h1, h2 with | [], [_, _], _, _ => rfl) (pK_cons (pE_var hn rfl (.inl rfl) rfl rfl) (pK_cons (pE_var hn rfl (.inr (.inl rfl)) rfl rfl) pK_nil)) rfl rfl rfl rfl) pA_nil rfl) rfl)) rfl (.inl rfl)) (pSs_cons (pS_if (pT_cmp hu (pE_biB (bi_repr hgd hu) rfl (fx.z 14 _ rfl) rfl (pA_cons (pE_var hn rfl (.inl rfl) rfl rfl) pA_nil rfl) (by decide) rfl rfl rfl) (pE_biB (bi_repr hgd hu) rfl (fx.z 14 _ rfl) rfl (pA_cons (pe_bin2 (pE_lst (pA_cons (gE_call fx ih (t := t_21) 21 rfl rfl rfl rfl rfl rfl rfl hC hgd hr rfl (fun _ _ _ _ _ _ us hl => match us, hl with | [_], _ => rfl) (pA_cons (pE_var hn rfl (.inl rfl) rfl rfl) pA_nil rfl) rfl rfl rfl) pA_nil rfl)) pE_int (op_binE _)) pA_nil rfl) (by decide) rfl rfl rfl) rfl) (pSs_one (pS_ret pE_bl)) pSs_nil) (pSs_cons (pS_set hn hnd rfl (.inl rfl) (pE_tup (pA_cons (pE_sub hu1 (pE_var hn rfl (.inr (.inl rfl)) rfl rfl) pE_int (fun _ _ => rfl)) (pA_cons (pE_biT bi_tuple rfl (fx.z 3 _ rfl) rfl (pA_cons (pE_lc (own := [("begin", 11), ("end", 12), ("time", 13), ("capacity", 14)]) hn rfl hnd (pI_seq (pE_sub hu1 (pE_var hn rfl (.inr (.inl rfl)) rfl rfl) pE_int (fun _ _ => rfl))) (blkOk_by rfl) (fun _ _ _ _ _ => (pG_tup rfl (pGs_cons (pG_nm hnd rfl (.inl rfl) (.inr rfl)) (pGs_cons (pG_nm hnd rfl (.inl rfl) (.inr rfl)) (pGs_cons (pG_nm hnd rfl (.inl rfl) (.inr rfl)) (pGs_cons (pG_nm hnd rfl (.inl rfl) (.inr rfl)) pGs_nil rfl) rfl) rfl) rfl) rfl rfl)) (fun _ _ _ _ _ => pTs_nil) (fun _ _ _ _ _ => (pE_tup (pA_cons (pE_var hn rfl (.inl rfl) rfl rfl) (pA_cons (pE_var hn rfl (.inl rfl) rfl rfl) (pA_cons (pE_var hn rfl (.inl rfl) rfl rfl) (pA_cons (pE_var hn rfl (.inl rfl) rfl rfl) pA_nil rfl) rfl) rfl) rfl))) rfl rfl (fun _ => rfl)) pA_nil rfl) (by decide) rfl rfl rfl) pA_nil rfl) rfl)) rfl (.inl rfl)) (pSs_one (pS_if (PW.pt (pW_or (pT_cmp hu (pE_biB (bi_repr hgd hu) rfl (fx.z 14 _ rfl) rfl (pA_cons (gE_call fx ih (t := t_16) 16 rfl rfl rfl rfl rfl rfl rfl hC hgd hr rfl (fun _ _ _ _ _ _ us hl => match us, hl with | [_], _ => rfl) (pA_cons (pE_var hn rfl (.inr (.inl rfl)) rfl rfl) pA_nil rfl) rfl rfl rfl) pA_nil rfl) (by decide) rfl rfl rfl) (pE_biB (bi_repr hgd hu) rfl (fx.z 14 _ rfl) rfl (pA_cons (pE_var hn rfl (.inl rfl) rfl rfl) pA_nil rfl) (by decide) rfl rfl rfl) rfl) (pW_or1 (pT_cmp hu (pE_biB (bi_repr hgd hu) rfl (fx.z 14 _ rfl) rfl (pA_cons (gE_callk0 fx ih (t := t_16) 16 (ks := ["hall"]) (at_ := [0]) rfl rfl rfl rfl rfl rfl rfl hC hgd hr rfl (by decide) (fun _ _ _ _ _ _ us ws h1 h2 => match us, ws, h1, h2 with | [], [_], _, _ => rfl) (pK_cons (pE_var hn rfl (.inl rfl) rfl rfl) pK_nil) rfl rfl rfl rfl) pA_nil rfl) (by decide) rfl rfl rfl) (pE_biB (bi_repr hgd hu) rfl (fx.z 14 _ rfl) rfl (pA_cons (pE_var hn rfl (.inr (.inl rfl)) rfl rfl) pA_nil rfl) (by decide) rfl rfl rfl) rfl)))) (pSs_one (pS_ret pE_bl)) pSs_nil))))))))) (fun _ => rfl)) (pSs_one (pS_ret pE_bl)))
theorem g_all (fx : Fx0 c T zs gs bs) : ∀ n i, GA c T n i := ga_all fun n i ih t h => match i, h with
  | 0, _ => g_0 fx ih
  | 1, _ => g_1 fx ih
  | 2, _ => g_2 fx ih
  | 3, _ => g_3 fx ih
  | 4, _ => g_4 fx ih
  | 5, _ => g_5 fx ih
  | 6, _ => g_6 fx ih
  | 7, _ => g_7 fx ih
  | 8, _ => g_8 fx ih
  | 9, _ => g_9 fx ih
  | 10, _ => g_10 fx ih
  | 11, _ => g_11 fx ih
  | 12, _ => g_12 fx ih
  | 13, _ => g_13 fx ih
  | 14, _ => g_14 fx ih
  | 15, _ => g_15 fx ih
  | 16, _ => g_16 fx ih
  | 17, _ => g_17 fx ih
  | 18, _ => g_18 fx ih
  | 19, _ => g_19 fx ih
  | 20, _ => g_20 fx ih
  | 21, _ => g_21 fx ih
  | 22, _ => g_22 fx ih
  | 23, _ => g_23 fx ih
  | 24, _ => g_24 fx ih
  | j + 25, h => absurd h (by simp [T])
end
theorem all_mk {l : PySem.W.OpenLaw} {w : World} {K : PySem.W.Frag} {h : Heap} {mg : Str → Option Value} {fa : Addr} (X : K.In h) (G : h.Ns mainGlobals mg) (hfa : mg "law" = some (.ref fa))
    {f0 f1 f2 f3 f4 f5 f6 f7 f8 f9 f10 f11 f12 f13 f14 f15 f16 f17 f18 f19 f20 f21 f22 f23 f24 : Addr} {od0 an0 od1 an1 od2 an2 od3 an3 od4 an4 od5 an5 od6 an6 od7 an7 od8 an8 od9 an9 od10 an10 od11 an11 od12 an12 od13 an13 od14 an14 od15 an15 od16 an16 od17 an17 od18 an18 od19 an19 od20 an20 od21 an21 od22 an22 od23 an23 od24 an24 : Option Addr} {sl0 sl1 sl2 sl3 sl4 sl5 sl6 sl7 sl8 sl9 sl10 sl11 sl12 sl13 sl14 sl15 sl16 sl17 sl18 sl19 sl20 sl21 sl22 sl23 sl24 : Array (Option Value)} {oc0 kV0 dc0 pm0 cd0 ct0 oc1 kV1 dc1 pm1 cd1 ct1 oc2 kV2 dc2 pm2 cd2 ct2 oc3 kV3 dc3 pm3 cd3 ct3 oc4 kV4 dc4 pm4 cd4 ct4 oc5 kV5 dc5 pm5 cd5 ct5 oc6 kV6 dc6 pm6 cd6 ct6 oc7 kV7 dc7 pm7 cd7 ct7 oc8 kV8 dc8 pm8 cd8 ct8 oc9 kV9 dc9 pm9 cd9 ct9 oc10 kV10 dc10 pm10 cd10 ct10 oc11 kV11 dc11 pm11 cd11 ct11 oc12 kV12 dc12 pm12 cd12 ct12 oc13 kV13 dc13 pm13 cd13 ct13 oc14 kV14 dc14 pm14 cd14 ct14 oc15 kV15 dc15 pm15 cd15 ct15 oc16 kV16 dc16 pm16 cd16 ct16 oc17 kV17 dc17 pm17 cd17 ct17 oc18 kV18 dc18 pm18 cd18 ct18 oc19 kV19 dc19 pm19 cd19 ct19 oc20 kV20 dc20 pm20 cd20 ct20 oc21 kV21 dc21 pm21 cd21 ct21 oc22 kV22 dc22 pm22 cd22 ct22 oc23 kV23 dc23 pm23 cd23 ct23 oc24 kV24 dc24 pm24 cd24 ct24 : Value}
    {tg0 tg1 tg2 tg3 tg4 tg5 tg6 : PySem.Tok}
    (a0 : PySem.W.nsIn K mainGlobals "is_integer" = some (some (.ref f0))) (l0 : K.lookup f0 = some ⟨oc0, od0, .func (PySem.W.fnOf "is_integer" "is_integer" (defArgs (top 6)) (defBody (top 6)) (defScope (top 6)) .none kV0 dc0 pm0 an0 cd0 ct0), sl0⟩) (c0 : PySem.W.codeIn K cd0 "is_integer" = true) (k0 : PySem.W.keepIn K (.ref f0) = true)
    (a1 : PySem.W.nsIn K mainGlobals "is_between" = some (some (.ref f1))) (l1 : K.lookup f1 = some ⟨oc1, od1, .func (PySem.W.fnOf "is_between" "is_between" (defArgs (top 7)) (defBody (top 7)) (defScope (top 7)) .none kV1 dc1 pm1 an1 cd1 ct1), sl1⟩) (c1 : PySem.W.codeIn K cd1 "is_between" = true) (k1 : PySem.W.keepIn K (.ref f1) = true)
    (a2 : PySem.W.nsIn K mainGlobals "is_tuple" = some (some (.ref f2))) (l2 : K.lookup f2 = some ⟨oc2, od2, .func (PySem.W.fnOf "is_tuple" "is_tuple" (defArgs (top 8)) (defBody (top 8)) (defScope (top 8)) .none kV2 dc2 pm2 an2 cd2 ct2), sl2⟩) (c2 : PySem.W.codeIn K cd2 "is_tuple" = true) (k2 : PySem.W.keepIn K (.ref f2) = true)
    (a3 : PySem.W.nsIn K mainGlobals "need_number" = some (some (.ref f3))) (l3 : K.lookup f3 = some ⟨oc3, od3, .func (PySem.W.fnOf "need_number" "need_number" (defArgs (top 9)) (defBody (top 9)) (defScope (top 9)) .none kV3 dc3 pm3 an3 cd3 ct3), sl3⟩) (c3 : PySem.W.codeIn K cd3 "need_number" = true) (k3 : PySem.W.keepIn K (.ref f3) = true)
    (a4 : PySem.W.nsIn K mainGlobals "is_ascending" = some (some (.ref f4))) (l4 : K.lookup f4 = some ⟨oc4, od4, .func (PySem.W.fnOf "is_ascending" "is_ascending" (defArgs (top 10)) (defBody (top 10)) (defScope (top 10)) .none kV4 dc4 pm4 an4 cd4 ct4), sl4⟩) (c4 : PySem.W.codeIn K cd4 "is_ascending" = true) (k4 : PySem.W.keepIn K (.ref f4) = true)
    (a5 : PySem.W.nsIn K mainGlobals "anew" = some (some (.ref f5))) (l5 : K.lookup f5 = some ⟨oc5, od5, .func (PySem.W.fnOf "anew" "anew" (defArgs (top 11)) (defBody (top 11)) (defScope (top 11)) .none kV5 dc5 pm5 an5 cd5 ct5), sl5⟩) (c5 : PySem.W.codeIn K cd5 "anew" = true) (k5 : PySem.W.keepIn K (.ref f5) = true)
    (a6 : PySem.W.nsIn K mainGlobals "is_stair" = some (some (.ref f6))) (l6 : K.lookup f6 = some ⟨oc6, od6, .func (PySem.W.fnOf "is_stair" "is_stair" (defArgs (top 20)) (defBody (top 20)) (defScope (top 20)) .none kV6 dc6 pm6 an6 cd6 ct6), sl6⟩) (c6 : PySem.W.codeIn K cd6 "is_stair" = true) (k6 : PySem.W.keepIn K (.ref f6) = true)
    (a7 : PySem.W.nsIn K mainGlobals "is_hall" = some (some (.ref f7))) (l7 : K.lookup f7 = some ⟨oc7, od7, .func (PySem.W.fnOf "is_hall" "is_hall" (defArgs (top 21)) (defBody (top 21)) (defScope (top 21)) .none kV7 dc7 pm7 an7 cd7 ct7), sl7⟩) (c7 : PySem.W.codeIn K cd7 "is_hall" = true) (k7 : PySem.W.keepIn K (.ref f7) = true)
    (a8 : PySem.W.nsIn K mainGlobals "need_hall" = some (some (.ref f8))) (l8 : K.lookup f8 = some ⟨oc8, od8, .func (PySem.W.fnOf "need_hall" "need_hall" (defArgs (top 22)) (defBody (top 22)) (defScope (top 22)) .none kV8 dc8 pm8 an8 cd8 ct8), sl8⟩) (c8 : PySem.W.codeIn K cd8 "need_hall" = true) (k8 : PySem.W.keepIn K (.ref f8) = true)
    (a9 : PySem.W.nsIn K mainGlobals "need_place" = some (some (.ref f9))) (l9 : K.lookup f9 = some ⟨oc9, od9, .func (PySem.W.fnOf "need_place" "need_place" (defArgs (top 23)) (defBody (top 23)) (defScope (top 23)) .none kV9 dc9 pm9 an9 cd9 ct9), sl9⟩) (c9 : PySem.W.codeIn K cd9 "need_place" = true) (k9 : PySem.W.keepIn K (.ref f9) = true)
    (a10 : PySem.W.nsIn K mainGlobals "is_crowd" = some (some (.ref f10))) (l10 : K.lookup f10 = some ⟨oc10, od10, .func (PySem.W.fnOf "is_crowd" "is_crowd" (defArgs (top 24)) (defBody (top 24)) (defScope (top 24)) .none kV10 dc10 pm10 an10 cd10 ct10), sl10⟩) (c10 : PySem.W.codeIn K cd10 "is_crowd" = true) (k10 : PySem.W.keepIn K (.ref f10) = true)
    (a11 : PySem.W.nsIn K mainGlobals "are_these_crowds" = some (some (.ref f11))) (l11 : K.lookup f11 = some ⟨oc11, od11, .func (PySem.W.fnOf "are_these_crowds" "are_these_crowds" (defArgs (top 25)) (defBody (top 25)) (defScope (top 25)) .none kV11 dc11 pm11 an11 cd11 ct11), sl11⟩) (c11 : PySem.W.codeIn K cd11 "are_these_crowds" = true) (k11 : PySem.W.keepIn K (.ref f11) = true)
    (a12 : PySem.W.nsIn K mainGlobals "need_crowds" = some (some (.ref f12))) (l12 : K.lookup f12 = some ⟨oc12, od12, .func (PySem.W.fnOf "need_crowds" "need_crowds" (defArgs (top 26)) (defBody (top 26)) (defScope (top 26)) .none kV12 dc12 pm12 an12 cd12 ct12), sl12⟩) (c12 : PySem.W.codeIn K cd12 "need_crowds" = true) (k12 : PySem.W.keepIn K (.ref f12) = true)
    (a13 : PySem.W.nsIn K mainGlobals "total_of" = some (some (.ref f13))) (l13 : K.lookup f13 = some ⟨oc13, od13, .func (PySem.W.fnOf "total_of" "total_of" (defArgs (top 27)) (defBody (top 27)) (defScope (top 27)) .none kV13 dc13 pm13 an13 cd13 ct13), sl13⟩) (c13 : PySem.W.codeIn K cd13 "total_of" = true) (k13 : PySem.W.keepIn K (.ref f13) = true)
    (a14 : PySem.W.nsIn K mainGlobals "people_in" = some (some (.ref f14))) (l14 : K.lookup f14 = some ⟨oc14, od14, .func (PySem.W.fnOf "people_in" "people_in" (defArgs (top 28)) (defBody (top 28)) (defScope (top 28)) .none kV14 dc14 pm14 an14 cd14 ct14), sl14⟩) (c14 : PySem.W.codeIn K cd14 "people_in" = true) (k14 : PySem.W.keepIn K (.ref f14) = true)
    (a15 : PySem.W.nsIn K mainGlobals "ticks_to" = some (some (.ref f15))) (l15 : K.lookup f15 = some ⟨oc15, od15, .func (PySem.W.fnOf "ticks_to" "ticks_to" (defArgs (top 29)) (defBody (top 29)) (defScope (top 29)) .none kV15 dc15 pm15 an15 cd15 ct15), sl15⟩) (c15 : PySem.W.codeIn K cd15 "ticks_to" = true) (k15 : PySem.W.keepIn K (.ref f15) = true)
    (a16 : PySem.W.nsIn K mainGlobals "turned_all" = some (some (.ref f16))) (l16 : K.lookup f16 = some ⟨oc16, od16, .func (PySem.W.fnOf "turned_all" "turned_all" (defArgs (top 30)) (defBody (top 30)) (defScope (top 30)) .none kV16 dc16 pm16 an16 cd16 ct16), sl16⟩) (c16 : PySem.W.codeIn K cd16 "turned_all" = true) (k16 : PySem.W.keepIn K (.ref f16) = true)
    (a17 : PySem.W.nsIn K mainGlobals "_law_source" = some (some (.ref f17))) (l17 : K.lookup f17 = some ⟨oc17, od17, .func (PySem.W.fnOf "_law_source" "_law_source" (defArgs (top 32)) (defBody (top 32)) (defScope (top 32)) .none kV17 dc17 pm17 an17 cd17 ct17), sl17⟩) (c17 : PySem.W.codeIn K cd17 "_law_source" = true) (k17 : PySem.W.keepIn K (.ref f17) = true)
    (a18 : PySem.W.nsIn K mainGlobals "_law_pick" = some (some (.ref f18))) (l18 : K.lookup f18 = some ⟨oc18, od18, .func (PySem.W.fnOf "_law_pick" "_law_pick" (defArgs (top 33)) (defBody (top 33)) (defScope (top 33)) .none kV18 dc18 pm18 an18 cd18 ct18), sl18⟩) (c18 : PySem.W.codeIn K cd18 "_law_pick" = true) (k18 : PySem.W.keepIn K (.ref f18) = true)
    (a19 : PySem.W.nsIn K mainGlobals "_law_hall" = some (some (.ref f19))) (l19 : K.lookup f19 = some ⟨oc19, od19, .func (PySem.W.fnOf "_law_hall" "_law_hall" (defArgs (top 34)) (defBody (top 34)) (defScope (top 34)) .none kV19 dc19 pm19 an19 cd19 ct19), sl19⟩) (c19 : PySem.W.codeIn K cd19 "_law_hall" = true) (k19 : PySem.W.keepIn K (.ref f19) = true)
    (a20 : PySem.W.nsIn K mainGlobals "_law_crowds" = some (some (.ref f20))) (l20 : K.lookup f20 = some ⟨oc20, od20, .func (PySem.W.fnOf "_law_crowds" "_law_crowds" (defArgs (top 35)) (defBody (top 35)) (defScope (top 35)) .none kV20 dc20 pm20 an20 cd20 ct20), sl20⟩) (c20 : PySem.W.codeIn K cd20 "_law_crowds" = true) (k20 : PySem.W.keepIn K (.ref f20) = true)
    (a21 : PySem.W.nsIn K mainGlobals "_law_total" = some (some (.ref f21))) (l21 : K.lookup f21 = some ⟨oc21, od21, .func (PySem.W.fnOf "_law_total" "_law_total" (defArgs (top 36)) (defBody (top 36)) (defScope (top 36)) .none kV21 dc21 pm21 an21 cd21 ct21), sl21⟩) (c21 : PySem.W.codeIn K cd21 "_law_total" = true) (k21 : PySem.W.keepIn K (.ref f21) = true)
    (a22 : PySem.W.nsIn K mainGlobals "_law_first_tick" = some (some (.ref f22))) (l22 : K.lookup f22 = some ⟨oc22, od22, .func (PySem.W.fnOf "_law_first_tick" "_law_first_tick" (defArgs (top 37)) (defBody (top 37)) (defScope (top 37)) .none kV22 dc22 pm22 an22 cd22 ct22), sl22⟩) (c22 : PySem.W.codeIn K cd22 "_law_first_tick" = true) (k22 : PySem.W.keepIn K (.ref f22) = true)
    (a23 : PySem.W.nsIn K mainGlobals "_law_steps_fit" = some (some (.ref f23))) (l23 : K.lookup f23 = some ⟨oc23, od23, .func (PySem.W.fnOf "_law_steps_fit" "_law_steps_fit" (defArgs (top 38)) (defBody (top 38)) (defScope (top 38)) .none kV23 dc23 pm23 an23 cd23 ct23), sl23⟩) (c23 : PySem.W.codeIn K cd23 "_law_steps_fit" = true) (k23 : PySem.W.keepIn K (.ref f23) = true)
    (a24 : PySem.W.nsIn K mainGlobals "law" = some (some (.ref f24))) (l24 : K.lookup f24 = some ⟨oc24, od24, .func (PySem.W.fnOf "law" "law" (defArgs (top 39)) (defBody (top 39)) (defScope (top 39)) .none kV24 dc24 pm24 an24 cd24 ct24), sl24⟩) (c24 : PySem.W.codeIn K cd24 "law" = true) (k24 : PySem.W.keepIn K (.ref f24) = true)
    (z0 : PySem.W.nsIn K mainGlobals "isinstance" = some none)
    (z1 : PySem.W.nsIn K mainGlobals "int" = some none)
    (z2 : PySem.W.nsIn K mainGlobals "bool" = some none)
    (z3 : PySem.W.nsIn K mainGlobals "tuple" = some none)
    (z4 : PySem.W.nsIn K mainGlobals "len" = some none)
    (z5 : PySem.W.nsIn K mainGlobals "zip" = some none)
    (z6 : PySem.W.nsIn K mainGlobals "all" = some none)
    (z7 : PySem.W.nsIn K mainGlobals "list" = some none)
    (z8 : PySem.W.nsIn K mainGlobals "sum" = some none)
    (z9 : PySem.W.nsIn K mainGlobals "range" = some none)
    (z10 : PySem.W.nsIn K mainGlobals "abs" = some none)
    (z11 : PySem.W.nsIn K mainGlobals "sorted" = some none)
    (z12 : PySem.W.nsIn K mainGlobals "min" = some none)
    (z13 : PySem.W.nsIn K mainGlobals "max" = some none)
    (z14 : PySem.W.nsIn K mainGlobals "repr" = some none)
    (g0 : PySem.W.nsIn K mainGlobals "MOST_TIME" = some (some (.int 6 tg0)))
    (g1 : PySem.W.nsIn K mainGlobals "MOST_CAPACITY" = some (some (.int 9 tg1)))
    (g2 : PySem.W.nsIn K mainGlobals "MOST_PLACES" = some (some (.int 8 tg2)))
    (g3 : PySem.W.nsIn K mainGlobals "MOST_STAIRS" = some (some (.int 16 tg3)))
    (g4 : PySem.W.nsIn K mainGlobals "LAST_TICK" = some (some (.int 40 tg4)))
    (g5 : PySem.W.nsIn K mainGlobals "MOST_MANY" = some (some (.int 60 tg5)))
    (g6 : PySem.W.nsIn K mainGlobals "MOST_CROWDS" = some (some (.int 40 tg6)))
    : ∃ fd : FuncData, (∀ (s : Shared) (v : Value), BindsTo s fd ⟨[v], []⟩ [("script", v)]) ∧ ∀ base : Heap, K.In base → base.Ns mainGlobals mg → FnG l.prog w K mg base CX0 12 fa fd ["script"] (spD (pOf T) 12 24 1) := by
  have e := hfa.symm.trans (PySem.W.mg_of X G a24)
  cases e
  refine ⟨PySem.W.fnOf "law" "law" (defArgs (top 39)) (defBody (top 39)) (defScope (top 39)) .none kV24 dc24 pm24 an24 cd24 ct24, fun s v => .of_eq rfl, fun base _ _ => ?_⟩
  have fx := fx_mk (P0 := l.prog) (w := w) (base := base) (T := T) (zs := zs) (gs := gs) (bs := bs) (fa, PySem.W.fnOf "law" "law" (defArgs (top 39)) (defBody (top 39)) (defScope (top 39)) .none kV24 dc24 pm24 an24 cd24 ct24) (K := K) (mg := mg) (.cons (fun_mk l0 c0 k0) (PySem.W.mg_of X G a0) (.cons (fun_mk l1 c1 k1) (PySem.W.mg_of X G a1) (.cons (fun_mk l2 c2 k2) (PySem.W.mg_of X G a2) (.cons (fun_mk l3 c3 k3) (PySem.W.mg_of X G a3) (.cons (fun_mk l4 c4 k4) (PySem.W.mg_of X G a4) (.cons (fun_mk l5 c5 k5) (PySem.W.mg_of X G a5) (.cons (fun_mk l6 c6 k6) (PySem.W.mg_of X G a6) (.cons (fun_mk l7 c7 k7) (PySem.W.mg_of X G a7) (.cons (fun_mk l8 c8 k8) (PySem.W.mg_of X G a8) (.cons (fun_mk l9 c9 k9) (PySem.W.mg_of X G a9) (.cons (fun_mk l10 c10 k10) (PySem.W.mg_of X G a10) (.cons (fun_mk l11 c11 k11) (PySem.W.mg_of X G a11) (.cons (fun_mk l12 c12 k12) (PySem.W.mg_of X G a12) (.cons (fun_mk l13 c13 k13) (PySem.W.mg_of X G a13) (.cons (fun_mk l14 c14 k14) (PySem.W.mg_of X G a14) (.cons (fun_mk l15 c15 k15) (PySem.W.mg_of X G a15) (.cons (fun_mk l16 c16 k16) (PySem.W.mg_of X G a16) (.cons (fun_mk l17 c17 k17) (PySem.W.mg_of X G a17) (.cons (fun_mk l18 c18 k18) (PySem.W.mg_of X G a18) (.cons (fun_mk l19 c19 k19) (PySem.W.mg_of X G a19) (.cons (fun_mk l20 c20 k20) (PySem.W.mg_of X G a20) (.cons (fun_mk l21 c21 k21) (PySem.W.mg_of X G a21) (.cons (fun_mk l22 c22 k22) (PySem.W.mg_of X G a22) (.cons (fun_mk l23 c23 k23) (PySem.W.mg_of X G a23) (.cons (fun_mk l24 c24 k24) (PySem.W.mg_of X G a24) .nil))))))))))))))))))))))))) (.cons (PySem.W.mg_none_of X G z0) (.cons (PySem.W.mg_none_of X G z1) (.cons (PySem.W.mg_none_of X G z2) (.cons (PySem.W.mg_none_of X G z3) (.cons (PySem.W.mg_none_of X G z4) (.cons (PySem.W.mg_none_of X G z5) (.cons (PySem.W.mg_none_of X G z6) (.cons (PySem.W.mg_none_of X G z7) (.cons (PySem.W.mg_none_of X G z8) (.cons (PySem.W.mg_none_of X G z9) (.cons (PySem.W.mg_none_of X G z10) (.cons (PySem.W.mg_none_of X G z11) (.cons (PySem.W.mg_none_of X G z12) (.cons (PySem.W.mg_none_of X G z13) (.cons (PySem.W.mg_none_of X G z14) .nil))))))))))))))) (.cons ⟨_, PySem.W.mg_of X G g0⟩ (.cons ⟨_, PySem.W.mg_of X G g1⟩ (.cons ⟨_, PySem.W.mg_of X G g2⟩ (.cons ⟨_, PySem.W.mg_of X G g3⟩ (.cons ⟨_, PySem.W.mg_of X G g4⟩ (.cons ⟨_, PySem.W.mg_of X G g5⟩ (.cons ⟨_, PySem.W.mg_of X G g6⟩ .nil))))))) .nil
  exact g_all fx 12 24 t_24 rfl
end K01
open PySem PySem.W PyProof.Rows
set_option maxRecDepth 100000 in
set_option maxHeartbeats 0 in
theorem PySem.Challenge.cw_stairsintime_k01_ticks_to_a_goal_holds : PySem.Challenge.rw_stairsintime_k01_ticks_to_a_goal.Holds := by
  w_on; o_law; k_head; (case hw => w_witness2)
  k_fill
  refine MP.end_walk (l := PySem.Challenge.rw_stairsintime_k01_ticks_to_a_goal) (m := 63) (k := 12) (x := "script") (CX := fun _ => L2.CX0) (sp := MP.spD (MP.pOf K01.T) 12 24 1) rfl (by decide) rfl ⟨rfl, by decide, by decide⟩ (fun w h Y => PySem.W.kIn_of Y) ?hK ?F (fun a vs ns hl hi => K01.law_sp a vs ns hl) fun _ _ _ _ _ z => z
  case hK => intro P; rfl
  case F =>
    intro w mg fa h KX G hmg
    refine' K01.all_mk KX G hmg ?mpa0 ?mpl0 ?mpc0 ?mpk0 ?mpa1 ?mpl1 ?mpc1 ?mpk1 ?mpa2 ?mpl2 ?mpc2 ?mpk2 ?mpa3 ?mpl3 ?mpc3 ?mpk3 ?mpa4 ?mpl4 ?mpc4 ?mpk4 ?mpa5 ?mpl5 ?mpc5 ?mpk5 ?mpa6 ?mpl6 ?mpc6 ?mpk6 ?mpa7 ?mpl7 ?mpc7 ?mpk7 ?mpa8 ?mpl8 ?mpc8 ?mpk8 ?mpa9 ?mpl9 ?mpc9 ?mpk9 ?mpa10 ?mpl10 ?mpc10 ?mpk10 ?mpa11 ?mpl11 ?mpc11 ?mpk11 ?mpa12 ?mpl12 ?mpc12 ?mpk12 ?mpa13 ?mpl13 ?mpc13 ?mpk13 ?mpa14 ?mpl14 ?mpc14 ?mpk14 ?mpa15 ?mpl15 ?mpc15 ?mpk15 ?mpa16 ?mpl16 ?mpc16 ?mpk16 ?mpa17 ?mpl17 ?mpc17 ?mpk17 ?mpa18 ?mpl18 ?mpc18 ?mpk18 ?mpa19 ?mpl19 ?mpc19 ?mpk19 ?mpa20 ?mpl20 ?mpc20 ?mpk20 ?mpa21 ?mpl21 ?mpc21 ?mpk21 ?mpa22 ?mpl22 ?mpc22 ?mpk22 ?mpa23 ?mpl23 ?mpc23 ?mpk23 ?mpa24 ?mpl24 ?mpc24 ?mpk24 ?mpz0 ?mpz1 ?mpz2 ?mpz3 ?mpz4 ?mpz5 ?mpz6 ?mpz7 ?mpz8 ?mpz9 ?mpz10 ?mpz11 ?mpz12 ?mpz13 ?mpz14 ?mpg0 ?mpg1 ?mpg2 ?mpg3 ?mpg4 ?mpg5 ?mpg6
    (case mpa0 => k_is)
    (case mpl0 => k_is)
    (case mpc0 => k_is)
    (case mpk0 => k_is)
    (case mpa1 => k_is)
    (case mpl1 => k_is)
    (case mpc1 => k_is)
    (case mpk1 => k_is)
    (case mpa2 => k_is)
    (case mpl2 => k_is)
    (case mpc2 => k_is)
    (case mpk2 => k_is)
    (case mpa3 => k_is)
    (case mpl3 => k_is)
    (case mpc3 => k_is)
    (case mpk3 => k_is)
    (case mpa4 => k_is)
    (case mpl4 => k_is)
    (case mpc4 => k_is)
    (case mpk4 => k_is)
    (case mpa5 => k_is)
    (case mpl5 => k_is)
    (case mpc5 => k_is)
    (case mpk5 => k_is)
    (case mpa6 => k_is)
    (case mpl6 => k_is)
    (case mpc6 => k_is)
    (case mpk6 => k_is)
    (case mpa7 => k_is)
    (case mpl7 => k_is)
    (case mpc7 => k_is)
    (case mpk7 => k_is)
    (case mpa8 => k_is)
    (case mpl8 => k_is)
    (case mpc8 => k_is)
    (case mpk8 => k_is)
    (case mpa9 => k_is)
    (case mpl9 => k_is)
    (case mpc9 => k_is)
    (case mpk9 => k_is)
    (case mpa10 => k_is)
    (case mpl10 => k_is)
    (case mpc10 => k_is)
    (case mpk10 => k_is)
    (case mpa11 => k_is)
    (case mpl11 => k_is)
    (case mpc11 => k_is)
    (case mpk11 => k_is)
    (case mpa12 => k_is)
    (case mpl12 => k_is)
    (case mpc12 => k_is)
    (case mpk12 => k_is)
    (case mpa13 => k_is)
    (case mpl13 => k_is)
    (case mpc13 => k_is)
    (case mpk13 => k_is)
    (case mpa14 => k_is)
    (case mpl14 => k_is)
    (case mpc14 => k_is)
    (case mpk14 => k_is)
    (case mpa15 => k_is)
    (case mpl15 => k_is)
    (case mpc15 => k_is)
    (case mpk15 => k_is)
    (case mpa16 => k_is)
    (case mpl16 => k_is)
    (case mpc16 => k_is)
    (case mpk16 => k_is)
    (case mpa17 => k_is)
    (case mpl17 => k_is)
    (case mpc17 => k_is)
    (case mpk17 => k_is)
    (case mpa18 => k_is)
    (case mpl18 => k_is)
    (case mpc18 => k_is)
    (case mpk18 => k_is)
    (case mpa19 => k_is)
    (case mpl19 => k_is)
    (case mpc19 => k_is)
    (case mpk19 => k_is)
    (case mpa20 => k_is)
    (case mpl20 => k_is)
    (case mpc20 => k_is)
    (case mpk20 => k_is)
    (case mpa21 => k_is)
    (case mpl21 => k_is)
    (case mpc21 => k_is)
    (case mpk21 => k_is)
    (case mpa22 => k_is)
    (case mpl22 => k_is)
    (case mpc22 => k_is)
    (case mpk22 => k_is)
    (case mpa23 => k_is)
    (case mpl23 => k_is)
    (case mpc23 => k_is)
    (case mpk23 => k_is)
    (case mpa24 => k_is)
    (case mpl24 => k_is)
    (case mpc24 => k_is)
    (case mpk24 => k_is)
    (case mpz0 => k_is)
    (case mpz1 => k_is)
    (case mpz2 => k_is)
    (case mpz3 => k_is)
    (case mpz4 => k_is)
    (case mpz5 => k_is)
    (case mpz6 => k_is)
    (case mpz7 => k_is)
    (case mpz8 => k_is)
    (case mpz9 => k_is)
    (case mpz10 => k_is)
    (case mpz11 => k_is)
    (case mpz12 => k_is)
    (case mpz13 => k_is)
    (case mpz14 => k_is)
    (case mpg0 => k_is)
    (case mpg1 => k_is)
    (case mpg2 => k_is)
    (case mpg3 => k_is)
    (case mpg4 => k_is)
    (case mpg5 => k_is)
    (case mpg6 => k_is)
#print axioms PySem.Challenge.cw_stairsintime_k01_ticks_to_a_goal_holds
