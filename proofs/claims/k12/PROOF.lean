import PyProof.Rows.All
import Wide.All
import OpenK.AllK
import Wide.FinOn
import KE.SortData
import KE.KeyNested
import HandS.Base
import HandS.List
import HandS.Call
import HandS.Exc
import HandS.ExcOwn
import HandS.ExcIs
import HandS.Words
import HandS.WordsExc
import HandS.Set
import HandS.ForMost
import HandS.Style
import HandS.Flow
import HandS.Iter
import HandS.Dict
import KE.KDictKeyed
import KE.KDictPairs
import KE.KDictWalk
import HandS.SetFor
import HandS.IsInst
import HandS.Comp
import HandS.Defaults
import HandS.TupSets
import HandS.ExcValue
import KE.KDictCopyH
import KE.KDictSum
import HandS.Head0
import HandS.Head1
import HandS.Head2
import HandS.HeadEnd
import HandS.HeadHook1
import HandS.HeadHook2
import PyProof.ExcBaseAll.ValueError
import HandS.EndBits
import KE.KStateDown
import Lean
import HandS.ForExc
import HandS.HeadHook3
import PySem.Challenge.RW_manyquill_k12_whole_versions
section
set_option Elab.async false
set_option linter.all false
/-! The core language: values, the store, the evaluator. Plain Lean, no machine. -/
namespace Qc
open PySem

/-- a value; fl: a list that is never changed; obj: an object of the store; exn: an exception of a class; con: a dict of the module, never changed -/
inductive D where
  | non | bl (b : Bool) | int (i : Int) | str (x : Str) | tup (xs : List D) | fl (xs : List D) | obj (n : Nat) | exn (c : Nat) | con (k : Nat)
  deriving Inhabited
/-- an object of the store -/
inductive O where
  | lst (xs : List D) | dct (kvs : List (D × D)) | ins (c : Nat) (fs : List (Nat × D))
  deriving Inhabited
/-- what an expression comes to: a value, or a list, a set, a dict that none holds yet -/
inductive U where
  | v (d : D) | l (xs : List D) | s (xs : List D) | d (kvs : List (D × D))
  deriving Inhabited
abbrev Sto := List O
inductive R (α : Type) where
  | ok (a : α) (S : Sto) | exc (c : Nat) (S : Sto) | stuck
abbrev M (α : Type) := Sto → R α
@[simp] def pur {α : Type} (a : α) : M α := fun S => .ok a S
def bnd {α β : Type} (m : M α) (k : α → M β) : M β := fun S => match m S with
  | .ok a S' => k a S'
  | .exc c S' => .exc c S'
  | .stuck => .stuck
def stk {α : Type} : M α := fun _ => .stuck
def rai {α : Type} (c : Nat) : M α := fun S => .exc c S
instance : Monad M where
  pure := pur
  bind := bnd
def opt {α : Type} (o : Option α) : M α := match o with
  | some a => pur a
  | none => stk
def guard (b : Bool) : M Unit := if b = true then pur () else stk
def getS : M Sto := fun S => .ok S S
def alloc (o : O) : M D := fun S => .ok (.obj S.length) (S ++ [o])
def look (n : Nat) : M O := fun S => match S[n]? with
  | some o => .ok o S
  | none => .stuck
def putO (n : Nat) (o : O) : M Unit := fun S => .ok () (S.set n o)

mutual
/-- a key: what two values that are == have in common -/
def D.key : D → Option NestedKey
  | .non => some .none
  | .bl b => some (.num (if b = true then 1 else 0))
  | .int i => some (.num i)
  | .str x => some (.text x)
  | .tup xs => (D.keys xs).map .tup
  | .fl _ => none
  | .obj _ => none
  | .exn _ => none
  | .con _ => none
def D.keys : List D → Option (List NestedKey)
  | [] => some []
  | x :: xs => match D.key x, D.keys xs with
    | some k, some ks => some (k :: ks)
    | _, _ => none
end
mutual
/-- the value as data of the library's (immutable ones) -/
def D.pd : D → Option PyData
  | .non => some .none
  | .bl b => some (.bool b)
  | .int i => some (.int i)
  | .str x => some (.str x)
  | .tup xs => (D.pds xs).map .tuple
  | .fl xs => (D.pds xs).map .list
  | .obj _ => none
  | .exn _ => none
  | .con _ => none
def D.pds : List D → Option (List PyData)
  | [] => some []
  | x :: xs => match D.pd x, D.pds xs with
    | some k, some ks => some (k :: ks)
    | _, _ => none
end
def D.pdd (d : D) : PyData := d.pd.getD .none

def settle : U → M D
  | .v d => pur d
  | .l xs => alloc (.lst xs)
  | .d kvs => alloc (.dct kvs)
  | .s _ => stk
/-- the items of a list or a tuple -/
def sq : U → M (List D)
  | .v (.tup xs) => pur xs
  | .v (.obj n) => bnd (look n) fun o => match o with
    | .lst xs => pur xs
    | _ => stk
  | .v (.fl xs) => pur xs
  | .l xs => pur xs
  | _ => stk
/-- the items of a list alone -/
def sqL : U → M (List D)
  | .v (.obj n) => bnd (look n) fun o => match o with
    | .lst xs => pur xs
    | _ => stk
  | .v (.fl xs) => pur xs
  | .l xs => pur xs
  | _ => stk
def dcL : U → M (List (D × D))
  | .v (.obj n) => bnd (look n) fun o => match o with
    | .dct kvs => pur kvs
    | _ => stk
  | .d kvs => pur kvs
  | _ => stk

/-! ### dicts by keys -/
/-- a key of a dict, a set -/
def okey (d : D) : Option NestedKey := match d.key with
  | some k => if k.depth ≤ 8 then some k else none
  | none => none
def keyIs (k : NestedKey) (d : D) : Bool := decide (okey d = some k)
def dLook (kvs : List (D × D)) (k : NestedKey) : Option D := (kvs.find? fun p => keyIs k p.1).map (·.2)
def dHas (kvs : List (D × D)) (k : NestedKey) : Bool := kvs.any fun p => keyIs k p.1
def dPut (kvs : List (D × D)) (d : D) (k : NestedKey) (v : D) : List (D × D) :=
  if dHas kvs k = true then kvs.map fun p => if keyIs k p.1 = true then (p.1, v) else p else kvs ++ [(d, v)]
/-- dict(pairs) -/
def dPairs : List (D × D) → List D → Option (List (D × D))
  | acc, [] => some acc
  | acc, .tup [a, b] :: r => match okey a with
    | some k => dPairs (dPut acc a k b) r
    | none => none
  | _, _ :: _ => none
/-- set(items) -/
def sAdd : List D → List D → Option (List D)
  | acc, [] => some acc
  | acc, a :: r => match okey a with
    | some k => if (acc.any (keyIs k)) = true then sAdd acc r else sAdd (acc ++ [a]) r
    | none => none

/-! ### sorting -/
def alikeB (ps : List PyData) : Bool := ps.all fun a => ps.all fun b => PySem.W.alike a b
def isTupB : PyData → Bool
  | .tuple (_ :: _) => true
  | _ => false
def noTupB : PyData → Bool
  | .none => false
  | .tuple _ => false
  | _ => true
def sortableB (ps : List PyData) : Bool := ps.all isTupB || ps.all noTupB
def sortD (xs : List D) : Option (List D) := match D.pds xs with
  | some ps => if (alikeB ps && sortableB ps && decide (PyData.depthAll ps ≤ 60) && decide (xs.length < 64)) = true then some (xs.mergeSort (PySem.W.dataLe false D.pdd)) else none
  | none => none

/-- of a set: no two of one rank -/
def strictB : List D → Bool
  | [] => true
  | x :: xs => (xs.all fun y => !(PySem.W.dataLe false D.pdd y x)) && strictB xs
def sortDS (xs : List D) : Option (List D) := match sortD xs with
  | some ys => if strictB ys = true then some ys else none
  | none => none
/-- a whole number, a text -/
def isFlatK : D → Bool
  | .int _ => true
  | .str _ => true
  | _ => false
def isTupD : D → Bool
  | .tup _ => true
  | _ => false

/-! ### operators -/
inductive Bop where
  | add | sub | mul | mod | fdiv | pow
  deriving DecidableEq
inductive Cop where
  | eq | ne | lt | le | gt | ge | is_ | isn | in_ | nin
  deriving DecidableEq
abbrev line : Nat := sizeLine
def okLen (n : Nat) : Bool := decide (n ≤ line)
def big64 : Int := 2 ^ 64
def mulOk (i j : Int) : Bool := (decide (-big64 < i) && decide (i < big64)) || (decide (-big64 < j) && decide (j < big64))
def bopD (o : Bop) (a b : D) : M U := match o, a, b with
  | .add, .int i, .int j => pur (.v (.int (i + j)))
  | .add, .str x, .str y => bnd (guard (okLen (x.length + y.length))) fun _ => pur (.v (.str (x ++ y)))
  | .add, .tup (x :: xs), .tup ys => bnd (guard (okLen ((x :: xs).length + ys.length))) fun _ => pur (.v (.tup ((x :: xs) ++ ys)))
  | .sub, .int i, .int j => pur (.v (.int (i - j)))
  | .mul, .int i, .int j => bnd (guard (mulOk i j)) fun _ => pur (.v (.int (i * j)))
  | .mod, .int i, .int j => bnd (guard (decide (0 < j))) fun _ => pur (.v (.int (i % j)))
  | .fdiv, .int i, .int j => bnd (guard (decide (0 < j) && decide (j < 1073741824))) fun _ => pur (.v (.int (i / j)))
  | .pow, .int i, .int j => bnd (guard (decide (0 ≤ j) && decide (j ≤ 1000000) && decide (i.natAbs < 2 ^ 64))) fun _ => pur (.v (.int (i ^ j.toNat)))
  | _, _, _ => stk
def isL : U → Bool
  | .l _ => true
  | .v (.obj _) => true
  | _ => false
/-- the items of a list that may be changed -/
def lsO : U → M (List D)
  | .v (.obj n) => bnd (look n) fun o => match o with
    | .lst xs => pur xs
    | _ => stk
  | .l xs => pur xs
  | _ => stk
def bop (o : Bop) (a b : U) : M U :=
  if isL a = true then (match o with
    | .add => bnd (lsO a) fun xs => bnd (lsO b) fun ys => bnd (guard (okLen (xs.length + ys.length))) fun _ => pur (.l (xs ++ ys))
    | .mul => bnd (lsO a) fun xs => (match b with
      | .v (.int k) => bnd (guard (decide (0 ≤ k) && decide (k < 1000000) && okLen (xs.length * k.toNat))) fun _ => pur (.l (List.replicate k.toNat xs).flatten)
      | _ => stk)
    | _ => stk)
  else (match a, b with
    | .v x, .v y => bopD o x y
    | _, _ => stk)
/-- a value, a list as data, for == -/
def upd : U → M PyData
  | .v (.obj n) => bnd (look n) fun o => match o with
    | .lst xs => opt ((D.pds xs).map .list)
    | _ => stk
  | .v d => opt d.pd
  | .l xs => opt ((D.pds xs).map .list)
  | _ => stk
def strLt (x y : Str) : Bool := decide (x.cps.toList < y.cps.toList)
def isSign : Str → Option Nat
  | ⟨#[c]⟩ => some c
  | _ => none
def cop (o : Cop) (a b : U) : M Bool := match o, a, b with
  | .eq, a, b => bnd (upd a) fun p => bnd (upd b) fun q => bnd (guard (PySem.SeqAt.shaped p && PySem.SeqAt.shaped q)) fun _ => pur (PyData.eqv p q)
  | .ne, a, b => bnd (upd a) fun p => bnd (upd b) fun q => bnd (guard (PySem.SeqAt.shaped p && PySem.SeqAt.shaped q)) fun _ => pur (!PyData.eqv p q)
  | .lt, .v (.int i), .v (.int j) => pur (decide (i < j))
  | .le, .v (.int i), .v (.int j) => pur (decide (i ≤ j))
  | .gt, .v (.int i), .v (.int j) => pur (decide (j < i))
  | .ge, .v (.int i), .v (.int j) => pur (decide (j ≤ i))
  | .lt, .v (.str x), .v (.str y) => pur (strLt x y)
  | .le, .v (.str x), .v (.str y) => pur (!strLt y x)
  | .gt, .v (.str x), .v (.str y) => pur (strLt y x)
  | .ge, .v (.str x), .v (.str y) => pur (!strLt x y)
  | .is_, .v d, .v .non => (match d with
    | .non => pur true
    | _ => pur false)
  | .isn, .v d, .v .non => (match d with
    | .non => pur false
    | _ => pur true)
  | .is_, .v (.bl b), .v (.bl c) => pur (b == c)
  | .in_, .v (.str x), .v (.str y) => (match isSign x with
    | some c => pur (decide (c ∈ y.cps.toList))
    | none => stk)
  | .nin, .v (.str x), .v (.str y) => (match isSign x with
    | some c => pur (!decide (c ∈ y.cps.toList))
    | none => stk)
  | _, _, _ => stk
def truD : D → Option Bool
  | .non => some false
  | .bl b => some b
  | .int i => some (i != 0)
  | .str x => if okLen x.length = true then some ((x.length : Int) != 0) else none
  | .tup xs => some (!xs.isEmpty)
  | .fl xs => some (!xs.isEmpty)
  | _ => none
def tru : U → M Bool
  | .v (.obj n) => bnd (look n) fun o => match o with
    | .lst xs => pur (!xs.isEmpty)
    | _ => stk
  | .v d => opt (truD d)
  | .l xs => pur (!xs.isEmpty)
  | _ => stk

/-! ### types -/
inductive Ty where
  | int | bool | str | tuple | list | dict | valueError | exc (c : Nat) | cls (c : Nat)
  deriving DecidableEq
/-- subs c: the exception classes that c lies under, itself too -/
structure Cl where
  init : Option Nat
  meths : List (Nat × Nat)
  deriving Inhabited
/-- built-in functions of one argument, of two; methods of built-in types with one argument, with two -/
inductive B1 where
  | len | all | any | list | tuple | dict | set | sorted | max | min
  deriving DecidableEq
inductive B2 where
  | max | min
  deriving DecidableEq
inductive M1 where
  | append | count | index
  deriving DecidableEq
inductive M2 where
  | get
  deriving DecidableEq
mutual
inductive E where
  | var (i : Nat)
  | lit (d : D)
  | gv (g : Nat)
  | tup (es : Es)
  | lst (es : Es)
  | dic
  | bin (o : Bop) (a b : E)
  | cmp (o : Cop) (a b : E)
  | chn (o p : Cop) (a b c : E)
  | and (es : Es)
  | or (es : Es)
  | not (a : E)
  | ife (c : T) (a b : E)
  | ix (a i : E)
  | call (f : Nat) (es : Es)
  | isi (a : E) (t : Ty)
  | b1 (o : B1) (a : E)
  | b2 (o : B2) (a b : E)
  | m1 (o : M1) (a b : E)
  | m2 (o : M2) (a b c : E)
  | lc (elt : E) (tg : List Nat) (one : Bool) (it : It) (ifs : Ts)
inductive Es where
  | nil | cons (e : E) (es : Es)
inductive It where
  | rng (a : E) | rng2 (a b : E) | of (a : E)
/-- a test -/
inductive T where
  | of (e : E) | and (ts : Ts) | or (ts : Ts) | not (t : T)
inductive Ts where
  | nil | cons (t : T) (ts : Ts)
end
mutual
inductive St where
  | asg (tg : List Nat) (one : Bool) (e : E)
  | seti (o i e : E)
  | expr (e : E)
  | ret (e : E)
  | rai (c : Nat)
  | pass | brk | cnt
  | ite (c : T) (a b : Sts)
  | for_ (tg : List Nat) (one : Bool) (it : It) (body : Sts)
  | whl (c : T) (body : Sts)
  | tryAs (body : Sts) (c : Nat) (x y : Nat)
inductive Sts where
  | nil | cons (s : St) (ss : Sts)
end
structure Fn where
  np : Nat
  ns : Nat
  dfl : List D
  pure : Bool
  body : Sts
structure Pg where
  fns : List Fn
  cls : List Cl
  gvs : List D
  cons : List (List (D × D))
  /-- of an exception's class: those that it lies under -/
  sup : List (List Nat)
abbrev Env := List (Option D)
def setV (ρ : Env) (i : Nat) (d : D) : Env := ρ.set i (some d)
def setVs : Env → List Nat → List D → Option Env
  | ρ, [], [] => some ρ
  | ρ, i :: is, d :: ds => setVs (setV ρ i d) is ds
  | _, _, _ => none
def target (ρ : Env) (tg : List Nat) (one : Bool) (d : D) : M Env := match one, tg with
  | true, [i] => pur (setV ρ i d)
  | false, is => (match d with
    | .tup xs => opt (setVs ρ is xs)
    | _ => stk)
  | _, _ => stk
def isExn (pg : Pg) (c t : Nat) : Bool := (pg.sup.getD c []).contains t
def tyO (t : Ty) : O → M Bool
  | .lst _ => pur (decide (t = .list))
  | .dct _ => pur (decide (t = .dict))
  | .ins _ _ => stk
def tyE (pg : Pg) (t : Ty) (c : Nat) : Option Bool := if c < pg.sup.length then (match t with
  | .valueError => some true
  | .exc k => some (isExn pg c k)
  | _ => none) else none
def isTy (pg : Pg) (t : Ty) : U → M Bool
  | .v (.obj n) => bnd (look n) (tyO t)
  | .v (.exn c) => opt (tyE pg t c)
  | .v .non => pur false
  | .v (.bl _) => pur (decide (t = .bool) || decide (t = .int))
  | .v (.int _) => pur (decide (t = .int))
  | .v (.str _) => pur (decide (t = .str))
  | .v (.tup _) => pur (decide (t = .tuple))
  | .v (.fl _) => pur (decide (t = .list))
  | .l _ => pur (decide (t = .list))
  | .d _ => pur (decide (t = .dict))
  | _ => stk
def intsOf : List D → Option (List Int)
  | [] => some []
  | .int i :: r => (intsOf r).map (i :: ·)
  | _ :: _ => none
def blsOf : List D → Option (List Bool)
  | [] => some []
  | .bl i :: r => (blsOf r).map (i :: ·)
  | _ :: _ => none
def maxI : List Int → Option Int
  | [] => none
  | x :: xs => some (xs.foldl max x)
def minI : List Int → Option Int
  | [] => none
  | x :: xs => some (xs.foldl min x)
def ixD (u : U) (i : Int) : M U := match u with
  | .v (.str x) => bnd (guard (okLen x.length)) fun _ => (match L2.atI x.cps.toList i with
    | some c => pur (.v (.str ⟨#[c]⟩))
    | none => stk)
  | u => bnd (sq u) fun xs => opt ((L2.atI xs i).map U.v)
inductive Src where
  | items (xs : List D) | live (n : Nat)
def srcOf : U → M Src
  | .v (.tup xs) => pur (.items xs)
  | .v (.str x) => pur (.items (x.cps.toList.map fun c => .str ⟨#[c]⟩))
  | .v (.obj n) => bnd (look n) fun o => match o with
    | .lst _ => pur (.live n)
    | _ => stk
  | .v (.fl xs) => pur (.items xs)
  | .l xs => pur (.items xs)
  | _ => stk
def intsFrom (a : Int) : Nat → List D
  | 0 => []
  | n + 1 => .int a :: intsFrom (a + 1) n
def small62 (i : Int) : Bool := decide (-(2 ^ 62) ≤ i) && decide (i < 2 ^ 62)
/-- the turns of a comprehension -/
def lcGo (step : D → M (Option D)) : List D → List D → M (List D)
  | acc, [] => pur acc
  | acc, x :: xs => bnd (step x) fun r => match r with
    | some y => bnd (guard (decide (acc.length < line))) fun _ => lcGo step (acc ++ [y]) xs
    | none => lcGo step acc xs
/-- over a list as it stands, so many turns at most -/
def lcLive (step : D → M (Option D)) (n : Nat) : Nat → Nat → List D → M (List D)
  | 0, _, _ => stk
  | f + 1, i, acc => bnd (look n) fun o => match o with
    | .lst xs => (match xs[i]? with
      | none => pur acc
      | some x => bnd (step x) fun r => match r with
        | some y => bnd (guard (decide (acc.length < line))) fun _ => lcLive step n f (i + 1) (acc ++ [y])
        | none => lcLive step n f (i + 1) acc)
    | _ => stk
def noexc {α : Type} (m : M α) : M α := fun S => match m S with
  | .ok a S' => .ok a S'
  | .exc _ _ => .stuck
  | .stuck => .stuck
abbrev kLen : U → M U := fun x => match x with
  | .v (.str y) => bnd (guard (okLen y.length)) fun _ => pur (.v (.int y.length))
  | .s xs => pur (.v (.int xs.length))
  | x => bnd (sq x) fun xs => pur (.v (.int xs.length))
abbrev kAll : U → M U := fun x => bnd (sqL x) fun xs => bnd (opt (blsOf xs)) fun bs => pur (.v (.bl (bs.all id)))
abbrev kAny : U → M U := fun x => bnd (sqL x) fun xs => bnd (opt (blsOf xs)) fun bs => pur (.v (.bl (bs.any id)))
abbrev kList : U → M U := fun x => bnd (sq x) fun xs => pur (.l xs)
abbrev kTuple : U → M U := fun x => bnd (sq x) fun xs => pur (.v (.tup xs))
abbrev kDict : U → M U := fun x => bnd (sq x) fun xs => bnd (guard (decide (xs.length < line))) fun _ => bnd (opt (dPairs [] xs)) fun kvs => pur (.d kvs)
abbrev kSet : U → M U := fun x => bnd (sq x) fun xs => bnd (guard (decide (xs.length < 63) && (xs.all isTupD || xs.all isFlatK))) fun _ => bnd (opt (sAdd [] xs)) fun ys => pur (.s ys)
abbrev kSorted : U → M U := fun x => match x with
  | .s xs => bnd (guard (xs.all isTupD)) fun _ => bnd (opt (sortDS xs)) fun ys => pur (.l ys)
  | .d kvs => bnd (opt (sortD (kvs.map (·.1)))) fun ys => pur (.l ys)
  | .v (.obj n) => bnd (look n) fun o => (match o with
    | .dct kvs => bnd (opt (sortD (kvs.map (·.1)))) fun ys => pur (.l ys)
    | .lst xs => bnd (opt (sortD xs)) fun ys => pur (.l ys)
    | _ => stk)
  | .l xs => bnd (opt (sortD xs)) fun ys => pur (.l ys)
  | _ => stk
abbrev kMax : U → M U := fun x => bnd (sqL x) fun xs => bnd (opt ((intsOf xs).bind maxI)) fun m => pur (.v (.int m))
abbrev kMin : U → M U := fun x => bnd (sqL x) fun xs => bnd (opt ((intsOf xs).bind minI)) fun m => pur (.v (.int m))
abbrev kMax2 : U → U → M U := fun x y => match x, y with
  | .v (.int i), .v (.int j) => pur (.v (.int (if j > i then j else i)))
  | _, _ => stk
abbrev kMin2 : U → U → M U := fun x y => match x, y with
  | .v (.int i), .v (.int j) => pur (.v (.int (if j < i then j else i)))
  | _, _ => stk
def semB1 : B1 → U → M U
  | .len => kLen
  | .all => kAll
  | .any => kAny
  | .list => kList
  | .tuple => kTuple
  | .dict => kDict
  | .set => kSet
  | .sorted => kSorted
  | .max => kMax
  | .min => kMin
def semB2 : B2 → U → U → M U
  | .max => kMax2
  | .min => kMin2
/-- the receiver is of the method's type -/
def kindM1 : M1 → U → M Unit
  | _, x => bnd (sqL x) fun _ => pur ()
def kindM2 : M2 → U → M Unit
  | _, x => bnd (dcL x) fun _ => pur ()
abbrev kAppend : U → U → M U := fun x y => bnd (settle y) fun d => match x with
  | .v (.obj n) => bnd (look n) fun o => (match o with
    | .lst xs => bnd (guard (decide (xs.length < line))) fun _ => bnd (putO n (.lst (xs ++ [d]))) fun _ => pur (.v .non)
    | _ => stk)
  | _ => stk
/-- what is equal to what: of bools, ints, texts alone -/
def flatD : D → Bool
  | .non => true
  | .bl _ => true
  | .int _ => true
  | .str _ => true
  | _ => false
def eqFlat (x y : D) : Bool := decide (x.key = y.key)
abbrev kCount : U → U → M U := fun x y => bnd (sqL x) fun xs => match y with
  | .v (.bl c) => bnd (opt (blsOf xs)) fun bs => pur (.v (.int ((bs.filter fun b => b == c).length : Nat)))
  | _ => stk
abbrev kIndex : U → U → M U := fun x y => bnd (sqL x) fun xs => match y with
  | .v (.bl c) => bnd (opt (blsOf xs)) fun bs => (if bs.contains c = true then pur (.v (.int ((bs.findIdx fun b => b == c) : Nat))) else stk)
  | _ => stk
def semM1 : M1 → U → U → M U
  | .append => kAppend
  | .count => kCount
  | .index => kIndex
abbrev kGet : U → U → U → M U := fun x y z => match y, z with
  | .v k, .v d => bnd (opt (okey k)) fun k' => bnd (dcL x) fun kvs => pur (.v ((dLook kvs k').getD d))
  | _, _ => stk
def semM2 : M2 → U → U → U → M U
  | .get => kGet
/-- o[i]: of a dict by its key, of anything else by a whole number -/
def ixI (x y : U) : M U := match y with
  | .v (.int n) => ixD x n
  | _ => stk
def ixK (kvs : List (D × D)) (y : U) : M U := match y with
  | .v k => bnd (opt (okey k)) fun k' => bnd (opt (dLook kvs k')) fun d => pur (.v d)
  | _ => stk
def ixA (x y : U) : M U := match x with
  | .d kvs => ixK kvs y
  | .v (.obj n) => bnd (look n) fun o => (match o with
    | .dct kvs => ixK kvs y
    | _ => ixI x y)
  | x => ixI x y
structure Cfg where
  pg : Pg
  wf : Nat
  call : Nat → List D → M U

mutual
def ev (K : Cfg) : E → Env → M U
  | .var i, ρ => opt ((ρ[i]?.bind id).map U.v)
  | .lit d, _ => pur (.v d)
  | .gv g, _ => opt ((K.pg.gvs[g]?).map U.v)
  | .tup es, ρ => bnd (evs K es ρ) fun ds => bnd (guard (okLen ds.length)) fun _ => pur (.v (.tup ds))
  | .lst es, ρ => bnd (evs K es ρ) fun ds => bnd (guard (okLen ds.length)) fun _ => pur (.l ds)
  | .dic, _ => pur (.d [])
  | .bin o a b, ρ => bnd (ev K a ρ) fun x => bnd (ev K b ρ) fun y => bop o x y
  | .cmp o a b, ρ => bnd (ev K a ρ) fun x => bnd (ev K b ρ) fun y => bnd (cop o x y) fun r => pur (.v (.bl r))
  | .chn o p a b c, ρ => bnd (ev K a ρ) fun x => bnd (ev K b ρ) fun y => bnd (cop o x y) fun r => if r = true then bnd (ev K c ρ) fun z => bnd (cop p y z) fun r' => pur (.v (.bl r')) else pur (.v (.bl false))
  | .and es, ρ => evAnd K es ρ
  | .or es, ρ => evOr K es ρ
  | .not a, ρ => bnd (ev K a ρ) fun x => bnd (tru x) fun r => pur (.v (.bl (!r)))
  | .ife c a b, ρ => bnd (evT K c ρ) fun r => if r = true then ev K a ρ else ev K b ρ
  | .ix a i, ρ => bnd (ev K a ρ) fun x => bnd (ev K i ρ) fun y => ixA x y
  | .call f es, ρ => bnd (evs K es ρ) fun ds => K.call f ds
  | .isi a t, ρ => bnd (ev K a ρ) fun x => bnd (isTy K.pg t x) fun r => pur (.v (.bl r))
  | .b1 o a, ρ => bnd (ev K a ρ) (semB1 o)
  | .b2 o a b, ρ => bnd (ev K a ρ) fun x => bnd (ev K b ρ) fun y => semB2 o x y
  | .m1 o a b, ρ => bnd (ev K a ρ) fun x => bnd (kindM1 o x) fun _ => bnd (ev K b ρ) fun y => semM1 o x y
  | .m2 o a b c, ρ => bnd (ev K a ρ) fun x => bnd (kindM2 o x) fun _ => bnd (ev K b ρ) fun y => bnd (ev K c ρ) fun z => semM2 o x y z
  | .lc elt tg one it ifs, ρ => bnd (evI K it ρ) fun src => bnd (match src with
      | .items xs => lcGo (fun x => noexc (bnd (target ρ tg one x) fun ρ' => bnd (evIfs K ifs ρ') fun b => if b = true then bnd (ev K elt ρ') fun u => bnd (settle u) fun d => pur (some d) else pur none)) [] xs
      | .live n => lcLive (fun x => noexc (bnd (target ρ tg one x) fun ρ' => bnd (evIfs K ifs ρ') fun b => if b = true then bnd (ev K elt ρ') fun u => bnd (settle u) fun d => pur (some d) else pur none)) n K.wf 0 []) fun ys => pur (.l ys)
def evs (K : Cfg) : Es → Env → M (List D)
  | .nil, _ => pur []
  | .cons e es, ρ => bnd (ev K e ρ) fun u => bnd (settle u) fun d => bnd (evs K es ρ) fun ds => pur (d :: ds)
def evAnd (K : Cfg) : Es → Env → M U
  | .nil, _ => stk
  | .cons e .nil, ρ => ev K e ρ
  | .cons e es, ρ => bnd (ev K e ρ) fun u => bnd (tru u) fun b => if b = true then evAnd K es ρ else pur u
def evOr (K : Cfg) : Es → Env → M U
  | .nil, _ => stk
  | .cons e .nil, ρ => ev K e ρ
  | .cons e es, ρ => bnd (ev K e ρ) fun u => bnd (tru u) fun b => if b = true then pur u else evOr K es ρ
def evI (K : Cfg) : It → Env → M Src
  | .rng a, ρ => bnd (ev K a ρ) fun x => match x with
    | .v (.int n) => bnd (guard (small62 n)) fun _ => pur (.items (intsFrom 0 n.toNat))
    | _ => stk
  | .rng2 a b, ρ => bnd (ev K a ρ) fun x => bnd (ev K b ρ) fun y => match x, y with
    | .v (.int i), .v (.int j) => bnd (guard (small62 i && small62 j)) fun _ => pur (.items (intsFrom i (j - i).toNat))
    | _, _ => stk
  | .of a, ρ => bnd (ev K a ρ) srcOf
/-- the tests of a comprehension's clause: none or one -/
def evIfs (K : Cfg) : Ts → Env → M Bool
  | .nil, _ => pur true
  | .cons t .nil, ρ => evT K t ρ
  | _, _ => stk
/-- a test -/
def evT (K : Cfg) : T → Env → M Bool
  | .of e, ρ => bnd (ev K e ρ) tru
  | .and ts, ρ => evTA K ts ρ
  | .or ts, ρ => evTO K ts ρ
  | .not t, ρ => bnd (evT K t ρ) fun b => pur (!b)
def evTA (K : Cfg) : Ts → Env → M Bool
  | .nil, _ => stk
  | .cons t .nil, ρ => evT K t ρ
  | .cons t ts, ρ => bnd (evT K t ρ) fun b => if b = true then evTA K ts ρ else pur false
def evTO (K : Cfg) : Ts → Env → M Bool
  | .nil, _ => stk
  | .cons t .nil, ρ => evT K t ρ
  | .cons t ts, ρ => bnd (evT K t ρ) fun b => if b = true then pur true else evTO K ts ρ
end

/-! ### statements -/
inductive Fl where
  | nx (ρ : Env) | rt (u : U) | bk (ρ : Env) | ct (ρ : Env)
inductive Rs where
  | go (f : Fl) (S : Sto) | exc (c : Nat) (ρ : Env) (S : Sto) | stuck
abbrev X := Sto → Rs
def lift {α : Type} (m : M α) (ρ : Env) (k : α → X) : X := fun S => match m S with
  | .ok a S' => k a S'
  | .exc c S' => .exc c ρ S'
  | .stuck => .stuck
def goX (f : Fl) : X := fun S => .go f S
def seqX (m : X) (k : Env → X) : X := fun S => match m S with
  | .go (.nx ρ) S' => k ρ S'
  | r => r
def forGo (step : D → Env → X) : List D → Env → X
  | [], ρ => goX (.nx ρ)
  | x :: xs, ρ => fun S => match step x ρ S with
    | .go (.nx ρ') S' => forGo step xs ρ' S'
    | .go (.ct ρ') S' => forGo step xs ρ' S'
    | .go (.bk ρ') S' => .go (.nx ρ') S'
    | r => r
def forLive (step : D → Env → X) (n : Nat) : Nat → Nat → Env → X
  | 0, _, _ => fun _ => .stuck
  | f + 1, i, ρ => fun S => match S[n]? with
    | some (.lst xs) => (match xs[i]? with
      | none => .go (.nx ρ) S
      | some x => (match step x ρ S with
        | .go (.nx ρ') S' => forLive step n f (i + 1) ρ' S'
        | .go (.ct ρ') S' => forLive step n f (i + 1) ρ' S'
        | .go (.bk ρ') S' => .go (.nx ρ') S'
        | r => r))
    | _ => .stuck
def whlGo (c : Env → M Bool) (body : Env → X) : Nat → Env → X
  | 0, _ => fun _ => .stuck
  | f + 1, ρ => lift (c ρ) ρ fun b => if b = true then fun S => match body ρ S with
      | .go (.nx ρ') S' => whlGo c body f ρ' S'
      | .go (.ct ρ') S' => whlGo c body f ρ' S'
      | .go (.bk ρ') S' => .go (.nx ρ') S'
      | r => r
    else goX (.nx ρ)
def setiO (n : Nat) (i : U) (d : D) : O → M Unit
  | .lst xs => (match i with
    | .v (.int k) => (match L2.ixN xs.length k with
      | some j => putO n (.lst (xs.set j d))
      | none => stk)
    | _ => stk)
  | .dct kvs => (match i with
    | .v k => bnd (opt (okey k)) fun k' => bnd (guard (decide (kvs.length < line))) fun _ => putO n (.dct (dPut kvs k k' d))
    | _ => stk)
  | .ins _ _ => stk
def seti (o i : U) (d : D) : M Unit := match o with
  | .v (.obj n) => bnd (look n) (setiO n i d)
  | _ => stk
mutual
def ex (K : Cfg) : St → Env → X
  | .asg tg one e, ρ => lift (ev K e ρ) ρ fun u => lift (settle u) ρ fun d => lift (target ρ tg one d) ρ fun ρ' => goX (.nx ρ')
  | .seti o i e, ρ => lift (ev K e ρ) ρ fun u => lift (settle u) ρ fun d => lift (ev K o ρ) ρ fun x => lift (ev K i ρ) ρ fun y => lift (seti x y d) ρ fun _ => goX (.nx ρ)
  | .expr e, ρ => lift (ev K e ρ) ρ fun _ => goX (.nx ρ)
  | .ret e, ρ => lift (ev K e ρ) ρ fun u => goX (.rt u)
  | .rai c, ρ => fun S => .exc c ρ S
  | .pass, ρ => goX (.nx ρ)
  | .brk, ρ => goX (.bk ρ)
  | .cnt, ρ => goX (.ct ρ)
  | .ite c a b, ρ => lift (evT K c ρ) ρ fun t => if t = true then exs K a ρ else exs K b ρ
  | .for_ tg one it body, ρ => lift (evI K it ρ) ρ fun src => match src with
    | .items xs => forGo (fun x ρ' => lift (target ρ' tg one x) ρ' fun ρ2 => exs K body ρ2) xs ρ
    | .live n => forLive (fun x ρ' => lift (target ρ' tg one x) ρ' fun ρ2 => exs K body ρ2) n K.wf 0 ρ
  | .whl c body, ρ => whlGo (fun ρ' => evT K c ρ') (fun ρ' => exs K body ρ') K.wf ρ
  | .tryAs body c x y, ρ => fun S => match exs K body ρ S with
    | .exc c' ρ' S' => if c' < K.pg.sup.length ∧ x < ρ'.length then (if isExn K.pg c' c = true then .go (.nx ((setV ρ' y (.exn c')).set x none)) S' else .exc c' ρ' S') else .stuck
    | r => r
def exs (K : Cfg) : Sts → Env → X
  | .nil, ρ => goX (.nx ρ)
  | .cons s .nil, ρ => ex K s ρ
  | .cons s ss, ρ => seqX (ex K s ρ) fun ρ' => exs K ss ρ'
end

/-! ### calls -/
mutual
/-- no object of the store in it -/
def D.free : D → Bool
  | .obj _ => false
  | .tup xs => D.frees xs
  | .fl xs => D.frees xs
  | _ => true
def D.frees : List D → Bool
  | [] => true
  | x :: xs => D.free x && D.frees xs
end
/-- what is handed out of a store that is left -/
def outU (S : Sto) : U → Option U
  | .v (.obj n) => (match S[n]? with
    | some (.lst xs) => if D.frees xs = true then some (.l xs) else none
    | some (.dct kvs) => if (D.frees (kvs.map (·.1)) && D.frees (kvs.map (·.2))) = true then some (.d kvs) else none
    | _ => none)
  | .v d => if D.free d = true then some (.v d) else none
  | .l xs => if D.frees xs = true then some (.l xs) else none
  | .d kvs => if (D.frees (kvs.map (·.1)) && D.frees (kvs.map (·.2))) = true then some (.d kvs) else none
  | .s _ => none
def startE (F : Fn) (ds : List D) : Env := ds.map some ++ List.replicate (F.ns - ds.length) none
def endR : Rs → R U
  | .go (.rt u) S => .ok u S
  | .go (.nx _) S => .ok (.v .non) S
  | .go _ _ => .stuck
  | .exc c _ S => .exc c S
  | .stuck => .stuck
def runF (K : Cfg) (F : Fn) (ds : List D) : M U := fun S =>
  if (decide (ds.length = F.np) && decide (F.np ≤ F.ns)) = true then
    if F.pure = true then
      (if D.frees ds = true then (match endR (exs K F.body (startE F ds) []) with
        | .ok u S' => (match outU S' u with
          | some u' => .ok u' S
          | none => .stuck)
        | .exc c _ => .exc c S
        | .stuck => .stuck) else .stuck)
    else endR (exs K F.body (startE F ds) S)
  else .stuck
def callF (pg : Pg) (wf : Nat) : Nat → Nat → List D → M U
  | 0, _, _ => stk
  | n + 1, f, ds => match pg.fns[f]? with
    | some F => runF ⟨pg, wf, callF pg wf n⟩ F ds
    | none => stk
end Qc
end
section
set_option Elab.async false
set_option linter.all false
set_option maxHeartbeats 1000000
/-! How the core language's values and stores lie in the layer's abstract heap. -/
namespace Qc
open PySem PySem.Spec PyProof.Rows L2

/-- where the program's things stand: classes, constant dicts, field names -/
structure Gx where
  K : PySem.W.Frag
  w : World
  xa : Nat → Addr
  ca : Nat → Addr
  ka : Nat → Addr
  fnm : Nat → Str

/-- an exception object of the class at C, left alone -/
abbrev XO (oe : Obj) : HO := .frz oe (.ext fun _ => True)
def XOk (C : Addr) (oe : Obj) : Prop := Zc (.ref C) none oe ∧ ∃ vs, oe.data = .fields vs
/-- a dict's entry -/
def EntR (w : World) (p : NestedKey × V × V) (e : DictEntry) : Prop := e.hash = p.1.hash w ∧ RelV p.2.1 e.key ∧ RelV p.2.2 e.val
/-- a dict of any keys -/
def DO (w : World) (a : Addr) (es : List (NestedKey × V × V)) : HO := .ext fun h => (a == sysModules) = false ∧ ∃ o ents ep, h.get? a = some o ∧ o.ExactDict ∧ o.data = .dict ents ep ∧ Paired (EntR w) es ents.toList

/-- a list that is read alone: locked, or the module's own -/
def SqF (K : PySem.W.Frag) (H : Hp) (a : Addr) (xs : List V) : Prop :=
  (∃ o, H a = some (.frz o (.lst xs))) ∨
    ∃ (o : Obj) (its : Array Value) (n : Nat), K.lookup a = some o ∧ o.cls = .type "list" ∧ o.dict = none ∧ o.data = .seq its n ∧ its.size ≤ sizeLine ∧ Vals xs its.toList
theorem SqF.sq {K : PySem.W.Frag} {H : Hp} {a : Addr} {xs : List V} (h : SqF K H a xs) : SqL K H a xs := by
  rcases h with ⟨o, h⟩ | h
  · exact .inl (.inr ⟨o, h⟩)
  · exact .inr h
/-- a tuple, locked or the module's own; it keeps no dict -/
def TupF (K : PySem.W.Frag) (H : Hp) (a : Addr) (xs : List V) : Prop :=
  (∃ o, H a = some (.frz o (.tup xs)) ∧ o.dict = none) ∨
    ∃ (o : Obj) (its : Array Value) (n : Nat), K.lookup a = some o ∧ o.cls = .type "tuple" ∧ o.dict = none ∧ o.data = .seq its n ∧ its.size ≤ sizeLine ∧ Vals xs its.toList
theorem TupF.sq {K : PySem.W.Frag} {H : Hp} {a : Addr} {xs : List V} (h : TupF K H a xs) : SqT K H a xs := by
  rcases h with ⟨o, h, _⟩ | ⟨o, its, n, h1, h2, _, h3, h4, h5⟩
  · exact .inl (.inr ⟨o, h⟩)
  · exact .inr ⟨o, its, n, h1, h2, h3, h4, h5⟩
section
variable (G : Gx) (β : List Addr) (H : Hp)
mutual
def RV : D → V → Prop
  | .non, v => v = .non
  | .bl b, v => v = .bl b
  | .int i, v => v = .int i
  | .str x, v => v = .str x
  | .tup xs, v => ∃ a vs, v = .ref a ∧ TupF G.K H a vs ∧ RVs xs vs
  | .fl xs, v => ∃ a vs, v = .ref a ∧ SqF G.K H a vs ∧ RVs xs vs
  | .obj n, v => ∃ a, β[n]? = some a ∧ v = .ref a
  | .exn c, v => ∃ a oe, v = .ref a ∧ H a = some (XO oe) ∧ XOk (G.xa c) oe
  | .con k, v => v = .ref (G.ka k)
def RVs : List D → List V → Prop
  | [], vs => vs = []
  | d :: ds, vs => ∃ v r, vs = v :: r ∧ RV d v ∧ RVs ds r
end
/-- the entries of a dict -/
def REs : List (D × D) → List (NestedKey × V × V) → Prop
  | [], es => es = []
  | (d, x) :: r, es => ∃ k v y t, es = (k, v, y) :: t ∧ okey d = some k ∧ RV G β H d v ∧ RV G β H x y ∧ REs r t
def RFs : List (Nat × D) → List (Str × V) → Prop
  | [], fs => fs = []
  | (n, d) :: r, fs => ∃ v t, fs = (G.fnm n, v) :: t ∧ RV G β H d v ∧ RFs r t
def RO : O → Addr → Prop
  | .lst xs, a => ∃ vs, H a = some (.lst vs) ∧ RVs G β H xs vs
  | .dct kvs, a => ∃ es, H a = some (DO G.w a es) ∧ REs G β H kvs es ∧ (es.map (·.1)).Nodup ∧ es.length ≤ sizeLine
  | .ins c fs, a => ∃ dx fv, H a = some (.ins (G.ca c) dx fv) ∧ RFs G β H fs fv
structure RS (S : Sto) : Prop where
  len : β.length = S.length
  nd : β.Nodup
  at_ : ∀ (n : Nat) (o : O) (a : Addr), S[n]? = some o → β[n]? = some a → RO G β H o a
def REnv (σ : L2.St) (ρ : Env) : Prop := σ.length = ρ.length ∧ ∀ (i : Nat) (d : D), ρ[i]? = some (some d) → ∃ v, σ[i]? = some (some v) ∧ RV G β H d v
end

/-- what may have come to pass since -/
structure Nxt (β : List Addr) (H : Hp) (β' : List Addr) (H' : Hp) : Prop where
  pre : ∃ ext, β' = β ++ ext ∧ ∀ b ∈ ext, H b = none
  keep : ∀ a o, H a = some o → a ∉ β → H' a = some o
  dom : ∀ a o, H a = some o → ∃ o', H' a = some o'
theorem Nxt.refl {β : List Addr} {H : Hp} : Nxt β H β H := ⟨⟨[], by simp⟩, fun _ _ h _ => h, fun _ o h => ⟨o, h⟩⟩
theorem Nxt.trans {β β1 β2 : List Addr} {H H1 H2 : Hp} (a : Nxt β H β1 H1) (b : Nxt β1 H1 β2 H2) : Nxt β H β2 H2 := by
  obtain ⟨e1, rfl, n1⟩ := a.pre
  obtain ⟨e2, rfl, n2⟩ := b.pre
  have back : ∀ c, H1 c = none → H c = none := fun c h => by
    cases e : H c with
    | none => rfl
    | some o => obtain ⟨o', q⟩ := a.dom c o e; rw [h] at q; cases q
  refine ⟨⟨e1 ++ e2, by simp, fun c hc => ?_⟩, fun c o h hn => ?_, fun c o h => ?_⟩
  · rcases List.mem_append.mp hc with h | h
    · exact n1 c h
    · exact back c (n2 c h)
  · refine b.keep c o (a.keep c o h hn) fun hm => ?_
    rcases List.mem_append.mp hm with h' | h'
    · exact hn h'
    · rw [n1 c h'] at h; cases h
  · obtain ⟨o1, h1⟩ := a.dom c o h
    exact b.dom c o1 h1
theorem Nxt.at_ {β β' : List Addr} {H H' : Hp} (N : Nxt β H β' H') {n : Nat} {a : Addr} (h : β[n]? = some a) : β'[n]? = some a := by
  obtain ⟨e, rfl, _⟩ := N.pre
  rw [List.getElem?_append_left (List.getElem?_eq_some_iff.mp h).1]
  exact h
theorem Nxt.nin {β β' : List Addr} {H H' : Hp} (N : Nxt β H β' H') {a : Addr} {o : HO} (h : H a = some o) (hn : a ∉ β) : a ∉ β' := by
  obtain ⟨e, rfl, n⟩ := N.pre
  intro hm
  rcases List.mem_append.mp hm with h' | h'
  · exact hn h'
  · rw [n a h'] at h; cases h

section
variable {G : Gx} {β β' : List Addr} {H H' : Hp} {S : Sto}
/-- what stands at an address of the store -/
theorem RO.some {o : O} {a : Addr} (r : RO G β H o a) : (∃ vs, H a = some (.lst vs)) ∨ (∃ es, H a = some (DO G.w a es)) ∨ ∃ C dx fv, H a = some (.ins C dx fv) := by
  cases o with
  | lst xs => obtain ⟨vs, h, _⟩ := r; exact .inl ⟨vs, h⟩
  | dct kvs => obtain ⟨es, h, _⟩ := r; exact .inr (.inl ⟨es, h⟩)
  | ins c fs => obtain ⟨dx, fv, h, _⟩ := r; exact .inr (.inr ⟨_, dx, fv, h⟩)
theorem RS.mem (T : RS G β H S) {a : Addr} (h : a ∈ β) : ∃ (n : Nat) (o : O), β[n]? = some a ∧ S[n]? = some o ∧ RO G β H o a := by
  obtain ⟨n, hn⟩ := List.mem_iff_getElem?.mp h
  have hl := (List.getElem?_eq_some_iff.mp hn).1
  rw [T.len] at hl
  exact ⟨n, S[n], hn, List.getElem?_eq_getElem hl, T.at_ n _ a (List.getElem?_eq_getElem hl) hn⟩
theorem RS.off_tup (T : RS G β H S) {a : Addr} {xs : List V} (h : H a = some (.tup xs)) : a ∉ β := fun hm => by
  obtain ⟨n, o, _, _, r⟩ := T.mem hm
  rcases r.some with ⟨_, e⟩ | ⟨_, e⟩ | ⟨_, _, _, e⟩ <;> (rw [h] at e; cases e)
theorem RS.off_frz (T : RS G β H S) {a : Addr} {ob : Obj} {u : HO} (h : H a = some (.frz ob u)) : a ∉ β := fun hm => by
  obtain ⟨n, o, _, _, r⟩ := T.mem hm
  rcases r.some with ⟨_, e⟩ | ⟨_, e⟩ | ⟨_, _, _, e⟩ <;> (rw [h] at e; cases e)

theorem TupF.nxt (T : RS G β H S) (N : Nxt β H β' H') {a : Addr} {vs : List V} (h : TupF G.K H a vs) : TupF G.K H' a vs := by
  rcases h with ⟨o, h, hd⟩ | h
  · exact .inl ⟨o, N.keep a _ h (T.off_frz h), hd⟩
  · exact .inr h
theorem SqF.nxt (T : RS G β H S) (N : Nxt β H β' H') {a : Addr} {vs : List V} (h : SqF G.K H a vs) : SqF G.K H' a vs := by
  rcases h with ⟨o, h⟩ | h
  · exact .inl ⟨o, N.keep a _ h (T.off_frz h)⟩
  · exact .inr h
/-- an address that nothing stands at is none of the store's -/
theorem RS.new (T : RS G β H S) {p : Addr} (h : H p = none) : p ∉ β := fun hm => by
  obtain ⟨n, o, _, _, r⟩ := T.mem hm
  rcases r.some with ⟨_, e⟩ | ⟨_, e⟩ | ⟨_, _, _, e⟩ <;> (rw [h] at e; cases e)
mutual
theorem RV.nxt (T : RS G β H S) (N : Nxt β H β' H') : ∀ (d : D) (v : V), RV G β H d v → RV G β' H' d v
  | .non, _, h => h
  | .bl _, _, h => h
  | .int _, _, h => h
  | .str _, _, h => h
  | .tup xs, v, h => by
    unfold RV at h ⊢
    obtain ⟨a, vs, e, q, r⟩ := h
    exact ⟨a, vs, e, TupF.nxt T N q, RVs.nxt T N xs vs r⟩
  | .fl xs, v, h => by
    unfold RV at h ⊢
    obtain ⟨a, vs, e, q, r⟩ := h
    exact ⟨a, vs, e, SqF.nxt T N q, RVs.nxt T N xs vs r⟩
  | .obj n, v, h => by
    unfold RV at h ⊢
    obtain ⟨a, q, e⟩ := h
    exact ⟨a, N.at_ q, e⟩
  | .exn c, v, h => by
    unfold RV at h ⊢
    obtain ⟨a, oe, e, q, z⟩ := h
    exact ⟨a, oe, e, N.keep a _ q (T.off_frz q), z⟩
  | .con _, _, h => h
theorem RVs.nxt (T : RS G β H S) (N : Nxt β H β' H') : ∀ (ds : List D) (vs : List V), RVs G β H ds vs → RVs G β' H' ds vs
  | [], _, h => h
  | d :: ds, vs, h => by
    unfold RVs at h ⊢
    obtain ⟨v, r, e, h1, h2⟩ := h
    exact ⟨v, r, e, RV.nxt T N d v h1, RVs.nxt T N ds r h2⟩
end
theorem REs.nxt (T : RS G β H S) (N : Nxt β H β' H') : ∀ (kvs : List (D × D)) (es : List (NestedKey × V × V)), REs G β H kvs es → REs G β' H' kvs es
  | [], _, h => h
  | (d, x) :: r, es, h => by
    unfold REs at h ⊢
    obtain ⟨k, v, y, t, e, hk, h1, h2, h3⟩ := h
    exact ⟨k, v, y, t, e, hk, RV.nxt T N d v h1, RV.nxt T N x y h2, REs.nxt T N r t h3⟩
theorem RFs.nxt (T : RS G β H S) (N : Nxt β H β' H') : ∀ (fs : List (Nat × D)) (fv : List (Str × V)), RFs G β H fs fv → RFs G β' H' fs fv
  | [], _, h => h
  | (n, d) :: r, fv, h => by
    unfold RFs at h ⊢
    obtain ⟨v, t, e, h1, h2⟩ := h
    exact ⟨v, t, e, RV.nxt T N d v h1, RFs.nxt T N r t h2⟩
/-- an object that is not the store's own -/
theorem RO.nxt (T : RS G β H S) (N : Nxt β H β' H') {o : O} {a : Addr} (h : RO G β H o a) (hs : H' a = H a) : RO G β' H' o a := by
  cases o with
  | lst xs => obtain ⟨vs, h1, h2⟩ := h; exact ⟨vs, hs.trans h1, RVs.nxt T N _ _ h2⟩
  | dct kvs => obtain ⟨es, h1, h2, h3, h4⟩ := h; exact ⟨es, hs.trans h1, REs.nxt T N _ _ h2, h3, h4⟩
  | ins c fs => obtain ⟨dx, fv, h1, h2⟩ := h; exact ⟨dx, fv, hs.trans h1, RFs.nxt T N _ _ h2⟩
theorem REnv.nxt (T : RS G β H S) (N : Nxt β H β' H') {σ : L2.St} {ρ : Env} (h : REnv G β H σ ρ) : REnv G β' H' σ ρ :=
  ⟨h.1, fun i d e => let ⟨v, q, r⟩ := h.2 i d e; ⟨v, q, RV.nxt T N d v r⟩⟩
end

/-! ### what an expression hands on -/
section
variable (G : Gx) (β : List Addr) (H : Hp)
/-- a set that none holds; of tuples: its members, in the table's order -/
def SO (w : World) (a : Addr) (L : List (NestedKey × V)) (n : Nat) (b : Bool) : HO := .ext fun h => ∃ o es ep t, h.get? a = some o ∧ o.ExactSet ∧ o.data = .set es ep t ∧ es.size = n ∧ n < 64 ∧ t.fits es.size = true ∧
  (b = true → Paired (fun (p : NestedKey × V) (e : Int × Value) => e.1 = p.1.hash w ∧ RelV p.2 e.2) L es.toList ∧ Ris t.place.toList ∧ (w.params.followText "set-order" = true ∨ t.led = true))
def RU : U → V → Prop
  | .v d, v => RV G β H d v
  | .l xs, v => ∃ a vs, v = .ref a ∧ a ∉ β ∧ H a = some (.lst vs) ∧ RVs G β H xs vs
  | .s xs, v => ∃ a L vs, v = .ref a ∧ a ∉ β ∧ H a = some (SO G.w a L xs.length (xs.all isTupD)) ∧ RVs G β H xs vs ∧ (xs.all isTupD = true → ∃ ks : List NestedKey, xs.map okey = ks.map some ∧ ks.Nodup ∧ L.Perm (ks.zip vs))
  | .d kvs, v => ∃ a, v = .ref a ∧ a ∉ β ∧ RO G β H (.dct kvs) a
end
theorem RU.nxt {G : Gx} {β β' : List Addr} {H H' : Hp} {S : Sto} (T : RS G β H S) (N : Nxt β H β' H') {u : U} {v : V} (h : RU G β H u v) : RU G β' H' u v := by
  cases u with
  | v d => exact RV.nxt T N d v h
  | l xs =>
    obtain ⟨a, vs, e, n, q, r⟩ := h
    exact ⟨a, vs, e, N.nin q n, N.keep a _ q n, RVs.nxt T N _ _ r⟩
  | s xs =>
    obtain ⟨a, ks, vs, e, n, q, r, p⟩ := h
    exact ⟨a, ks, vs, e, N.nin q n, N.keep a _ q n, RVs.nxt T N _ _ r, p⟩
  | d kvs =>
    obtain ⟨a, e, n, q⟩ := h
    obtain ⟨es, h1, _⟩ := id q
    exact ⟨a, e, N.nin h1 n, q.nxt T N ((N.keep a _ h1 n).trans h1.symm)⟩

/-- what stands for a result: from the heap at the run's begin, to the store's places and the heap at its end -/
structure Rel (α ν : Type) where
  r : Hp → List Addr → Hp → α → ν → Prop
  mono : ∀ (β : List Addr) (H : Hp) (β1 : List Addr) (H1 : Hp), Nxt β H β1 H1 → ∀ (β' : List Addr) (H' : Hp) (a : α) (v : ν), r H1 β' H' a v → r H β' H' a v
/-- a run of the core language's beside one of the machine: what is wanted of its end -/
def Post {α ν : Type} (G : Gx) (Rl : Rel α ν) (β : List Addr) (H : Hp) (r : R α) (Q : ν → Hp → Prop) (Z : Nat → Hp → Prop) : Prop := match r with
  | .ok a S' => ∀ (v : ν) (H' : Hp) (β' : List Addr), Nxt β H β' H' → RS G β' H' S' → Rl.r H β' H' a v → Q v H'
  | .exc c S' => ∀ (H' : Hp) (β' : List Addr), Nxt β H β' H' → RS G β' H' S' → Z c H'
  | .stuck => False
/-- an exception's wish by its class -/
abbrev zW (G : Gx) (W : WX) (σ : L2.St) : Nat → Hp → Prop := fun c H => W (.ref (G.xa c)) none σ H
def tR {α ν : Type} (G : Gx) (Rl : Rel α ν) (W : WX) (f : Env → M α) : L2.St → Hp → (ν → Hp → Prop) → Prop := fun σ H Q =>
  ∃ β ρ S, REnv G β H σ ρ ∧ RS G β H S ∧ Post G Rl β H (f ρ S) Q (zW G W σ)
/-- what is not named yet has come since -/
def Fr (H : Hp) : U → V → Prop
  | .v _, _ => True
  | _, v => ∀ a, v = .ref a → H a = none
theorem Nxt.back {β β' : List Addr} {H H' : Hp} (N : Nxt β H β' H') {a : Addr} (h : H' a = none) : H a = none := by
  cases e : H a with
  | none => rfl
  | some o => obtain ⟨o', q⟩ := N.dom a o e; rw [h] at q; cases q
theorem Fr.back {β β' : List Addr} {H H' : Hp} (N : Nxt β H β' H') {u : U} {v : V} (h : Fr H' u v) : Fr H u v := by
  cases u with
  | v d => trivial
  | l xs => exact fun a e => N.back (h a e)
  | s xs => exact fun a e => N.back (h a e)
  | d xs => exact fun a e => N.back (h a e)
def relU (G : Gx) : Rel U V := ⟨fun H0 β H u v => RU G β H u v ∧ Fr H0 u v, fun _ _ _ _ N _ _ _ _ h => ⟨h.1, h.2.back N⟩⟩
def relB : Rel Bool Bool := ⟨fun _ _ _ b c => b = c, fun _ _ _ _ _ _ _ _ _ h => h⟩
def relD (G : Gx) : Rel D V := ⟨fun _ β H d v => RV G β H d v, fun _ _ _ _ _ _ _ _ _ h => h⟩
def relDs (G : Gx) : Rel (List D) (List V) := ⟨fun _ β H ds vs => RVs G β H ds vs, fun _ _ _ _ _ _ _ _ _ h => h⟩
abbrev tE (G : Gx) (W : WX) (f : Env → M U) : TE := tR G (relU G) W f
abbrev tT (G : Gx) (W : WX) (f : Env → M Bool) : TT := tR G relB W f
abbrev tA (G : Gx) (W : WX) (f : Env → M (List D)) : TA := tR G (relDs G) W f
section
variable {α ν : Type} {G : Gx} {Rl : Rel α ν} {β β1 : List Addr} {H H1 : Hp} {S : Sto} {σ : L2.St} {ρ : Env} {W : WX}
theorem Post.nxt {r : R α} {Q : ν → Hp → Prop} {Z : Nat → Hp → Prop} (N : Nxt β H β1 H1) (h : Post G Rl β H r Q Z) : Post G Rl β1 H1 r Q Z := by
  cases r with
  | ok a S' => exact fun v H' β' n' t q => h v H' β' (N.trans n') t (Rl.mono _ _ _ _ N _ _ _ _ q)
  | exc c S' => exact fun H' β' n' => h H' β' (N.trans n')
  | stuck => exact h
/-- the first of two: m runs, then what is left is wanted of k -/
theorem Post.first {γ μ : Type} {Rl2 : Rel γ μ} {m : M α} {k : α → M γ} {Q : μ → Hp → Prop} {Z : Nat → Hp → Prop} {Q1 : ν → Hp → Prop} (h : Post G Rl2 β H (bnd m k S) Q Z)
    (f : ∀ a S1 v H1 β1, Nxt β H β1 H1 → RS G β1 H1 S1 → Rl.r H β1 H1 a v → Post G Rl2 β H (k a S1) Q Z → Q1 v H1) : Post G Rl β H (m S) Q1 Z := by
  unfold bnd at h
  cases e : m S with
  | ok a S1 =>
    rw [e] at h
    exact fun v H1 β1 n t r => f a S1 v H1 β1 n t r h
  | exc c S1 => rw [e] at h; exact h
  | stuck => rw [e] at h; exact h
theorem Post.guard {b : Bool} {k : Unit → M α} {Q : ν → Hp → Prop} {Z : Nat → Hp → Prop} (h : Post G Rl β H (bnd (guard b) k S) Q Z) : b = true ∧ Post G Rl β H (k () S) Q Z := by
  cases b with
  | true => exact ⟨rfl, h⟩
  | false => exact h.elim
theorem Post.opt {γ : Type} {o : Option γ} {k : γ → M α} {Q : ν → Hp → Prop} {Z : Nat → Hp → Prop} (h : Post G Rl β H (bnd (opt o) k S) Q Z) : ∃ a, o = some a ∧ Post G Rl β H (k a S) Q Z := by
  cases o with
  | some a => exact ⟨a, rfl, h⟩
  | none => exact h.elim
theorem Post.look {n : Nat} {k : O → M α} {Q : ν → Hp → Prop} {Z : Nat → Hp → Prop} (h : Post G Rl β H (bnd (look n) k S) Q Z) : ∃ o, S[n]? = some o ∧ Post G Rl β H (k o S) Q Z := by
  unfold bnd Qc.look at h
  cases e : S[n]? with
  | some o => rw [e] at h; exact ⟨o, rfl, h⟩
  | none => rw [e] at h; exact h.elim
end

/-! ### an unnamed thing becomes an object of the store -/
section
variable {G : Gx} {β : List Addr} {H : Hp} {S : Sto} (a : Addr)
mutual
theorem RV.push : ∀ (d : D) (v : V), RV G β H d v → RV G (β ++ [a]) H d v
  | .non, _, h => h
  | .bl _, _, h => h
  | .int _, _, h => h
  | .str _, _, h => h
  | .tup xs, v, h => by
    unfold RV at h ⊢
    obtain ⟨b, vs, e, q, r⟩ := h
    exact ⟨b, vs, e, q, RVs.push xs vs r⟩
  | .fl xs, v, h => by
    unfold RV at h ⊢
    obtain ⟨b, vs, e, q, r⟩ := h
    exact ⟨b, vs, e, q, RVs.push xs vs r⟩
  | .obj n, v, h => by
    unfold RV at h ⊢
    obtain ⟨b, q, e⟩ := h
    refine ⟨b, ?_, e⟩
    rw [List.getElem?_append_left (List.getElem?_eq_some_iff.mp q).1]
    exact q
  | .exn c, v, h => by
    unfold RV at h ⊢
    exact h
  | .con _, _, h => h
theorem RVs.push : ∀ (ds : List D) (vs : List V), RVs G β H ds vs → RVs G (β ++ [a]) H ds vs
  | [], _, h => h
  | d :: ds, vs, h => by
    unfold RVs at h ⊢
    obtain ⟨v, r, e, h1, h2⟩ := h
    exact ⟨v, r, e, RV.push d v h1, RVs.push ds r h2⟩
end
theorem REs.push : ∀ (kvs : List (D × D)) (es : List (NestedKey × V × V)), REs G β H kvs es → REs G (β ++ [a]) H kvs es
  | [], _, h => h
  | (d, x) :: r, es, h => by
    unfold REs at h ⊢
    obtain ⟨k, v, y, t, e, hk, h1, h2, h3⟩ := h
    exact ⟨k, v, y, t, e, hk, RV.push a d v h1, RV.push a x y h2, REs.push r t h3⟩
theorem RFs.push : ∀ (fs : List (Nat × D)) (fv : List (Str × V)), RFs G β H fs fv → RFs G (β ++ [a]) H fs fv
  | [], _, h => h
  | (n, d) :: r, fv, h => by
    unfold RFs at h ⊢
    obtain ⟨v, t, e, h1, h2⟩ := h
    exact ⟨v, t, e, RV.push a d v h1, RFs.push r t h2⟩
theorem RO.push {o : O} {b : Addr} (h : RO G β H o b) : RO G (β ++ [a]) H o b := by
  cases o with
  | lst xs => obtain ⟨vs, h1, h2⟩ := h; exact ⟨vs, h1, RVs.push a _ _ h2⟩
  | dct kvs => obtain ⟨es, h1, h2, h3, h4⟩ := h; exact ⟨es, h1, REs.push a _ _ h2, h3, h4⟩
  | ins c fs => obtain ⟨dx, fv, h1, h2⟩ := h; exact ⟨dx, fv, h1, RFs.push a _ _ h2⟩
theorem REnv.push {σ : L2.St} {ρ : Env} (h : REnv G β H σ ρ) : REnv G (β ++ [a]) H σ ρ :=
  ⟨h.1, fun i d e => let ⟨v, q, r⟩ := h.2 i d e; ⟨v, q, RV.push a d v r⟩⟩
theorem RS.push {o : O} (T : RS G β H S) (hn : a ∉ β) (r : RO G β H o a) : RS G (β ++ [a]) H (S ++ [o]) := by
  refine ⟨by rw [List.length_append, List.length_append, T.len] <;> rfl, ?_, fun n ob b e1 e2 => ?_⟩
  · rw [List.nodup_append]
    exact ⟨T.nd, by simp, fun x hx y hy e => by
      rw [List.mem_singleton] at hy
      subst hy
      subst e
      exact hn hx⟩
  · by_cases h : n < S.length
    · rw [List.getElem?_append_left h] at e1
      rw [List.getElem?_append_left (by rw [T.len]; exact h)] at e2
      exact (T.at_ n ob b e1 e2).push a
    · have h' : n = S.length := by
        have := (List.getElem?_eq_some_iff.mp e1).1
        rw [List.length_append, List.length_singleton] at this
        omega
      subst h'
      rw [List.getElem?_append_right (Nat.le_refl _), Nat.sub_self] at e1
      rw [← T.len, List.getElem?_append_right (Nat.le_refl _), Nat.sub_self] at e2
      cases e1
      cases e2
      exact r.push a
end
section
variable {α ν : Type} {G : Gx} {Rl : Rel α ν} {β β1 : List Addr} {H H1 : Hp} {S : Sto}
theorem Post.settle {u : U} {k : D → M α} {v : V} {Q : ν → Hp → Prop} {Z : Nat → Hp → Prop} (h : Post G Rl β H (bnd (settle u) k S) Q Z) (N : Nxt β H β1 H1) (T : RS G β1 H1 S) (r : RU G β1 H1 u v) (fr : Fr H u v) :
    ∃ d S2 β2, Nxt β H β2 H1 ∧ RS G β2 H1 S2 ∧ RV G β2 H1 d v ∧ (β2 = β1 ∨ ∃ a, β2 = β1 ++ [a]) ∧ Post G Rl β H (k d S2) Q Z := by
  have nxt : ∀ a, H a = none → Nxt β H (β1 ++ [a]) H1 := fun a ha => by
    obtain ⟨e, rfl, ne⟩ := N.pre
    refine ⟨⟨e ++ [a], by simp, fun b hb => ?_⟩, N.keep, N.dom⟩
    rcases List.mem_append.mp hb with z | z
    · exact ne b z
    · rw [List.mem_singleton] at z; subst z; exact ha
  have ob : ∀ a, RV G (β1 ++ [a]) H1 (.obj S.length) (.ref a) := fun a => by
    unfold RV
    refine ⟨a, ?_, rfl⟩
    rw [← T.len, List.getElem?_append_right (Nat.le_refl _), Nat.sub_self]
    rfl
  cases u with
  | v d => exact ⟨d, S, β1, N, T, r, .inl rfl, h⟩
  | l xs =>
    obtain ⟨a, vs, rfl, hn, q, rr⟩ := r
    exact ⟨_, _, β1 ++ [a], nxt a (fr a rfl), T.push (o := .lst xs) a hn ⟨vs, q, rr⟩, ob a, .inr ⟨a, rfl⟩, h⟩
  | s xs => exact h.elim
  | d kvs =>
    obtain ⟨a, rfl, hn, q⟩ := r
    exact ⟨_, _, β1 ++ [a], nxt a (fr a rfl), T.push (o := .dct kvs) a hn q, ob a, .inr ⟨a, rfl⟩, h⟩
end
end Qc
end
section
set_option Elab.async false
set_option linter.all false
set_option maxHeartbeats 1000000
/-! The operators of the core language keep what the machine does. -/
namespace Qc
open PySem PySem.Spec PyProof.Rows L2

theorem PE.of {X : Cx} {e : Expr} {t t' : TE} (h : PE X e t) (i : ∀ σ H Q, t' σ H Q → t σ H Q) : PE X e t' := ⟨fun pins s σ H Q I q => h.run pins s σ H Q I (i σ H Q q)⟩
theorem PT.of {X : Cx} {e : Expr} {t t' : TT} (h : PT X e t) (i : ∀ σ H Q, t' σ H Q → t σ H Q) : PT X e t' := ⟨fun pins s σ H Q I q => h.run pins s σ H Q I (i σ H Q q)⟩
theorem PA.of {X : Cx} {es : List Expr} {t t' : TA} (h : PA X es t) (i : ∀ σ H Q, t' σ H Q → t σ H Q) : PA X es t' := ⟨fun pos pins s σ H Q I q => h.run pos pins s σ H Q I (i σ H Q q)⟩

section
variable {G : Gx} {β β0 : List Addr} {H H0 : Hp} {S : Sto} {α ν : Type} {Rl : Rel α ν} {Q : ν → Hp → Prop} {Z : Nat → Hp → Prop}
theorem RU.lst_at {xs : List D} {v : V} (r : RU G β H (.l xs) v) : ∃ a vs, v = .ref a ∧ H a = some (.lst vs) ∧ RVs G β H xs vs := let ⟨a, vs, e, _, h, q⟩ := r; ⟨a, vs, e, h, q⟩
theorem RV.obj_at (T : RS G β H S) {n : Nat} {o : O} {v : V} (r : RV G β H (.obj n) v) (e : S[n]? = some o) : ∃ a, v = .ref a ∧ β[n]? = some a ∧ RO G β H o a := by
  unfold RV at r
  obtain ⟨a, h, rfl⟩ := r
  exact ⟨a, rfl, h, T.at_ n o a e h⟩
theorem RV.tup_at {xs : List D} {v : V} (r : RV G β H (.tup xs) v) : ∃ a vs, v = .ref a ∧ TupF G.K H a vs ∧ RVs G β H xs vs := by
  unfold RV at r
  exact r
theorem bnd_assoc {α β γ : Type} (m : M α) (k : α → M β) (l : β → M γ) : bnd (bnd m k) l = bnd m fun a => bnd (k a) l := by
  funext S
  unfold bnd
  cases m S <;> rfl
theorem RV.fl_at {xs : List D} {v : V} (r : RV G β H (.fl xs) v) : ∃ a vs, v = .ref a ∧ SqF G.K H a vs ∧ RVs G β H xs vs := by
  unfold RV at r
  exact r
theorem Post.lsO {u : U} {k : List D → M α} {v : V} (h : Post G Rl β0 H0 (bnd (lsO u) k S) Q Z) (T : RS G β H S) (r : RU G β H u v) :
    ∃ xs a vs, v = .ref a ∧ H a = some (.lst vs) ∧ RVs G β H xs vs ∧ Post G Rl β0 H0 (k xs S) Q Z := by
  cases u with
  | l xs =>
    obtain ⟨a, vs, e, q, rr⟩ := r.lst_at
    exact ⟨xs, a, vs, e, q, rr, h⟩
  | v d =>
    cases d with
    | obj n =>
      unfold Qc.lsO at h
      rw [bnd_assoc] at h
      obtain ⟨o, e, h2⟩ := h.look
      cases o with
      | lst xs =>
        obtain ⟨a, rfl, _, vs, q, rr⟩ := RV.obj_at T r e
        exact ⟨xs, a, vs, rfl, q, rr, h2⟩
      | dct kvs => exact h2.elim
      | ins c fs => exact h2.elim
    | _ => exact h.elim
  | s xs => exact h.elim
  | d kvs => exact h.elim
theorem Post.sqL {u : U} {k : List D → M α} {v : V} (h : Post G Rl β0 H0 (bnd (sqL u) k S) Q Z) (T : RS G β H S) (r : RU G β H u v) :
    ∃ xs a vs, v = .ref a ∧ SqL G.K H a vs ∧ RVs G β H xs vs ∧ Post G Rl β0 H0 (k xs S) Q Z := by
  cases u with
  | l xs =>
    obtain ⟨a, vs, e, q, rr⟩ := r.lst_at
    exact ⟨xs, a, vs, e, SqL.of q, rr, h⟩
  | v d =>
    cases d with
    | obj n =>
      unfold Qc.sqL at h
      rw [bnd_assoc] at h
      obtain ⟨o, e, h2⟩ := h.look
      cases o with
      | lst xs =>
        obtain ⟨a, rfl, _, vs, q, rr⟩ := RV.obj_at T r e
        exact ⟨xs, a, vs, rfl, SqL.of q, rr, h2⟩
      | dct kvs => exact h2.elim
      | ins c fs => exact h2.elim
    | fl xs =>
      obtain ⟨a, vs, e, q, rr⟩ := RV.fl_at r
      exact ⟨xs, a, vs, e, q.sq, rr, h⟩
    | _ => exact h.elim
  | s xs => exact h.elim
  | d kvs => exact h.elim
theorem Post.sq {u : U} {k : List D → M α} {v : V} (h : Post G Rl β0 H0 (bnd (sq u) k S) Q Z) (T : RS G β H S) (r : RU G β H u v) :
    ∃ xs a vs, v = .ref a ∧ (SqL G.K H a vs ∨ TupF G.K H a vs) ∧ RVs G β H xs vs ∧ Post G Rl β0 H0 (k xs S) Q Z := by
  cases u with
  | l xs =>
    obtain ⟨a, vs, e, q, rr⟩ := r.lst_at
    exact ⟨xs, a, vs, e, .inl (SqL.of q), rr, h⟩
  | v d =>
    cases d with
    | tup xs =>
      obtain ⟨a, vs, e, q, rr⟩ := RV.tup_at r
      exact ⟨xs, a, vs, e, .inr q, rr, h⟩
    | obj n =>
      obtain ⟨xs, a, vs, e, q, rr, p⟩ := Post.sqL (u := .v (.obj n)) (v := v) h T r
      exact ⟨xs, a, vs, e, .inl q, rr, p⟩
    | fl xs =>
      obtain ⟨a, vs, e, q, rr⟩ := RV.fl_at r
      exact ⟨xs, a, vs, e, .inl q.sq, rr, h⟩
    | _ => exact h.elim
  | s xs => exact h.elim
  | d kvs => exact h.elim
theorem RVs.length : ∀ {ds : List D} {vs : List V}, RVs G β H ds vs → ds.length = vs.length
  | [], _, h => by unfold RVs at h; subst h; rfl
  | d :: ds, _, h => by
    unfold RVs at h
    obtain ⟨v, r, rfl, _, h2⟩ := h
    rw [List.length_cons, List.length_cons, RVs.length h2]
theorem RVs.append : ∀ {ds es : List D} {vs ws : List V}, RVs G β H ds vs → RVs G β H es ws → RVs G β H (ds ++ es) (vs ++ ws)
  | [], _, _, _, h, k => by unfold RVs at h; subst h; exact k
  | d :: ds, es, _, ws, h, k => by
    unfold RVs at h
    obtain ⟨v, r, rfl, h1, h2⟩ := h
    rw [List.cons_append, List.cons_append]
    unfold RVs
    exact ⟨v, r ++ ws, rfl, h1, RVs.append h2 k⟩
theorem RVs.rep {ds : List D} {vs : List V} (h : RVs G β H ds vs) : ∀ k : Nat, RVs G β H (List.replicate k ds).flatten (List.replicate k vs).flatten
  | 0 => by unfold RVs; rfl
  | k + 1 => by
    rw [List.replicate_succ, List.replicate_succ, List.flatten_cons, List.flatten_cons]
    exact RVs.append h (RVs.rep h k)
theorem RVs.get : ∀ {ds : List D} {vs : List V} {i : Nat} {d : D}, RVs G β H ds vs → ds[i]? = some d → ∃ v, vs[i]? = some v ∧ RV G β H d v
  | [], _, i, d, _, e => by cases e
  | d0 :: ds, _, 0, d, h, e => by
    unfold RVs at h
    obtain ⟨v, r, rfl, h1, h2⟩ := h
    cases e
    exact ⟨v, rfl, h1⟩
  | d0 :: ds, _, i + 1, d, h, e => by
    unfold RVs at h
    obtain ⟨v, r, rfl, h1, h2⟩ := h
    exact RVs.get (i := i) h2 (by simpa using e)
theorem RVs.set : ∀ {ds : List D} {vs : List V} {d : D} {v : V} (i : Nat), RVs G β H ds vs → RV G β H d v → RVs G β H (ds.set i d) (vs.set i v)
  | [], _, _, _, i, h, _ => by unfold RVs at h; subst h; unfold RVs; cases i <;> rfl
  | d0 :: ds, _, d, v, 0, h, r => by
    unfold RVs at h
    obtain ⟨v0, t, rfl, h1, h2⟩ := h
    show RVs G β H (d :: ds) (v :: t)
    unfold RVs
    exact ⟨v, t, rfl, r, h2⟩
  | d0 :: ds, _, d, v, i + 1, h, r => by
    unfold RVs at h
    obtain ⟨v0, t, rfl, h1, h2⟩ := h
    show RVs G β H (d0 :: ds.set i d) (v0 :: t.set i v)
    unfold RVs
    exact ⟨v0, _, rfl, h1, RVs.set i h2 r⟩
theorem RVs.one {d : D} {v : V} (r : RV G β H d v) : RVs G β H [d] [v] := by
  unfold RVs
  exact ⟨v, [], rfl, r, by unfold RVs; rfl⟩

theorem Nxt.new {p : Addr} {o : HO} (hp : H p = none) : Nxt β H β (L2.upd H p o) :=
  ⟨⟨[], by simp⟩, fun a u e _ => by rw [upd_ne (ne_of_none e hp)]; exact e, fun a u e => ⟨u, by rw [upd_ne (ne_of_none e hp)]; exact e⟩⟩
theorem RS.newH (T : RS G β H S) {p : Addr} {o : HO} (hp : H p = none) : RS G β (L2.upd H p o) S :=
  ⟨T.len, T.nd, fun n ob a e1 e2 => by
    have r := T.at_ n ob a e1 e2
    refine RO.nxt T (Nxt.new hp) r (upd_ne fun e => ?_)
    exact T.new hp (e ▸ List.mem_of_getElem? e2)⟩
/-- a new object: a list just made that no name holds -/
theorem Post.newL {xs : List D} {Q : V → Hp → Prop} (h : Post G (relU G) β H (Qc.pur (U.l xs) S) Q Z) (T : RS G β H S) {vs : List V} (r : RVs G β H xs vs) {p : Addr} (hp : H p = none) : Q (.ref p) (L2.upd H p (.lst vs)) :=
  h (.ref p) _ β (Nxt.new hp) (T.newH hp) ⟨⟨p, vs, rfl, T.new hp, upd_same, RVs.nxt T (Nxt.new hp) _ _ r⟩, fun a e => by cases e; exact hp⟩
theorem Post.newT {xs : List D} {Q : V → Hp → Prop} (h : Post G (relU G) β H (Qc.pur (U.v (.tup xs)) S) Q Z) (T : RS G β H S) {vs : List V} (r : RVs G β H xs vs) {p : Addr} {o : Obj} (hp : H p = none) (ho : o.dict = none) : Q (.ref p) (L2.upd H p (.frz o (.tup vs))) :=
  h (.ref p) _ β (Nxt.new hp) (T.newH hp) ⟨by
    show RV G β _ (.tup xs) _
    unfold RV
    exact ⟨p, vs, rfl, .inl ⟨o, upd_same, ho⟩, RVs.nxt T (Nxt.new hp) _ _ r⟩, trivial⟩
/-- a value as it is -/
theorem Post.val {d : D} {Q : V → Hp → Prop} (h : Post G (relU G) β H (Qc.pur (U.v d) S) Q Z) (T : RS G β H S) {v : V} (r : RV G β H d v) : Q v H := h v H β .refl T ⟨r, trivial⟩
theorem Post.int {i : Int} {Q : V → Hp → Prop} (h : Post G (relU G) β H (Qc.pur (U.v (.int i)) S) Q Z) (T : RS G β H S) : Q (.int i) H := h.val T (v := .int i) (by unfold RV; rfl)
theorem Post.bl {i : Bool} {Q : V → Hp → Prop} (h : Post G (relU G) β H (Qc.pur (U.v (.bl i)) S) Q Z) (T : RS G β H S) : Q (.bl i) H := h.val T (v := .bl i) (by unfold RV; rfl)
theorem Post.str {i : Str} {Q : V → Hp → Prop} (h : Post G (relU G) β H (Qc.pur (U.v (.str i)) S) Q Z) (T : RS G β H S) : Q (.str i) H := h.val T (v := .str i) (by unfold RV; rfl)
theorem Post.non {Q : V → Hp → Prop} (h : Post G (relU G) β H (Qc.pur (U.v .non) S) Q Z) (T : RS G β H S) : Q .non H := h.val T (v := .non) (by unfold RV; rfl)
end
end Qc
end
section
set_option Elab.async false
set_option linter.all false
set_option maxHeartbeats 1000000
namespace Qc
open PySem PySem.Spec PyProof.Rows L2

/-- an operation of two values, as the core language has it -/
def rU2 (G : Gx) (f : U → U → M U) : R2 := fun x y H Q => ∃ β S a b Z, RS G β H S ∧ RU G β H a x ∧ RU G β H b y ∧ Post G (relU G) β H (f a b S) Q Z
def rC2 (G : Gx) (f : U → U → M Bool) : R2 := rU2 G fun a b => bnd (f a b) fun r => pur (.v (.bl r))
section
variable {X : Cx} {G : Gx} (eK : G.K = X.K)
theorem RV.int_eq {β : List Addr} {H : Hp} {i : Int} {v : V} (h : RV G β H (.int i) v) : v = .int i := by unfold RV at h; exact h
theorem RV.bl_eq {β : List Addr} {H : Hp} {i : Bool} {v : V} (h : RV G β H (.bl i) v) : v = .bl i := by unfold RV at h; exact h
theorem RV.str_eq {β : List Addr} {H : Hp} {i : Str} {v : V} (h : RV G β H (.str i) v) : v = .str i := by unfold RV at h; exact h
theorem RV.non_eq {β : List Addr} {H : Hp} {v : V} (h : RV G β H .non v) : v = .non := by unfold RV at h; exact h
theorem RU.int_eq {β : List Addr} {H : Hp} {i : Int} {v : V} (h : RU G β H (.v (.int i)) v) : v = .int i := RV.int_eq (G := G) (β := β) (H := H) h
theorem RU.bl_eq {β : List Addr} {H : Hp} {i : Bool} {v : V} (h : RU G β H (.v (.bl i)) v) : v = .bl i := RV.bl_eq (G := G) (β := β) (H := H) h
theorem RU.str_eq {β : List Addr} {H : Hp} {i : Str} {v : V} (h : RU G β H (.v (.str i)) v) : v = .str i := RV.str_eq (G := G) (β := β) (H := H) h
theorem RU.non_eq {β : List Addr} {H : Hp} {v : V} (h : RU G β H (.v .non) v) : v = .non := RV.non_eq (G := G) (β := β) (H := H) h
section
variable {X : Cx}
/-- a tuple behind another one: what is made keeps no dict -/
theorem op_catF : OpR X (binaryOp .Add) (fun x y H Q => ∃ (a b : Addr) (xs ys : List V), x = .ref a ∧ y = .ref b ∧ SqT X.K H a xs ∧ SqT X.K H b ys ∧ xs ≠ [] ∧ xs.length + ys.length ≤ sizeLine ∧ (ys = [] → Q (.ref a) H) ∧
    (ys ≠ [] → ∀ (n : Addr) (o : Obj), H n = none → o.dict = none → Q (.ref n) (L2.upd H n (.frz o (.tup (xs ++ ys)))))) := fun pins s σ H x y v u Q I rx ry h => by
  obtain ⟨a, b, xs, ys, ex, ey, ha, hb, hx, hz, q1, q2⟩ := h
  subst ex ey
  cases rx
  cases ry
  obtain ⟨us, ru, pu, _⟩ := I.tuple ha
  obtain ⟨ws, rw, pw, _⟩ := I.tuple hb
  refine HT.cat_tup pu pw (fun z => hx (ru.nil_iff.mp z)) (fun z => ⟨.ref a, H, I, rfl, q1 (rw.nil_iff.mp z)⟩) (fun z => ?_) (by have := ru.length; have := rw.length; omega)
  have fr : H s.heap.objs.size = none := I.hok.fresh (Nat.le_refl _)
  refine ⟨.ref s.heap.objs.size, _, I.laid (t' := s.toks) (o := .frz _ (.tup (xs ++ ys))) (fun _ _ q => Heap.get?_push_of_some _ q) (Nat.le_refl _) ⟨Heap.get?_push_size _ rfl, ?_⟩, rfl, q2 (fun w => z (rw.nil_iff.mpr w)) _ _ fr rfl⟩
  exact ⟨by rw [List.length_append]; exact hz, _, ru.append rw, IsTup.new _ _⟩
end
theorem RU.tup_at {β : List Addr} {H : Hp} {xs : List D} {v : V} (r : RU G β H (.v (.tup xs)) v) : ∃ a vs, v = .ref a ∧ TupF G.K H a vs ∧ RVs G β H xs vs := RV.tup_at (G := G) (β := β) (H := H) r
theorem okLen_le {n : Nat} (h : okLen n = true) : n ≤ sizeLine := of_decide_eq_true h
theorem mulOk_C {i j : Int} (h : mulOk i j = true) : CMul i j := by
  unfold mulOk big64 at h
  simp only [Bool.or_eq_true, Bool.and_eq_true, decide_eq_true_eq] at h
  exact h
/-- + -/
theorem RVs.nil_of {β : List Addr} {H : Hp} {vs : List V} (h : RVs G β H [] vs) : vs = [] := by unfold RVs at h; exact h
include eK in
theorem or_add : OpR X (binaryOp .Add) (rU2 G (bop .add)) := by
  intro pins s σ H x y v u Q I rx ry h
  obtain ⟨β, S, a, b, Z, T, ra, rb, p⟩ := h
  unfold bop at p
  by_cases hl : isL a = true
  · rw [if_pos hl] at p
    obtain ⟨xs, l, vs, rfl, h1, q1, p⟩ := p.lsO T ra
    obtain ⟨ys, m, ws, rfl, h2, q2, p⟩ := p.lsO T rb
    obtain ⟨hz, p⟩ := p.guard
    refine op_cat pins s σ H _ _ v u Q I rx ry ⟨l, m, vs, ws, rfl, rfl, h1, h2, ?_, fun n hn => p.newL T (q1.append q2) hn⟩
    rw [← q1.length, ← q2.length]
    exact okLen_le hz
  · rw [if_neg hl] at p
    cases a with
    | v d =>
      cases b with
      | v e =>
        cases d with
        | int i =>
          cases e with
          | int j =>
            cases RU.int_eq ra
            cases RU.int_eq rb
            exact op_add pins s σ H _ _ v u Q I rx ry ⟨i, j, rfl, rfl, p.int T⟩
          | _ => exact p.elim
        | str i =>
          cases e with
          | str j =>
            cases RU.str_eq ra
            cases RU.str_eq rb
            obtain ⟨hz, p⟩ := p.guard
            exact op_add_str pins s σ H _ _ v u Q I rx ry ⟨i, j, rfl, rfl, okLen_le hz, p.str T⟩
          | _ => exact p.elim
        | tup xs =>
          cases xs with
          | nil => exact p.elim
          | cons d ds =>
            cases e with
            | tup ys =>
              obtain ⟨l, vs, rfl, h1, q1⟩ := RU.tup_at ra
              obtain ⟨m, ws, rfl, h2, q2⟩ := RU.tup_at rb
              obtain ⟨hz, p⟩ := p.guard
              have hz' := okLen_le hz
              rw [q1.length, q2.length] at hz'
              have k1 := h1
              rw [eK] at h1 h2
              have hne : vs ≠ [] := fun e => by
                have := q1.length
                rw [e] at this
                cases this
              refine op_catF pins s σ H _ _ v u Q I rx ry ⟨l, m, vs, ws, rfl, rfl, h1.sq, h2.sq, hne, hz', fun e => ?_, fun _ n o hn ho => p.newT T (q1.append q2) hn ho⟩
              refine p.val T (v := .ref l) ?_
              unfold RV
              refine ⟨l, vs, rfl, k1, ?_⟩
              have e2 : ys = [] := by
                have := q2.length
                rw [e] at this
                exact List.length_eq_zero_iff.mp this
              subst e2
              rw [List.append_nil]
              exact q1
            | _ => exact p.elim
        | _ => exact p.elim
      | _ => cases d <;> exact p.elim
    | _ => exact p.elim
theorem or_sub : OpR X (binaryOp .Sub) (rU2 G (bop .sub)) := by
  intro pins s σ H x y v u Q I rx ry h
  obtain ⟨β, S, a, b, Z, T, ra, rb, p⟩ := h
  unfold bop at p
  by_cases hl : isL a = true
  · rw [if_pos hl] at p
    exact p.elim
  · rw [if_neg hl] at p
    cases a with
    | v d =>
      cases b with
      | v e =>
        cases d with
        | int i =>
          cases e with
          | int j =>
            cases RU.int_eq ra
            cases RU.int_eq rb
            exact op_sub pins s σ H _ _ v u Q I rx ry ⟨i, j, rfl, rfl, p.int T⟩
          | _ => exact p.elim
        | _ => exact p.elim
      | _ => cases d <;> exact p.elim
    | _ => exact p.elim
theorem or_mul : OpR X (binaryOp .Mult) (rU2 G (bop .mul)) := by
  intro pins s σ H x y v u Q I rx ry h
  obtain ⟨β, S, a, b, Z, T, ra, rb, p⟩ := h
  unfold bop at p
  by_cases hl : isL a = true
  · rw [if_pos hl] at p
    obtain ⟨xs, l, vs, rfl, h1, q1, p⟩ := p.lsO T ra
    cases b with
    | v e =>
      cases e with
      | int k =>
        cases RU.int_eq rb
        obtain ⟨hz, p⟩ := p.guard
        simp only [Bool.and_eq_true, decide_eq_true_eq] at hz
        obtain ⟨⟨k0, k1⟩, hz⟩ := hz
        have hz' := okLen_le hz
        rw [q1.length] at hz'
        exact op_rep pins s σ H _ _ v u Q I rx ry ⟨l, k, vs, rfl, rfl, h1, by omega, by omega, hz', fun n hn => p.newL T (q1.rep _) hn⟩
      | _ => exact p.elim
    | _ => exact p.elim
  · rw [if_neg hl] at p
    cases a with
    | v d =>
      cases b with
      | v e =>
        cases d with
        | int i =>
          cases e with
          | int j =>
            cases RU.int_eq ra
            cases RU.int_eq rb
            obtain ⟨hz, p⟩ := p.guard
            exact op_mul pins s σ H _ _ v u Q I rx ry ⟨i, j, rfl, rfl, mulOk_C hz, p.int T⟩
          | _ => exact p.elim
        | _ => exact p.elim
      | _ => cases d <;> exact p.elim
    | _ => exact p.elim
theorem or_mod : OpR X (binaryOp .Mod) (rU2 G (bop .mod)) := by
  intro pins s σ H x y v u Q I rx ry h
  obtain ⟨β, S, a, b, Z, T, ra, rb, p⟩ := h
  unfold bop at p
  by_cases hl : isL a = true
  · rw [if_pos hl] at p
    exact p.elim
  · rw [if_neg hl] at p
    cases a with
    | v d =>
      cases b with
      | v e =>
        cases d with
        | int i =>
          cases e with
          | int j =>
            cases RU.int_eq ra
            cases RU.int_eq rb
            obtain ⟨hz, p⟩ := p.guard
            exact op_mod pins s σ H _ _ v u Q I rx ry ⟨i, j, rfl, rfl, of_decide_eq_true hz, p.int T⟩
          | _ => exact p.elim
        | _ => exact p.elim
      | _ => cases d <;> exact p.elim
    | _ => exact p.elim
theorem or_fdiv : OpR X (binaryOp .FloorDiv) (rU2 G (bop .fdiv)) := by
  intro pins s σ H x y v u Q I rx ry h
  obtain ⟨β, S, a, b, Z, T, ra, rb, p⟩ := h
  unfold bop at p
  by_cases hl : isL a = true
  · rw [if_pos hl] at p
    exact p.elim
  · rw [if_neg hl] at p
    cases a with
    | v d =>
      cases b with
      | v e =>
        cases d with
        | int i =>
          cases e with
          | int j =>
            cases RU.int_eq ra
            cases RU.int_eq rb
            obtain ⟨hz, p⟩ := p.guard
            simp only [Bool.and_eq_true, decide_eq_true_eq] at hz
            exact op_fdiv pins s σ H _ _ v u Q I rx ry ⟨i, j, rfl, rfl, hz, p.int T⟩
          | _ => exact p.elim
        | _ => exact p.elim
      | _ => cases d <;> exact p.elim
    | _ => exact p.elim
theorem or_pow : OpR X (binaryOp .Pow) (rU2 G (bop .pow)) := by
  intro pins s σ H x y v u Q I rx ry h
  obtain ⟨β, S, a, b, Z, T, ra, rb, p⟩ := h
  unfold bop at p
  by_cases hl : isL a = true
  · rw [if_pos hl] at p
    exact p.elim
  · rw [if_neg hl] at p
    cases a with
    | v d =>
      cases b with
      | v e =>
        cases d with
        | int i =>
          cases e with
          | int j =>
            cases RU.int_eq ra
            cases RU.int_eq rb
            obtain ⟨hz, p⟩ := p.guard
            simp only [Bool.and_eq_true, decide_eq_true_eq] at hz
            obtain ⟨⟨k0, k1⟩, hz⟩ := hz
            exact op_pow pins s σ H _ _ v u Q I rx ry ⟨i, j, rfl, rfl, ⟨k0, k1, hz⟩, p.int T⟩
          | _ => exact p.elim
        | _ => exact p.elim
      | _ => cases d <;> exact p.elim
    | _ => exact p.elim
def bopO : Bop → Operator
  | .add => .Add
  | .sub => .Sub
  | .mul => .Mult
  | .mod => .Mod
  | .fdiv => .FloorDiv
  | .pow => .Pow
include eK in
theorem or_bop (o : Bop) : OpR X (binaryOp (bopO o)) (rU2 G (bop o)) := by
  cases o
  · exact or_add eK
  · exact or_sub
  · exact or_mul
  · exact or_mod
  · exact or_fdiv
  · exact or_pow
end

/-! ### two in a row -/
theorem two {G : Gx} {W : WX} {f g : Env → M U} {k : U → U → M U} {r : R2} (hr : ∀ x y H Q, rU2 G k x y H Q → r x y H Q) {σ : L2.St} {H : Hp} {Q : VK} (h : tE G W (fun ρ => bnd (f ρ) fun x => bnd (g ρ) fun y => k x y) σ H Q) : tOp r (tE G W f) (tE G W g) σ H Q := by
  obtain ⟨β, ρ, S, E, T, p⟩ := h
  exact ⟨β, ρ, S, E, T, p.first fun a S1 v H1 β1 N1 T1 r1 p1 => ⟨β1, ρ, S1, E.nxt T N1, T1, (p1.nxt N1).first fun b S2 v2 H2 β2 N2 T2 r2 p2 => hr _ _ _ _ ⟨β2, S2, a, b, _, T2, r1.1.nxt T1 N2, r2.1, p2.nxt N2⟩⟩⟩
theorem pe_bin {X : Cx} {G : Gx} (eK : G.K = X.K) {W : WX} {f g : Env → M U} {a b : Expr} {pos : Pos} (o : Bop) (ha : PE X a (tE G W f)) (hb : PE X b (tE G W g)) :
    PE X (.BinOp a (bopO o) b pos) (tE G W (fun ρ => bnd (f ρ) fun x => bnd (g ρ) fun y => bop o x y)) :=
  PE.of (pe_op (or_bop eK o) ha hb) fun _ _ _ h => two (fun _ _ _ _ q => q) h
end Qc
end
section
set_option Elab.async false
set_option linter.all false
set_option maxHeartbeats 1000000
namespace Qc
open PySem PySem.Spec PyProof.Rows L2

section
variable {G : Gx} {β : List Addr} {H : Hp}
mutual
theorem RV.dp : ∀ (d : D) (v : V) (p : PyData), RV G β H d v → d.pd = some p → Dp G.K H v p
  | .non, v, p, h, e => by
    unfold D.pd at e
    unfold RV at h
    cases e
    subst h
    exact .non
  | .bl b, v, p, h, e => by
    unfold D.pd at e
    unfold RV at h
    cases e
    subst h
    exact .bl b
  | .int b, v, p, h, e => by
    unfold D.pd at e
    unfold RV at h
    cases e
    subst h
    exact .int b
  | .str b, v, p, h, e => by
    unfold D.pd at e
    unfold RV at h
    cases e
    subst h
    exact .str b
  | .tup xs, v, p, h, e => by
    unfold D.pd at e
    unfold RV at h
    obtain ⟨a, vs, rfl, q, r⟩ := h
    cases e1 : D.pds xs with
    | none => rw [e1] at e; cases e
    | some ps =>
      rw [e1] at e
      cases e
      exact .tup q.sq (RVs.dp xs vs ps r e1)
  | .fl xs, v, p, h, e => by
    unfold D.pd at e
    unfold RV at h
    obtain ⟨a, vs, rfl, q, r⟩ := h
    cases e1 : D.pds xs with
    | none => rw [e1] at e; cases e
    | some ps =>
      rw [e1] at e
      cases e
      exact .lst q.sq (RVs.dp xs vs ps r e1)
  | .obj _, v, p, h, e => by unfold D.pd at e; cases e
  | .exn _, v, p, h, e => by unfold D.pd at e; cases e
  | .con _, v, p, h, e => by unfold D.pd at e; cases e
theorem RVs.dp : ∀ (ds : List D) (vs : List V) (ps : List PyData), RVs G β H ds vs → D.pds ds = some ps → DpAll G.K H vs ps
  | [], vs, ps, h, e => by
    unfold D.pds at e
    unfold RVs at h
    cases e
    subst h
    exact .nil
  | d :: ds, vs, ps, h, e => by
    unfold D.pds at e
    unfold RVs at h
    obtain ⟨v, r, rfl, h1, h2⟩ := h
    cases e1 : D.pd d with
    | none => rw [e1] at e; cases e
    | some p =>
      cases e2 : D.pds ds with
      | none => rw [e1, e2] at e; cases e
      | some qs =>
        rw [e1, e2] at e
        cases e
        exact .cons (RV.dp d v p h1 e1) (RVs.dp ds r qs h2 e2)
end
variable {β0 : List Addr} {H0 : Hp} {S : Sto} {α ν : Type} {Rl : Rel α ν} {Q : ν → Hp → Prop} {Z : Nat → Hp → Prop}
theorem Post.upd {u : U} {k : PyData → M α} {v : V} (h : Post G Rl β0 H0 (bnd (Qc.upd u) k S) Q Z) (T : RS G β H S) (r : RU G β H u v) : ∃ p, Dp G.K H v p ∧ Post G Rl β0 H0 (k p S) Q Z := by
  cases u with
  | l xs =>
    obtain ⟨a, vs, rfl, q, rr⟩ := r.lst_at
    obtain ⟨p, e0, h⟩ := Post.opt (o := (D.pds xs).map PyData.list) h
    cases e1 : D.pds xs with
    | none => rw [e1] at e0; cases e0
    | some ps =>
      rw [e1] at e0
      cases e0
      exact ⟨_, .lst (SqL.of q) (RVs.dp xs vs ps rr e1), h⟩
  | v d =>
    have go : ∀ d, RV G β H d v → Post G Rl β0 H0 (bnd (Qc.opt d.pd) k S) Q Z → ∃ p, Dp G.K H v p ∧ Post G Rl β0 H0 (k p S) Q Z := fun d r h => by
      obtain ⟨p, e, h⟩ := h.opt
      exact ⟨p, RV.dp d v p r e, h⟩
    cases d with
    | obj n =>
      unfold Qc.upd at h
      rw [bnd_assoc] at h
      obtain ⟨o, e, h2⟩ := h.look
      cases o with
      | lst xs =>
        obtain ⟨a, rfl, _, vs, q, rr⟩ := RV.obj_at T r e
        obtain ⟨p, e1, h2⟩ := h2.opt
        cases e2 : D.pds xs with
        | none => rw [e2] at e1; cases e1
        | some ps =>
          rw [e2] at e1
          cases e1
          exact ⟨_, .lst (SqL.of q) (RVs.dp xs vs ps rr e2), h2⟩
      | dct kvs => exact h2.elim
      | ins c fs => exact h2.elim
    | _ => exact go _ r h
  | s xs => exact h.elim
  | d kvs => exact h.elim
end

section
variable {X : Cx} {G : Gx} (eK : G.K = X.K)
include eK in
theorem or_eq (hu : X.A.units + 64 < cLine) : OpR X (compareOp .Eq) (rC2 G (cop .eq)) := by
  intro pins s σ H x y v u Q I rx ry h
  obtain ⟨β, S, a, b, Z, T, ra, rb, p⟩ := h
  have p : Post G (relU G) β H (bnd (bnd (upd a) fun p => bnd (upd b) fun q => bnd (guard (PySem.SeqAt.shaped p && PySem.SeqAt.shaped q)) fun _ => pur (PyData.eqv p q)) (fun r => pur (U.v (.bl r))) S) Q Z := p
  rw [bnd_assoc] at p
  obtain ⟨d, hd, p⟩ := p.upd T ra
  rw [bnd_assoc] at p
  obtain ⟨e, he, p⟩ := p.upd T rb
  rw [bnd_assoc] at p
  obtain ⟨hz, p⟩ := p.guard
  obtain ⟨z1, z2⟩ := Bool.and_eq_true_iff.mp hz
  rw [eK] at hd he
  exact op_eqD hu pins s σ H x y v u Q I rx ry ⟨d, e, hd, he, z1, z2, Post.bl p T⟩
include eK in
theorem or_ne (hu : X.A.units + 64 < cLine) : OpR X (compareOp .NotEq) (rC2 G (cop .ne)) := by
  intro pins s σ H x y v u Q I rx ry h
  obtain ⟨β, S, a, b, Z, T, ra, rb, p⟩ := h
  have p : Post G (relU G) β H (bnd (bnd (upd a) fun p => bnd (upd b) fun q => bnd (guard (PySem.SeqAt.shaped p && PySem.SeqAt.shaped q)) fun _ => pur (!PyData.eqv p q)) (fun r => pur (U.v (.bl r))) S) Q Z := p
  rw [bnd_assoc] at p
  obtain ⟨d, hd, p⟩ := p.upd T ra
  rw [bnd_assoc] at p
  obtain ⟨e, he, p⟩ := p.upd T rb
  rw [bnd_assoc] at p
  obtain ⟨hz, p⟩ := p.guard
  obtain ⟨z1, z2⟩ := Bool.and_eq_true_iff.mp hz
  rw [eK] at hd he
  exact op_neD hu pins s σ H x y v u Q I rx ry ⟨d, e, hd, he, z1, z2, Post.bl p T⟩
theorem or_ord {op : CmpOp} {o : Cop} {f : Int → Int → Bool} {g : Str → Str → Bool} (hI : OpR X (compareOp op) (rI0 fun i j => .bl (f i j))) (hS : OpR X (compareOp op) (fun x y H Q => ∃ i j, x = .str i ∧ y = .str j ∧ Q (.bl (g i j)) H))
    (eI : ∀ i j, cop o (.v (.int i)) (.v (.int j)) = pur (f i j)) (eS : ∀ i j, cop o (.v (.str i)) (.v (.str j)) = pur (g i j))
    (no : ∀ a b S r, cop o a b S = r → (∀ i j, a = .v (.int i) → b = .v (.int j) → False) → (∀ i j, a = .v (.str i) → b = .v (.str j) → False) → r = .stuck) : OpR X (compareOp op) (rC2 G (cop o)) := by
  intro pins s σ H x y v u Q I rx ry h
  obtain ⟨β, S, a, b, Z, T, ra, rb, p⟩ := h
  by_cases c1 : ∃ i j, a = .v (.int i) ∧ b = .v (.int j)
  · obtain ⟨i, j, rfl, rfl⟩ := c1
    cases RU.int_eq ra
    cases RU.int_eq rb
    have p : Post G (relU G) β H (bnd (cop o (.v (.int i)) (.v (.int j))) (fun r => pur (U.v (.bl r))) S) Q Z := p
    rw [eI] at p
    exact hI pins s σ H _ _ v u Q I rx ry ⟨i, j, rfl, rfl, Post.bl p T⟩
  · by_cases c2 : ∃ i j, a = .v (.str i) ∧ b = .v (.str j)
    · obtain ⟨i, j, rfl, rfl⟩ := c2
      cases RU.str_eq ra
      cases RU.str_eq rb
      have p : Post G (relU G) β H (bnd (cop o (.v (.str i)) (.v (.str j))) (fun r => pur (U.v (.bl r))) S) Q Z := p
      rw [eS] at p
      exact hS pins s σ H _ _ v u Q I rx ry ⟨i, j, rfl, rfl, Post.bl p T⟩
    · have e := no a b S _ rfl (fun i j e1 e2 => c1 ⟨i, j, e1, e2⟩) fun i j e1 e2 => c2 ⟨i, j, e1, e2⟩
      have p : Post G (relU G) β H (bnd (cop o a b) (fun r => pur (U.v (.bl r))) S) Q Z := p
      unfold bnd at p
      rw [e] at p
      exact p.elim
theorem no_ord {o : Cop} (ho : o = .lt ∨ o = .le ∨ o = .gt ∨ o = .ge) : ∀ a b S r, cop o a b S = r → (∀ i j, a = .v (.int i) → b = .v (.int j) → False) → (∀ i j, a = .v (.str i) → b = .v (.str j) → False) → r = .stuck := by
  intro a b S r h n1 n2
  subst h
  cases a with
  | v d =>
    cases b with
    | v e =>
      cases d with
      | int i =>
        cases e with
        | int j => exact (n1 i j rfl rfl).elim
        | _ => rcases ho with rfl | rfl | rfl | rfl <;> rfl
      | str i =>
        cases e with
        | str j => exact (n2 i j rfl rfl).elim
        | _ => rcases ho with rfl | rfl | rfl | rfl <;> rfl
      | _ => rcases ho with rfl | rfl | rfl | rfl <;> rfl
    | _ => rcases ho with rfl | rfl | rfl | rfl <;> (cases d <;> rfl)
  | _ => rcases ho with rfl | rfl | rfl | rfl <;> rfl
theorem or_is : OpR X (compareOp .Is) (rC2 G (cop .is_)) := by
  intro pins s σ H x y v u Q I rx ry h
  obtain ⟨β, S, a, b, Z, T, ra, rb, p⟩ := h
  cases a with
  | v d =>
    cases b with
    | v e =>
      cases e with
      | non =>
        cases RU.non_eq rb
        cases d with
        | non =>
          cases RU.non_eq ra
          exact op_isN pins s σ H _ _ v u Q I rx ry ⟨rfl, Post.bl p T⟩
        | _ =>
          refine op_isN pins s σ H _ _ v u Q I rx ry ⟨rfl, ?_⟩
          have hx : x ≠ .non := by
            rintro rfl
            first
              | (have := RV.int_eq (G := G) (β := β) (H := H) ra; cases this)
              | (have := RV.bl_eq (G := G) (β := β) (H := H) ra; cases this)
              | (have := RV.str_eq (G := G) (β := β) (H := H) ra; cases this)
              | (have q := (show RV G β H _ _ from ra); unfold RV at q; obtain ⟨_, z, _⟩ := q; cases z; done)
              | (have q := (show RV G β H _ _ from ra); unfold RV at q; obtain ⟨_, _, z, _⟩ := q; cases z; done)
              | (have q := (show RV G β H _ _ from ra); unfold RV at q; obtain ⟨_, _, z⟩ := q; cases z)
              | (have q := (show RV G β H _ _ from ra); unfold RV at q; obtain ⟨_, z, _⟩ := q; cases z; done)
              | (have q := (show RV G β H _ _ from ra); unfold RV at q; cases q)
          rw [decide_eq_false hx]
          exact Post.bl p T
      | bl c =>
        cases d with
        | bl b =>
          cases RU.bl_eq ra
          cases RU.bl_eq rb
          refine op_isBl pins s σ H _ _ v u Q I rx ry ⟨b, c, rfl, rfl, ?_⟩
          have q := Post.bl p T
          have e : decide (b = c) = (b == c) := by cases b <;> cases c <;> rfl
          rw [e]
          exact q
        | _ => exact p.elim
      | _ => cases d <;> exact p.elim
    | _ => cases d <;> exact p.elim
  | _ => exact p.elim
theorem or_isn : OpR X (compareOp .IsNot) (rC2 G (cop .isn)) := by
  intro pins s σ H x y v u Q I rx ry h
  obtain ⟨β, S, a, b, Z, T, ra, rb, p⟩ := h
  cases a with
  | v d =>
    cases b with
    | v e =>
      cases e with
      | non =>
        cases RU.non_eq rb
        cases d with
        | non =>
          cases RU.non_eq ra
          exact op_notN pins s σ H _ _ v u Q I rx ry ⟨rfl, Post.bl p T⟩
        | _ =>
          refine op_notN pins s σ H _ _ v u Q I rx ry ⟨rfl, ?_⟩
          have hx : x ≠ .non := by
            rintro rfl
            first
              | (have := RV.int_eq (G := G) (β := β) (H := H) ra; cases this)
              | (have := RV.bl_eq (G := G) (β := β) (H := H) ra; cases this)
              | (have := RV.str_eq (G := G) (β := β) (H := H) ra; cases this)
              | (have q := (show RV G β H _ _ from ra); unfold RV at q; obtain ⟨_, z, _⟩ := q; cases z; done)
              | (have q := (show RV G β H _ _ from ra); unfold RV at q; obtain ⟨_, _, z, _⟩ := q; cases z; done)
              | (have q := (show RV G β H _ _ from ra); unfold RV at q; obtain ⟨_, _, z⟩ := q; cases z)
              | (have q := (show RV G β H _ _ from ra); unfold RV at q; obtain ⟨_, z, _⟩ := q; cases z; done)
              | (have q := (show RV G β H _ _ from ra); unfold RV at q; cases q)
          rw [decide_eq_false hx]
          exact Post.bl p T
      | _ => cases d <;> exact p.elim
    | _ => cases d <;> exact p.elim
  | _ => exact p.elim
theorem isSign_eq {x : Str} {c : Nat} (h : isSign x = some c) : x = ⟨#[c]⟩ := by
  obtain ⟨⟨l⟩⟩ := x
  unfold isSign at h
  match l, h with
  | [a], h => cases h; rfl
theorem or_in : OpR X (compareOp .In) (rC2 G (cop .in_)) := by
  intro pins s σ H x y v u Q I rx ry h
  obtain ⟨β, S, a, b, Z, T, ra, rb, p⟩ := h
  cases a with
  | v d =>
    cases b with
    | v e =>
      cases d with
      | str i =>
        cases e with
        | str j =>
          cases RU.str_eq ra
          cases RU.str_eq rb
          have p : Post G (relU G) β H (bnd (match isSign i with | some c => pur (decide (c ∈ j.cps.toList)) | none => stk) (fun r => pur (U.v (.bl r))) S) Q Z := p
          cases e1 : isSign i with
          | none => rw [e1] at p; exact p.elim
          | some c =>
            rw [e1] at p
            cases isSign_eq e1
            exact op_in_sign pins s σ H _ _ v u Q I rx ry ⟨c, j, rfl, rfl, Post.bl p T⟩
        | _ => exact p.elim
      | _ => cases e <;> exact p.elim
    | _ => cases d <;> exact p.elim
  | _ => exact p.elim
theorem or_nin : OpR X (compareOp .NotIn) (rC2 G (cop .nin)) := by
  intro pins s σ H x y v u Q I rx ry h
  obtain ⟨β, S, a, b, Z, T, ra, rb, p⟩ := h
  cases a with
  | v d =>
    cases b with
    | v e =>
      cases d with
      | str i =>
        cases e with
        | str j =>
          cases RU.str_eq ra
          cases RU.str_eq rb
          have p : Post G (relU G) β H (bnd (match isSign i with | some c => pur (!decide (c ∈ j.cps.toList)) | none => stk) (fun r => pur (U.v (.bl r))) S) Q Z := p
          cases e1 : isSign i with
          | none => rw [e1] at p; exact p.elim
          | some c =>
            rw [e1] at p
            cases isSign_eq e1
            exact op_notIn_sign pins s σ H _ _ v u Q I rx ry ⟨c, j, rfl, rfl, Post.bl p T⟩
        | _ => exact p.elim
      | _ => cases e <;> exact p.elim
    | _ => cases d <;> exact p.elim
  | _ => exact p.elim
def copO : Cop → CmpOp
  | .eq => .Eq
  | .ne => .NotEq
  | .lt => .Lt
  | .le => .LtE
  | .gt => .Gt
  | .ge => .GtE
  | .is_ => .Is
  | .isn => .IsNot
  | .in_ => .In
  | .nin => .NotIn
include eK in
theorem or_cop (hu : X.A.units + 64 < cLine) (o : Cop) : OpR X (compareOp (copO o)) (rC2 G (cop o)) := by
  cases o
  · exact or_eq eK hu
  · exact or_ne eK hu
  · exact or_ord op_lt op_lt_str (fun _ _ => rfl) (fun _ _ => rfl) (no_ord (.inl rfl))
  · exact or_ord op_le op_le_str (fun _ _ => rfl) (fun _ _ => rfl) (no_ord (.inr (.inl rfl)))
  · exact or_ord op_gt op_gt_str (fun _ _ => rfl) (fun _ _ => rfl) (no_ord (.inr (.inr (.inl rfl))))
  · exact or_ord op_ge op_ge_str (fun _ _ => rfl) (fun _ _ => rfl) (no_ord (.inr (.inr (.inr rfl))))
  · exact or_is
  · exact or_isn
  · exact or_in
  · exact or_nin
end
theorem pe_cmpX {X : Cx} {G : Gx} (eK : G.K = X.K) (hu : X.A.units + 64 < cLine) {W : WX} {f g : Env → M U} {a b : Expr} {pos : Pos} (o : Cop) (hm : behindInMarks (copO o) b = false) (ha : PE X a (tE G W f)) (hb : PE X b (tE G W g)) :
    PE X (.Compare a [copO o] [b] pos) (tE G W (fun ρ => bnd (f ρ) fun x => bnd (g ρ) fun y => bnd (cop o x y) fun r => pur (.v (.bl r)))) :=
  PE.of (pe_cmpR (or_cop eK hu o) ha hb hm) fun _ _ _ h => two (fun _ _ _ _ q => q) h
end Qc
end
section
set_option Elab.async false
set_option linter.all false
set_option maxHeartbeats 1000000
namespace Qc
open PySem PySem.Spec PyProof.Rows L2

/-! ### names, constants -/
section
variable {X : Cx} {G : Gx} {W : WX}
theorem pe_varX {i : Nat} {x : Str} {pos : Pos} (hN : X.N[i]? = some x) (hv : Vis X.env.scope x) (hd : (x == ("__debug__" : Str)) = false) (hcd : (x == ("__classdict__" : Str)) = false) :
    PE X (.Name x pos) (tE G W fun ρ => opt ((ρ[i]?.bind id).map U.v)) := by
  refine PE.of (pe_var hN hv hd hcd) fun σ H Q h => ?_
  obtain ⟨β, ρ, S, E, T, p⟩ := h
  dsimp only at p
  cases e3 : ρ[i]? with
  | none => rw [e3] at p; exact p.elim
  | some o =>
    rw [e3] at p
    cases o with
    | none => exact p.elim
    | some d =>
      obtain ⟨v, h1, r⟩ := E.2 i d e3
      exact ⟨v, h1, Post.val (d := d) p T r⟩
theorem tC_of {d : D} {v : V} (hv : ∀ β H, RV G β H d v) {σ : L2.St} {H : Hp} {Q : VK} (h : tE G W (fun _ => pur (.v d)) σ H Q) : tC v σ H Q := by
  obtain ⟨β, ρ, S, E, T, p⟩ := h
  exact p.val T (hv β H)
theorem pe_intX {i : Int} {j pos} : PE X (.Constant (.int i) j pos) (tE G W fun _ => pur (.v (.int i))) := PE.of pe_int fun _ _ _ h => tC_of (fun _ _ => by unfold RV; rfl) h
theorem pe_blX {b : Bool} {j pos} : PE X (.Constant (.bool b) j pos) (tE G W fun _ => pur (.v (.bl b))) := PE.of pe_bl fun _ _ _ h => tC_of (fun _ _ => by unfold RV; rfl) h
theorem pe_nonX {j pos} : PE X (.Constant .none j pos) (tE G W fun _ => pur (.v .non)) := PE.of pe_non fun _ _ _ h => tC_of (fun _ _ => by unfold RV; rfl) h
theorem pe_strX {x : Str} {j pos} : PE X (.Constant (.str x) j pos) (tE G W fun _ => pur (.v (.str x))) := PE.of pe_str fun _ _ _ h => tC_of (fun _ _ => by unfold RV; rfl) h
theorem pe_gvX {x : Str} {d : D} {v : V} {u : Value} {pos : Pos} (hg : Gl X x) (hm : X.mg x = some u) (r : RelV v u) (hv : ∀ β H, RV G β H d v) (hd : (x == ("__debug__" : Str)) = false) : PE X (.Name x pos) (tE G W fun _ => pur (.v d)) :=
  PE.of (pe_glob hg hm r hd) fun _ _ _ h => tC_of hv h

/-! ### one argument, a list of them -/
theorem one {f : Env → M U} {k : U → M U} {r : V → Hp → VK → Prop} (hr : ∀ β H S u x Q Z, RS G β H S → RU G β H u x → Post G (relU G) β H (k u S) Q Z → r x H Q) {σ : L2.St} {H : Hp} {Q : VK} (h : tE G W (fun ρ => bnd (f ρ) k) σ H Q) :
    tE G W f σ H fun x H1 => r x H1 Q := by
  obtain ⟨β, ρ, S, E, T, p⟩ := h
  exact ⟨β, ρ, S, E, T, p.first fun a S1 v H1 β1 N1 T1 r1 p1 => hr _ _ _ _ _ _ _ T1 r1.1 (p1.nxt N1)⟩
theorem pa_nilX : PA X [] (tA G W fun _ => pur []) := PA.of pa_nil fun σ H Q h => by
  obtain ⟨β, ρ, S, E, T, p⟩ := h
  exact p [] H β .refl T (by show RVs G β H [] []; unfold RVs; rfl)
theorem RVs.cons {β : List Addr} {H : Hp} {d : D} {v : V} {ds : List D} {vs : List V} (h : RV G β H d v) (t : RVs G β H ds vs) : RVs G β H (d :: ds) (v :: vs) := by
  unfold RVs
  exact ⟨v, vs, rfl, h, t⟩
theorem RV.ext {β β2 : List Addr} {H : Hp} (e : β2 = β ∨ ∃ a, β2 = β ++ [a]) {d : D} {v : V} (h : RV G β H d v) : RV G β2 H d v := by
  rcases e with rfl | ⟨a, rfl⟩
  · exact h
  · exact RV.push a d v h
theorem REnv.ext {β β2 : List Addr} {H : Hp} (e : β2 = β ∨ ∃ a, β2 = β ++ [a]) {σ : L2.St} {ρ : Env} (h : REnv G β H σ ρ) : REnv G β2 H σ ρ := by
  rcases e with rfl | ⟨a, rfl⟩
  · exact h
  · exact REnv.push a h
theorem pa_consX {e : Expr} {es : List Expr} {f : Env → M U} {g : Env → M (List D)} (he : PE X e (tE G W f)) (hes : PA X es (tA G W g)) (hs : starEach (e :: es) X.env = (false, eval e X.env) :: starEach es X.env) :
    PA X (e :: es) (tA G W fun ρ => bnd (f ρ) fun u => bnd (settle u) fun d => bnd (g ρ) fun ds => pur (d :: ds)) := by
  refine PA.of (pa_cons he hes hs) fun σ H Q h => ?_
  obtain ⟨β, ρ, S, E, T, p⟩ := h
  refine ⟨β, ρ, S, E, T, p.first fun a S1 v H1 β1 N1 T1 r1 p1 => ?_⟩
  obtain ⟨d, S2, β2, N2, T2, r2, ex, p2⟩ := p1.settle N1 T1 r1.1 r1.2
  refine ⟨β2, ρ, S2, (E.nxt T N1).ext ex, T2, (p2.nxt N2).first fun ds S3 vs H3 β3 N3 T3 r3 p3 => ?_⟩
  exact (p3.nxt N3) (v :: vs) H3 β3 .refl T3 (RVs.cons (RV.nxt T2 N3 _ _ r2) r3)
/-- f(e, ..) by the values of its arguments -/
theorem pe_tupF {es : List Expr} {k : Nat} {pos : Pos} {t : TA} (h : PA X es t) : PE X (.Tuple es k pos) (fun σ H Q => t σ H fun xs H1 => xs.length ≤ sizeLine ∧ ∀ (p : Addr) (o : Obj), H1 p = none → o.dict = none → Q (.ref p) (L2.upd H1 p (.frz o (.tup xs)))) :=
  ⟨fun pins s σ H Q I hq => wpAny_Tuple_spliced (thn (h.run pos pins s σ H _ I hq) fun us s1 ⟨xs, H1, I1, r, z, q⟩ => by
    have fr : H1 s1.heap.objs.size = none := I1.hok.fresh (Nat.le_refl _)
    refine ⟨by have := r.length; omega, .ref s1.heap.objs.size, _, I1.laid (t' := s1.toks) (o := .frz _ (.tup xs)) (fun _ _ e => Heap.get?_push_of_some _ e) (Nat.le_refl _) ⟨Heap.get?_push_size _ rfl, ?_⟩, rfl, q _ _ fr rfl⟩
    exact ⟨z, us, r, IsTup.new _ _⟩)⟩
theorem pe_tupX {es : List Expr} {k : Nat} {pos : Pos} {g : Env → M (List D)} (h : PA X es (tA G W g)) : PE X (.Tuple es k pos) (tE G W fun ρ => bnd (g ρ) fun ds => bnd (guard (okLen ds.length)) fun _ => pur (.v (.tup ds))) :=
  PE.of (pe_tupF h) fun σ H Q h => by
    obtain ⟨β, ρ, S, E, T, p⟩ := h
    refine ⟨β, ρ, S, E, T, p.first fun ds S1 vs H1 β1 N1 T1 r1 p1 => ?_⟩
    obtain ⟨hz, p1⟩ := (p1.nxt N1).guard
    exact ⟨by rw [← RVs.length r1]; exact okLen_le hz, fun q o hq ho => p1.newT T1 r1 hq ho⟩
theorem pe_lstX {es : List Expr} {pos : Pos} {g : Env → M (List D)} (h : PA X es (tA G W g)) : PE X (.List es pos) (tE G W fun ρ => bnd (g ρ) fun ds => bnd (guard (okLen ds.length)) fun _ => pur (.l ds)) :=
  PE.of (pe_lst h) fun σ H Q h => by
    obtain ⟨β, ρ, S, E, T, p⟩ := h
    refine ⟨β, ρ, S, E, T, p.first fun ds S1 vs H1 β1 N1 T1 r1 p1 => ?_⟩
    obtain ⟨hz, p1⟩ := (p1.nxt N1).guard
    exact ⟨by rw [← RVs.length r1]; exact okLen_le hz, fun q hq => p1.newL T1 r1 hq⟩

/-! ### truth, tests -/
variable (eK : G.K = X.K)
include eK in
theorem tru_V {β β0 : List Addr} {H H0 : Hp} {S : Sto} {u : U} {x : V} {α ν : Type} {Rl : Rel α ν} {k : Bool → M α} {Q : ν → Hp → Prop} {Z : Nat → Hp → Prop} (T : RS G β H S) (r : RU G β H u x) (p : Post G Rl β0 H0 (bnd (tru u) k S) Q Z) : ∃ b, TruV X.K x H b ∧ Post G Rl β0 H0 (k b S) Q Z := by
  have emp : ∀ {ds : List D} {vs : List V}, RVs G β H ds vs → ds.isEmpty = vs.isEmpty := fun {ds vs} q => by
    have := q.length
    cases ds <;> cases vs <;> first | rfl | cases this
  cases u with
  | l xs =>
    obtain ⟨a, vs, rfl, q, rr⟩ := r.lst_at
    exact ⟨!xs.isEmpty, .inl ⟨vs, SqL.of q, by rw [emp rr]⟩, p⟩
  | v d =>
    cases d with
    | non => cases RU.non_eq r; exact ⟨false, rfl, p⟩
    | bl b => cases RU.bl_eq r; exact ⟨b, rfl, p⟩
    | int i => cases RU.int_eq r; exact ⟨i != 0, rfl, p⟩
    | str y =>
      cases RU.str_eq r
      obtain ⟨b, e, p⟩ := Post.opt (o := truD (.str y)) p
      unfold truD at e
      by_cases hz : okLen y.length = true
      · have e : (if okLen y.length = true then some ((y.length : Int) != 0) else none) = some b := e
        rw [if_pos hz] at e
        cases e
        exact ⟨_, ⟨okLen_le hz, rfl⟩, p⟩
      · have e : (if okLen y.length = true then some ((y.length : Int) != 0) else none) = some b := e
        rw [if_neg hz] at e
        cases e
    | tup xs =>
      obtain ⟨a, vs, rfl, q, rr⟩ := RU.tup_at r
      have q := q.sq
      rw [eK] at q
      exact ⟨!xs.isEmpty, .inr (.inl ⟨vs, q, by rw [emp rr]⟩), p⟩
    | fl xs =>
      obtain ⟨a, vs, rfl, q, rr⟩ := RV.fl_at (G := G) (β := β) (H := H) r
      rw [eK] at q
      exact ⟨!xs.isEmpty, .inl ⟨vs, q.sq, by rw [emp rr]⟩, p⟩
    | obj n =>
      unfold tru at p
      rw [bnd_assoc] at p
      obtain ⟨o, e, p⟩ := p.look
      cases o with
      | lst xs =>
        obtain ⟨a, rfl, _, vs, q, rr⟩ := RV.obj_at T r e
        exact ⟨!xs.isEmpty, .inl ⟨vs, SqL.of q, by rw [emp rr]⟩, p⟩
      | dct kvs => exact p.elim
      | ins c fs => exact p.elim
    | exn c => exact p.elim
    | con k => exact p.elim
  | s xs => exact p.elim
  | d kvs => exact p.elim
include eK in
/-- an expression's value by its truth -/
theorem pt_ofX {e : Expr} {f : Env → M U} (he : PE X e (tE G W f)) (hp : ∀ whole, isTrue e X.env whole = (do let v ← whole; standAt e.pos; holding [v] (truthy v))) : PT X e (tT G W fun ρ => bnd (f ρ) tru) := by
  refine PT.of (pt_truth he hp) fun σ H Q h => ?_
  obtain ⟨β, ρ, S, E, T, p⟩ := h
  refine ⟨β, ρ, S, E, T, p.first fun u S1 v H1 β1 N1 T1 r1 p1 => ?_⟩
  have p1 : Post G relB β1 H1 (bnd (tru u) pur S1) Q (zW G W σ) := by
    have e : bnd (tru u) pur = tru u := by
      funext S
      unfold bnd
      cases tru u S <;> rfl
    rw [e]
    exact p1.nxt N1
  obtain ⟨b, tb, p2⟩ := tru_V eK T1 r1.1 p1
  exact ⟨b, tb, p2 b H1 β1 .refl T1 rfl⟩
def BoolM (m : M U) : Prop := ∀ S a S', m S = .ok a S' → ∃ r, a = .v (.bl r)
theorem boolM_bnd {α : Type} {m : M α} {k : α → M U} (h : ∀ a, BoolM (k a)) : BoolM (bnd m k) := fun S a S' e => by
  unfold bnd at e
  cases e1 : m S with
  | ok b S1 => rw [e1] at e; exact h b S1 a S' e
  | exc c S1 => rw [e1] at e; cases e
  | stuck => rw [e1] at e; cases e
theorem boolM_pur (b : Bool) : BoolM (pur (.v (.bl b))) := fun S a S' e => by cases e; exact ⟨b, rfl⟩
include eK in
/-- a comparison as a test -/
theorem pt_cmpX (hu : X.A.units + 64 < cLine) {f g : Env → M U} {a b : Expr} {pos : Pos} (o : Cop) (hm : behindInMarks (copO o) b = false) (ha : PE X a (tE G W f)) (hb : PE X b (tE G W g)) :
    PT X (.Compare a [copO o] [b] pos) (tT G W (fun ρ => bnd (bnd (f ρ) fun x => bnd (g ρ) fun y => bnd (cop o x y) fun r => pur (.v (.bl r))) tru)) := by
  refine PT.of (pt_cmpR (or_cop eK hu o) ha hb hm) fun σ H Q h => ?_
  refine two (k := fun x y => bnd (cop o x y) fun r => pur (.v (.bl r))) (fun _ _ _ _ q => q) ?_
  obtain ⟨β, ρ, S, E, T, p⟩ := h
  refine ⟨β, ρ, S, E, T, ?_⟩
  have key : ∀ m : M U, (∀ S a S', m S = .ok a S' → ∃ r, a = .v (.bl r)) → Post G relB β H (bnd m tru S) Q (zW G W σ) → Post G (relU G) β H (m S) (fun x H' => ∃ k, x = .bl k ∧ Q k H') (zW G W σ) := fun m hb p => by
    unfold bnd at p
    cases e : m S with
    | ok a S' =>
      rw [e] at p
      obtain ⟨r, rfl⟩ := hb S a S' e
      exact fun v H' β' n t q => ⟨r, RU.bl_eq q.1, p r H' β' n t rfl⟩
    | exc c S' => rw [e] at p; exact p
    | stuck => rw [e] at p; exact p
  exact key _ (boolM_bnd fun _ => boolM_bnd fun _ => boolM_bnd fun _ => boolM_pur _) p
end
end Qc
end
section
set_option Elab.async false
set_option linter.all false
set_option maxHeartbeats 1000000
namespace Qc
open PySem PySem.Spec PyProof.Rows L2

def notStar : Expr → Bool
  | .Starred _ _ => false
  | _ => true
theorem star_cons {e : Expr} (h : notStar e = true) (es : List Expr) (env : PySem.Env) : starEach (e :: es) env = (false, eval e env) :: starEach es env := by
  cases e <;> first | rfl | cases h
theorem star_any : ∀ {es : List Expr} (env : PySem.Env), es.all notStar = true → (starEach es env).any (·.1) = false
  | [], _, _ => rfl
  | e :: es, env, h => by
    rw [List.all_cons, Bool.and_eq_true] at h
    rw [star_cons h.1, List.any_cons, star_any env h.2]
    rfl
def notSlice : Expr → Bool
  | .Slice _ _ _ _ => false
  | _ => true
theorem plainIx_of {e : Expr} (h : notSlice e = true) : PlainIx e := by
  intro o i
  cases e <;> first | rfl | cases h
def plainT : Expr → Bool
  | .UnaryOp .Not _ _ => false
  | .BoolOp _ _ _ => false
  | .IfExp _ _ _ _ => false
  | .Compare _ _ _ _ => false
  | _ => true
theorem plainT_of {e : Expr} (h : plainT e = true) (env : PySem.Env) : ∀ whole, isTrue e env whole = (do let v ← whole; standAt e.pos; holding [v] (truthy v)) := by
  intro whole
  cases e with
  | UnaryOp op x p =>
    cases op <;> first | rfl | cases h
  | BoolOp _ _ _ => cases h
  | IfExp _ _ _ _ => cases h
  | Compare _ _ _ _ => cases h
  | _ => rfl
section
variable {X : Cx} {G : Gx} {W : WX} (eK : G.K = X.K) (hu : X.A.units + 64 < cLine)

/-- a test that has a bool for its value, by that value -/
theorem test_val {f : Env → M U} (hb : ∀ ρ, BoolM (f ρ)) {σ : L2.St} {H : Hp} {Q : Bool → Hp → Prop} (h : tT G W (fun ρ => bnd (f ρ) tru) σ H Q) : tE G W f σ H fun x H' => ∃ k, x = .bl k ∧ Q k H' := by
  obtain ⟨β, ρ, S, E, T, p⟩ := h
  refine ⟨β, ρ, S, E, T, ?_⟩
  dsimp only at p
  unfold bnd at p
  cases e : f ρ S with
  | ok a S' =>
    rw [e] at p
    obtain ⟨r, rfl⟩ := hb ρ S a S' e
    exact fun v H' β' n t q => ⟨r, RU.bl_eq q.1, p r H' β' n t rfl⟩
  | exc c S' => rw [e] at p; exact p
  | stuck => rw [e] at p; exact p

abbrev fChn (o p : Cop) (f g h : Env → M U) : Env → M U := fun ρ => bnd (f ρ) fun x => bnd (g ρ) fun y => bnd (cop o x y) fun r => if r = true then bnd (h ρ) fun z => bnd (cop p y z) fun r' => pur (.v (.bl r')) else pur (.v (.bl false))
theorem boolM_chn (o p : Cop) (f g h : Env → M U) (ρ : Env) : BoolM (fChn o p f g h ρ) := boolM_bnd fun _ => boolM_bnd fun _ => boolM_bnd fun r => by
  cases r with
  | true => exact boolM_bnd fun _ => boolM_bnd fun _ => boolM_pur _
  | false => exact boolM_pur _
/-- o1 of two, then what is left of its bool -/
theorem Post.boolThen {β : List Addr} {H : Hp} {S : Sto} {m : M Bool} {k : Bool → M U} {Q : VK} {Z : Nat → Hp → Prop} {Q' : VK} (p : Post G (relU G) β H (bnd m k S) Q Z)
    (f : ∀ r S1 H1 β1, Nxt β H β1 H1 → RS G β1 H1 S1 → Post G (relU G) β H (k r S1) Q Z → Q' (.bl r) H1) : Post G (relU G) β H (bnd m (fun r => pur (.v (.bl r))) S) Q' Z := by
  unfold bnd at p ⊢
  cases e : m S with
  | ok a S' =>
    rw [e] at p
    intro v H1 β1 N T q
    cases RU.bl_eq q.1
    exact f a S' H1 β1 N T p
  | exc c S' => rw [e] at p; exact p
  | stuck => rw [e] at p; exact p
theorem chain_ok {o p : Cop} {f g h : Env → M U} {σ : L2.St} {H : Hp} {Q : VK} (hh : tE G W (fChn o p f g h) σ H Q) : tChain (rC2 G (cop o)) (rC2 G (cop p)) (tE G W f) (tE G W g) (tE G W h) σ H Q := by
  obtain ⟨β, ρ, S, E, T, q⟩ := hh
  refine ⟨β, ρ, S, E, T, q.first fun a S1 v1 H1 β1 N1 T1 r1 p1 => ⟨β1, ρ, S1, E.nxt T N1, T1, (p1.nxt N1).first fun b S2 v2 H2 β2 N2 T2 r2 p2 => ?_⟩⟩
  refine ⟨β2, S2, a, b, _, T2, r1.1.nxt T1 N2, r2.1, (p2.nxt N2).boolThen fun r S3 H3 β3 N3 T3 p3 => ⟨r, rfl, ?_⟩⟩
  cases r with
  | false => exact (p3.nxt N3).bl T3
  | true => exact ⟨β3, ρ, S3, ((E.nxt T N1).nxt T1 N2).nxt T2 N3, T3, (p3.nxt N3).first fun c S4 v4 H4 β4 N4 T4 r4 p4 => ⟨β4, S4, b, c, _, T4, (r2.1.nxt T2 N3).nxt T3 N4, r4.1, p4.nxt N4⟩⟩
include eK hu in
theorem pe_chnX {o p : Cop} {f g h : Env → M U} {a b c : Expr} {pos : Pos} (ha : PE X a (tE G W f)) (hb : PE X b (tE G W g)) (hc : PE X c (tE G W h)) (hm : behindInMarks (copO p) c = false) :
    PE X (.Compare a [copO o, copO p] [b, c] pos) (tE G W (fChn o p f g h)) := PE.of (pe_chain (or_cop eK hu o) (or_cop eK hu p) ha hb hc hm) fun _ _ _ q => chain_ok q
include eK hu in
theorem pt_chnX {o p : Cop} {f g h : Env → M U} {a b c : Expr} {pos : Pos} (ha : PE X a (tE G W f)) (hb : PE X b (tE G W g)) (hc : PE X c (tE G W h)) (hm : behindInMarks (copO p) c = false) :
    PT X (.Compare a [copO o, copO p] [b, c] pos) (tT G W fun ρ => bnd (fChn o p f g h ρ) tru) := PT.of (pt_chain (or_cop eK hu o) (or_cop eK hu p) ha hb hc hm) fun _ _ _ q => chain_ok (test_val (boolM_chn o p f g h) q)

/-! ### and, or, not, if .. else -/
include eK in
theorem pe_andX {f g : Env → M U} {a b : Expr} {rest : List Expr} {pos : Pos} (ha : PE X a (tE G W f)) (hb : PE X (.BoolOp .And (b :: rest) pos) (tE G W g)) :
    PE X (.BoolOp .And (a :: b :: rest) pos) (tE G W fun ρ => bnd (f ρ) fun u => bnd (tru u) fun r => if r = true then g ρ else pur u) := PE.of (pe_andT ha hb) fun σ H Q h => by
  obtain ⟨β, ρ, S, E, T, p⟩ := h
  refine ⟨β, ρ, S, E, T, p.first fun u S1 v H1 β1 N1 T1 r1 p1 => ?_⟩
  obtain ⟨b, tb, p2⟩ := tru_V eK T1 r1.1 p1
  refine ⟨b, tb, ?_⟩
  cases b with
  | true => exact ⟨β1, ρ, S1, E.nxt T N1, T1, p2.nxt N1⟩
  | false => exact p2 v H1 β1 N1 T1 r1
include eK in
theorem pe_orX {f g : Env → M U} {a b : Expr} {rest : List Expr} {pos : Pos} (ha : PE X a (tE G W f)) (hb : PE X (.BoolOp .Or (b :: rest) pos) (tE G W g)) :
    PE X (.BoolOp .Or (a :: b :: rest) pos) (tE G W fun ρ => bnd (f ρ) fun u => bnd (tru u) fun r => if r = true then pur u else g ρ) := PE.of (pe_orT ha hb) fun σ H Q h => by
  obtain ⟨β, ρ, S, E, T, p⟩ := h
  refine ⟨β, ρ, S, E, T, p.first fun u S1 v H1 β1 N1 T1 r1 p1 => ?_⟩
  obtain ⟨b, tb, p2⟩ := tru_V eK T1 r1.1 p1
  refine ⟨b, tb, ?_⟩
  cases b with
  | false => exact ⟨β1, ρ, S1, E.nxt T N1, T1, p2.nxt N1⟩
  | true => exact p2 v H1 β1 N1 T1 r1
include eK in
theorem pe_notX {f : Env → M U} {a : Expr} {pos : Pos} (ha : PE X a (tE G W f)) : PE X (.UnaryOp .Not a pos) (tE G W fun ρ => bnd (f ρ) fun x => bnd (tru x) fun r => pur (.v (.bl (!r)))) := PE.of (pe_notT ha) fun σ H Q h => by
  obtain ⟨β, ρ, S, E, T, p⟩ := h
  refine ⟨β, ρ, S, E, T, p.first fun u S1 v H1 β1 N1 T1 r1 p1 => ?_⟩
  obtain ⟨b, tb, p2⟩ := tru_V eK T1 r1.1 (p1.nxt N1)
  exact ⟨b, tb, p2.bl T1⟩
/-! tests -/
theorem PW.of {X : Cx} {e : Expr} {t t' : TT} (h : PW X e t) (i : ∀ σ H Q, t' σ H Q → t σ H Q) : PW X e t' := ⟨fun wh pins s σ H Q I q => h.run wh pins s σ H Q I (i σ H Q q)⟩
theorem pw_andX {f g : Env → M Bool} {a b : Expr} {rest : List Expr} {pos : Pos} (ha : PT X a (tT G W f)) (hb : PW X (.BoolOp .And (b :: rest) pos) (tT G W g)) :
    PW X (.BoolOp .And (a :: b :: rest) pos) (tT G W fun ρ => bnd (f ρ) fun r => if r = true then g ρ else pur false) := PW.of (pw_and ha hb) fun σ H Q h => by
  obtain ⟨β, ρ, S, E, T, p⟩ := h
  refine ⟨β, ρ, S, E, T, p.first fun r S1 c H1 β1 N1 T1 r1 p1 => ?_⟩
  cases (show r = c from r1)
  cases r with
  | true => exact ⟨β1, ρ, S1, E.nxt T N1, T1, p1.nxt N1⟩
  | false => exact p1 false H1 β1 N1 T1 rfl
theorem pw_orX {f g : Env → M Bool} {a b : Expr} {rest : List Expr} {pos : Pos} (ha : PT X a (tT G W f)) (hb : PW X (.BoolOp .Or (b :: rest) pos) (tT G W g)) :
    PW X (.BoolOp .Or (a :: b :: rest) pos) (tT G W fun ρ => bnd (f ρ) fun r => if r = true then pur true else g ρ) := PW.of (pw_or ha hb) fun σ H Q h => by
  obtain ⟨β, ρ, S, E, T, p⟩ := h
  refine ⟨β, ρ, S, E, T, p.first fun r S1 c H1 β1 N1 T1 r1 p1 => ?_⟩
  cases (show r = c from r1)
  cases r with
  | false => exact ⟨β1, ρ, S1, E.nxt T N1, T1, p1.nxt N1⟩
  | true => exact p1 true H1 β1 N1 T1 rfl
theorem pt_notX {f : Env → M Bool} {a : Expr} {pos : Pos} (ha : PT X a (tT G W f)) : PT X (.UnaryOp .Not a pos) (tT G W fun ρ => bnd (f ρ) fun b => pur (!b)) := PT.of (pt_not ha) fun σ H Q h => by
  obtain ⟨β, ρ, S, E, T, p⟩ := h
  refine ⟨β, ρ, S, E, T, p.first fun r S1 c H1 β1 N1 T1 r1 p1 => ?_⟩
  cases (show r = c from r1)
  exact p1 (!r) H1 β1 N1 T1 rfl
theorem pe_ifeX {c : Env → M Bool} {f g : Env → M U} {t a b : Expr} {pos : Pos} (hc : PT X t (tT G W c)) (ha : PE X a (tE G W f)) (hb : PE X b (tE G W g)) :
    PE X (.IfExp t a b pos) (tE G W fun ρ => bnd (c ρ) fun r => if r = true then f ρ else g ρ) := PE.of (pe_ifExp hc ha hb) fun σ H Q h => by
  obtain ⟨β, ρ, S, E, T, p⟩ := h
  refine ⟨β, ρ, S, E, T, p.first fun r S1 c H1 β1 N1 T1 r1 p1 => ?_⟩
  cases (show r = c from r1)
  cases r with
  | true => exact ⟨β1, ρ, S1, E.nxt T N1, T1, p1.nxt N1⟩
  | false => exact ⟨β1, ρ, S1, E.nxt T N1, T1, p1.nxt N1⟩

/-! ### a[i] -/
theorem atI_rel {β : List Addr} {H : Hp} {xs : List D} {vs : List V} (r : RVs G β H xs vs) {i : Int} {d : D} (h : atI xs i = some d) : ∃ v, atI vs i = some v ∧ RV G β H d v := by
  unfold atI at h ⊢
  rw [← r.length]
  cases e : ixN xs.length i with
  | none => rw [e] at h; cases h
  | some j =>
    rw [e] at h
    exact RVs.get (i := j) r h
include eK in
theorem ix_ok : IxR X (rU2 G fun x y => match y with | .v (.int n) => ixD x n | _ => stk) := by
  intro value slice pins s σ H x y v u Q I rx ry h hpl
  obtain ⟨β, S, a, b, Z, T, ra, rb, p⟩ := h
  cases b with
  | v e =>
    cases e with
    | int n =>
      cases RU.int_eq rb
      dsimp only at p
      have seqs : Post G (relU G) β H (bnd (sq a) (fun xs => opt ((atI xs n).map U.v)) S) Q Z → wpAny (model X.prog X.w) X.A (subscriptTail value slice v u) (EP X pins σ Q) X.xe s := fun p => by
        obtain ⟨xs, l, vs, rfl, hs, rr, p⟩ := p.sq T ra
        cases e : atI xs n with
        | none => rw [e] at p; exact p.elim
        | some d =>
          rw [e] at p
          obtain ⟨w, h1, h2⟩ := atI_rel rr e
          rw [eK] at hs
          rcases hs with hs | hs
          · refine ix_list value slice pins s σ H _ _ v u Q I rx ry ⟨l, vs, n, w, rfl, rfl, hs, h1, Post.val (d := d) p T h2⟩ hpl
          · refine ix_tup value slice pins s σ H _ _ v u Q I rx ry ⟨l, vs, n, w, rfl, rfl, hs.sq, h1, Post.val (d := d) p T h2⟩ hpl
      cases a with
      | v d =>
        cases d with
        | str z =>
          cases RU.str_eq ra
          have p : Post G (relU G) β H (bnd (guard (okLen z.length)) (fun _ => match atI z.cps.toList n with | some c => pur (.v (.str ⟨#[c]⟩)) | none => stk) S) Q Z := p
          obtain ⟨hz, p⟩ := p.guard
          cases e : atI z.cps.toList n with
          | none => rw [e] at p; exact p.elim
          | some c =>
            rw [e] at p
            refine ix_str value slice pins s σ H _ _ v u Q I rx ry ⟨z, n, c, rfl, rfl, okLen_le hz, e, p.str T⟩ hpl
        | _ => exact seqs p
      | _ => exact seqs p
    | _ => exact p.elim
  | _ => exact p.elim
include eK in
theorem pe_ixX {f g : Env → M U} {a b : Expr} {pos : Pos} (ha : PE X a (tE G W f)) (hb : PE X b (tE G W g)) (hs : notSlice b = true) :
    PE X (.Subscript a b pos) (tE G W fun ρ => bnd (f ρ) fun x => bnd (g ρ) fun y => match y with | .v (.int n) => ixD x n | _ => stk) :=
  PE.of (pe_ix (ix_ok eK) ha hb (plainIx_of hs)) fun _ _ _ q => two (fun _ _ _ _ q => q) q
end
end Qc
end
section
set_option Elab.async false
set_option linter.all false
set_option maxHeartbeats 1000000
/-! Built-in functions. -/
namespace Qc
open PySem PySem.Spec PyProof.Rows L2
def rV1 (G : Gx) (k : U → M U) : V → Hp → VK → Prop := fun x H Q => ∃ β S u Z, RS G β H S ∧ RU G β H u x ∧ Post G (relU G) β H (k u S) Q Z
def rA1 (G : Gx) (k : U → M U) : List V → Hp → VK → Prop := fun xs H Q => ∃ x, xs = [x] ∧ rV1 G k x H Q
def rA2 (G : Gx) (k : U → U → M U) : List V → Hp → VK → Prop := fun xs H Q => ∃ x y, xs = [x, y] ∧ rU2 G k x y H Q
section
variable {X : Cx} {G : Gx} {W : WX} (eK : G.K = X.K) (hc : X.calm = true) (hu : X.A.units + 64 < cLine)
theorem pe_b1 {id : String} {k : U → M U} {x : Str} {p pos : Pos} {a : Expr} {f : Env → M U} (hr : CallR X (.builtin id) (rA1 G k)) (hg : Gl X x) (hm : X.mg x = none) (hv : bootBuiltins x = some (.builtin id)) (ha : PE X a (tE G W f)) (hs : notStar a = true)
    (hn : x ≠ "__name__") (hdb : (x == ("__debug__" : Str)) = false) : PE X (.Call (.Name x p) [a] [] pos) (tE G W fun ρ => bnd (f ρ) k) :=
  PE.of (pe_callB hr hg hm hv (pa_cons ha pa_nil (star_cons hs _ _)) hn hdb (star_cons hs _ _) rfl) fun σ H Q h => by
    obtain ⟨β, ρ, S, E, T, p⟩ := h
    exact ⟨β, ρ, S, E, T, p.first fun u S1 v H1 β1 N1 T1 r1 p1 => ⟨v, rfl, β1, S1, u, _, T1, r1.1, p1.nxt N1⟩⟩
theorem pe_t1 {T : String} {k : U → M U} {x : Str} {p pos : Pos} {a : Expr} {f : Env → M U} (hr : CallR X (.type T) (rA1 G k)) (hg : Gl X x) (hm : X.mg x = none) (hv : bootBuiltins x = some (.type T)) (ha : PE X a (tE G W f)) (hs : notStar a = true)
    (hn : x ≠ "__name__") (hdb : (x == ("__debug__" : Str)) = false) : PE X (.Call (.Name x p) [a] [] pos) (tE G W fun ρ => bnd (f ρ) k) :=
  PE.of (pe_callTy hr hg hm hv (pa_cons ha pa_nil (star_cons hs _ _)) hn hdb (star_cons hs _ _) rfl) fun σ H Q h => by
    obtain ⟨β, ρ, S, E, T, p⟩ := h
    exact ⟨β, ρ, S, E, T, p.first fun u S1 v H1 β1 N1 T1 r1 p1 => ⟨v, rfl, β1, S1, u, _, T1, r1.1, p1.nxt N1⟩⟩
theorem pe_b2 {id : String} {k : U → U → M U} {x : Str} {p pos : Pos} {a b : Expr} {f g : Env → M U} (hr : CallR X (.builtin id) (rA2 G k)) (hg : Gl X x) (hm : X.mg x = none) (hv : bootBuiltins x = some (.builtin id)) (ha : PE X a (tE G W f)) (hb : PE X b (tE G W g)) (hs : notStar a = true) (hs2 : notStar b = true)
    (hn : x ≠ "__name__") (hdb : (x == ("__debug__" : Str)) = false) : PE X (.Call (.Name x p) [a, b] [] pos) (tE G W fun ρ => bnd (f ρ) fun x => bnd (g ρ) fun y => k x y) :=
  PE.of (pe_callB hr hg hm hv (pa_cons ha (pa_cons hb pa_nil (star_cons hs2 _ _)) (star_cons hs _ _)) hn hdb (star_cons hs _ _) (by rw [star_cons hs2] <;> rfl)) fun σ H Q h => by
    obtain ⟨β, ρ, S, E, T, p⟩ := h
    exact ⟨β, ρ, S, E, T, p.first fun u S1 v H1 β1 N1 T1 r1 p1 => ⟨β1, ρ, S1, E.nxt T N1, T1, (p1.nxt N1).first fun u2 S2 v2 H2 β2 N2 T2 r2 p2 => ⟨v, v2, rfl, β2, S2, u, u2, _, T2, r1.1.nxt T1 N2, r2.1, p2.nxt N2⟩⟩⟩


include eK in
theorem cr_len : CallR X (.builtin "len") (rA1 G kLen) := by
  intro pins s σ H xs us Q I r h
  obtain ⟨x, rfl, β, S, u, Z, T, ru, p⟩ := h
  have seqs : Post G (relU G) β H (bnd (sq u) (fun xs => pur (.v (.int xs.length))) S) Q Z → wpAny (model X.prog X.w) X.A (call (.builtin "len") us) (EP X pins σ Q) X.xe s := fun p => by
    obtain ⟨xs, l, vs, rfl, hs, rr, p⟩ := p.sq T ru
    rw [eK] at hs
    refine call_len_seq pins s σ H _ us Q I r ⟨l, vs, rfl, hs.imp id TupF.sq, ?_⟩
    rw [← rr.length]
    exact p.int T
  cases u with
  | v d =>
    cases d with
    | str y =>
      cases RU.str_eq ru
      obtain ⟨hz, p⟩ := Post.guard (b := okLen y.length) p
      exact call_len_str pins s σ H _ us Q I r ⟨y, rfl, okLen_le hz, p.int T⟩
    | _ => exact seqs p
  | s xs =>
    obtain ⟨a, L, vs, rfl, hn, hH, rr, _⟩ := ru
    obtain ⟨w', rfl, rx⟩ := vals1 r
    cases rx
    obtain ⟨⟨o, es, ep, t, ho, hex, hd, hn1, hn2, hf, _⟩, _⟩ := I.hok a _ hH
    have p : Post G (relU G) β H (pur (.v (.int xs.length)) S) Q Z := p
    refine call_len_set ho hex hd hf (by rw [hn1]; omega) ⟨.int xs.length, H, I.tok _, ⟨_, by rw [hn1]⟩, p.int T⟩
  | _ => exact seqs p
theorem blsOf_rel {β : List Addr} {H : Hp} : ∀ {xs : List D} {vs : List V} {bs : List Bool}, RVs G β H xs vs → blsOf xs = some bs → vs = bs.map V.bl
  | [], vs, bs, r, e => by
    unfold RVs at r
    unfold blsOf at e
    cases e
    exact r
  | d :: ds, vs, bs, r, e => by
    unfold RVs at r
    obtain ⟨v, t, rfl, h1, h2⟩ := r
    cases d with
    | bl b =>
      unfold blsOf at e
      cases e1 : blsOf ds with
      | none => rw [e1] at e; cases e
      | some cs =>
        rw [e1] at e
        cases e
        unfold RV at h1
        rw [h1, blsOf_rel h2 e1]
        rfl
    | _ => cases e
theorem intsOf_rel {β : List Addr} {H : Hp} : ∀ {xs : List D} {vs : List V} {bs : List Int}, RVs G β H xs vs → intsOf xs = some bs → vs = bs.map V.int
  | [], vs, bs, r, e => by
    unfold RVs at r
    unfold intsOf at e
    cases e
    exact r
  | d :: ds, vs, bs, r, e => by
    unfold RVs at r
    obtain ⟨v, t, rfl, h1, h2⟩ := r
    cases d with
    | int b =>
      unfold intsOf at e
      cases e1 : intsOf ds with
      | none => rw [e1] at e; cases e
      | some cs =>
        rw [e1] at e
        cases e
        unfold RV at h1
        rw [h1, intsOf_rel h2 e1]
        rfl
    | _ => cases e


include eK hc in
theorem cr_allX : CallR X (.builtin "all") (rA1 G kAll) := by
  intro pins s σ H xs us Q I r h
  obtain ⟨x, rfl, β, S, u, Z, T, ru, p⟩ := h
  obtain ⟨xs, l, vs, rfl, hs, rr, p⟩ := Post.sqL p T ru
  obtain ⟨bs, e, p⟩ := p.opt
  have e2 := blsOf_rel rr e
  subst e2
  rw [eK] at hs
  exact cr_all hc pins s σ H _ us Q I r ⟨l, bs, rfl, hs, p.bl T⟩
include eK hc in
theorem cr_anyX : CallR X (.builtin "any") (rA1 G kAny) := by
  intro pins s σ H xs us Q I r h
  obtain ⟨x, rfl, β, S, u, Z, T, ru, p⟩ := h
  obtain ⟨xs, l, vs, rfl, hs, rr, p⟩ := Post.sqL p T ru
  obtain ⟨bs, e, p⟩ := p.opt
  have e2 := blsOf_rel rr e
  subst e2
  rw [eK] at hs
  exact cr_any hc pins s σ H _ us Q I r ⟨l, bs, rfl, hs, p.bl T⟩


include eK in
theorem cr_list : CallR X (.type "list") (rA1 G kList) := by
  intro pins s σ H xs us Q I r h
  obtain ⟨x, rfl, β, S, u, Z, T, ru, p⟩ := h
  obtain ⟨xs, l, vs, rfl, hs, rr, p⟩ := Post.sq p T ru
  rw [eK] at hs
  exact call_list_of pins s σ H _ us Q I r ⟨l, vs, rfl, hs.imp id TupF.sq, fun n hn => p.newL T rr hn⟩
/-- tuple(x): what is made keeps no dict -/
theorem call_tupleF : CallR X (.type "tuple") (fun xs H Q => ∃ p ys, xs = [.ref p] ∧ ((SqL X.K H p ys ∧ ∀ (l : Addr) (o : Obj), H l = none → o.dict = none → Q (.ref l) (L2.upd H l (.frz o (.tup ys)))) ∨ (SqT X.K H p ys ∧ Q (.ref p) H))) := fun pins s σ H xs us Q I r h => by
  obtain ⟨p, ys, ex, h⟩ := h
  subst ex
  obtain ⟨u, eu, rx⟩ := vals1 r
  subst eu
  cases rx
  rcases h with ⟨hq, q⟩ | ⟨hq, q⟩
  · obtain ⟨its, r', pl, hz⟩ := I.list hq
    have hlen := r'.length
    refine call_tuple_list pl.isList (fun h' kp => ?_) (by rw [List.size_toArray]; omega)
    have I1 : Inv X pins σ H { s with heap := h' } := I.kept (t' := s.toks) kp
    have fr : H h'.objs.size = none := I1.hok.fresh (Nat.le_refl _)
    exact ⟨.ref h'.objs.size, _, I1.laid (t' := s.toks) (o := .frz _ (.tup ys)) (fun _ _ e => Heap.get?_push_of_some _ e) (Nat.le_refl _) ⟨Heap.get?_push_size _ rfl, ⟨hz, its, r', IsTup.new _ _⟩⟩, rfl, q _ _ fr rfl⟩
  · obtain ⟨its, r', pl, _⟩ := I.tuple hq
    exact call_tuple_same pl ⟨.ref p, H, I, rfl, q⟩
include eK in
theorem cr_tuple : CallR X (.type "tuple") (rA1 G kTuple) := by
  intro pins s σ H xs us Q I r h
  obtain ⟨x, rfl, β, S, u, Z, T, ru, p⟩ := h
  obtain ⟨xs, l, vs, rfl, hs, rr, p⟩ := Post.sq p T ru
  have hs' := hs
  rw [eK] at hs
  refine call_tupleF pins s σ H _ us Q I r ⟨l, vs, rfl, ?_⟩
  rcases hs with hs | hs
  · exact .inl ⟨hs, fun n o hn ho => p.newT T rr hn ho⟩
  · refine .inr ⟨hs.sq, p.val T ?_⟩
    unfold RV
    rw [eK]
    exact ⟨l, vs, rfl, hs, rr⟩
theorem foldl_max_ge : ∀ (l : List Int) (m : Int), m ≤ l.foldl max m ∧ (∀ y ∈ l, y ≤ l.foldl max m) ∧ (l.foldl max m = m ∨ l.foldl max m ∈ l)
  | [], m => ⟨Int.le_refl _, fun _ h => (by cases h), .inl rfl⟩
  | x :: l, m => by
    obtain ⟨h1, h2, h3⟩ := foldl_max_ge l (max m x)
    rw [List.foldl_cons]
    refine ⟨by omega, fun y hy => ?_, ?_⟩
    · rcases List.mem_cons.mp hy with rfl | hy
      · omega
      · exact h2 y hy
    · rcases h3 with h3 | h3
      · rw [h3]
        rcases Int.le_total m x with c | c
        · rw [Int.max_eq_right c]; exact .inr List.mem_cons_self
        · rw [Int.max_eq_left c]; exact .inl rfl
      · exact .inr (List.mem_cons_of_mem _ h3)
theorem foldl_min_le : ∀ (l : List Int) (m : Int), l.foldl min m ≤ m ∧ (∀ y ∈ l, l.foldl min m ≤ y) ∧ (l.foldl min m = m ∨ l.foldl min m ∈ l)
  | [], m => ⟨Int.le_refl _, fun _ h => (by cases h), .inl rfl⟩
  | x :: l, m => by
    obtain ⟨h1, h2, h3⟩ := foldl_min_le l (min m x)
    rw [List.foldl_cons]
    refine ⟨by omega, fun y hy => ?_, ?_⟩
    · rcases List.mem_cons.mp hy with rfl | hy
      · omega
      · exact h2 y hy
    · rcases h3 with h3 | h3
      · rw [h3]
        rcases Int.le_total m x with c | c
        · rw [Int.min_eq_left c]; exact .inl rfl
        · rw [Int.min_eq_right c]; exact .inr List.mem_cons_self
      · exact .inr (List.mem_cons_of_mem _ h3)


include eK hc in
theorem cr_maxX : CallR X (.builtin "max") (rA1 G kMax) := by
  intro pins s σ H xs us Q I r h
  obtain ⟨x, rfl, β, S, u, Z, T, ru, p⟩ := h
  obtain ⟨xs, l, vs, rfl, hs, rr, p⟩ := Post.sqL p T ru
  obtain ⟨m, e, p⟩ := p.opt
  cases e1 : intsOf xs with
  | none => rw [e1] at e; cases e
  | some ns =>
    rw [e1] at e
    have e2 := intsOf_rel rr e1
    subst e2
    rw [eK] at hs
    cases ns with
    | nil => cases e
    | cons a ns =>
      have e : some (ns.foldl max a) = some m := e
      cases e
      refine cr_max hc pins s σ H _ us Q I r ⟨l, a :: ns, rfl, hs, by simp, fun m' hm' hg => ?_⟩
      obtain ⟨h1, h2, h3⟩ := foldl_max_ge ns a
      have em : m' = ns.foldl max a := by
        have g : ns.foldl max a ≤ m' := hg _ (by
          rcases h3 with h3 | h3
          · rw [h3]; exact List.mem_cons_self
          · exact List.mem_cons_of_mem _ h3)
        have g2 : m' ≤ ns.foldl max a := by
          rcases List.mem_cons.mp hm' with rfl | hm'
          · exact h1
          · exact h2 _ hm'
        omega
      rw [em]
      exact p.int T
include eK hc in
theorem cr_minX : CallR X (.builtin "min") (rA1 G kMin) := by
  intro pins s σ H xs us Q I r h
  obtain ⟨x, rfl, β, S, u, Z, T, ru, p⟩ := h
  obtain ⟨xs, l, vs, rfl, hs, rr, p⟩ := Post.sqL p T ru
  obtain ⟨m, e, p⟩ := p.opt
  cases e1 : intsOf xs with
  | none => rw [e1] at e; cases e
  | some ns =>
    rw [e1] at e
    have e2 := intsOf_rel rr e1
    subst e2
    rw [eK] at hs
    cases ns with
    | nil => cases e
    | cons a ns =>
      have e : some (ns.foldl min a) = some m := e
      cases e
      refine cr_min hc pins s σ H _ us Q I r ⟨l, a :: ns, rfl, hs, by simp, fun m' hm' hg => ?_⟩
      obtain ⟨h1, h2, h3⟩ := foldl_min_le ns a
      have em : m' = ns.foldl min a := by
        have g : m' ≤ ns.foldl min a := hg _ (by
          rcases h3 with h3 | h3
          · rw [h3]; exact List.mem_cons_self
          · exact List.mem_cons_of_mem _ h3)
        have g2 : ns.foldl min a ≤ m' := by
          rcases List.mem_cons.mp hm' with rfl | hm'
          · exact h1
          · exact h2 _ hm'
        omega
      rw [em]
      exact p.int T


include hc in
theorem cr_max2X : CallR X (.builtin "max") (rA2 G kMax2) := by
  intro pins s σ H xs us Q I r h
  obtain ⟨x, y, rfl, β, S, a, b, Z, T, ra, rb, p⟩ := h
  cases a with
  | v d =>
    cases b with
    | v e =>
      cases d with
      | int i =>
        cases e with
        | int j =>
          cases RU.int_eq ra
          cases RU.int_eq rb
          exact call_max2 hc pins s σ H _ us Q I r ⟨i, j, rfl, Post.int (S := S) p T⟩
        | _ => exact p.elim
      | _ => exact p.elim
    | _ => cases d <;> exact p.elim
  | _ => exact p.elim
include hc in
theorem cr_min2X : CallR X (.builtin "min") (rA2 G kMin2) := by
  intro pins s σ H xs us Q I r h
  obtain ⟨x, y, rfl, β, S, a, b, Z, T, ra, rb, p⟩ := h
  cases a with
  | v d =>
    cases b with
    | v e =>
      cases d with
      | int i =>
        cases e with
        | int j =>
          cases RU.int_eq ra
          cases RU.int_eq rb
          exact call_min2 hc pins s σ H _ us Q I r ⟨i, j, rfl, Post.int (S := S) p T⟩
        | _ => exact p.elim
      | _ => exact p.elim
    | _ => cases d <;> exact p.elim
  | _ => exact p.elim
end
end Qc
end
section
set_option Elab.async false
set_option linter.all false
set_option maxHeartbeats 1000000
/-! Statements of the core language keep what the machine does. -/
namespace Qc
open PySem PySem.Spec PyProof.Rows L2

/-- a run of a statement beside one of the machine -/
def PostS (G : Gx) (β : List Addr) (H : Hp) (r : Rs) (En : Ends) (Z : Nat → L2.St → Hp → Prop) : Prop := match r with
  | .go (.nx ρ') S' => ∀ (σ' : L2.St) (H' : Hp) (β' : List Addr), Nxt β H β' H' → RS G β' H' S' → REnv G β' H' σ' ρ' → En.nx σ' H'
  | .go (.bk ρ') S' => ∀ (σ' : L2.St) (H' : Hp) (β' : List Addr), Nxt β H β' H' → RS G β' H' S' → REnv G β' H' σ' ρ' → En.bk σ' H'
  | .go (.ct ρ') S' => ∀ (σ' : L2.St) (H' : Hp) (β' : List Addr), Nxt β H β' H' → RS G β' H' S' → REnv G β' H' σ' ρ' → En.ct σ' H'
  | .go (.rt u) S' => ∀ (v : V) (H' : Hp) (β' : List Addr), Nxt β H β' H' → RS G β' H' S' → RU G β' H' u v → Fr H u v → En.rt v H'
  | .exc c ρ' S' => ∀ (σ' : L2.St) (H' : Hp) (β' : List Addr), Nxt β H β' H' → RS G β' H' S' → REnv G β' H' σ' ρ' → Z c σ' H'
  | .stuck => False
/-- an exception's wish by its class -/
abbrev zS (G : Gx) (W : WX) : Nat → L2.St → Hp → Prop := fun c σ H => W (.ref (G.xa c)) none σ H
def tS (G : Gx) (W : WX) (f : Env → X) : TS := fun En σ H => ∃ β ρ S, REnv G β H σ ρ ∧ RS G β H S ∧ PostS G β H (f ρ S) En (zS G W)

section
variable {G : Gx} {β β1 : List Addr} {H H1 : Hp} {S S1 : Sto} {σ : L2.St} {ρ : Env} {W : WX} {En : Ends} {Z : Nat → L2.St → Hp → Prop}
theorem PostS.nxt {r : Rs} (N : Nxt β H β1 H1) (h : PostS G β H r En Z) : PostS G β1 H1 r En Z := by
  cases r with
  | go f S' =>
    cases f with
    | nx ρ' => exact fun σ' H' β' n t e => h σ' H' β' (N.trans n) t e
    | bk ρ' => exact fun σ' H' β' n t e => h σ' H' β' (N.trans n) t e
    | ct ρ' => exact fun σ' H' β' n t e => h σ' H' β' (N.trans n) t e
    | rt u => exact fun v H' β' n t e fr => h v H' β' (N.trans n) t e (fr.back N)
  | exc c ρ' S' => exact fun σ' H' β' n t e => h σ' H' β' (N.trans n) t e
  | stuck => exact h
/-- an expression, then the rest -/
theorem PostS.first {α ν : Type} {Rl : Rel α ν} {m : M α} {k : α → X} {Q1 : ν → Hp → Prop} (E : REnv G β H σ ρ) (T : RS G β H S) (h : PostS G β H (lift m ρ k S) En (zS G W))
    (f : ∀ a S1 v H1 β1, Nxt β H β1 H1 → RS G β1 H1 S1 → Rl.r H β1 H1 a v → PostS G β H (k a S1) En (zS G W) → Q1 v H1) : Post G Rl β H (m S) Q1 (zW G W σ) := by
  unfold lift at h
  cases e : m S with
  | ok a S1 =>
    rw [e] at h
    exact fun v H1 β1 n t r => f a S1 v H1 β1 n t r h
  | exc c S1 =>
    rw [e] at h
    exact fun H1 β1 n t => h σ H1 β1 n t (E.nxt T n)
  | stuck => rw [e] at h; exact h
theorem lift_bnd {α γ : Type} (m : M α) (k : α → M γ) (ρ : Env) (l : γ → X) : lift (bnd m k) ρ l = lift m ρ fun a => lift (k a) ρ l := by
  funext S
  unfold lift bnd
  cases m S <;> rfl
theorem settle_ok {u : U} {v : V} (hs : ∀ xs, u ≠ .s xs) (N : Nxt β H β1 H1) (T : RS G β1 H1 S) (r : RU G β1 H1 u v) (fr : Fr H u v) :
    ∃ d S2 β2, settle u S = .ok d S2 ∧ Nxt β H β2 H1 ∧ RS G β2 H1 S2 ∧ RV G β2 H1 d v ∧ (β2 = β1 ∨ ∃ a, β2 = β1 ++ [a]) := by
  have nxt : ∀ a, H a = none → Nxt β H (β1 ++ [a]) H1 := fun a ha => by
    obtain ⟨e, rfl, ne⟩ := N.pre
    refine ⟨⟨e ++ [a], by simp, fun b hb => ?_⟩, N.keep, N.dom⟩
    rcases List.mem_append.mp hb with z | z
    · exact ne b z
    · rw [List.mem_singleton] at z; subst z; exact ha
  have ob : ∀ a, RV G (β1 ++ [a]) H1 (.obj S.length) (.ref a) := fun a => by
    unfold RV
    refine ⟨a, ?_, rfl⟩
    rw [← T.len, List.getElem?_append_right (Nat.le_refl _), Nat.sub_self]
    rfl
  cases u with
  | v d => exact ⟨d, S, β1, rfl, N, T, r, .inl rfl⟩
  | l xs =>
    obtain ⟨a, vs, rfl, hn, q, rr⟩ := r
    exact ⟨_, _, β1 ++ [a], rfl, nxt a (fr a rfl), T.push (o := .lst xs) a hn ⟨vs, q, rr⟩, ob a, .inr ⟨a, rfl⟩⟩
  | s xs => exact (hs xs rfl).elim
  | d kvs =>
    obtain ⟨a, rfl, hn, q⟩ := r
    exact ⟨_, _, β1 ++ [a], rfl, nxt a (fr a rfl), T.push (o := .dct kvs) a hn q, ob a, .inr ⟨a, rfl⟩⟩
theorem PostS.settle {u : U} {k : D → X} {v : V} (h : PostS G β H (lift (Qc.settle u) ρ k S) En Z) (N : Nxt β H β1 H1) (T : RS G β1 H1 S) (r : RU G β1 H1 u v) (fr : Fr H u v) :
    ∃ d S2 β2, Nxt β H β2 H1 ∧ RS G β2 H1 S2 ∧ RV G β2 H1 d v ∧ (β2 = β1 ∨ ∃ a, β2 = β1 ++ [a]) ∧ PostS G β H (k d S2) En Z := by
  have hs : ∀ xs, u ≠ .s xs := fun xs e => by subst e; exact h.elim
  obtain ⟨d, S2, β2, e, a1, a2, a3, a4⟩ := settle_ok hs N T r fr
  unfold lift at h
  rw [e] at h
  exact ⟨d, S2, β2, a1, a2, a3, a4, h⟩
theorem PostS.opt {γ : Type} {o : Option γ} {k : γ → X} (h : PostS G β H (lift (Qc.opt o) ρ k S) En Z) : ∃ a, o = some a ∧ PostS G β H (k a S) En Z := by
  cases o with
  | some a => exact ⟨a, rfl, h⟩
  | none => exact h.elim
theorem PostS.look {n : Nat} {k : O → X} (h : PostS G β H (lift (Qc.look n) ρ k S) En Z) : ∃ o, S[n]? = some o ∧ PostS G β H (k o S) En Z := by
  unfold lift Qc.look at h
  cases e : S[n]? with
  | some o => rw [e] at h; exact ⟨o, rfl, h⟩
  | none => rw [e] at h; exact h.elim
theorem PostS.guard {b : Bool} {k : Unit → X} (h : PostS G β H (lift (Qc.guard b) ρ k S) En Z) : b = true ∧ PostS G β H (k () S) En Z := by
  cases b with
  | true => exact ⟨rfl, h⟩
  | false => exact h.elim
end

/-! ### small statements -/
section
variable {X : Cx} {G : Gx} {W : WX}
theorem PS.of {X : Cx} {e : Stmt} {t t' : TS} (h : PS X e t) (i : ∀ En σ H, t' En σ H → t En σ H) : PS X e t' := ⟨fun pins s σ H En I q => h.run pins s σ H En I (i En σ H q)⟩
theorem PSs.of {X : Cx} {e : List Stmt} {t t' : TS} (h : PSs X e t) (i : ∀ En σ H, t' En σ H → t En σ H) : PSs X e t' := ⟨fun pins s σ H En I q => h.run pins s σ H En I (i En σ H q)⟩
theorem PG.of {X : Cx} {e : Expr} {t t' : TG} (h : PG X e t) (i : ∀ v σ H Q, t' v σ H Q → t v σ H Q) : PG X e t' := ⟨fun pins s σ H v u Q I r q => h.run pins s σ H v u Q I r (i v σ H Q q)⟩
theorem ps_passX {pos : Pos} : PS X (.Pass pos) (tS G W fun ρ => goX (.nx ρ)) := PS.of ps_pass fun En σ H h => by
  obtain ⟨β, ρ, S, E, T, p⟩ := h
  exact p σ H β .refl T E
theorem ps_brkX {pos : Pos} : PS X (.Break pos) (tS G W fun ρ => goX (.bk ρ)) := PS.of ps_break fun En σ H h => by
  obtain ⟨β, ρ, S, E, T, p⟩ := h
  exact p σ H β .refl T E
theorem ps_cntX {pos : Pos} : PS X (.Continue pos) (tS G W fun ρ => goX (.ct ρ)) := PS.of ps_continue fun En σ H h => by
  obtain ⟨β, ρ, S, E, T, p⟩ := h
  exact p σ H β .refl T E
theorem pss_nilX : PSs X [] (tS G W fun ρ => goX (.nx ρ)) := PSs.of pss_nil fun En σ H h => by
  obtain ⟨β, ρ, S, E, T, p⟩ := h
  exact p σ H β .refl T E
theorem ps_exprX {e : Expr} {pos : Pos} {f : Env → M U} (he : PE X e (tE G W f)) (hs : swapsWith e none pos.line X.env = pure false) : PS X (.Expr e pos) (tS G W fun ρ => lift (f ρ) ρ fun _ => goX (.nx ρ)) :=
  PS.of (ps_expr he hs) fun En σ H h => by
    obtain ⟨β, ρ, S, E, T, p⟩ := h
    exact ⟨β, ρ, S, E, T, PostS.first E T p fun u S1 v H1 β1 N1 T1 r1 p1 => p1 σ H1 β1 N1 T1 (E.nxt T N1)⟩
theorem ps_retX {e : Expr} {pos : Pos} {f : Env → M U} (he : PE X e (tE G W f)) : PS X (.Return (some e) pos) (tS G W fun ρ => lift (f ρ) ρ fun u => goX (.rt u)) :=
  PS.of (ps_ret he) fun En σ H h => by
    obtain ⟨β, ρ, S, E, T, p⟩ := h
    exact ⟨β, ρ, S, E, T, PostS.first E T p fun u S1 v H1 β1 N1 T1 r1 p1 => p1 v H1 β1 N1 T1 r1.1 r1.2⟩
theorem ps_retNX {pos : Pos} : PS X (.Return none pos) (tS G W fun ρ => lift (pur (U.v .non)) ρ fun u => goX (.rt u)) :=
  PS.of ps_retN fun En σ H h => by
    obtain ⟨β, ρ, S, E, T, p⟩ := h
    exact p .non H β .refl T (by show RV G β H .non .non; unfold RV; rfl) trivial
theorem pss_consX {s : Stmt} {ss : List Stmt} {f g : Env → Qc.X} (h1 : PS X s (tS G W f)) (h2 : PSs X ss (tS G W g)) : PSs X (s :: ss) (tS G W fun ρ => seqX (f ρ) g) :=
  PSs.of (pss_cons h1 h2) fun En σ H h => by
    obtain ⟨β, ρ, S, E, T, p⟩ := h
    refine ⟨β, ρ, S, E, T, ?_⟩
    dsimp only at p
    unfold seqX at p
    cases e : f ρ S with
    | go fl S1 =>
      rw [e] at p
      cases fl with
      | nx ρ1 => exact fun σ1 H1 β1 N1 T1 E1 => ⟨β1, ρ1, S1, E1, T1, p.nxt N1⟩
      | bk ρ1 => exact p
      | ct ρ1 => exact p
      | rt u => exact p
    | exc c ρ1 S1 => rw [e] at p; exact p
    | stuck => rw [e] at p; exact p.elim
theorem ps_iteX {c : Expr} {a b : List Stmt} {pos : Pos} {t : Env → M Bool} {f g : Env → Qc.X} (hc : PT X c (tT G W t)) (ha : PSs X a (tS G W f)) (hb : PSs X b (tS G W g)) :
    PS X (.If c a b pos) (tS G W fun ρ => lift (t ρ) ρ fun r => if r = true then f ρ else g ρ) :=
  PS.of (ps_if hc ha hb) fun En σ H h => by
    obtain ⟨β, ρ, S, E, T, p⟩ := h
    refine ⟨β, ρ, S, E, T, PostS.first E T p fun r S1 v H1 β1 N1 T1 r1 p1 => ?_⟩
    cases (show r = v from r1)
    cases r with
    | true => exact ⟨β1, ρ, S1, E.nxt T N1, T1, p1.nxt N1⟩
    | false => exact ⟨β1, ρ, S1, E.nxt T N1, T1, p1.nxt N1⟩

/-! ### targets -/
/-- a value is stored: the names' new values -/
def tG (G : Gx) (f : Env → D → M Env) : TG := fun v σ H Q => ∃ β ρ S d, REnv G β H σ ρ ∧ RS G β H S ∧ RV G β H d v ∧ (match f ρ d S with
  | .ok ρ' S' => S' = S ∧ ∀ σ', REnv G β H σ' ρ' → Q σ' H
  | _ => False)
theorem REnv.set {β : List Addr} {H : Hp} {σ : L2.St} {ρ : Env} (E : REnv G β H σ ρ) (i : Nat) {d : D} {v : V} (r : RV G β H d v) : REnv G β H (σ.set i (some v)) (setV ρ i d) := by
  refine ⟨by unfold setV; rw [List.length_set, List.length_set]; exact E.1, fun j e h => ?_⟩
  unfold setV at h
  by_cases hj : i = j
  · subst hj
    have hl : i < ρ.length := by
      have := (List.getElem?_eq_some_iff.mp h).1
      rwa [List.length_set] at this
    rw [List.getElem?_set_self hl] at h
    cases h
    exact ⟨v, by rw [List.getElem?_set_self (by rw [E.1]; exact hl)], r⟩
  · rw [List.getElem?_set_ne hj] at h
    rw [List.getElem?_set_ne hj]
    exact E.2 j e h
theorem REnv.gone {β : List Addr} {H : Hp} {σ : L2.St} {ρ : Env} (E : REnv G β H σ ρ) (i : Nat) : REnv G β H (σ.set i none) (ρ.set i none) := by
  refine ⟨by rw [List.length_set, List.length_set]; exact E.1, fun j e h => ?_⟩
  by_cases hj : i = j
  · subst hj
    have hl : i < ρ.length := by
      have := (List.getElem?_eq_some_iff.mp h).1
      rwa [List.length_set] at this
    rw [List.getElem?_set_self hl] at h
    cases h
  · rw [List.getElem?_set_ne hj] at h
    rw [List.getElem?_set_ne hj]
    exact E.2 j e h
/-- names of a target one after another -/
def gsNames : List Nat → TGs
  | [] => gNil
  | i :: is => gCons (gName i) (gsNames is)
theorem gsNames_ok {β : List Addr} {H : Hp} {Q : L2.St → Hp → Prop} : ∀ {is : List Nat} {ds : List D} {vs : List V} {σ : L2.St} {ρ ρ' : Env}, REnv G β H σ ρ → RVs G β H ds vs → setVs ρ is ds = some ρ' → (∀ σ', REnv G β H σ' ρ' → Q σ' H) → gsNames is vs σ H Q
  | [], [], vs, σ, ρ, ρ', E, r, e, q => by
    unfold RVs at r
    cases e
    exact ⟨r, q σ E⟩
  | i :: is, d :: ds, vs, σ, ρ, ρ', E, r, e, q => by
    unfold RVs at r
    obtain ⟨v, t, rfl, r1, r2⟩ := r
    exact ⟨v, t, rfl, gsNames_ok (is := is) (E.set i r1) r2 e q⟩
  | [], _ :: _, _, _, _, _, _, _, e, _ => by cases e
  | _ :: _, [], _, _, _, _, _, _, e, _ => by cases e
theorem setVs_len : ∀ {is : List Nat} {ds : List D} {ρ ρ' : Env}, setVs ρ is ds = some ρ' → ds.length = is.length
  | [], [], _, _, _ => rfl
  | i :: is, d :: ds, _, _, e => by rw [List.length_cons, List.length_cons, setVs_len (is := is) e]
  | [], _ :: _, _, _, e => by cases e
  | _ :: _, [], _, _, e => by cases e
theorem pg_nameX {i : Nat} {x : Str} {pos : Pos} (hN : X.N.Nodup) (hi : X.N[i]? = some x) (hx : Loc X.env.scope x) (hf : X.fn x = true ∨ X.env.scope.names.lookup x = some .local) : PG X (.Name x pos) (tG G fun ρ d => target ρ [i] true d) :=
  PG.of (pg_name hN hi hx hf) fun v σ H Q h => by
    obtain ⟨β, ρ, S, d, E, T, r, p⟩ := h
    exact p.2 _ (E.set i r)
/-- a, b, .. = a tuple -/
theorem pg_tupX (eK : G.K = X.K) {es : List Expr} {k : Nat} {pos : Pos} {is : List Nat} (hc : X.calm = true) (h : PGs X es (gsNames is)) (hn : (assignEach es X.env).length = is.length) (hst : (assignEach es X.env).findIdx? (·.1) = none) :
    PG X (.Tuple es k pos) (tG G fun ρ d => match d with | .tup xs => opt (setVs ρ is xs) | _ => stk) :=
  PG.of (pg_tup hc h hn hst) fun v σ H Q h => by
    obtain ⟨β, ρ, S, d, E, T, r, p⟩ := h
    cases d with
    | tup xs =>
      obtain ⟨a, vs, rfl, hs, rr⟩ := RV.tup_at r
      dsimp only at p
      cases e : setVs ρ is xs with
      | none => rw [e] at p; exact p.elim
      | some ρ' =>
        rw [e] at p
        rw [eK] at hs
        exact ⟨a, vs, rfl, hs.sq, by rw [← rr.length]; exact setVs_len e, gsNames_ok E rr e p.2⟩
    | _ => exact p.elim
theorem ps_asgX {tg e : Expr} {pos : Pos} {f : Env → M U} {g : Env → D → M Env} (he : PE X e (tE G W f)) (hg : PG X tg (tG G g)) (hs : swapsWithSole [tg] e pos.line X.env = pure false) (hw : swappedStores [tg] e X.env = pure none)
    (h1 : (assignEach [tg] X.env).map (·.2) = [assign tg X.env]) (hp : ∀ ρ d S, (∃ ρ', g ρ d S = .ok ρ' S) ∨ g ρ d S = .stuck) : PS X (.Assign [tg] e pos) (tS G W fun ρ => lift (f ρ) ρ fun u => lift (settle u) ρ fun d => lift (g ρ d) ρ fun ρ' => goX (.nx ρ')) :=
  PS.of (ps_asg he hg hs hw h1) fun En σ H h => by
    obtain ⟨β, ρ, S, E, T, p⟩ := h
    refine ⟨β, ρ, S, E, T, PostS.first E T p fun u S1 v H1 β1 N1 T1 r1 p1 => ?_⟩
    obtain ⟨d, S2, β2, N2, T2, r2, ex, p2⟩ := p1.settle N1 T1 r1.1 r1.2
    refine ⟨β2, ρ, S2, d, (E.nxt T N1).ext ex, T2, r2, ?_⟩
    unfold lift at p2
    rcases hp ρ d S2 with ⟨ρ', e⟩ | e
    · rw [e] at p2
      rw [e]
      exact ⟨rfl, fun σ' E' => p2 σ' H1 β2 N2 T2 E'⟩
    · rw [e] at p2
      exact p2.elim
theorem target_pure (tg : List Nat) (one : Bool) (ρ : Env) (d : D) (S : Sto) : (∃ ρ', target ρ tg one d S = .ok ρ' S) ∨ target ρ tg one d S = .stuck := by
  have op : ∀ o : Option Env, (∃ ρ', opt o S = .ok ρ' S) ∨ opt o S = .stuck := fun o => by
    cases o with
    | none => exact .inr rfl
    | some ρ' => exact .inl ⟨ρ', rfl⟩
  unfold target
  split
  · exact .inl ⟨_, rfl⟩
  · cases d with
    | tup xs => exact op _
    | _ => exact .inr rfl
  · exact .inr rfl
end
end Qc
end
section
set_option Elab.async false
set_option linter.all false
set_option maxHeartbeats 1000000
/-! What loops walk; for. -/
namespace Qc
open PySem PySem.Spec PyProof.Rows L2

/-- the iterator yields these, whatever comes to pass -/
def ItsOk (G : Gx) (β : List Addr) (H : Hp) (xs : List D) (J : L2.It) : Prop := ∀ (β1 : List Addr) (H1 : Hp) (S : Sto), Nxt β H β1 H1 → RS G β1 H1 S → ∀ i : Nat,
  (∀ d : D, xs[i]? = some d → J.go i H1 ∧ ∀ v H2, J.yld i H1 v H2 → Nxt β1 H1 β1 H2 ∧ RS G β1 H2 S ∧ RV G β1 H2 d v) ∧ (xs.length ≤ i → J.stop i H1)
def relSrc (G : Gx) : Rel Src L2.It := ⟨fun _ β H s J => match s with
  | .items xs => ItsOk G β H xs J
  | .live n => ∃ a, β[n]? = some a ∧ J = Itl G.K a, fun _ _ _ _ _ _ _ _ _ h => h⟩
abbrev tI (G : Gx) (W : WX) (f : Env → M Src) : TI := fun σ H R => tR G (relSrc G) W f σ H R
theorem PI.of {X : Cx} {tg e : Expr} {t t' : TI} (h : PI X tg e t) (i : ∀ σ H Q, t' σ H Q → t σ H Q) : PI X tg e t' := ⟨fun pins s σ H Q I q => h.run pins s σ H Q I (i σ H Q q)⟩

section
variable {G : Gx} {β : List Addr} {H : Hp} {S : Sto}
theorem itl_ok (T : RS G β H S) {xs : List D} {vs : List V} {a : Addr} (hs : ∀ β1 H1, Nxt β H β1 H1 → SqL G.K H1 a vs) (r : RVs G β H xs vs) : ItsOk G β H xs (Itl G.K a) := by
  intro β1 H1 S1 N T1 i
  have q := hs β1 H1 N
  refine ⟨fun d e => ?_, fun h => ⟨vs, q, by rw [← r.length]; exact h⟩⟩
  obtain ⟨v, e1, r1⟩ := r.get e
  refine ⟨⟨vs, v, q, e1⟩, fun w H2 y => ?_⟩
  obtain ⟨rfl, y⟩ := y
  have := y vs q
  rw [e1] at this
  cases this
  exact ⟨.refl, T1, RV.nxt T N _ _ r1⟩
theorem itt_ok (T : RS G β H S) {xs : List D} {vs : List V} {a : Addr} (hs : ∀ β1 H1, Nxt β H β1 H1 → SqT G.K H1 a vs) (r : RVs G β H xs vs) : ItsOk G β H xs (Itt G.K a) := by
  intro β1 H1 S1 N T1 i
  have q := hs β1 H1 N
  refine ⟨fun d e => ?_, fun h => ⟨vs, q, by rw [← r.length]; exact h⟩⟩
  obtain ⟨v, e1, r1⟩ := r.get e
  refine ⟨⟨vs, v, q, e1⟩, fun w H2 y => ?_⟩
  obtain ⟨rfl, y⟩ := y
  have := y vs q
  rw [e1] at this
  cases this
  exact ⟨.refl, T1, RV.nxt T N _ _ r1⟩
theorem its_ok (T : RS G β H S) (x : Str) : ItsOk G β H (x.cps.toList.map fun c => .str ⟨#[c]⟩) (Its x) := by
  intro β1 H1 S1 N T1 i
  refine ⟨fun d e => ?_, fun h => ?_⟩
  · rw [List.getElem?_map] at e
    cases e1 : x.cps.toList[i]? with
    | none => rw [e1] at e; cases e
    | some c =>
      rw [e1] at e
      cases e
      have e2 : x.cps[i]? = some c := by rw [← Array.getElem?_toList]; exact e1
      refine ⟨(Array.getElem?_eq_some_iff.mp e2).1, fun w H2 y => ?_⟩
      obtain ⟨rfl, c', e3, rfl⟩ := y
      rw [e2] at e3
      cases e3
      exact ⟨.refl, T1, by unfold RV; rfl⟩
  · show x.cps.size ≤ i
    simpa using h
theorem intsFrom_get : ∀ (n : Nat) (a : Int) (i : Nat) (d : D), (intsFrom a n)[i]? = some d → i < n ∧ d = .int (a + i)
  | 0, _, _, _, e => by cases e
  | n + 1, a, 0, d, e => by
    cases e
    exact ⟨Nat.succ_pos _, by simp⟩
  | n + 1, a, i + 1, d, e => by
    obtain ⟨h1, h2⟩ := intsFrom_get n (a + 1) i d (by simpa [intsFrom] using e)
    refine ⟨Nat.succ_lt_succ h1, ?_⟩
    rw [h2]
    congr 1
    omega
theorem intsFrom_len : ∀ (n : Nat) (a : Int), (intsFrom a n).length = n
  | 0, _ => rfl
  | n + 1, a => by
    show (intsFrom (a + 1) n).length + 1 = n + 1
    rw [intsFrom_len n]
theorem itr_ok (T : RS G β H S) (a : Int) (n : Nat) : ItsOk G β H (intsFrom a n) (Itr a n) := by
  intro β1 H1 S1 N T1 i
  refine ⟨fun d e => ?_, fun h => by rw [intsFrom_len] at h; exact h⟩
  obtain ⟨h1, rfl⟩ := intsFrom_get n a i d e
  refine ⟨h1, fun w H2 y => ?_⟩
  obtain ⟨rfl, rfl⟩ := y
  exact ⟨.refl, T1, by unfold RV; rfl⟩
end

section
variable {X : Cx} {G : Gx} {W : WX} {tg : Expr}
theorem small_of {n : Int} (h : small62 n = true) : -(2 ^ 62) ≤ n ∧ n < 2 ^ 62 := by
  unfold small62 at h
  rw [Bool.and_eq_true, decide_eq_true_eq, decide_eq_true_eq] at h
  exact h
theorem pi_rngX {a : Expr} {p pos : Pos} {f : Env → M U} (hg : Gl X "range") (hm : X.mg "range" = none) (ha : PE X a (tE G W f)) (hs : notStar a = true) :
    PI X tg (.Call (.Name "range" p) [a] [] pos) (tI G W fun ρ => bnd (f ρ) fun x => match x with | .v (.int n) => bnd (guard (small62 n)) fun _ => pur (.items (intsFrom 0 n.toNat)) | _ => stk) :=
  PI.of (pi_range1 hg hm (pa_cons ha pa_nil (star_cons hs _ _)) (star_cons hs _ _)) fun σ H R h => by
    obtain ⟨β, ρ, S, E, T, p⟩ := h
    refine ⟨β, ρ, S, E, T, p.first fun u S1 v H1 β1 N1 T1 r1 p1 => ?_⟩
    cases u with
    | v d =>
      cases d with
      | int n =>
        cases RU.int_eq r1.1
        obtain ⟨hz, p2⟩ := Post.guard p1
        obtain ⟨h1, h2⟩ := small_of hz
        exact ⟨n, rfl, h1, h2, p2 (Itr 0 n.toNat) H1 β1 N1 T1 (itr_ok T1 0 _)⟩
      | _ => exact p1.elim
    | _ => exact p1.elim
theorem pi_rng2X {a b : Expr} {p pos : Pos} {f g : Env → M U} (hg : Gl X "range") (hm : X.mg "range" = none) (ha : PE X a (tE G W f)) (hb : PE X b (tE G W g)) (hs : notStar a = true) (hs2 : notStar b = true) :
    PI X tg (.Call (.Name "range" p) [a, b] [] pos) (tI G W fun ρ => bnd (f ρ) fun x => bnd (g ρ) fun y => match x, y with | .v (.int i), .v (.int j) => bnd (guard (small62 i && small62 j)) fun _ => pur (.items (intsFrom i (j - i).toNat)) | _, _ => stk) :=
  PI.of (pi_range2 hg hm (pa_cons ha (pa_cons hb pa_nil (star_cons hs2 _ _)) (star_cons hs _ _)) (by rw [star_cons hs, star_cons hs2] <;> rfl) (star_cons hs2 _ _)) fun σ H R h => by
    obtain ⟨β, ρ, S, E, T, p⟩ := h
    refine ⟨β, ρ, S, E, T, p.first fun u S1 v H1 β1 N1 T1 r1 p1 => ⟨β1, ρ, S1, E.nxt T N1, T1, (p1.nxt N1).first fun u2 S2 v2 H2 β2 N2 T2 r2 p2 => ?_⟩⟩
    cases u with
    | v d =>
      cases u2 with
      | v e =>
        cases d with
        | int i =>
          cases e with
          | int j =>
            cases RU.int_eq r1.1
            cases RU.int_eq r2.1
            obtain ⟨hz, p2⟩ := Post.guard p2
            rw [Bool.and_eq_true] at hz
            obtain ⟨h1, h2⟩ := small_of hz.1
            obtain ⟨h3, h4⟩ := small_of hz.2
            exact ⟨i, j, rfl, ⟨h1, h2, h3, h4⟩, p2 (Itr i (j - i).toNat) H2 β2 N2 T2 (itr_ok T2 i _)⟩
          | _ => exact p2.elim
        | _ => exact p2.elim
      | _ => cases d <;> exact p2.elim
    | _ => exact p2.elim

/-- the iterator of a value of the store -/
theorem iter_val (eK : G.K = X.K) {pins : List (Addr × Obj)} {σ : L2.St} {β0 β : List Addr} {H0 H : Hp} {S : Sto} {s1 : Shared} {u : U} {x : V} {v : Value} {R : L2.It → Hp → Prop} {Z : Nat → Hp → Prop} {E : Value → Shared → Prop} (I : Inv X pins σ H s1) (rv : RelV x v) (T : RS G β H S) (N : Nxt β0 H0 β H) (r : RU G β H u x)
    (p : Post G (relSrc G) β0 H0 (srcOf u S) (fun J H' => R J H') Z) : wpAny (model X.prog X.w) X.A (pyIter v) (PIE X pins σ tg R) E s1 := by
  have lists : ∀ (a : Addr) (vs : List V), x = .ref a → SqL G.K H a vs → R (Itl G.K a) H → wpAny (model X.prog X.w) X.A (pyIter v) (PIE X pins σ tg R) E s1 := fun a vs e hq hR => by
    subst e
    cases rv
    rw [eK] at hq hR
    obtain ⟨its, _, pl, _⟩ := I.list hq
    exact wpAny_pyIter_list pl.isList (pi_one (tk := s1.toks) I _ (turn_list a _) ⟨_, Heap.get?_push_size _ rfl, rfl, rfl⟩ hR)
  have tups : ∀ (a : Addr) (vs : List V), x = .ref a → SqT G.K H a vs → R (Itt G.K a) H → wpAny (model X.prog X.w) X.A (pyIter v) (PIE X pins σ tg R) E s1 := fun a vs e hq hR => by
    subst e
    cases rv
    rw [eK] at hq hR
    obtain ⟨its, _, pl, _⟩ := I.tuple hq
    exact wpAny_pyIter_tuple (show s1.heap.IsTuple a its.toArray from pl) (pi_one (tk := s1.toks) I _ (turn_tuple a _) ⟨_, Heap.get?_push_size _ rfl, rfl, rfl⟩ hR)
  cases u with
  | v d =>
    cases d with
    | tup xs =>
      obtain ⟨a, vs, e, hs, rr⟩ := RV.tup_at r
      exact tups a vs e hs.sq (p (Itt G.K a) H β N T (itt_ok T (fun β1 H1 N1 => (TupF.nxt T N1 hs).sq) rr))
    | fl xs =>
      obtain ⟨a, vs, e, hs, rr⟩ := RV.fl_at r
      exact lists a vs e hs.sq (p (Itl G.K a) H β N T (itl_ok T (fun β1 H1 N1 => (SqF.nxt T N1 hs).sq) rr))
    | str y =>
      cases RU.str_eq r
      have hR : R (Its y) H := p (Its y) H β N T (its_ok T y)
      obtain ⟨t, rfl⟩ := rv
      by_cases ha : y.cps.all (· < 128) = true
      · exact wpAny_pyIter_ascii ha (pi_one (tk := s1.toks) I _ (turn_str _ y t "str_ascii_iterator" (.inl rfl)) ⟨_, Heap.get?_push_size _ rfl, rfl, rfl⟩ hR)
      · exact wpAny_pyIter_wide (by simpa using ha) (pi_one (tk := s1.toks) I _ (turn_str _ y t "str_iterator" (.inr rfl)) ⟨_, Heap.get?_push_size _ rfl, rfl, rfl⟩ hR)
    | obj n =>
      have p : Post G (relSrc G) β0 H0 (bnd (look n) (fun o => match o with | .lst _ => pur (.live n) | _ => stk) S) (fun J H' => R J H') Z := p
      obtain ⟨o, e, p⟩ := p.look
      cases o with
      | lst xs =>
        obtain ⟨a, e1, hb, vs, q, rr⟩ := RV.obj_at T r e
        exact lists a vs e1 (SqL.of q) (p (Itl G.K a) H β N T ⟨a, hb, rfl⟩)
      | _ => exact p.elim
    | _ => exact p.elim
  | l xs =>
    obtain ⟨a, vs, e, hn, q, rr⟩ := r
    exact lists a vs e (SqL.of q) (p (Itl G.K a) H β N T (itl_ok T (fun β1 H1 N1 => SqL.of (N1.keep a _ q hn)) rr))
  | _ => exact p.elim
theorem pi_ofX (eK : G.K = X.K) {a : Expr} {f : Env → M U} (ha : PE X a (tE G W f)) : PI X tg a (tI G W fun ρ => bnd (f ρ) srcOf) := by
  refine ⟨fun pins s σ H R I h => ?_⟩
  obtain ⟨β, ρ, S, E, T, p⟩ := h
  refine thn (ha.run pins s σ H (fun x H1 => ∃ β1 S1 u, Nxt β H β1 H1 ∧ RS G β1 H1 S1 ∧ RU G β1 H1 u x ∧ Post G (relSrc G) β H (srcOf u S1) (fun J H' => R J H') (zW G W σ)) I ⟨β, ρ, S, E, T, p.first fun u S1 v H1 β1 N1 T1 r1 p1 => ⟨β1, S1, u, N1, T1, r1.1, p1⟩⟩) fun v s1 ⟨x, H1, I1, rx, β1, S1, u, N1, T1, r1, p1⟩ => ?_
  exact iter_val eK I1 rx T1 N1 r1 p1

/-! ### for -/
theorem PostS.bk {β : List Addr} {H : Hp} {step : Rs} {k : Env → Qc.X} {En : Ends} {Z : Nat → L2.St → Hp → Prop} {Nn : L2.St → Hp → Prop}
    (h : PostS G β H (match step with | .go (.nx ρ') S' => k ρ' S' | .go (.ct ρ') S' => k ρ' S' | .go (.bk ρ') S' => .go (.nx ρ') S' | r => r) En Z)
    (hN : ∀ ρ' S' σ' H' β', Nxt β H β' H' → RS G β' H' S' → REnv G β' H' σ' ρ' → PostS G β H (k ρ' S') En Z → Nn σ' H') : PostS G β H step { En with nx := Nn, ct := Nn, bk := En.nx } Z := by
  cases step with
  | go f S' =>
    cases f with
    | nx ρ' => exact fun σ' H' β' n t e => hN ρ' S' σ' H' β' n t e h
    | ct ρ' => exact fun σ' H' β' n t e => hN ρ' S' σ' H' β' n t e h
    | bk ρ' => exact h
    | rt u => exact h
  | exc c ρ' S' => exact h
  | stuck => exact h
theorem ps_forX (eK : G.K = X.K) {iter : Expr} {body : List Stmt} {pos : Pos} {fi : Env → M Src} {ft : Env → D → M Env} {fb : Env → Qc.X} {wf : Nat} (hp : PassesOwn (model X.prog X.w) X.A X.env X.xe) (hc : X.calm = true) (hi : PI X tg iter (tI G W fi)) (hg : PG X tg (tG G ft)) (hb : PSs X body (tS G W fb))
    (hs : ∀ x, foldedSetIterable iter X.env x = pure x) (pu : ∀ ρ d S, (∃ ρ', ft ρ d S = .ok ρ' S) ∨ ft ρ d S = .stuck) :
    PS X (.For tg iter body [] pos) (tS G W fun ρ => lift (fi ρ) ρ fun src => match src with
      | .items xs => forGo (fun x ρ' => lift (ft ρ' x) ρ' fb) xs ρ
      | .live n => forLive (fun x ρ' => lift (ft ρ' x) ρ' fb) n wf 0 ρ) :=
  PS.of (ps_for hp hc hi hg hb hs) fun En σ H h => by
    obtain ⟨β, ρ, S, E, T, p⟩ := h
    refine ⟨β, ρ, S, E, T, PostS.first E T p fun src S1 J H1 β1 N1 T1 rJ p1 => ?_⟩
    have step : ∀ {β2 : List Addr} {H2 : Hp} {S2 : Sto} {ρ2 : Env} {σ2 : L2.St} {d : D} {v : V} {k : Env → Qc.X} {Nn : L2.St → Hp → Prop}, REnv G β2 H2 σ2 ρ2 → RS G β2 H2 S2 → RV G β2 H2 d v →
        PostS G β2 H2 (match lift (ft ρ2 d) ρ2 fb S2 with | .go (.nx ρ') S' => k ρ' S' | .go (.ct ρ') S' => k ρ' S' | .go (.bk ρ') S' => .go (.nx ρ') S' | r => r) En (zS G W) →
        (∀ ρ' S' σ' H' β', Nxt β2 H2 β' H' → RS G β' H' S' → REnv G β' H' σ' ρ' → PostS G β2 H2 (k ρ' S') En (zS G W) → Nn σ' H') →
        tG G ft v σ2 H2 fun σ3 H3 => tS G W fb { En with nx := Nn, ct := Nn, bk := En.nx } σ3 H3 := fun {β2 H2 S2 ρ2 σ2 d v k Nn} E2 T2 r2 p2 hN => by
      refine ⟨β2, ρ2, S2, d, E2, T2, r2, ?_⟩
      unfold lift at p2
      rcases pu ρ2 d S2 with ⟨ρ', e⟩ | e
      · rw [e] at p2
        rw [e]
        exact ⟨rfl, fun σ' E' => ⟨β2, ρ', S2, E', T2, PostS.bk p2 hN⟩⟩
      · rw [e] at p2
        exact p2.elim
    cases src with
    | items xs =>
      refine ⟨fun i m σ' H' => m = xs.length - i ∧ i ≤ xs.length ∧ ∃ β' ρ' S', Nxt β1 H1 β' H' ∧ REnv G β' H' σ' ρ' ∧ RS G β' H' S' ∧ PostS G β' H' (forGo (fun x ρ' => lift (ft ρ' x) ρ' fb) (xs.drop i) ρ' S') En (zS G W), ⟨_, rfl, Nat.zero_le _, β1, ρ, S1, .refl, E.nxt T N1, T1, p1.nxt N1⟩, ?_⟩
      rintro i m σ' H' ⟨rfl, hi, β', ρ', S', N', E', T', p'⟩
      have io := rJ β' H' S' N' T' i
      by_cases hlt : i < xs.length
      · obtain ⟨g1, g2⟩ := io.1 xs[i] (List.getElem?_eq_getElem hlt)
        rw [List.drop_eq_getElem_cons hlt] at p'
        refine .inr ⟨g1, fun σ2 H2 => ∃ β2 ρ2 S2, Nxt β1 H1 β2 H2 ∧ REnv G β2 H2 σ2 ρ2 ∧ RS G β2 H2 S2 ∧ PostS G β2 H2 (forGo (fun x ρ' => lift (ft ρ' x) ρ' fb) (xs.drop (i + 1)) ρ2 S2) En (zS G W),
          fun σ2 H2 ⟨β2, ρ2, S2, a1, a2, a3, a4⟩ => ⟨_, by omega, rfl, hlt, β2, ρ2, S2, a1, a2, a3, a4⟩, fun v H2 y => ?_⟩
        obtain ⟨y1, y2, y3⟩ := g2 v H2 y
        exact step (k := forGo (fun x ρ' => lift (ft ρ' x) ρ' fb) (xs.drop (i + 1))) (E'.nxt T' y1) y2 y3 (p'.nxt y1) fun ρ3 S3 σ3 H3 β3 n3 t3 e3 q3 => ⟨β3, ρ3, S3, (N'.trans y1).trans n3, e3, t3, q3.nxt n3⟩
      · refine .inl ⟨io.2 (Nat.le_of_not_lt hlt), ?_⟩
        rw [List.drop_eq_nil_of_le (Nat.le_of_not_lt hlt)] at p'
        exact p' σ' H' β' .refl T' E'
    | live n =>
      obtain ⟨a, ea, rfl⟩ := rJ
      refine ⟨fun i m σ' H' => ∃ β' ρ' S', Nxt β1 H1 β' H' ∧ REnv G β' H' σ' ρ' ∧ RS G β' H' S' ∧ PostS G β' H' (forLive (fun x ρ' => lift (ft ρ' x) ρ' fb) n m i ρ' S') En (zS G W), ⟨wf, β1, ρ, S1, .refl, E.nxt T N1, T1, p1.nxt N1⟩, ?_⟩
      rintro i m σ' H' ⟨β', ρ', S', N', E', T', p'⟩
      cases m with
      | zero => exact p'.elim
      | succ m =>
        unfold forLive at p'
        cases e : S'[n]? with
        | none => simp only [e] at p'; exact p'.elim
        | some o =>
          simp only [e] at p'
          cases o with
          | lst xs =>
            obtain ⟨vs, q, rr⟩ := T'.at_ n _ a e (N'.at_ ea)
            cases e1 : xs[i]? with
            | none =>
              simp only [e1] at p'
              refine .inl ⟨⟨vs, SqL.of q, ?_⟩, p' σ' H' β' .refl T' E'⟩
              rw [← rr.length]
              exact List.getElem?_eq_none_iff.mp e1
            | some d =>
              simp only [e1] at p'
              obtain ⟨v, e2, r2⟩ := rr.get e1
              refine .inr ⟨⟨vs, v, SqL.of q, e2⟩, fun σ2 H2 => ∃ β2 ρ2 S2, Nxt β1 H1 β2 H2 ∧ REnv G β2 H2 σ2 ρ2 ∧ RS G β2 H2 S2 ∧ PostS G β2 H2 (forLive (fun x ρ' => lift (ft ρ' x) ρ' fb) n m (i + 1) ρ2 S2) En (zS G W),
                fun σ2 H2 ⟨β2, ρ2, S2, a1, a2, a3, a4⟩ => ⟨m, Nat.lt_succ_self m, β2, ρ2, S2, a1, a2, a3, a4⟩, fun w H2 y => ?_⟩
              obtain ⟨rfl, y⟩ := y
              have := y vs (SqL.of q)
              rw [e2] at this
              cases this
              exact step (k := forLive (fun x ρ' => lift (ft ρ' x) ρ' fb) n m (i + 1)) E' T' r2 p' fun ρ3 S3 σ3 H3 β3 n3 t3 e3 q3 => ⟨β3, ρ3, S3, N'.trans n3, e3, t3, q3.nxt n3⟩
          | _ => exact p'.elim
end
end Qc
end
section
set_option Elab.async false
set_option linter.all false
set_option maxHeartbeats 1000000
/-! while; an object of the store is changed; lists' methods. -/
namespace Qc
open PySem PySem.Spec PyProof.Rows L2
section
variable {X : Cx} {G : Gx} {W : WX}
theorem ps_whlX {c : Expr} {body : List Stmt} {pos : Pos} {fc : Env → M Bool} {fb : Env → Qc.X} {wf : Nat} (hp : PassesOwn (model X.prog X.w) X.A X.env X.xe) (hc : PT X c (tT G W fc)) (hb : PSs X body (tS G W fb)) :
    PS X (.While c body [] pos) (tS G W fun ρ => whlGo fc fb wf ρ) :=
  PS.of (ps_while hp hc hb) fun En σ H h => by
    obtain ⟨β, ρ, S, E, T, p⟩ := h
    refine ⟨fun m σ' H' => ∃ β' ρ' S', REnv G β' H' σ' ρ' ∧ RS G β' H' S' ∧ PostS G β' H' (whlGo fc fb m ρ' S') En (zS G W), ⟨wf, β, ρ, S, E, T, p⟩, ?_⟩
    rintro m σ' H' ⟨β', ρ', S', E', T', p'⟩
    cases m with
    | zero => exact p'.elim
    | succ m =>
      unfold whlGo at p'
      refine ⟨β', ρ', S', E', T', PostS.first E' T' p' fun b S1 v H1 β1 N1 T1 r1 p1 => ?_⟩
      cases (show b = v from r1)
      cases b with
      | false => exact p1 σ' H1 β1 N1 T1 (E'.nxt T' N1)
      | true =>
        refine ⟨fun σ2 H2 => ∃ β2 ρ2 S2, REnv G β2 H2 σ2 ρ2 ∧ RS G β2 H2 S2 ∧ PostS G β2 H2 (whlGo fc fb m ρ2 S2) En (zS G W), fun σ2 H2 q => ⟨m, Nat.lt_succ_self m, q⟩, β1, ρ', S1, E'.nxt T' N1, T1, PostS.bk (k := whlGo fc fb m) (p1.nxt N1) fun ρ3 S3 σ3 H3 β3 n3 t3 e3 q3 => ⟨β3, ρ3, S3, e3, t3, q3.nxt n3⟩⟩
end
section
variable {G : Gx} {β : List Addr} {H : Hp} {S : Sto}
theorem Nxt.upd {n : Nat} {p : Addr} {o : HO} (hp : β[n]? = some p) (hd : ∃ o, H p = some o) : Nxt β H β (L2.upd H p o) := by
  refine ⟨⟨[], by simp⟩, fun a u e hn => ?_, fun a u e => ?_⟩
  · rw [upd_ne (fun z => hn (by rw [z]; exact List.mem_of_getElem? hp))]; exact e
  · by_cases h : a = p
    · rw [h]; exact ⟨o, upd_same⟩
    · exact ⟨u, by rw [upd_ne h]; exact e⟩
theorem nd_at {α : Type} {l : List α} (h : l.Nodup) {i j : Nat} (hi : i < l.length) (hj : j < l.length) (e : l[i] = l[j]) : i = j := by
  rcases Nat.lt_trichotomy i j with c | c | c
  · exact absurd e ((List.pairwise_iff_getElem.mp h) i j hi hj c)
  · exact c
  · exact absurd e.symm ((List.pairwise_iff_getElem.mp h) j i hj hi c)
theorem RS.upd (T : RS G β H S) {n : Nat} {p : Addr} {o0 o' : O} {o : HO} (hp : β[n]? = some p) (he : S[n]? = some o0) (N : Nxt β H β (L2.upd H p o)) (r : RO G β (L2.upd H p o) o' p) : RS G β (L2.upd H p o) (S.set n o') := by
  have hl := (List.getElem?_eq_some_iff.mp he).1
  refine ⟨by rw [List.length_set]; exact T.len, T.nd, fun m ob a e1 e2 => ?_⟩
  by_cases h : n = m
  · subst h
    rw [hp] at e2
    cases e2
    rw [List.getElem?_set_self hl] at e1
    cases e1
    exact r
  · rw [List.getElem?_set_ne h] at e1
    refine RO.nxt T N (T.at_ m ob a e1 e2) (upd_ne fun z => h ?_)
    subst z
    have h1 := List.getElem?_eq_some_iff.mp hp
    have h2 := List.getElem?_eq_some_iff.mp e2
    exact nd_at T.nd h1.1 h2.1 (h1.2.trans h2.2.symm)
theorem RS.there (T : RS G β H S) {n : Nat} {p : Addr} (hp : β[n]? = some p) : ∃ o, H p = some o := by
  obtain ⟨m, o, _, _, r⟩ := T.mem (List.mem_of_getElem? hp)
  rcases r.some with ⟨_, e⟩ | ⟨_, e⟩ | ⟨_, _, _, e⟩
  · exact ⟨_, e⟩
  · exact ⟨_, e⟩
  · exact ⟨_, e⟩
/-- the list n is another list now -/
theorem RS.lst (T : RS G β H S) {n : Nat} {p : Addr} {xs ys : List D} {vs : List V} (hp : β[n]? = some p) (he : S[n]? = some (.lst xs)) (r : RVs G β H ys vs) : Nxt β H β (L2.upd H p (.lst vs)) ∧ RS G β (L2.upd H p (.lst vs)) (S.set n (.lst ys)) := by
  have N : Nxt β H β (L2.upd H p (.lst vs)) := Nxt.upd hp (T.there hp)
  exact ⟨N, T.upd hp he N ⟨vs, upd_same, RVs.nxt T N _ _ r⟩⟩
end
end Qc
end
section
set_option Elab.async false
set_option linter.all false
set_option maxHeartbeats 1000000
/-! A dict's table by keys of any kind: search. -/
set_option pp.maxSteps 400
namespace Qc
open PySem PySem.Spec PyProof.Rows L2
section
variable {prog : Program} {w : World} {A : Around} {E : Value → Shared → Prop} {s : Shared}
/-- the value is the key -/
def KIs (h : Heap) (k : NestedKey) (v : Value) : Prop := NestedIs h k v ∧ k.depth ≤ 8
/-- the entries have these keys -/
def Tab (w : World) (h : Heap) (ks : List NestedKey) (es : Array DictEntry) : Prop := Paired (fun k e => e.hash = NestedKey.hash w k ∧ KIs h k e.key) ks es.toList
theorem Paired.at {α γ : Type} {R : α → γ → Prop} : ∀ {xs : List α} {ys : List γ}, Paired R xs ys → ∀ (i : Nat) (x : α), xs[i]? = some x → ∃ y, ys[i]? = some y ∧ R x y
  | _, _, .nil, i, x, e => by cases e
  | _, _, .cons r t, 0, x, e => by cases e; exact ⟨_, rfl, r⟩
  | _, _, .cons r t, i + 1, x, e => Paired.at t i x (by simpa using e)
theorem Paired.len {α γ : Type} {R : α → γ → Prop} : ∀ {xs : List α} {ys : List γ}, Paired R xs ys → xs.length = ys.length
  | _, _, .nil => rfl
  | _, _, .cons _ t => by rw [List.length_cons, List.length_cons, Paired.len t]
theorem Tab.at {h : Heap} {ks : List NestedKey} {es : Array DictEntry} (t : Tab w h ks es) {i : Nat} {k : NestedKey} (e : ks[i]? = some k) : ∃ d, es[i]? = some d ∧ d.hash = k.hash w ∧ KIs h k d.key := by
  obtain ⟨d, h1, h2⟩ := Paired.at t i k e
  exact ⟨d, by rw [← Array.getElem?_toList]; exact h1, h2⟩
theorem Tab.of {h : Heap} {ks : List NestedKey} {es : Array DictEntry} (t : Tab w h ks es) {i : Nat} {d : DictEntry} (e : es[i]? = some d) : ∃ k, ks[i]? = some k ∧ d.hash = k.hash w ∧ KIs h k d.key := by
  have hl : i < ks.length := by
    rw [Paired.len t, Array.length_toList]
    exact (Array.getElem?_eq_some_iff.mp e).1
  obtain ⟨d', h1, h2⟩ := t.at (List.getElem?_eq_getElem hl)
  rw [e] at h1
  cases h1
  exact ⟨_, List.getElem?_eq_getElem hl, h2⟩
/-- the place of the key -/
def posOf (ks : List NestedKey) (k : NestedKey) : Option Nat := ks.findIdx? fun x => NestedKey.beq x k
theorem kbeq {a b : NestedKey} : NestedKey.beq a b = true ↔ a = b := ⟨NestedKey.eq_of_beq a b, fun e => by rw [e]; exact NestedKey.beq_self b⟩
theorem posOf_some {ks : List NestedKey} {k : NestedKey} {j : Nat} (hn : ks.Nodup) (h : ks[j]? = some k) : posOf ks k = some j := by
  unfold posOf
  rw [List.findIdx?_eq_some_iff_getElem]
  obtain ⟨hl, e⟩ := List.getElem?_eq_some_iff.mp h
  refine ⟨hl, kbeq.mpr e, fun i hi q => ?_⟩
  have e2 := kbeq.mp q
  exact absurd (nd_at hn (Nat.lt_trans hi hl) hl (e2.trans e.symm)) (Nat.ne_of_lt hi)
theorem posOf_none {ks : List NestedKey} {k : NestedKey} (h : ∀ j : Nat, ks[j]? ≠ some k) : posOf ks k = none := by
  unfold posOf
  rw [List.findIdx?_eq_none_iff]
  intro x hx
  cases q : NestedKey.beq x k with
  | false => rfl
  | true =>
    obtain ⟨j, hj⟩ := List.mem_iff_getElem?.mp hx
    exact absurd (hj.trans (by rw [kbeq.mp q])) (h j)
theorem posOf_at {ks : List NestedKey} {k : NestedKey} {j : Nat} (h : posOf ks k = some j) : ks[j]? = some k := by
  unfold posOf at h
  rw [List.findIdx?_eq_some_iff_getElem] at h
  obtain ⟨hl, e, _⟩ := h
  rw [List.getElem?_eq_getElem hl, kbeq.mp e]

variable {d : Addr} {o : Obj} {es : Array DictEntry} {ep : Nat} {ks : List NestedKey} {k : NestedKey} {v : Value} {Q : Option Nat → Shared → Prop}
/-- one look at a place -/
theorem look1 {α : Type} {i : Nat} {e : DictEntry} {kk : NestedKey} {yes no : Sem α} {Q : α → Shared → Prop} (hu : A.units + 8 < cLine) (ho : s.heap.get? d = some o) (hd : o.data = .dict es ep) (h1 : KIs s.heap kk e.key) (h2 : KIs s.heap k v)
    (hy : kk = k → wpAny (model prog w) A yes Q E s) (hn : kk ≠ k → wpAny (model prog w) A no Q E s) :
    wpAny (model prog w) A (do
      let before ← dictEpoch d (keyPart v)
      let same ← eqBool e.key v
      let now ← dictEpoch d (keyPart v)
      if (now != before) = true then do
        let _ ← (unsupported "dict.changed-during-lookup" : Sem PUnit)
        if same = true then yes else no
      else if same = true then yes else no) Q E s := by
  refine wpAny_bind (wpAny_dictEpoch ho hd (wpAny_bind (eqAt_key kk k A s _ _ h1.1 h2.1 (by have := h2.2; omega) prog w _ _ (wpAny_bind (wpAny_dictEpoch ho hd ?_)))))
  rw [if_neg (by simp)]
  cases q : NestedKey.beq kk k with
  | true => exact hy (kbeq.mp q)
  | false => exact hn fun e => by rw [kbeq.mpr e] at q; cases q
theorem quiet_of {k : NestedKey} {v : Value} (h : KIs s.heap k v) {A : Around} {E : Value → Shared → Prop} {Q : Bool → Shared → Prop} (q : Q true s) : wpAny (model prog w) A (eqIsQuiet 8 v) Q E s := quiet_key k v 8 s h.1 h.2 A E Q q
theorem tell_none {k : NestedKey} {v : Value} {stored : List Value} {Q : Bool → Shared → Prop} (h : KIs s.heap k v) (hs : ∀ u ∈ stored, ∃ kk, KIs s.heap kk u) (q : Q false s) : wpAny (model prog w) A (tableMayTell v stored) Q E s := by
  unfold tableMayTell
  by_cases he : stored.isEmpty = true
  · rw [if_pos he]
    exact wpAny_pure q
  rw [if_neg he]
  refine wpAny_bind (quiet_of h ?_)
  simp only [Bool.not_true, Bool.false_eq_true, if_false]
  refine wpAny_bind (wpAny_forIn_list _ (fun rest r s' => s' = s ∧ r = (none, ()) ∧ ∀ u ∈ rest, ∃ kk, KIs s.heap kk u) _ (fun x rest r s' hI => ?_) (fun r s' hI => ?_) _ _ ⟨rfl, rfl, hs⟩)
  · obtain ⟨rfl, rfl, hr⟩ := hI
    obtain ⟨kk, hx⟩ := hr x List.mem_cons_self
    refine wpAny_bind (quiet_of hx ?_)
    simp only [Bool.not_true, Bool.false_eq_true, if_false]
    exact wpAny_pure ⟨rfl, rfl, fun u hu => hr u (List.mem_cons_of_mem _ hu)⟩
  · obtain ⟨rfl, rfl, _⟩ := hI
    exact wpAny_pure q
/-- what the turns of a search know of the places behind them -/
def Seen (ks : List NestedKey) (k : NestedKey) (pl rest : List Nat) (hit : Option Nat) : Prop := ∃ done, pl = done ++ rest ∧ ((hit = none ∧ ∀ i ∈ done, ks[i]? ≠ some k) ∨ ∃ j, j ∈ done ∧ hit = some j ∧ ks[j]? = some k)
theorem Seen.skip {pl rest : List Nat} {x : Nat} {hit : Option Nat} (h : Seen ks k pl (x :: rest) hit) (hx : ks[x]? ≠ some k) : Seen ks k pl rest hit := by
  obtain ⟨dn, e, h⟩ := h
  refine ⟨dn ++ [x], by rw [e]; simp, ?_⟩
  rcases h with ⟨h1, h2⟩ | ⟨j, h1, h2, h3⟩
  · refine .inl ⟨h1, fun i hi => ?_⟩
    rcases List.mem_append.mp hi with z | z
    · exact h2 i z
    · rw [List.mem_singleton] at z; subst z; exact hx
  · exact .inr ⟨j, List.mem_append_left _ h1, h2, h3⟩
theorem Seen.first {pl rest : List Nat} {x : Nat} {hit : Option Nat} (hn : ks.Nodup) (np : pl.Nodup) (h : Seen ks k pl (x :: rest) hit) (hx : ks[x]? = some k) : hit = none ∧ Seen ks k pl rest (some x) := by
  obtain ⟨dn, e, h⟩ := h
  have hnew : x ∉ dn := fun hm => by
    rw [e, List.nodup_append] at np
    exact np.2.2 x hm x List.mem_cons_self rfl
  refine ⟨?_, dn ++ [x], by rw [e]; simp, .inr ⟨x, by simp, rfl, hx⟩⟩
  rcases h with ⟨h1, _⟩ | ⟨j, h1, h2, h3⟩
  · exact h1
  · have : j = x := by
      obtain ⟨l1, e1⟩ := List.getElem?_eq_some_iff.mp h3
      obtain ⟨l2, e2⟩ := List.getElem?_eq_some_iff.mp hx
      exact nd_at hn l1 l2 (e1.trans e2.symm)
    rw [this] at h1
    exact absurd h1 hnew
theorem Seen.end_ {pl : List Nat} {hit : Option Nat} (hn : ks.Nodup) (has : ∀ j : Nat, ks[j]? = some k → j ∈ pl) (h : Seen ks k pl [] hit) : hit = posOf ks k := by
  obtain ⟨dn, e, h⟩ := h
  rw [List.append_nil] at e
  subst e
  rcases h with ⟨rfl, h2⟩ | ⟨j, h1, rfl, h3⟩
  · exact (posOf_none fun j hj => h2 j (has j hj) hj).symm
  · exact (posOf_some hn h3).symm
theorem Seen.nil {pl : List Nat} : Seen ks k pl pl none := ⟨[], rfl, .inl ⟨rfl, fun _ h => by cases h⟩⟩
theorem walk_plain {pl : List Nat} (hu : A.units + 8 < cLine) (hk : KIs s.heap k v) (ho : s.heap.get? d = some o) (hd : o.data = .dict es ep) (hn : ks.Nodup) (np : pl.Nodup) (has : ∀ j : Nat, ks[j]? = some k → j ∈ pl)
    (mem : ∀ i ∈ pl, ∃ kk e, ks[i]? = some kk ∧ es[i]? = some e ∧ e.hash = k.hash w ∧ KIs s.heap kk e.key) (hQ : Q (posOf ks k) s) : wpAny (model prog w) A (dictWalkPlain d v (k.hash w) es pl) Q E s := by
  unfold dictWalkPlain
  refine wpAny_bind (wpAny_mono (wpAny_forIn_list _ (fun rest r s' => s' = s ∧ r = (none, ()) ∧ Seen ks k pl rest none) (fun r s' => s' = s ∧ r.1.getD none = posOf ks k) (fun x rest r s' hI => ?_) (fun r s' hI => ?_) _ _ ⟨rfl, rfl, Seen.nil⟩) (fun r s' hr => ?_) (fun _ _ z => z))
  · obtain ⟨rfl, rfl, hS⟩ := hI
    have hx : x ∈ pl := by
      obtain ⟨dn, e, _⟩ := hS
      rw [e]; simp
    obtain ⟨kk, e, e1, e2, e3, e4⟩ := mem x hx
    rw [e2]
    dsimp only
    rw [if_pos (by rw [e3]; exact beq_self_eq_true _)]
    refine wpAny_bind (wpAny_dictEpoch ho hd (wpAny_bind (eqAt_key kk k A s' _ _ e4.1 hk.1 (by have := hk.2; omega) prog w _ _ (wpAny_bind (wpAny_dictEpoch ho hd ?_)))))
    rw [if_neg (by simp)]
    cases q : NestedKey.beq kk k with
    | true =>
      have e5 : ks[x]? = some k := by rw [e1, kbeq.mp q]
      simp only [if_true]
      exact wpAny_bind (wpAny_rule (wpAny_pure ⟨rfl, (posOf_some hn e5).symm⟩))
    | false =>
      have e5 : ks[x]? ≠ some k := fun z => by
        rw [e1] at z
        cases z
        rw [NestedKey.beq_self] at q
        cases q
      simp only [Bool.false_eq_true, if_false]
      exact wpAny_bind (wpAny_rule (wpAny_pure ⟨rfl, rfl, hS.skip e5⟩))
  · obtain ⟨rfl, rfl, hS⟩ := hI
    exact ⟨rfl, hS.end_ hn has⟩
  · obtain ⟨rfl, hr⟩ := hr
    obtain ⟨r, u⟩ := r
    cases r with
    | none => exact wpAny_pure (by rw [← hr] at hQ; exact hQ)
    | some r => exact wpAny_pure (by rw [← hr] at hQ; exact hQ)
theorem by_value {x : Str} {t : Tok} (hu : A.units + 8 < cLine) (hk : KIs s.heap k (.str x t)) (ho : s.heap.get? d = some o) (hd : o.data = .dict es ep) (ht : Tab w s.heap ks es) (hn : ks.Nodup) (hall : (es.all fun e => isExactStrKey e.key) = true)
    (hQ : Q (posOf ks k) s) : wpAny (model prog w) A (foundByValue d (.str x t) es x) Q E s := by
  have ek : k = .text x := by
    obtain ⟨h, _⟩ := hk
    cases h
    rfl
  subst ek
  unfold foundByValue
  cases e1 : es.findIdx? (·.key.isStr x) with
  | none =>
    have hp : posOf ks (.text x) = none := posOf_none fun j hj => by
      obtain ⟨e, h1, _, h2⟩ := ht.at hj
      rw [Array.findIdx?_eq_none_iff] at e1
      have h3 := e1 e (Array.mem_of_getElem? h1)
      obtain ⟨h2, _⟩ := h2
      generalize e.key = u at h2 h3
      cases h2
      simp [Value.isStr] at h3
    rw [hp] at hQ
    exact wpAny_pure hQ
  | some i =>
    rw [Array.findIdx?_eq_some_iff_getElem] at e1
    obtain ⟨hl, h1, _⟩ := e1
    have e2 : es[i]? = some es[i] := Array.getElem?_eq_getElem hl
    obtain ⟨kk, h2, h3, h4⟩ := ht.of e2
    have e5 : kk = .text x := by
      obtain ⟨h4, _⟩ := h4
      generalize es[i].key = u at h4 h1
      cases h4 <;> simp_all [Value.isStr]
    subst e5
    dsimp only
    rw [e2]
    dsimp only
    refine wpAny_bind (wpAny_dictEpoch ho hd (wpAny_bind (eqAt_key _ _ A s _ _ h4.1 hk.1 (by have := hk.2; omega) prog w _ _ (wpAny_bind (wpAny_dictEpoch ho hd ?_)))))
    rw [if_neg (by simp), NestedKey.beq_self]
    simp only [if_true]
    rw [posOf_some hn h2] at hQ
    exact wpAny_bind (wpAny_rule (wpAny_pure hQ))
theorem ite_wp {α : Type} {c : Prop} [Decidable c] {M : Model} {a b : Sem α} {Q : α → Shared → Prop} (h1 : c → wpAny M A a Q E s) (h2 : ¬ c → wpAny M A b Q E s) : wpAny M A (if c then a else b) Q E s := by
  by_cases h : c
  · rw [if_pos h]; exact h1 h
  · rw [if_neg h]; exact h2 h
theorem find_any (hu : A.units + 8 < cLine) (hk : KIs s.heap k v) (ho : s.heap.get? d = some o) (hd : o.data = .dict es ep) (ht : Tab w s.heap ks es) (hn : ks.Nodup) (hQ : Q (posOf ks k) s) : wpAny (model prog w) A (dictFind d v (k.hash w)) Q E s := by
  have mem : ∀ i ∈ placesWithHash es.size (fun i => es[i]?.map (·.hash)) (k.hash w), ∃ kk e, ks[i]? = some kk ∧ es[i]? = some e ∧ e.hash = k.hash w ∧ KIs s.heap kk e.key := by
    intro i hi
    rw [placesWithHash, List.mem_filter] at hi
    obtain ⟨h1, h2⟩ := hi
    have hl : i < es.size := List.mem_range.mp h1
    obtain ⟨kk, e1, e2, e3⟩ := ht.of (Array.getElem?_eq_getElem hl)
    refine ⟨kk, es[i], e1, Array.getElem?_eq_getElem hl, ?_, e3⟩
    rw [Array.getElem?_eq_getElem hl] at h2
    simpa using h2
  have has : ∀ j : Nat, ks[j]? = some k → j ∈ placesWithHash es.size (fun i => es[i]?.map (·.hash)) (k.hash w) := by
    intro j hj
    obtain ⟨e, e1, e2, _⟩ := ht.at hj
    rw [placesWithHash, List.mem_filter]
    refine ⟨List.mem_range.mpr (Array.getElem?_eq_some_iff.mp e1).1, ?_⟩
    rw [e1]
    simp [e2]
  generalize hpl : placesWithHash es.size (fun i => es[i]?.map (·.hash)) (k.hash w) = pl at mem has
  have nd : pl.Nodup := by rw [← hpl, placesWithHash]; exact List.Pairwise.filter _ List.nodup_range
  unfold dictFind
  try with_reducible refine wpAny_holding ?_
  refine wpAny_bind (wpAny_dictEntries ho hd ?_)
  dsimp only
  rw [hpl]
  have hst : ∀ u ∈ pl.filterMap (fun i => es[i]?.map (·.key)), ∃ kk, KIs s.heap kk u := by
    intro u hu
    obtain ⟨i, hi, e⟩ := List.mem_filterMap.mp hu
    obtain ⟨kk, e', _, e2, _, e4⟩ := mem i hi
    rw [e2] at e
    cases e
    exact ⟨kk, e4⟩
  have hany : ¬ (es.any fun e => e.key == v && e.hash != k.hash w) = true := by
    intro h
    rw [Array.any_eq_true] at h
    obtain ⟨i, hl, h⟩ := h
    rw [Bool.and_eq_true] at h
    obtain ⟨kk, h2, h3, h4⟩ := ht.of (Array.getElem?_eq_getElem hl)
    have e : es[i].key = v := eq_of_beq h.1
    rw [e] at h4
    rw [h3, NestedIs.inj _ _ _ h4.1 hk.1] at h
    simp at h
  by_cases hcase : (es.all fun e => isExactStrKey e.key) = true ∧ ∃ x t, v = .str x t
  · obtain ⟨hall, x, t, rfl⟩ := hcase
    dsimp only
    rw [if_pos hall]
    exact by_value hu hk ho hd ht hn hall hQ
  cases v
  all_goals dsimp only
  all_goals
    first
      | rw [if_neg (fun h => hcase ⟨h, _, _, rfl⟩)]
      | skip
  all_goals refine ite_wp (fun _ => walk_plain hu hk ho hd hn nd has mem hQ) fun _ => ?_
  all_goals
    first
      | rw [if_neg hany]
      | skip
  all_goals refine ite_wp (fun _ => wpAny_bind (wpAny_pure ?_)) fun _ => wpAny_bind (tell_none hk hst ?_)
  all_goals rw [if_neg (by simp)]
  all_goals
    refine wpAny_bind (wpAny_mono (wpAny_forIn_list _ (fun rest r s' => s' = s ∧ r.1 = none ∧ Seen ks k pl rest r.2) (fun r s' => s' = s ∧ r.1.getD r.2 = posOf ks k) (fun x rest r s' hI => ?_) (fun r s' hI => ?_) _ _ ⟨rfl, rfl, Seen.nil⟩) (fun r s' hr => ?_) (fun _ _ z => z))
    · obtain ⟨rfl, hr1, hS⟩ := hI
      obtain ⟨r1, hit⟩ := r
      have hx : x ∈ pl := by
        obtain ⟨dn, e, _⟩ := hS
        rw [e]; simp
      obtain ⟨kk, e, e1, e2, e3, e4⟩ := mem x hx
      rw [e2]
      dsimp only
      rw [if_pos (by rw [e3]; exact beq_self_eq_true _)]
      refine wpAny_bind (wpAny_dictEpoch ho hd (wpAny_bind (eqAt_key kk k A s' _ _ e4.1 hk.1 (by have := hk.2; omega) prog w _ _ (wpAny_bind (wpAny_dictEpoch ho hd ?_)))))
      rw [if_neg (by simp)]
      cases q : NestedKey.beq kk k with
      | true =>
        have e5 : ks[x]? = some k := by rw [e1, kbeq.mp q]
        obtain ⟨e6, hS2⟩ := hS.first hn nd e5
        have e6 : hit = none := e6
        subst e6
        rw [if_pos rfl, if_neg (by decide)]
        refine wpAny_bind (wpAny_rule (ite_wp (fun _ => wpAny_pure ⟨rfl, (posOf_some hn e5).symm⟩) fun _ => wpAny_pure ⟨rfl, rfl, hS2⟩))
      | false =>
        have e5 : ks[x]? ≠ some k := fun z => by
          rw [e1] at z
          cases z
          rw [NestedKey.beq_self] at q
          cases q
        rw [if_neg (by decide)]
        refine wpAny_bind (wpAny_rule ?_)
        rw [if_neg (by simp)]
        exact wpAny_pure ⟨rfl, rfl, hS.skip e5⟩
    · obtain ⟨rfl, hr1, hS⟩ := hI
      obtain ⟨r1, hit⟩ := r
      have hr1 : r1 = none := hr1
      subst hr1
      exact ⟨rfl, hS.end_ hn has⟩
    · obtain ⟨rfl, hr⟩ := hr
      obtain ⟨r, u⟩ := r
      cases r with
      | none => exact wpAny_pure (by rw [← hr] at hQ; exact hQ)
      | some r => exact wpAny_pure (by rw [← hr] at hQ; exact hQ)
end
end Qc
end
section
set_option Elab.async false
set_option linter.all false
set_option maxHeartbeats 1000000
set_option pp.maxSteps 600
/-! Dicts of the store. -/
namespace Qc
open PySem PySem.Spec PyProof.Rows L2
section
variable {G : Gx} {β : List Addr} {H : Hp}
theorem posOf_cons (a : NestedKey) (l : List NestedKey) (k : NestedKey) : posOf (a :: l) k = if NestedKey.beq a k = true then some 0 else (posOf l k).map (· + 1) := by
  unfold posOf
  rw [List.findIdx?_cons]
/-- what a search says of the entries -/
theorem re_look (k : NestedKey) : ∀ {kvs : List (D × D)} {es : List (NestedKey × V × V)}, REs G β H kvs es → match posOf (es.map (·.1)) k with
    | none => dLook kvs k = none ∧ dHas kvs k = false
    | some i => ∃ p e, kvs[i]? = some p ∧ es[i]? = some e ∧ e.1 = k ∧ dLook kvs k = some p.2 ∧ dHas kvs k = true ∧ RV G β H p.2 e.2.2
  | [], es, r => by
    unfold REs at r
    subst r
    exact ⟨rfl, rfl⟩
  | (d, x) :: kvs, es, r => by
    unfold REs at r
    obtain ⟨k0, v, y, t, rfl, hk, r1, r2, r3⟩ := r
    have ih := re_look k r3
    rw [List.map_cons, posOf_cons]
    by_cases h : NestedKey.beq k0 k = true
    · rw [if_pos h]
      have e := kbeq.mp h
      subst e
      have hi : keyIs k0 d = true := decide_eq_true hk
      exact ⟨_, _, rfl, rfl, rfl, by unfold dLook; simp [List.find?_cons, hi], by unfold dHas; simp [hi], r2⟩
    · rw [if_neg h]
      have hi : keyIs k d = false := decide_eq_false fun z => h (kbeq.mpr (by rw [hk] at z; injection z))
      have e1 : dLook ((d, x) :: kvs) k = dLook kvs k := by unfold dLook; simp [List.find?_cons, hi]
      have e2 : dHas ((d, x) :: kvs) k = dHas kvs k := by unfold dHas; simp [hi]
      rw [e1, e2]
      cases q : posOf (t.map (·.1)) k with
      | none => rw [q] at ih; exact ih
      | some i => rw [q] at ih; exact ih
theorem REs.length : ∀ {kvs : List (D × D)} {es : List (NestedKey × V × V)}, REs G β H kvs es → kvs.length = es.length
  | [], _, r => by unfold REs at r; subst r; rfl
  | (d, x) :: kvs, _, r => by
    unfold REs at r
    obtain ⟨k0, v, y, t, rfl, _, _, _, r3⟩ := r
    rw [List.length_cons, List.length_cons, REs.length r3]
theorem REs.snoc {d x : D} {k : NestedKey} {v y : V} (hk : okey d = some k) (r1 : RV G β H d v) (r2 : RV G β H x y) : ∀ {kvs : List (D × D)} {es : List (NestedKey × V × V)}, REs G β H kvs es → REs G β H (kvs ++ [(d, x)]) (es ++ [(k, v, y)])
  | [], _, r => by
    unfold REs at r
    subst r
    show REs G β H [(d, x)] [(k, v, y)]
    unfold REs
    exact ⟨k, v, y, [], rfl, hk, r1, r2, by unfold REs; rfl⟩
  | (d0, x0) :: kvs, _, r => by
    unfold REs at r
    obtain ⟨k0, v0, y0, t, rfl, a1, a2, a3, a4⟩ := r
    show REs G β H ((d0, x0) :: (kvs ++ [(d, x)])) ((k0, v0, y0) :: (t ++ [(k, v, y)]))
    unfold REs
    exact ⟨k0, v0, y0, _, rfl, a1, a2, a3, REs.snoc hk r1 r2 a4⟩
theorem REs.same {k : NestedKey} {x : D} : ∀ {kvs : List (D × D)} {es : List (NestedKey × V × V)}, REs G β H kvs es → k ∉ es.map (·.1) → (kvs.map fun p => if keyIs k p.1 = true then (p.1, x) else p) = kvs
  | [], _, _, _ => rfl
  | (d0, x0) :: kvs, _, r, hn => by
    unfold REs at r
    obtain ⟨k0, v0, y0, t, rfl, a1, a2, a3, a4⟩ := r
    rw [List.map_cons, List.mem_cons, not_or] at hn
    have hi : ¬ keyIs k d0 = true := fun z => hn.1 (by
      have z := of_decide_eq_true z
      rw [a1] at z
      injection z with z
      exact z.symm)
    rw [List.map_cons, if_neg hi, REs.same a4 hn.2]
theorem REs.putAt {k : NestedKey} {x : D} {y : V} (r2 : RV G β H x y) : ∀ {kvs : List (D × D)} {es : List (NestedKey × V × V)} {i : Nat}, REs G β H kvs es → (es.map (·.1)).Nodup → posOf (es.map (·.1)) k = some i →
    ∃ v0 y0, es[i]? = some (k, v0, y0) ∧ REs G β H (kvs.map fun p => if keyIs k p.1 = true then (p.1, x) else p) (es.set i (k, v0, y))
  | [], _, i, r, _, e => by
    unfold REs at r
    subst r
    cases e
  | (d0, x0) :: kvs, _, i, r, hn, e => by
    unfold REs at r
    obtain ⟨k0, v0, y0, t, rfl, a1, a2, a3, a4⟩ := r
    rw [List.map_cons, posOf_cons] at e
    rw [List.map_cons, List.nodup_cons] at hn
    by_cases h : NestedKey.beq k0 k = true
    · rw [if_pos h] at e
      cases e
      have e := kbeq.mp h
      subst e
      refine ⟨v0, y0, rfl, ?_⟩
      have hi : keyIs k0 d0 = true := decide_eq_true a1
      rw [List.map_cons, if_pos hi, REs.same a4 hn.1, List.set_cons_zero]
      unfold REs
      exact ⟨k0, v0, y, t, rfl, a1, a2, r2, a4⟩
    · rw [if_neg h] at e
      cases q : posOf (t.map (·.1)) k with
      | none => rw [q] at e; cases e
      | some j =>
        rw [q] at e
        cases e
        obtain ⟨v1, y1, b1, b2⟩ := REs.putAt r2 a4 hn.2 q
        refine ⟨v1, y1, b1, ?_⟩
        have hi : ¬ keyIs k d0 = true := fun z => h (kbeq.mpr (by
          have z := of_decide_eq_true z
          rw [a1] at z
          injection z))
        rw [List.map_cons, if_neg hi, List.set_cons_succ]
        unfold REs
        exact ⟨k0, v0, y0, _, rfl, a1, a2, a3, b2⟩
theorem set_keys {es : List (NestedKey × V × V)} {i : Nat} {k : NestedKey} {v0 y0 y : V} (h : es[i]? = some (k, v0, y0)) : (es.set i (k, v0, y)).map (·.1) = es.map (·.1) := by
  obtain ⟨hl, e⟩ := List.getElem?_eq_some_iff.mp h
  refine List.ext_getElem? fun j => ?_
  rw [List.getElem?_map, List.getElem?_map]
  by_cases hj : i = j
  · subst hj
    rw [List.getElem?_set_self hl, h]
    rfl
  · rw [List.getElem?_set_ne hj]
end

/-! ### the table in the heap -/
theorem ent_set {w : World} : ∀ {es : List (NestedKey × V × V)} {l : List DictEntry} {i : Nat} {k : NestedKey} {v0 y0 y : V} {u : Value}, Paired (EntR w) es l → es[i]? = some (k, v0, y0) → RelV y u → Paired (EntR w) (es.set i (k, v0, y)) (l.modify i fun e => { e with val := u })
  | _, _, _, _, _, _, _, _, .nil, e, _ => by cases e
  | _, _, 0, k, v0, y0, y, u, .cons r t, e, ru => by
    cases e
    rw [List.set_cons_zero, List.modify_zero_cons]
    exact .cons ⟨r.1, r.2.1, ru⟩ t
  | _, _, i + 1, k, v0, y0, y, u, .cons r t, e, ru => by
    rw [List.set_cons_succ, List.modify_succ_cons]
    exact .cons r (ent_set t (by simpa using e) ru)
theorem Paired.snoc' {α γ : Type} {R : α → γ → Prop} : ∀ {xs : List α} {ys : List γ} {x : α} {y : γ}, Paired R xs ys → R x y → Paired R (xs ++ [x]) (ys ++ [y])
  | _, _, _, _, .nil, r => .cons r .nil
  | _, _, _, _, .cons r t, q => .cons r (Paired.snoc' t q)

section
variable {X : Cx} {G : Gx} {pins : List (Addr × Obj)} {σ : L2.St} {β : List Addr} {H : Hp} {s : Shared}
mutual
/-- the value of a key is a key in the machine's heap -/
theorem RV.kis (eK : G.K = X.K) (I : Inv X pins σ H s) : ∀ (d : D) (k : NestedKey) (v : V) (u : Value), d.key = some k → RV G β H d v → RelV v u → NestedIs s.heap k u
  | .non, k, v, u, e, r, q => by
    unfold RV at r; subst r; cases q; cases e; exact .none
  | .bl b, k, v, u, e, r, q => by
    unfold RV at r; subst r; cases q; cases e; exact .bool rfl
  | .int i, k, v, u, e, r, q => by
    unfold RV at r; subst r; obtain ⟨t, rfl⟩ := q; cases e; exact .int i t
  | .str x, k, v, u, e, r, q => by
    unfold RV at r; subst r; obtain ⟨t, rfl⟩ := q; cases e; exact .text x t
  | .tup xs, k, v, u, e, r, q => by
    obtain ⟨a, vs, rfl, hs, rr⟩ := RV.tup_at r
    cases q
    have e : (D.keys xs).map NestedKey.tup = some k := e
    cases ek : D.keys xs with
    | none => rw [ek] at e; cases e
    | some ks =>
      rw [ek] at e
      cases e
      rw [eK] at hs
      obtain ⟨its, rv, ⟨o, h1, h2, n, h3⟩, _⟩ := I.tuple hs.sq
      exact .tup h1 h2 h3 (RVs.kis eK I xs ks vs its ek rr rv)
  | .fl _, _, _, _, e, _, _ => by cases e
  | .obj _, _, _, _, e, _, _ => by cases e
  | .exn _, _, _, _, e, _, _ => by cases e
  | .con _, _, _, _, e, _, _ => by cases e
theorem RVs.kis (eK : G.K = X.K) (I : Inv X pins σ H s) : ∀ (ds : List D) (ks : List NestedKey) (vs : List V) (us : List Value), D.keys ds = some ks → RVs G β H ds vs → Vals vs us → NestedAll s.heap ks us
  | [], ks, vs, us, e, r, q => by
    unfold RVs at r; subst r; cases q; cases e; exact .nil
  | d :: ds, ks, vs, us, e, r, q => by
    unfold RVs at r
    obtain ⟨v, t, rfl, r1, r2⟩ := r
    unfold D.keys at e
    cases e1 : D.key d with
    | none => rw [e1] at e; cases e
    | some k =>
      cases e2 : D.keys ds with
      | none => rw [e1, e2] at e; cases e
      | some kk =>
        rw [e1, e2] at e
        cases e
        cases q with
        | cons q1 q2 => exact .cons (RV.kis eK I d k v _ e1 r1 q1) (RVs.kis eK I ds kk t _ e2 r2 q2)
end
theorem okey_of {d : D} {k : NestedKey} (e : okey d = some k) : d.key = some k ∧ k.depth ≤ 8 := by
  unfold okey at e
  cases h : d.key with
  | none => rw [h] at e; cases e
  | some k0 =>
    rw [h] at e
    by_cases hd : k0.depth ≤ 8
    · have e : (if k0.depth ≤ 8 then some k0 else none) = some k := e
      rw [if_pos hd] at e
      cases e
      exact ⟨rfl, hd⟩
    · have e : (if k0.depth ≤ 8 then some k0 else none) = some k := e
      rw [if_neg hd] at e
      cases e
theorem RV.is (eK : G.K = X.K) (I : Inv X pins σ H s) {d : D} {k : NestedKey} {v : V} {u : Value} (e : okey d = some k) (r : RV G β H d v) (q : RelV v u) : KIs s.heap k u :=
  ⟨RV.kis eK I d k v u (okey_of e).1 r q, (okey_of e).2⟩
theorem REs.tab (eK : G.K = X.K) (I : Inv X pins σ H s) : ∀ {kvs : List (D × D)} {es : List (NestedKey × V × V)} {l : List DictEntry}, REs G β H kvs es → Paired (EntR G.w) es l → Paired (fun k e => e.hash = NestedKey.hash G.w k ∧ KIs s.heap k e.key) (es.map (·.1)) l
  | [], _, _, r, p => by
    unfold REs at r; subst r; cases p; exact .nil
  | (d, x) :: kvs, _, _, r, p => by
    unfold REs at r
    obtain ⟨k0, v0, y0, t, rfl, a1, a2, a3, a4⟩ := r
    cases p with
    | cons q t' => exact .cons ⟨q.1, RV.is eK I a1 a2 q.2.1⟩ (REs.tab eK I a4 t')
/-- a dict of the store in the machine's heap -/
theorem dct_at (eK : G.K = X.K) (I : Inv X pins σ H s) {kvs : List (D × D)} {a : Addr} (r : RO G β H (.dct kvs) a) :
    ∃ es o ents ep, H a = some (DO G.w a es) ∧ REs G β H kvs es ∧ (es.map (·.1)).Nodup ∧ es.length ≤ sizeLine ∧ (a == sysModules) = false ∧ s.heap.get? a = some o ∧ o.ExactDict ∧ o.data = .dict ents ep ∧ Paired (EntR G.w) es ents.toList ∧ Tab G.w s.heap (es.map (·.1)) ents := by
  obtain ⟨es, h, r1, r2, r3⟩ := r
  obtain ⟨⟨h1, o, ents, ep, h2, h3, h4, h5⟩, _, _⟩ := I.hok a _ h
  exact ⟨es, o, ents, ep, h, r1, r2, r3, h1, h2, h3, h4, h5, REs.tab eK I r1 h5⟩
theorem do_ok {P : Program} {w w' : World} {h : Heap} {a : Addr} {es : List (NestedKey × V × V)} {o : Obj} {ents : Array DictEntry} {ep : Nat} (hs : (a == sysModules) = false) (ho : h.get? a = some o) (hc : o.ExactDict) (hd : o.data = .dict ents ep) (r : Paired (EntR w') es ents.toList) :
    ObjOk P w H h a (DO w' a es) := by
  refine ⟨⟨hs, o, ents, ep, ho, hc, hd, r⟩, ⟨o, ho⟩, ?_⟩
  rintro h1 h2 ⟨k0, o', ents', ep', k1, k2, k3, k4⟩ st
  exact ⟨k0, o', ents', ep', st o' k1, k2, k3, k4⟩
end
end Qc
end
section
set_option Elab.async false
set_option linter.all false
set_option maxHeartbeats 1000000
set_option pp.maxSteps 600
/-! What the built-in dict does, keys of any kind. -/
namespace Qc
open PySem PySem.Spec PyProof.Rows L2
section
variable {prog : Program} {w : World} {A : Around} {E : Value → Shared → Prop} {s : Shared} {d : Addr} {o : Obj} {es : Array DictEntry} {ep : Nat} {ks : List NestedKey} {k : NestedKey} {v : Value}
abbrev foundIn (ks : List NestedKey) (es : Array DictEntry) (k : NestedKey) : Option Value := (posOf ks k).bind fun i => es[i]?.map (·.val)
theorem get_any {Q : Option Value → Shared → Prop} (hu : A.units + 8 < cLine) (hk : KIs s.heap k v) (ho : s.heap.get? d = some o) (hd : o.data = .dict es ep) (ht : Tab w s.heap ks es) (hn : ks.Nodup)
    (hQ : Q (foundIn ks es k) { s with toks := s.toks + k.draws }) : wpAny (model prog w) A (dictGet d v) Q E s := by
  unfold dictGet
  try with_reducible refine wpAny_holding ?_
  refine wpAny_bind (pyHash_key k v A s _ hk.1 (by have := hk.2; omega) (wpAny_bind (find_any (s := { s with toks := s.toks + k.draws }) hu hk ho hd ht hn ?_)))
  unfold foundIn at hQ
  cases q : posOf ks k with
  | none => rw [q] at hQ; exact wpAny_pure hQ
  | some i =>
    rw [q] at hQ
    exact wpAny_bind (wpAny_dictEntries (s := { s with toks := s.toks + k.draws }) ho hd (wpAny_pure hQ))
theorem in1_room {A : Around} {n : Nat} (hu : A.units + (n + 1) < cLine) : A.in1.units + n < cLine := by
  have : A.in1.units = A.units + 1 := rfl
  omega
theorem dct_typeIs (ho : s.heap.get? d = some o) (hc : o.ExactDict) : s.TypeIs (.ref d) "dict" := ⟨o, ho, hc.1⟩
/-- d.get(k, x) -/
theorem getOr_any {x : Value} {Q : Value → Shared → Prop} (hu : A.units + 9 < cLine) (hs : (d == sysModules) = false) (hk : KIs s.heap k v) (ho : s.heap.get? d = some o) (hc : o.ExactDict) (hd : o.data = .dict es ep) (ht : Tab w s.heap ks es) (hn : ks.Nodup)
    (hQ : Q ((foundIn ks es k).getD x) { s with toks := s.toks + k.draws }) : wpAny (model prog w) A (call (.builtin "dict.get") [.ref d, v, x]) Q E s := by
  refine call_meetsIn (S := fun A' R s' => A' = A ∧ s' = s ∧ R (.ok (.ret ((foundIn ks es k).getD x))) { s with toks := s.toks + k.draws }) F.slot_dict_get (dct_typeIs ho hc) F.entry_dict_get (F.args_dict_get_3 _ _ _) (MeetsIn.of_wp ?_) ⟨rfl, rfl, hQ⟩
  rintro A' R s' ⟨rfl, rfl, h⟩
  show wpAny _ _ (dictGet d v >>= _) _ _ _
  refine wpAny_bind (get_any (in1_room hu) hk ho hd ht hn ?_)
  cases q : foundIn ks es k with
  | some y => rw [q] at h; exact wpAny_pure ⟨y, rfl, h⟩
  | none =>
    rw [q] at h
    show wpAny _ _ (Builtin.Dict.missed d v >>= _) _ _ _
    exact wpAny_bind (wpAny_missed_other hs (wpAny_pure ⟨x, rfl, h⟩))
/-- k in d -/
theorem contains_any {Q : Bool → Shared → Prop} (hu : A.units + 9 < cLine) (hs : (d == sysModules) = false) (hk : KIs s.heap k v) (ho : s.heap.get? d = some o) (hc : o.ExactDict) (hd : o.data = .dict es ep) (ht : Tab w s.heap ks es) (hn : ks.Nodup)
    (hQ : Q (foundIn ks es k).isSome { s with toks := s.toks + k.draws }) : wpAny (model prog w) A (contains (.ref d) v) Q E s := by
  refine wpAny_contains_slot (dct_typeIs ho hc) F.slot_dict_contains ?_
  refine call_meetsIn (S := fun A' R s' => A' = A ∧ s' = s ∧ R (.ok (.ret (.bool (foundIn ks es k).isSome))) { s with toks := s.toks + k.draws }) F.slot_dict_contains (dct_typeIs ho hc) F.entry_dict_contains (F.args_dict_contains_2 _ _) (fun A' R s' hS => ?_) ⟨rfl, rfl, wpAny_truthy_bool hQ⟩
  obtain ⟨rfl, rfl, h⟩ := hS
  show wpAny _ _ (dictGet d v >>= _) _ _ _
  refine wpAny_bind (get_any (in1_room hu) hk ho hd ht hn ?_)
  cases q : foundIn ks es k with
  | some y => rw [q] at h; exact wpAny_pure h
  | none =>
    rw [q] at h
    show wpAny _ _ (Builtin.Dict.pendingKey? d v >>= _) _ _ _
    exact wpAny_bind (wpAny_pendingKey_other hs (wpAny_pure h))
/-- d[k], there -/
theorem item_any {x : Value} {Q : Value → Shared → Prop} (hu : A.units + 9 < cLine) (hk : KIs s.heap k v) (ho : s.heap.get? d = some o) (hc : o.ExactDict) (hd : o.data = .dict es ep) (ht : Tab w s.heap ks es) (hn : ks.Nodup) (hx : foundIn ks es k = some x)
    (hQ : Q x { s with toks := s.toks + k.draws }) : wpAny (model prog w) A (getItem (.ref d) v) Q E s := by
  unfold getItem
  try with_reducible refine wpAny_holding ?_
  refine wpAny_bind (wpAny_sequenceKey (dct_typeIs ho hc) (by decide) ?_)
  refine wpAny_bind (wpAny_callSpecial?_slot (name := Str.ofString "__getitem__") (dct_typeIs ho hc) F.slot_dict_getitem (wpAny_call_entry F.slot_dict_getitem (dct_typeIs ho hc) F.entry_dict_getitem ?_ (F.args_dict_getitem_2 _ _)))
  show wpAny _ _ (dictGet d v >>= _) _ _ s
  refine wpAny_bind (get_any (in1_room hu) hk ho hd ht hn ?_)
  rw [hx]
  exact wpAny_pure ⟨x, rfl, wpAny_pure hQ⟩

/-- the table behind d[k] = x -/
def putIn (ks : List NestedKey) (es : Array DictEntry) (w : World) (k : NestedKey) (v x : Value) : Array DictEntry := match posOf ks k with
  | some i => es.modify i fun e => { e with val := x }
  | none => es.push ⟨k.hash w, v, x⟩
theorem set_any {x : Value} {Q : Unit → Shared → Prop} (hu : A.units + 8 < cLine) (hk : KIs s.heap k v) (ho : s.heap.get? d = some o) (hc : o.ExactDict) (hd : o.data = .dict es ep) (ht : Tab w s.heap ks es) (hn : ks.Nodup) (hz : es.size ≤ sizeLine)
    (hQ : ∀ h' o' ep', h'.get? d = some o' → o'.ExactDict → o'.data = .dict (putIn ks es w k v x) ep' → Heap.SameBut d s.heap h' → Q () { s with heap := h', toks := s.toks + k.draws }) : wpAny (model prog w) A (dictSet d v x) Q E s := by
  unfold dictSet
  try with_reducible refine wpAny_holding ?_
  refine wpAny_bind (pyHash_key k v A s _ hk.1 (by have := hk.2; omega) ?_)
  unfold dictSetHashed
  try with_reducible refine wpAny_holding ?_
  refine wpAny_bind (find_any (s := { s with toks := s.toks + k.draws }) hu hk ho hd ht hn ?_)
  unfold putIn at hQ
  cases q : posOf ks k with
  | none =>
    rw [q] at hQ
    exact wpAny_bind (wpAny_rule (wpAny_updateDictKeys (hz := hz) (s := { s with toks := s.toks + k.draws }) ho hd (hQ _ _ _ (Heap.get?_update_self _ ho (Obj.isFreed_of_dict (Obj.data_mapDictKeys hd _))) (hc.mapDictKeys _) (Obj.data_mapDictKeys hd _) (Heap.SameBut.update ..))))
  | some i =>
    rw [q] at hQ
    exact wpAny_bind (wpAny_rule (wpAny_bind (wpAny_updateDict (s := { s with toks := s.toks + k.draws }) ho hd (wpAny_point (hQ _ _ _ (Heap.get?_update_self _ ho (Obj.isFreed_of_dict (Obj.data_mapDict hd _))) (hc.mapDict _) (Obj.data_mapDict hd _) (Heap.SameBut.update ..))))))
/-- d[k] = x -/
theorem setItem_any {x : Value} {Q : Unit → Shared → Prop} (hu : A.units + 9 < cLine) (hk : KIs s.heap k v) (ho : s.heap.get? d = some o) (hc : o.ExactDict) (hd : o.data = .dict es ep) (ht : Tab w s.heap ks es) (hn : ks.Nodup) (hz : es.size ≤ sizeLine)
    (hQ : ∀ h' o' ep', h'.get? d = some o' → o'.ExactDict → o'.data = .dict (putIn ks es w k v x) ep' → Heap.SameBut d s.heap h' → Q () { s with heap := h', toks := s.toks + k.draws }) : wpAny (model prog w) A (setItem (.ref d) v x) Q E s := by
  unfold setItem
  try with_reducible refine wpAny_holding ?_
  have T := dct_typeIs ho hc
  refine wpAny_bind (wpAny_sequenceKey T (by decide) (wpAny_bind (wpAny_callSpecial?_slot (name := Str.ofString "__setitem__") T F.slot_dict_setitem (wpAny_call_entry F.slot_dict_setitem T F.entry_dict_setitem ?_ (F.args_dict_setitem_3 _ _ _)))))
  show wpAny _ _ (Builtin.Dict.notOrdered "__setitem__" ⟨[.ref d, v, x], []⟩ >>= _) _ _ s
  refine wpAny_bind (wpAny_notOrdered_dict T ?_)
  show wpAny _ _ (dictSet d v x >>= _) _ _ s
  exact wpAny_bind (set_any (in1_room hu) hk ho hc hd ht hn hz fun h' o' ep' h1 h2 h3 h4 => wpAny_pure ⟨.none, rfl, wpAny_pure (hQ h' o' ep' h1 h2 h3 h4)⟩)
end
end Qc
end
section
set_option Elab.async false
set_option linter.all false
set_option maxHeartbeats 1000000
set_option pp.maxSteps 600
/-! Dicts as values: display, dict(pairs), get, store, membership. -/
namespace Qc
open PySem PySem.Spec PyProof.Rows L2
section
variable {G : Gx} {β : List Addr} {H : Hp}
theorem posOf_mem {ks : List NestedKey} {k : NestedKey} (h : posOf ks k = none) : k ∉ ks := fun hm => by
  unfold posOf at h
  rw [List.findIdx?_eq_none_iff] at h
  have := h k hm
  rw [NestedKey.beq_self] at this
  cases this
theorem dPut_len (kvs : List (D × D)) (d : D) (k : NestedKey) (x : D) : (dPut kvs d k x).length ≤ kvs.length + 1 := by
  unfold dPut
  by_cases h : dHas kvs k = true
  · rw [if_pos h, List.length_map]; omega
  · rw [if_neg h, List.length_append, List.length_singleton]; omega
/-- the entries behind d[k] = x -/
theorem put_rel {kvs : List (D × D)} {es : List (NestedKey × V × V)} {ents : Array DictEntry} {d x : D} {k : NestedKey} {v y : V} {u w' : Value} (r : REs G β H kvs es) (hn : (es.map (·.1)).Nodup) (hk : okey d = some k) (r1 : RV G β H d v) (r2 : RV G β H x y) (q1 : RelV v u) (q2 : RelV y w')
    (p : Paired (EntR G.w) es ents.toList) : ∃ es', REs G β H (dPut kvs d k x) es' ∧ (es'.map (·.1)).Nodup ∧ es'.length ≤ es.length + 1 ∧ Paired (EntR G.w) es' (putIn (es.map (·.1)) ents G.w k u w').toList := by
  have lk := re_look k r
  unfold putIn dPut
  cases e : posOf (es.map (·.1)) k with
  | none =>
    rw [e] at lk
    rw [if_neg (by rw [lk.2]; decide)]
    refine ⟨es ++ [(k, v, y)], REs.snoc hk r1 r2 r, ?_, by rw [List.length_append]; exact Nat.le_refl _, ?_⟩
    · rw [List.map_append, List.nodup_append]
      refine ⟨hn, by simp, fun a ha b hb z => ?_⟩
      have hb : b = k := by simpa using hb
      rw [z, hb] at ha
      exact posOf_mem e ha
    · rw [Array.toList_push]
      exact Paired.snoc' p ⟨rfl, q1, q2⟩
  | some i =>
    rw [e] at lk
    obtain ⟨_, _, _, _, _, _, hh, _⟩ := lk
    rw [if_pos hh]
    obtain ⟨v0, y0, b1, b2⟩ := REs.putAt r2 r hn e
    refine ⟨es.set i (k, v0, y), b2, by rw [set_keys b1]; exact hn, by rw [List.length_set]; omega, ?_⟩
    show Paired (EntR G.w) _ (ents.modify i fun e => { e with val := w' }).toList
    rw [Array.toList_modify]
    exact ent_set p b1 q2
/-- what a look-up finds -/
theorem found_rel {kvs : List (D × D)} {es : List (NestedKey × V × V)} {ents : Array DictEntry} (r : REs G β H kvs es) (p : Paired (EntR G.w) es ents.toList) (k : NestedKey) : match dLook kvs k with
    | none => foundIn (es.map (·.1)) ents k = none
    | some x => ∃ y u, foundIn (es.map (·.1)) ents k = some u ∧ RV G β H x y ∧ RelV y u := by
  have lk := re_look k r
  unfold foundIn
  cases e : posOf (es.map (·.1)) k with
  | none =>
    rw [e] at lk
    rw [lk.1]
    rfl
  | some i =>
    rw [e] at lk
    obtain ⟨q, f, h1, h2, h3, h4, h5, h6⟩ := lk
    rw [h4]
    obtain ⟨g, g1, g2⟩ := Paired.at p i f h2
    have g3 : ents[i]? = some g := by rw [← Array.getElem?_toList]; exact g1
    exact ⟨f.2.2, g.val, by rw [Option.bind_some, g3]; rfl, h6, g2.2.2⟩
end
section
variable {G : Gx} {β : List Addr} {H : Hp} {S : Sto} {Z : Nat → Hp → Prop}
/-- a new object: a dict just made that no name holds -/
theorem Post.newD {kvs : List (D × D)} {Q : V → Hp → Prop} (h : Post G (relU G) β H (Qc.pur (U.d kvs) S) Q Z) (T : RS G β H S) {es : List (NestedKey × V × V)} (r : REs G β H kvs es) (hn : (es.map (·.1)).Nodup) (hz : es.length ≤ sizeLine) {p : Addr} (hp : H p = none) : Q (.ref p) (L2.upd H p (DO G.w p es)) :=
  h (.ref p) _ β (Nxt.new hp) (T.newH hp) ⟨⟨p, rfl, T.new hp, es, upd_same, REs.nxt T (Nxt.new hp) _ _ r, hn, hz⟩, fun a e => by cases e; exact hp⟩
variable {X : Cx} {W : WX}
theorem pe_dicX {pos : Pos} : PE X (.Dict [] [] pos) (tE G W fun _ => pur (.d [])) := ⟨fun pins s σ H Q I h => by
  obtain ⟨β, ρ, S, E, T, p⟩ := h
  have fr : H s.heap.objs.size = none := I.hok.fresh (Nat.le_refl _)
  have hs : (s.heap.objs.size == sysModules) = false := beq_eq_false_iff_ne.mpr (Ne.symm (Nat.ne_of_lt I.big))
  exact wpAny_Dict_empty ⟨.ref s.heap.objs.size, _, I.laid (t' := s.toks) (fun _ _ q => Heap.get?_push_of_some _ q) (Nat.le_refl _) (do_ok (w' := G.w) (es := []) hs (Heap.get?_push_size _ rfl) ⟨rfl, rfl, rfl⟩ rfl .nil), rfl, p.newD T (es := []) (by unfold REs; rfl) List.nodup_nil (Nat.zero_le _) fr⟩⟩

/-! ### dict(pairs) -/
theorem dPairs_cons {acc r : List (D × D)} {a b : D} {k : NestedKey} {t : List D} (ek : okey a = some k) : dPairs acc (.tup [a, b] :: t) = dPairs (dPut acc a k b) t := by
  simp only [dPairs, ek]
theorem dPairs_inv {acc kvs : List (D × D)} {x : D} {t : List D} (e : dPairs acc (x :: t) = some kvs) : ∃ a b k, x = .tup [a, b] ∧ okey a = some k ∧ dPairs (dPut acc a k b) t = some kvs := by
  cases x with
  | tup ys =>
    match ys, e with
    | [a, b], e =>
      cases ek : okey a with
      | none => simp [dPairs, ek] at e
      | some k =>
        rw [dPairs_cons (r := []) ek] at e
        exact ⟨a, b, k, rfl, ek, e⟩
    | [], e => simp [dPairs] at e
    | [_], e => simp [dPairs] at e
    | _ :: _ :: _ :: _, e => simp [dPairs] at e
  | _ => simp [dPairs] at e
theorem dPairs_take : ∀ {xs : List D} {acc kvs : List (D × D)}, dPairs acc xs = some kvs → ∀ i, i ≤ xs.length → ∃ q, dPairs acc (xs.take i) = some q
  | [], acc, kvs, e, i, _ => ⟨acc, by cases i <;> simp [dPairs]⟩
  | x :: xs, acc, kvs, e, 0, _ => ⟨acc, by simp [dPairs]⟩
  | x :: xs, acc, kvs, e, i + 1, hi => by
    obtain ⟨a, b, k, rfl, ek, e⟩ := dPairs_inv e
    rw [List.take_succ_cons, dPairs_cons (r := []) ek]
    exact dPairs_take e i (by simpa using hi)
theorem dPairs_step : ∀ {xs : List D} {acc kvs q : List (D × D)} {i : Nat}, dPairs acc xs = some kvs → (hi : i < xs.length) → dPairs acc (xs.take i) = some q → ∃ a b k, xs[i]? = some (.tup [a, b]) ∧ okey a = some k ∧ dPairs acc (xs.take (i + 1)) = some (dPut q a k b)
  | [], _, _, _, _, _, hi, _ => by cases hi
  | x :: xs, acc, kvs, q, 0, e, _, e2 => by
    have e2 : dPairs acc [] = some q := e2
    have e3 : acc = q := by simpa [dPairs] using e2
    subst e3
    obtain ⟨a, b, k, rfl, ek, e⟩ := dPairs_inv e
    refine ⟨a, b, k, rfl, ek, ?_⟩
    rw [List.take_succ_cons, dPairs_cons (r := []) ek]
    simp [dPairs]
  | x :: xs, acc, kvs, q, i + 1, e, hi, e2 => by
    obtain ⟨a, b, k, rfl, ek, e⟩ := dPairs_inv e
    rw [List.take_succ_cons, dPairs_cons (r := []) ek] at e2
    rw [List.take_succ_cons, dPairs_cons (r := []) ek]
    exact dPairs_step e (by simpa using hi) e2
theorem dPut_of_take {xs : List D} {kvs q : List (D × D)} (e : dPairs [] xs = some kvs) : ∀ i, i ≤ xs.length → ∀ q, dPairs [] (xs.take i) = some q → q.length ≤ i
  | 0, _, q, h => by
    have h : dPairs [] ([] : List D) = some q := by simpa using h
    have : [] = q := by simpa [dPairs] using h
    rw [← this]
    exact Nat.le_refl _
  | i + 1, hi, q, h => by
    obtain ⟨q0, h0⟩ := dPairs_take e i (Nat.le_of_succ_le hi)
    obtain ⟨a, b, k, _, _, h3⟩ := dPairs_step e hi h0
    rw [h] at h3
    cases h3
    have := dPut_of_take (q := q) e i (Nat.le_of_succ_le hi) q0 h0
    have := dPut_len q0 a k b
    omega
theorem KIs.keep {h h' : Heap} {k : NestedKey} {v : Value} (hk : ∀ b o, h.get? b = some o → h'.get? b = some o) (x : KIs h k v) : KIs h' k v := ⟨NestedIs.at (fun a o vs n e _ => hk a o e) k v x.1, x.2⟩
/-- the pairs of a list in the machine's heap -/
theorem pair_at {pins : List (Addr × Obj)} {σ : L2.St} {s : Shared} (eK : G.K = X.K) (I : Inv X pins σ H s) {a b : D} {v : V} {u : Value} (r : RV G β H (.tup [a, b]) v) (ru : RelV v u) : ∃ (T : Addr) (va vb : V) (ua ub : Value), u = .ref T ∧ s.heap.IsTuple T #[ua, ub] ∧ RV G β H a va ∧ RV G β H b vb ∧ RelV va ua ∧ RelV vb ub := by
  obtain ⟨T, vs, rfl, hs, rr⟩ := RV.tup_at r
  cases ru
  rw [eK] at hs
  obtain ⟨its, rv, p, _⟩ := I.tuple hs.sq
  unfold RVs at rr
  obtain ⟨va, t, rfl, r1, rr⟩ := rr
  unfold RVs at rr
  obtain ⟨vb, t, rfl, r2, rr⟩ := rr
  unfold RVs at rr
  subst rr
  cases rv with
  | cons q1 rv =>
    cases rv with
    | cons q2 rv =>
      cases rv
      exact ⟨T, va, vb, _, _, rfl, p, r1, r2, q1, q2⟩
theorem pairs_items {pins : List (Addr × Obj)} {σ : L2.St} {s : Shared} (eK : G.K = X.K) (I : Inv X pins σ H s) : ∀ {xs : List D} {vs : List V} {its : List Value}, RVs G β H xs vs → Vals vs its → (∀ i : Nat, i < xs.length → ∃ a b, xs[i]? = some (.tup [a, b])) →
    ∃ (ts : List Addr) (ps : List (Value × Value)), ts.length = xs.length ∧ ps.length = xs.length ∧ its = ts.map Value.ref ∧ ∀ (i : Nat) (k v : Value), ps[i]? = some (k, v) → ∃ T a b va vb, ts[i]? = some T ∧ s.heap.IsTuple T #[k, v] ∧ xs[i]? = some (.tup [a, b]) ∧ RV G β H a va ∧ RV G β H b vb ∧ RelV va k ∧ RelV vb v
  | [], vs, its, r, q, _ => by
    unfold RVs at r
    subst r
    cases q
    exact ⟨[], [], rfl, rfl, rfl, fun i k v e => by cases e⟩
  | x :: xs, vs, its, r, q, h => by
    unfold RVs at r
    obtain ⟨v, t, rfl, r1, r2⟩ := r
    cases q with
    | cons q1 q2 =>
      obtain ⟨a, b, e⟩ := h 0 (Nat.succ_pos _)
      cases e
      obtain ⟨T, va, vb, ua, ub, rfl, p, a1, a2, a3, a4⟩ := pair_at eK I r1 q1
      obtain ⟨ts, ps, l1, l2, l3, l4⟩ := pairs_items eK I r2 q2 fun i hi => h (i + 1) (Nat.succ_lt_succ hi)
      refine ⟨T :: ts, (ua, ub) :: ps, by simp [l1], by simp [l2], by rw [List.map_cons, l3], fun i k v e => ?_⟩
      cases i with
      | zero =>
        cases e
        exact ⟨T, a, b, va, vb, rfl, p, rfl, a1, a2, a3, a4⟩
      | succ i => exact l4 i k v e
theorem cr_dict (eK : G.K = X.K) (ew : G.w = X.w) (hc : X.calm = true) (hu : X.A.units + 64 < cLine) : CallR X (.type "dict") (rA1 G kDict) := by
  intro pins s σ H xs us Q I r h
  obtain ⟨x, rfl, β, S, u, Z, T, ru, p⟩ := h
  obtain ⟨xs, l, vs, rfl, hs, rr, p⟩ := Post.sq p T ru
  obtain ⟨hl, p⟩ := p.guard
  obtain ⟨kvs, ek, p⟩ := p.opt
  have hl : xs.length < sizeLine := of_decide_eq_true hl
  obtain ⟨w', rfl, rx⟩ := vals1 r
  cases rx
  have fr : H s.heap.objs.size = none := I.hok.fresh (Nat.le_refl _)
  have body : ∀ (Ty : String) (its : List Value), Vals vs its → PlainSeq Ty s.heap l its.toArray → (∀ (Ts : Nat → Addr) (ps : List (Value × Value)), PairArg X.prog X.w Ty l (l :: (List.range ps.length).map Ts) [] ps.length (PairRel ps) (fun h => PlainSeq Ty h l its.toArray ∧ PairItems h its.toArray Ts ps)) →
      wpAny (model X.prog X.w) X.A (call (.type "dict") [.ref l]) (EP X pins σ Q) X.xe s := fun Ty its rv pl PA => by
    have allp : ∀ i : Nat, i < xs.length → ∃ a b, xs[i]? = some (.tup [a, b]) := fun i hi => by
      obtain ⟨q, hq⟩ := dPairs_take ek i (Nat.le_of_lt hi)
      obtain ⟨a, b, _, e, _⟩ := dPairs_step ek hi hq
      exact ⟨a, b, e⟩
    obtain ⟨ts, ps, l1, l2, l3, l4⟩ := pairs_items eK I rr rv allp
    have pit : PairItems s.heap its.toArray (fun j => ts.getD j 0) ps := by
      refine ⟨by rw [List.size_toArray, l3, List.length_map, l1, l2], fun j k v e => ?_⟩
      obtain ⟨T, a, b, va, vb, t1, t2, _⟩ := l4 j k v e
      refine ⟨?_, .inl ?_⟩
      · rw [List.getElem?_toArray, l3, List.getElem?_map, t1]
        simp [List.getD_eq_getElem?_getD, t1]
      · simpa [List.getD_eq_getElem?_getD, t1] using t2
    refine call_dict_arg (PA (fun j => ts.getD j 0) ps) ⟨pl, pit⟩ fun s₁ hs₁ hdf ok₁ => ?_
    subst hs₁
    refine updateFrom_arg (A := X.A.in1) (Tab := fun i h => ∃ q es o ents ep, dPairs [] (xs.take i) = some q ∧ REs G β H q es ∧ (es.map (·.1)).Nodup ∧ es.length ≤ i ∧ h.get? s.heap.objs.size = some o ∧ o.ExactDict ∧ o.data = .dict ents ep ∧ Paired (EntR G.w) es ents.toList ∧ ∀ b o, s.heap.get? b = some o → h.get? b = some o)
      (PA (fun j => ts.getD j 0) ps) .none (I.ok.hd hc) ok₁ hdf ?_ ?_ ?_ ?_ ?_
    · exact ⟨[], [], _, #[], 0, by simp [dPairs], by unfold REs; rfl, List.nodup_nil, Nat.le_refl _, Heap.get?_push_size _ rfl, ⟨rfl, rfl, rfl⟩, rfl, .nil, fun b o e => Heap.get?_push_of_some _ e⟩
    · rintro i h ⟨_, _, o, _, _, _, _, _, _, ho, _⟩
      exact Heap.lt_size ho
    · rintro i h h' wr' hd hw ⟨q, es, o, ents, ep, t1, t2, t3, t4, t5, t6, t7, t8, t9⟩ hk
      refine ⟨q, es, o, ents, ep, t1, t2, t3, t4, hk _ _ hd t5, t6, t7, t8, fun b ob e => hk _ _ (fun hm => ?_) (t9 b ob e)⟩
      rcases hw b hm with z | z
      · cases z
      · rw [Heap.get?_push_of_some _ e] at z; cases z
    · rintro i k v s' Q' E' hi hrel ⟨q, es, o, ents, ep, t1, t2, t3, t4, t5, t6, t7, t8, t9⟩ _ hQ
      obtain ⟨T', a, b, va, vb, _, _, e1, r1, r2, q1, q2⟩ := l4 i k v hrel
      obtain ⟨a', b', kk, e2, e3, e4⟩ := dPairs_step ek (by rw [← l2]; exact hi) t1
      rw [e1] at e2
      cases e2
      have hkis : KIs s'.heap kk k := KIs.keep t9 (RV.is eK I e3 r1 q1)
      have tab : Tab X.w s'.heap (es.map (·.1)) ents := by
        have := REs.tab eK I t2 t8
        rw [ew] at this
        exact Paired.mapP this fun _ _ z => ⟨z.1, KIs.keep t9 z.2⟩
      have hsz : ents.size ≤ sizeLine := by
        have z1 := Paired.len t8
        have z2 : ents.toList.length = ents.size := Array.length_toList
        have z3 : i < xs.length := by rw [← l2]; exact hi
        have z4 : es.length ≤ i := t4
        omega
      refine set_any (by have : X.A.in1.in1.units = X.A.units + 2 := rfl; omega) hkis t5 t6 t7 tab t3 hsz fun h' o' ep' g1 g2 g3 g4 => ?_
      obtain ⟨es', p1, p2, p3, p4⟩ := put_rel t2 t3 e3 r1 r2 q1 q2 t8
      rw [← ew] at g3
      refine hQ h' _ ⟨_, es', o', _, ep', e4, p1, p2, by omega, g1, g2, g3, p4, fun c oc e => ?_⟩ g4
      exact (g4.2 c (Nat.ne_of_lt (Heap.lt_size e))).trans (t9 c oc e)
    · rintro h' tk ⟨q, es, o, ents, ep, t1, t2, t3, t4, t5, t6, t7, t8, t9⟩ _
      rw [l2, List.take_length, ek] at t1
      cases t1
      have hsys : (s.heap.objs.size == sysModules) = false := beq_eq_false_iff_ne.mpr (Ne.symm (Nat.ne_of_lt I.big))
      exact ⟨rfl, .ref s.heap.objs.size, _, I.laid (t' := tk) t9 (Nat.le_refl _) (do_ok (w' := G.w) hsys t5 t6 t7 t8), rfl, p.newD T t2 t3 (by omega) fr⟩
  rw [eK] at hs
  rcases hs with hs | hs
  · obtain ⟨its, rv, ⟨o, n, e, c, d, dt⟩, _⟩ := I.list hs
    exact body "list" its rv ⟨o, n, e, c, d, dt⟩ fun Ts ps => PairArg.list l its.toArray Ts ps
  · rcases hs with ⟨o, h, hd⟩ | ⟨o, its, n, h1, h2, h3, h4, h5, h6⟩
    · obtain ⟨e, hz, its, rv, o', e', c, n, dt⟩ := I.hok l _ h
      rw [e] at e'
      cases e'
      exact body "tuple" its rv ⟨o, n, e, c, hd, dt⟩ fun Ts ps => PairArg.tuple l its.toArray Ts ps
    · exact body "tuple" its.toList h6 ⟨o, n, I.kIn l o h1, h2, h3, by simpa using h4⟩ fun Ts ps => by simpa using PairArg.tuple l its Ts ps
end
end Qc
end
section
set_option Elab.async false
set_option linter.all false
set_option maxHeartbeats 1000000
set_option pp.maxSteps 600
/-! Methods of lists and dicts. -/
namespace Qc
open PySem PySem.Spec PyProof.Rows L2
/-- the receiver is no call without arguments of a name -/
def noSuper : Expr → Bool
  | .Call (.Name _ _) [] [] _ => false
  | _ => true
theorem base_of {o : Expr} {a : Str} {env : PySem.Env} {wh : Sem Value} (h : noSuper o = true) : attributeBase o a env wh = wh := by
  unfold attributeBase
  split
  · cases h
  · rfl
section
variable {X : Cx} {G : Gx} {W : WX}
/-- what a method does, by its receiver and its arguments -/
def MtX (X : Cx) (G : Gx) (id : String) (n : Nat) (k : U → List U → M U) : Prop :=
  ∀ (pins : List (Addr × Obj)) (s : Shared) (σ : L2.St) (β0 β : List Addr) (H0 H : Hp) (S : Sto) (u : U) (us : List U) (x : V) (xs : List V) (v : Value) (vs : List Value) (Q : VK) (Z : Nat → Hp → Prop), us.length = n → Inv X pins σ H s → Nxt β0 H0 β H → RS G β H S → RU G β H u x → RelV x v →
    Paired (fun u x => RU G β H u x ∧ Fr H0 u x) us xs → Vals xs vs → Post G (relU G) β0 H0 (k u us S) Q Z → wpAny (model X.prog X.w) X.A (call (.builtin id) (v :: vs)) (EP X pins σ Q) X.xe s
/-- the receiver is of the method's type -/
def KindX (X : Cx) (G : Gx) (T : String) (kd : U → M Unit) : Prop :=
  ∀ (pins : List (Addr × Obj)) (s : Shared) (σ : L2.St) (β : List Addr) (H : Hp) (S : Sto) (u : U) (x : V) (v : Value), Inv X pins σ H s → RS G β H S → RU G β H u x → RelV x v → kd u S ≠ .stuck →
    (s.TypeIs v T ∧ ∀ a, v = .ref a → ∃ ob, s.heap.get? a = some ob ∧ ob.dict = none) ∧ kd u S = .ok () S
structure Mth (T : String) (name : Str) (id : String) : Prop where
  pa : PlainAttrs T
  slot : Slot T name id
  ty : typeOf (.builtin id) = pure (.type "method_descriptor")
theorem kind_list (eK : G.K = X.K) {m : M1} : KindX X G "list" (kindM1 m) := by
  intro pins s σ β H S u x v I T r rx hk
  have key : ∀ (l : Addr) (vs : List V), x = .ref l → SqL G.K H l vs → kindM1 m u S = .ok () S → (s.TypeIs v "list" ∧ ∀ a, v = .ref a → ∃ ob, s.heap.get? a = some ob ∧ ob.dict = none) ∧ kindM1 m u S = .ok () S := fun l vs ex hs hk => by
    subst ex
    cases rx
    rw [eK] at hs
    obtain ⟨its, _, pl, _⟩ := I.list hs
    refine ⟨⟨pl.isList.typeIs, fun a e => ?_⟩, hk⟩
    cases e
    obtain ⟨o, n, e, c, hd, _⟩ := pl
    exact ⟨o, e, hd⟩
  cases u with
  | l xs =>
    obtain ⟨a, vs, e, q, _⟩ := r.lst_at
    exact key a vs e (SqL.of q) rfl
  | v d =>
    cases d with
    | fl xs =>
      obtain ⟨a, vs, e, q, _⟩ := RV.fl_at r
      exact key a vs e q.sq rfl
    | obj n =>
      unfold kindM1 sqL at hk
      cases e : S[n]? with
      | none => exact absurd (by simp [bnd, look, e]) hk
      | some o =>
        cases o with
        | lst xs =>
          obtain ⟨a, ex, _, vs, q, _⟩ := RV.obj_at T r e
          exact key a vs ex (SqL.of q) (by simp [kindM1, sqL, bnd, look, e])
        | dct kvs => exact absurd (by simp [bnd, look, e, stk]) hk
        | ins c fs => exact absurd (by simp [bnd, look, e, stk]) hk
    | _ => exact absurd rfl hk
  | s xs => exact absurd rfl hk
  | d xs => exact absurd rfl hk
theorem kind_dict (eK : G.K = X.K) {m : M2} : KindX X G "dict" (kindM2 m) := by
  intro pins s σ β H S u x v I T r rx hk
  have key : ∀ kvs l, x = .ref l → RO G β H (.dct kvs) l → kindM2 m u S = .ok () S → (s.TypeIs v "dict" ∧ ∀ a, v = .ref a → ∃ ob, s.heap.get? a = some ob ∧ ob.dict = none) ∧ kindM2 m u S = .ok () S := fun kvs l ex ro hk => by
    subst ex
    cases rx
    obtain ⟨es, o, ents, ep, _, _, _, _, _, ho, hc, _⟩ := dct_at eK I ro
    refine ⟨⟨⟨o, ho, hc.1⟩, fun a e => ?_⟩, hk⟩
    cases e
    exact ⟨o, ho, hc.2.1⟩
  cases u with
  | d kvs =>
    obtain ⟨a, e, _, ro⟩ := r
    exact key kvs a e ro rfl
  | v d =>
    cases d with
    | obj n =>
      unfold kindM2 dcL at hk
      cases e : S[n]? with
      | none => exact absurd (by simp [bnd, look, e]) hk
      | some o =>
        cases o with
        | dct kvs =>
          obtain ⟨a, ex, _, ro⟩ := RV.obj_at T r e
          exact key kvs a ex ro (by simp [kindM2, dcL, bnd, look, e])
        | lst xs => exact absurd (by simp [bnd, look, e, stk]) hk
        | ins c fs => exact absurd (by simp [bnd, look, e, stk]) hk
    | _ => exact absurd rfl hk
  | l xs => exact absurd rfl hk
  | s xs => exact absurd rfl hk
theorem few_ok {es : List Expr} {env : PySem.Env} {pos : Pos} (hs : es.all notStar = true) (hl : es.length < 29) : ((backTo pos (starEach es env)).all (fun x => !x.1) && (backToKw pos (keywordEach [] env)).all (fun x => x.1.isSome)
      && decide (es.length + ([] : List Keyword).length + (if ([] : List Keyword).isEmpty then 0 else 1) < 30)) = true := by
  have h1 : (backTo pos (starEach es env)).all (fun x => !x.1) = true := by
    induction es with
    | nil => rfl
    | cons e es ih =>
      rw [List.all_cons, Bool.and_eq_true] at hs
      rw [star_cons hs.1]
      show (!false && (backTo pos (starEach es env)).all fun x => !x.1) = true
      rw [ih hs.2 (by rw [List.length_cons] at hl; omega)]
      rfl
  rw [h1]
  have h2 : (backToKw pos (keywordEach [] env)).all (fun x => x.1.isSome) = true := by
    unfold keywordEach backToKw
    rfl
  rw [h2]
  simp only [Bool.and_self, Bool.true_and, List.isEmpty_nil, if_true, List.length_nil]
  exact decide_eq_true (by omega)

theorem Post.kind {kd : U → M Unit} {T : String} {pins : List (Addr × Obj)} {s : Shared} {σ : L2.St} {β0 β : List Addr} {H0 H : Hp} {S : Sto} {u : U} {x : V} {v : Value} {α ν : Type} {Rl : Rel α ν} {k : M α} {Q : ν → Hp → Prop} {Z : Nat → Hp → Prop} (hk : KindX X G T kd) (I : Inv X pins σ H s) (Ts : RS G β H S) (r : RU G β H u x) (rx : RelV x v)
    (p : Post G Rl β0 H0 (bnd (kd u) (fun _ => k) S) Q Z) : (s.TypeIs v T ∧ ∀ a, v = .ref a → ∃ ob, s.heap.get? a = some ob ∧ ob.dict = none) ∧ Post G Rl β0 H0 (k S) Q Z := by
  have ns : kd u S ≠ .stuck := fun e => by
    unfold bnd at p
    rw [e] at p
    exact p
  obtain ⟨h1, h2⟩ := hk pins s σ β H S u x v I Ts r rx ns
  refine ⟨h1, ?_⟩
  unfold bnd at p
  rw [h2] at p
  exact p
theorem Post.firstN {α ν γ μ : Type} {Rl : Rel α ν} {Rl2 : Rel γ μ} {β0 β : List Addr} {H0 H : Hp} {S : Sto} {m : M α} {k : α → M γ} {Q : μ → Hp → Prop} {Z : Nat → Hp → Prop} {Q1 : ν → Hp → Prop} (N : Nxt β0 H0 β H) (h : Post G Rl2 β0 H0 (bnd m k S) Q Z)
    (f : ∀ a S1 v H1 β1, Nxt β H β1 H1 → RS G β1 H1 S1 → Rl.r H β1 H1 a v → Post G Rl2 β0 H0 (k a S1) Q Z → Q1 v H1) : Post G Rl β H (m S) Q1 Z := by
  unfold bnd at h
  cases e : m S with
  | ok a S1 =>
    rw [e] at h
    exact fun v H1 β1 n t r => f a S1 v H1 β1 n t r h
  | exc c S1 =>
    rw [e] at h
    exact fun H1 β1 n t => h H1 β1 (N.trans n) t
  | stuck => rw [e] at h; exact h
theorem pe_m1X {T id : String} {name : Str} {kd : U → M Unit} {k : U → U → M U} {o a : Expr} {apos cpos : Pos} {f g : Env → M U} (mt : Mth T name id) (hk : KindX X G T kd) (hm : MtX X G id 1 (fun u us => match us with | [y] => k u y | _ => stk)) (ho : PE X o (tE G W f)) (ha : PE X a (tE G W g)) (hb : noSuper o = true) (hs : notStar a = true)
    (hline : (apos.endLine == cpos.line) = true) : PE X (.Call (.Attribute o name apos) [a] [] cpos) (tE G W fun ρ => bnd (f ρ) fun x => bnd (kd x) fun _ => bnd (g ρ) fun y => k x y) := by
  refine ⟨fun pins s σ H Q I h => ?_⟩
  obtain ⟨β, ρ, S, E, T0, p⟩ := h
  refine wpAny_Call_method_late (base_of hb) (few_ok (by rw [List.all_cons, hs]; rfl) (by show 0 + 1 < 29; decide)) hline rfl (thn (ho.run pins s σ H (fun x H1 => ∃ β1 S1 u, Nxt β H β1 H1 ∧ RS G β1 H1 S1 ∧ RU G β1 H1 u x ∧ Post G (relU G) β H (bnd (kd u) (fun _ => bnd (g ρ) fun y => k u y) S1) Q (zW G W σ)) I ⟨β, ρ, S, E, T0, p.first fun u S1 v H1 β1 N1 T1 r1 p1 => ⟨β1, S1, u, N1, T1, r1.1, p1⟩⟩) fun v s1 ⟨x, H1, I1, rx, β1, S1, u, N1, T1, r1, p1⟩ => ?_)
  obtain ⟨⟨h1, h2⟩, p1⟩ := p1.kind hk I1 T1 r1 rx
  refine ⟨T, id, mt.pa, mt.slot, mt.ty, h1, h2, ?_⟩
  have hA := (pa_cons ha pa_nil (star_cons hs _ _)).run cpos pins s1 σ H1 (fun ys H2 => ∃ β2 S2 u2 y, ys = [y] ∧ Nxt β1 H1 β2 H2 ∧ RS G β2 H2 S2 ∧ RU G β2 H2 u2 y ∧ Fr H1 u2 y ∧ Post G (relU G) β1 H1 (k u u2 S2) Q (zW G W σ)) I1 ⟨β1, ρ, S1, E.nxt T0 N1, T1, (p1.nxt N1).first fun u2 S2 v2 H2 β2 N2 T2 r2 p2 => ⟨β2, S2, u2, v2, rfl, N2, T2, r2.1, r2.2, p2⟩⟩
  rw [star_cons hs] at hA ⊢
  refine Calls.callWith_builtin rfl (Calls.evalArgs_plain (thn hA fun us s2 ⟨ys, H2, I2, ry, β2, S2, u2, y, ey, N2, T2, r2, fr, p2⟩ => ?_))
  subst ey
  exact hm pins s2 σ β1 β2 H1 H2 S2 u [u2] x [y] v us Q _ rfl I2 N2 T2 (r1.nxt T1 N2) rx (.cons ⟨r2, fr⟩ .nil) ry p2
theorem pe_m2X {T id : String} {name : Str} {kd : U → M Unit} {k : U → U → U → M U} {o a b : Expr} {apos cpos : Pos} {f g h : Env → M U} (mt : Mth T name id) (hk : KindX X G T kd) (hm : MtX X G id 2 (fun u us => match us with | [y, z] => k u y z | _ => stk)) (ho : PE X o (tE G W f)) (ha : PE X a (tE G W g)) (hb' : PE X b (tE G W h)) (hb : noSuper o = true) (hs : notStar a = true) (hs2 : notStar b = true)
    (hline : (apos.endLine == cpos.line) = true) : PE X (.Call (.Attribute o name apos) [a, b] [] cpos) (tE G W fun ρ => bnd (f ρ) fun x => bnd (kd x) fun _ => bnd (g ρ) fun y => bnd (h ρ) fun z => k x y z) := by
  refine ⟨fun pins s σ H Q I h0 => ?_⟩
  obtain ⟨β, ρ, S, E, T0, p⟩ := h0
  refine wpAny_Call_method_late (base_of hb) (few_ok (by rw [List.all_cons, hs, List.all_cons, hs2]; rfl) (by show 0 + 1 + 1 < 29; decide)) hline rfl (thn (ho.run pins s σ H (fun x H1 => ∃ β1 S1 u, Nxt β H β1 H1 ∧ RS G β1 H1 S1 ∧ RU G β1 H1 u x ∧ Post G (relU G) β H (bnd (kd u) (fun _ => bnd (g ρ) fun y => bnd (h ρ) fun z => k u y z) S1) Q (zW G W σ)) I ⟨β, ρ, S, E, T0, p.first fun u S1 v H1 β1 N1 T1 r1 p1 => ⟨β1, S1, u, N1, T1, r1.1, p1⟩⟩) fun v s1 ⟨x, H1, I1, rx, β1, S1, u, N1, T1, r1, p1⟩ => ?_)
  obtain ⟨⟨h1, h2⟩, p1⟩ := p1.kind hk I1 T1 r1 rx
  refine ⟨T, id, mt.pa, mt.slot, mt.ty, h1, h2, ?_⟩
  have hA := (pa_cons ha (pa_cons hb' pa_nil (star_cons hs2 _ _)) (star_cons hs _ _)).run cpos pins s1 σ H1 (fun ys H3 => ∃ β3 S3 u2 u3 y z, ys = [y, z] ∧ Nxt β1 H1 β3 H3 ∧ RS G β3 H3 S3 ∧ RU G β3 H3 u2 y ∧ Fr H1 u2 y ∧ RU G β3 H3 u3 z ∧ Fr H1 u3 z ∧ Post G (relU G) β1 H1 (k u u2 u3 S3) Q (zW G W σ)) I1
    ⟨β1, ρ, S1, E.nxt T0 N1, T1, (p1.nxt N1).first fun u2 S2 v2 H2 β2 N2 T2 r2 p2 => ⟨β2, ρ, S2, (E.nxt T0 N1).nxt T1 N2, T2, p2.firstN N2 fun u3 S3 v3 H3 β3 N3 T3 r3 p3 => ⟨β3, S3, u2, u3, v2, v3, rfl, N2.trans N3, T3, r2.1.nxt T2 N3, r2.2, r3.1, r3.2.back N2, p3⟩⟩⟩
  rw [star_cons hs] at hA ⊢
  refine Calls.callWith_builtin (by rw [star_cons hs2] <;> rfl) (Calls.evalArgs_plain (thn hA fun us s2 ⟨ys, H3, I3, ry, β3, S3, u2, u3, y, z, ey, N3, T3, r2, fr2, r3, fr3, p3⟩ => ?_))
  subst ey
  exact hm pins s2 σ β1 β3 H1 H3 S3 u [u2, u3] x [y, z] v us Q _ rfl I3 N3 T3 (r1.nxt T1 N3) rx (.cons ⟨r2, fr2⟩ (.cons ⟨r3, fr3⟩ .nil)) ry p3
end
end Qc
end
section
set_option Elab.async false
set_option linter.all false
set_option maxHeartbeats 1000000
set_option pp.maxSteps 600
/-! append, count, index, get; o[i] = x. -/
namespace Qc
open PySem PySem.Spec PyProof.Rows L2
section
variable {X : Cx} {G : Gx} {W : WX}
theorem rv_non {β : List Addr} {H : Hp} : RU G β H (.v .non) .non := by show RV G β H .non .non; unfold RV; rfl
theorem rv_int {β : List Addr} {H : Hp} {i : Int} : RU G β H (.v (.int i)) (.int i) := by show RV G β H (.int i) (.int i); unfold RV; rfl
theorem mth_append : Mth "list" "append" "list.append" := ⟨F.plainAttrs_list, F.slot_list_append, F.type_list_append⟩
theorem mth_count : Mth "list" "count" "list.count" := ⟨F.plainAttrs_list, F.slot_list_count, F.type_list_count⟩
theorem mth_index : Mth "list" "index" "list.index" := ⟨F.plainAttrs_list, F.slot_list_index, F.type_list_index⟩
theorem mth_get : Mth "dict" "get" "dict.get" := ⟨F.plainAttrs_dict, F.slot_dict_get, F.type_dict_get⟩
theorem mx_append : MtX X G "list.append" 1 (fun u us => match us with | [y] => kAppend u y | _ => stk) := by
  intro pins s σ β0 β H0 H S u us x xs v vs Q Z hl I N T r rx ra rv p
  cases ra with
  | nil => cases hl
  | @cons y z ys zs q qs =>
    cases qs with
    | cons _ _ => cases hl
    | nil =>
      have p : Post G (relU G) β0 H0 (kAppend u y S) Q Z := p
      obtain ⟨d, S2, β2, N2, T2, rd, ex, p⟩ := Post.settle p N T q.1 q.2
      cases u with
      | v e =>
        cases e with
        | obj n =>
          have p : Post G (relU G) β0 H0 (bnd (look n) (fun o => match o with | .lst xs => bnd (guard (decide (xs.length < line))) fun _ => bnd (putO n (.lst (xs ++ [d]))) fun _ => pur (.v .non) | _ => stk) S2) Q Z := p
          obtain ⟨o, e, p⟩ := p.look
          cases o with
          | lst ls =>
            have r2 : RV G β2 H (.obj n) x := RV.ext ex r
            obtain ⟨a, rfl, hb, ws, hq, rr⟩ := RV.obj_at T2 r2 e
            obtain ⟨hz, p⟩ := p.guard
            have hz : ls.length < sizeLine := of_decide_eq_true hz
            obtain ⟨N3, T3⟩ := T2.lst (ys := ls ++ [d]) hb e (rr.append (RVs.one rd))
            refine mt_append pins s σ H _ _ v _ Q I rx rv ⟨a, ws, z, rfl, rfl, hq, by rw [← rr.length]; exact hz, ?_⟩
            exact p .non _ β2 (N2.trans N3) T3 ⟨rv_non, trivial⟩
          | _ => exact p.elim
        | _ => exact p.elim
      | _ => exact p.elim
theorem bools_are : ∀ {bs : List Bool} {us : List Value}, Vals (bs.map V.bl) us → us = bs.map Value.bool
  | [], _, h => by cases h; rfl
  | b :: bs, _, h => by
    cases h with
    | cons r t => cases r; rw [bools_are t]; rfl
def eqB (c : Bool) : Value → Bool
  | .bool b => b == c
  | _ => false
theorem eqB_at {A : Around} {s : Shared} {bs : List Bool} {c : Bool} (hu : A.units < cLine) : ∀ y ∈ (bs.map Value.bool), SeqAt.EqAt A s y (.bool c) (eqB c y) := fun y hy => by
  obtain ⟨b, _, rfl⟩ := List.mem_map.mp hy
  have h := eqAt_key (.num (if b = true then 1 else 0)) (.num (if c = true then 1 else 0)) A s (.bool b) (.bool c) (.bool rfl) (.bool rfl) (by simpa [NestedKey.depth] using hu)
  refine h.cast ?_
  cases b <;> cases c <;> rfl
theorem eqB_count (c : Bool) : ∀ bs : List Bool, (bs.map Value.bool).countP (eqB c) = (bs.filter fun b => b == c).length
  | [] => rfl
  | b :: bs => by
    rw [List.map_cons, List.countP_cons, eqB_count c bs, List.filter_cons]
    by_cases h : (b == c) = true
    · have h' : eqB c (.bool b) = true := h
      rw [if_pos h', if_pos h, List.length_cons]
    · have h' : ¬ eqB c (.bool b) = true := h
      rw [if_neg h', if_neg h]
      omega
theorem mx_count (eK : G.K = X.K) (hu : X.A.units + 64 < cLine) : MtX X G "list.count" 1 (fun u us => match us with | [y] => kCount u y | _ => stk) := by
  intro pins s σ β0 β H0 H S u us x xs v vs Q Z hl I N T r rx ra rv p
  cases ra with
  | nil => cases hl
  | @cons y z ys zs q qs =>
    cases qs with
    | cons _ _ => cases hl
    | nil =>
      have p : Post G (relU G) β0 H0 (kCount u y S) Q Z := p
      obtain ⟨ls, l, ws, rfl, hs, rr, p⟩ := Post.sqL p T r
      cases y with
      | v e =>
        cases e with
        | bl c =>
          obtain ⟨bs, e, p⟩ := Post.opt p
          have e2 := blsOf_rel rr e
          subst e2
          rw [eK] at hs
          cases rx
          cases RU.bl_eq q.1
          obtain ⟨w', rfl, rw'⟩ := vals1 rv
          cases rw'
          obtain ⟨its, ri, ⟨⟨cls, dd, data, sl⟩, n, ho, hc, hdn, hd⟩, _⟩ := I.list hs
          simp only at hc hd
          subst hc hd
          have ei := bools_are ri
          subst ei
          refine call_meets F.slot_list_count ⟨_, ho, rfl⟩ F.entry_list_count (F.args_list_count_2 _ _) (SeqAt.list_countAt l _ n dd sl (.bool c) (eqB c)) ⟨ho, fun y hy => eqB_at (by have : X.A.in1.units = X.A.units + 1 := rfl; omega) y (by simpa using hy), ?_⟩
          refine ⟨.int ((bs.filter fun b => b == c).length : Nat), H, I.tok _, ⟨s.toks, ?_⟩, p _ H β N T ⟨rv_int, trivial⟩⟩
          rw [List.toList_toArray, eqB_count]
        | _ => exact p.elim
      | _ => exact p.elim
theorem mx_index (eK : G.K = X.K) (hu : X.A.units + 64 < cLine) : MtX X G "list.index" 1 (fun u us => match us with | [y] => kIndex u y | _ => stk) := by
  intro pins s σ β0 β H0 H S u us x xs v vs Q Z hl I N T r rx ra rv p
  cases ra with
  | nil => cases hl
  | @cons y z ys zs q qs =>
    cases qs with
    | cons _ _ => cases hl
    | nil =>
      have p : Post G (relU G) β0 H0 (kIndex u y S) Q Z := p
      obtain ⟨ls, l, ws, rfl, hs, rr, p⟩ := Post.sqL p T r
      cases y with
      | v e =>
        cases e with
        | bl c =>
          obtain ⟨bs, e, p⟩ := Post.opt p
          have e2 := blsOf_rel rr e
          subst e2
          by_cases hc' : bs.contains c = true
          · rw [if_pos hc'] at p
            rw [eK] at hs
            cases rx
            cases RU.bl_eq q.1
            obtain ⟨w', rfl, rw'⟩ := vals1 rv
            cases rw'
            obtain ⟨its, ri, ⟨⟨cls, dd, data, sl⟩, n, ho, hc, hdn, hd⟩, hlen⟩ := I.list hs
            simp only at hc hd
            subst hc hd
            have ei := bools_are ri
            subst ei
            have hj : bs.findIdx (fun b => b == c) < bs.length := List.findIdx_lt_length_of_exists (by
              obtain h := List.contains_iff_mem.mp hc'
              exact ⟨c, h, by simp⟩)
            have hsl := sizeLine_eq
            rw [List.length_map] at hlen
            refine call_meets F.slot_list_index ⟨_, ho, rfl⟩ F.entry_list_index (F.args_list_index_2 _ _) (SeqAt.list_indexAt l _ n dd sl (.bool c) (eqB c) (bs.findIdx fun b => b == c) (by simpa using hj) (by omega) ?_ ?_) ⟨ho, fun y hy => eqB_at (by have : X.A.in1.units = X.A.units + 1 := rfl; omega) y (by simpa using hy), ?_⟩
            · have := List.findIdx_getElem (w := hj)
              simpa [eqB] using this
            · intro m hm hmj
              have := List.not_of_lt_findIdx hmj
              simpa [eqB] using this
            · exact ⟨.int ((bs.findIdx fun b => b == c) : Nat), H, I.tok _, ⟨s.toks, rfl⟩, p _ H β N T ⟨rv_int, trivial⟩⟩
          · rw [if_neg hc'] at p
            exact p.elim
        | _ => exact p.elim
      | _ => exact p.elim

theorem Post.dcL {α ν : Type} {Rl : Rel α ν} {β0 β : List Addr} {H0 H : Hp} {S : Sto} {Q : ν → Hp → Prop} {Z : Nat → Hp → Prop} {u : U} {k : List (D × D) → M α} {v : V} (h : Post G Rl β0 H0 (bnd (dcL u) k S) Q Z) (T : RS G β H S) (r : RU G β H u v) :
    ∃ kvs a, v = .ref a ∧ RO G β H (.dct kvs) a ∧ Post G Rl β0 H0 (k kvs S) Q Z := by
  cases u with
  | d kvs =>
    obtain ⟨a, e, _, ro⟩ := r
    exact ⟨kvs, a, e, ro, h⟩
  | v d =>
    cases d with
    | obj n =>
      unfold Qc.dcL at h
      rw [bnd_assoc] at h
      obtain ⟨o, e, h2⟩ := h.look
      cases o with
      | dct kvs =>
        obtain ⟨a, ex, _, ro⟩ := RV.obj_at T r e
        exact ⟨kvs, a, ex, ro, h2⟩
      | lst xs => exact h2.elim
      | ins c fs => exact h2.elim
    | _ => exact h.elim
  | _ => exact h.elim
theorem mx_get (eK : G.K = X.K) (ew : G.w = X.w) (hu : X.A.units + 64 < cLine) : MtX X G "dict.get" 2 (fun u us => match us with | [y, z] => kGet u y z | _ => stk) := by
  intro pins s σ β0 β H0 H S u us x xs v vs Q Z hl I N T r rx ra rv p
  obtain ⟨y, z, rfl⟩ : ∃ y z, us = [y, z] := by
    match us, hl with
    | [y, z], _ => exact ⟨y, z, rfl⟩
  cases ra with
  | cons qy ra =>
    cases ra with
    | cons qz ra =>
      cases ra
      rename_i y' z'
      have p : Post G (relU G) β0 H0 (kGet u y z S) Q Z := p
      cases y with
      | v yd =>
        cases z with
        | v zd =>
          have p : Post G (relU G) β0 H0 (bnd (opt (okey yd)) (fun k' => bnd (dcL u) fun kvs => pur (.v ((dLook kvs k').getD zd))) S) Q Z := p
          obtain ⟨k, ek, p⟩ := p.opt
          obtain ⟨kvs, a, rfl, ro, p⟩ := p.dcL T r
          cases rx
          obtain ⟨uy, uz, rfl, ry, rz⟩ := vals2 rv
          obtain ⟨es, o, ents, ep, _, re, hn, hz, hsys, ho, hc, hd, pe, tab⟩ := dct_at eK I ro
          rw [ew] at tab
          have fr := found_rel re pe k
          refine getOr_any (by omega) hsys (RV.is eK I ek qy.1 ry) ho hc hd tab hn ?_
          cases e : dLook kvs k with
          | none =>
            rw [e] at fr p
            rw [fr]
            exact ⟨z', H, I.tok _, rz, p z' H β N T ⟨qz.1, trivial⟩⟩
          | some xd =>
            rw [e] at fr p
            obtain ⟨y2, u2, f1, f2, f3⟩ := fr
            rw [f1]
            exact ⟨y2, H, I.tok _, f3, p y2 H β N T ⟨f2, trivial⟩⟩
        | _ => exact p.elim
      | _ => cases z <;> exact p.elim

/-! ### o[i] = x -/
def relN (G : Gx) : Rel Unit Unit := ⟨fun _ _ _ _ _ => True, fun _ _ _ _ _ _ _ _ _ _ => trivial⟩
def rSet (G : Gx) : TSet := fun o i v H Q => ∃ β S uo ui d Z, RS G β H S ∧ RU G β H uo o ∧ RU G β H ui i ∧ RV G β H d v ∧ Post G (relN G) β H (seti uo ui d S) (fun _ H' => Q H') Z
theorem set_obj (eK : G.K = X.K) (ew : G.w = X.w) (hu : X.A.units + 64 < cLine) : PSet X (rSet G) := by
  intro pins s σ H o i v ov iv uv Q I ro ri rv h
  obtain ⟨β, S, uo, ui, d, Z, T, r1, r2, r3, p⟩ := h
  cases uo with
  | v e =>
    cases e with
    | obj n =>
      have p : Post G (relN G) β H (bnd (look n) (setiO n ui d) S) (fun _ H' => Q H') Z := p
      obtain ⟨ob, eo, p⟩ := p.look
      cases ob with
      | lst xs =>
        obtain ⟨a, rfl, hb, vs, hq, rr⟩ := RV.obj_at T r1 eo
        cases ui with
        | v ie =>
          cases ie with
          | int k =>
            cases RU.int_eq r2
            have p : Post G (relN G) β H ((match L2.ixN xs.length k with | some j => putO n (.lst (xs.set j d)) | none => stk) S) (fun _ H' => Q H') Z := p
            cases ej : L2.ixN xs.length k with
            | none => rw [ej] at p; exact p.elim
            | some j =>
              rw [ej] at p
              obtain ⟨N3, T3⟩ := T.lst (ys := xs.set j d) hb eo (RVs.set j rr r3)
              exact set_list pins s σ H _ _ v _ _ _ Q I ro ri rv ⟨a, vs, k, j, rfl, rfl, hq, by rw [← rr.length]; exact ej, p () _ β N3 T3 trivial⟩
          | _ => exact p.elim
        | _ => exact p.elim
      | dct kvs =>
        obtain ⟨a, rfl, hb, rod⟩ := RV.obj_at T r1 eo
        cases ui with
        | v ie =>
          have p : Post G (relN G) β H (bnd (opt (okey ie)) (fun k' => bnd (guard (decide (kvs.length < line))) fun _ => putO n (.dct (dPut kvs ie k' d))) S) (fun _ H' => Q H') Z := p
          obtain ⟨k, ek, p⟩ := p.opt
          obtain ⟨hl, p⟩ := p.guard
          have hl : kvs.length < sizeLine := of_decide_eq_true hl
          cases ro
          obtain ⟨es, o, ents, ep, hH, re, hn, hz, hsys, ho, hc, hd, pe, tab⟩ := dct_at eK I rod
          rw [ew] at tab
          have hsz : ents.size ≤ sizeLine := by
            have z1 := Paired.len pe
            have z2 : ents.toList.length = ents.size := Array.length_toList
            omega
          refine setItem_any (by omega) (RV.is eK I ek r2 ri) ho hc hd tab hn hsz fun h' o' ep' g1 g2 g3 g4 => ?_
          obtain ⟨es', p1, p2, p3, p4⟩ := put_rel re hn ek r2 r3 ri rv pe
          rw [← ew] at g3
          have N3 : Nxt β H β (L2.upd H a (DO G.w a es')) := Nxt.upd hb (T.there hb)
          have hlen := re.length
          have T3 : RS G β (L2.upd H a (DO G.w a es')) (S.set n (.dct (dPut kvs ie k d))) := T.upd hb eo N3 ⟨es', upd_same, REs.nxt T N3 _ _ p1, p2, by omega⟩
          refine ⟨L2.upd H a (DO G.w a es'), I.write (x := a) (e := a) (by rw [hH]; trivial) (.inl rfl) (fun b q hb' z => (g4.2 b hb').trans z) ⟨o', g1⟩ (do_ok (w' := G.w) hsys g1 g2 g3 p4), p () _ β N3 T3 trivial⟩
        | _ => exact p.elim
      | ins c fs => exact p.elim
    | _ => exact p.elim
  | _ => exact p.elim
theorem ps_setiX (eK : G.K = X.K) (ew : G.w = X.w) (hu : X.A.units + 64 < cLine) {o i e : Expr} {tpos pos : Pos} {f g h : Env → M U} (he : PE X e (tE G W h)) (ho : PE X o (tE G W f)) (hi : PE X i (tE G W g)) (ha : notSlice i = true) (hs : swapsWithSole [.Subscript o i tpos] e pos.line X.env = pure false) (hw : swappedStores [.Subscript o i tpos] e X.env = pure none)
    (h1 : (assignEach [.Subscript o i tpos] X.env).map (·.2) = [assign (.Subscript o i tpos) X.env]) (hsl : ∀ v, assign (.Subscript o i tpos) X.env v = (do
      let ov ← holding [v] (eval o X.env)
      let iv ← holding [v, ov] (eval i X.env)
      standAt tpos
      holding [v, ov, iv] (setItem ov iv v)
      release [v, ov, iv] [])) :
    PS X (.Assign [.Subscript o i tpos] e pos) (tS G W fun ρ => lift (h ρ) ρ fun u => lift (settle u) ρ fun d => lift (f ρ) ρ fun x => lift (g ρ) ρ fun y => lift (seti x y d) ρ fun _ => goX (.nx ρ)) :=
  PS.of (ps_asg he (pg_sub ho hi (set_obj (G := G) eK ew hu) hsl) hs hw h1) fun En σ H q => by
    obtain ⟨β, ρ, S, E, T, p⟩ := q
    refine ⟨β, ρ, S, E, T, PostS.first E T p fun u S1 v H1 β1 N1 T1 r1 p1 => ?_⟩
    obtain ⟨d, S2, β2, N2, T2, r2, ex, p2⟩ := p1.settle N1 T1 r1.1 r1.2
    have E2 := (E.nxt T N1).ext ex
    refine ⟨β2, ρ, S2, E2, T2, PostS.first E2 T2 (p2.nxt N2) fun x S3 xo H3 β3 N3 T3 r3 p3 => ?_⟩
    have E3 := E2.nxt T2 N3
    refine ⟨β3, ρ, S3, E3, T3, PostS.first E3 T3 (p3.nxt N3) fun y S4 yo H4 β4 N4 T4 r4 p4 => ?_⟩
    have E4 := E3.nxt T3 N4
    refine ⟨β4, S4, x, y, d, zW G W σ, T4, r3.1.nxt T3 N4, r4.1, RV.nxt T3 N4 _ _ (RV.nxt T2 N3 _ _ r2), PostS.first (Rl := relN G) E4 T4 (p4.nxt N4) fun _ S5 _ H5 β5 N5 T5 _ p5 => ?_⟩
    exact p5 σ H5 β5 N5 T5 (E4.nxt T4 N5)
end
end Qc
end
section
set_option Elab.async false
set_option linter.all false
set_option maxHeartbeats 1000000
set_option pp.maxSteps 600
/-! o[i]: of a dict too. -/
namespace Qc
open PySem PySem.Spec PyProof.Rows L2
section
variable {X : Cx} {G : Gx} {W : WX}
theorem getItem_any {P : Program} {w : World} {A : Around} {E : Value → Shared → Prop} {s : Shared} {d : Addr} {o : Obj} {es : Array DictEntry} {ep : Nat} {ks : List NestedKey} {k : NestedKey} {v x : Value} {Q : Value → Shared → Prop} (hu : A.units + 9 < cLine) (hk : KIs s.heap k v) (ho : s.heap.get? d = some o) (hc : o.ExactDict) (hd : o.data = .dict es ep) (ht : Tab w s.heap ks es) (hn : ks.Nodup)
    (hf : foundIn ks es k = some x) (hQ : Q x { s with toks := s.toks + k.draws }) : wpAny (model P w) A (getItem (.ref d) v) Q E s := by
  unfold getItem
  try with_reducible refine wpAny_holding ?_
  refine wpAny_bind (wpAny_sequenceKey (dct_typeIs ho hc) (by decide) ?_)
  refine wpAny_bind (wpAny_callSpecial?_slot (name := Str.ofString "__getitem__") (dct_typeIs ho hc) F.slot_dict_getitem
    (wpAny_call_entry F.slot_dict_getitem (dct_typeIs ho hc) F.entry_dict_getitem ?_ (F.args_dict_getitem_2 _ _)))
  show wpAny _ _ (dictGet d v >>= _) _ _ s
  refine wpAny_bind (get_any (in1_room hu) hk ho hd ht hn ?_)
  rw [hf]
  exact wpAny_pure ⟨x, rfl, wpAny_pure hQ⟩
theorem ixA_ok (eK : G.K = X.K) (ew : G.w = X.w) (hu : X.A.units + 64 < cLine) : IxR X (rU2 G ixA) := by
  intro value slice pins s σ H x y v u Q I rx ry h hpl
  obtain ⟨β, S, a, b, Z, T, ra, rb, p⟩ := h
  have other : Post G (relU G) β H (ixI a b S) Q Z → wpAny (model X.prog X.w) X.A (subscriptTail value slice v u) (EP X pins σ Q) X.xe s := fun p =>
    ix_ok eK value slice pins s σ H x y v u Q I rx ry ⟨β, S, a, b, Z, T, ra, rb, p⟩ hpl
  have dcts : ∀ (kvs : List (D × D)) (l : Addr), x = .ref l → RO G β H (.dct kvs) l → Post G (relU G) β H (ixK kvs b S) Q Z → wpAny (model X.prog X.w) X.A (subscriptTail value slice v u) (EP X pins σ Q) X.xe s := fun kvs l ex ro p => by
    subst ex
    cases rx
    cases b with
    | v kd =>
      have p : Post G (relU G) β H (bnd (opt (okey kd)) (fun k' => bnd (opt (dLook kvs k')) fun d => pur (.v d)) S) Q Z := p
      obtain ⟨k, ek, p⟩ := p.opt
      obtain ⟨xd, el, p⟩ := p.opt
      obtain ⟨es, o, ents, ep, _, re, hn, hz, hsys, ho, hc, hd, pe, tab⟩ := dct_at eK I ro
      rw [ew] at tab
      have fr := found_rel re pe k
      rw [el] at fr
      obtain ⟨y2, u2, f1, f2, f3⟩ := fr
      exact tail_any (dct_typeIs ho hc) F.slot_dict_getitem.lookup (getItem_any (by omega) (RV.is eK I ek rb ry) ho hc hd tab hn f1 ⟨y2, H, I.tok _, f3, p y2 H β (Nxt.refl) T ⟨f2, trivial⟩⟩) hpl
    | _ => exact p.elim
  cases a with
  | d kvs =>
    obtain ⟨l, e, _, ro⟩ := ra
    exact dcts kvs l e ro p
  | v e =>
    cases e with
    | obj n =>
      obtain ⟨o, eo, p⟩ := Post.look p
      cases o with
      | dct kvs =>
        obtain ⟨l, ex, _, ro⟩ := RV.obj_at T ra eo
        exact dcts kvs l ex ro p
      | _ => exact other p
    | _ => exact other p
  | _ => exact other p
theorem pe_ixA (eK : G.K = X.K) (ew : G.w = X.w) (hu : X.A.units + 64 < cLine) {f g : Env → M U} {a b : Expr} {pos : Pos} (ha : PE X a (tE G W f)) (hb : PE X b (tE G W g)) (hs : notSlice b = true) :
    PE X (.Subscript a b pos) (tE G W fun ρ => bnd (f ρ) fun x => bnd (g ρ) fun y => ixA x y) :=
  PE.of (pe_ix (ixA_ok eK ew hu) ha hb (plainIx_of hs)) fun _ _ _ q => two (fun _ _ _ _ q => q) q
end
end Qc
end
section
set_option Elab.async false
set_option linter.all false
set_option maxHeartbeats 1000000
set_option pp.maxSteps 600
/-! isinstance. -/
namespace Qc
open PySem PySem.Spec PyProof.Rows L2
/-- what the module must say, so that isinstance(x, the class) answers as the core language has it -/
structure IsiF (K : PySem.W.Frag) (G : Gx) (pg : Pg) (t : Ty) (tv : Value) : Prop where
  non : PySem.W.kitOne K (.type "NoneType") tv = some false
  bl : PySem.W.kitOne K (.type "bool") tv = some (decide (t = .bool) || decide (t = .int))
  int : PySem.W.kitOne K (.type "int") tv = some (decide (t = .int))
  str : PySem.W.kitOne K (.type "str") tv = some (decide (t = .str))
  tup : PySem.W.kitOne K (.type "tuple") tv = some (decide (t = .tuple))
  lst : PySem.W.kitOne K (.type "list") tv = some (decide (t = .list))
  dct : PySem.W.kitOne K (.type "dict") tv = some (decide (t = .dict))
  exn : ∀ (c : Nat) (b : Bool), c < pg.sup.length → tyE pg t c = some b → PySem.W.kitOne K (.ref (G.xa c)) tv = some b
def rIsX (G : Gx) (pg : Pg) (t : Ty) (c : V) : List V → Hp → VK → Prop := fun xs H Q => ∃ x, xs = [x, c] ∧ ∃ β S u Z, RS G β H S ∧ RU G β H u x ∧ Post G (relU G) β H (bnd (isTy pg t u) (fun r => pur (.v (.bl r))) S) Q Z
section
variable {X : Cx} {G : Gx} {W : WX} {pg : Pg}
theorem tyE_lt {t : Ty} {c : Nat} {b : Bool} (h : tyE pg t c = some b) : c < pg.sup.length := by
  unfold tyE at h
  by_cases hc : c < pg.sup.length
  · exact hc
  · rw [if_neg hc] at h; cases h
theorem call_isX (eK : G.K = X.K) {t : Ty} {c : V} {tv : Value} (hcv : ClsV c tv) (F : IsiF X.K G pg t tv) (hx : ∀ c, c < pg.sup.length → ExcC X.K (G.xa c)) : CallR X (.builtin "isinstance") (rIsX G pg t c) := by
  intro pins s σ H xs us Q I r h
  obtain ⟨x, rfl, β, S, u, Z, T, ru, p⟩ := h
  have std : ∀ (ty : Value) (b : Bool), TyX X.K H x ty → PySem.W.kitOne X.K ty tv = some b → Post G (relU G) β H (bnd (pur b) (fun r => pur (.v (.bl r))) S) Q Z → wpAny (model X.prog X.w) X.A (call (.builtin "isinstance") us) (EP X pins σ Q) X.xe s := fun ty b h1 h2 p =>
    call_isi pins s σ H _ us Q I r ⟨x, c, ty, tv, b, rfl, hcv, h1, h2, Post.bl p T⟩
  have dcts : ∀ (kvs : List (D × D)) (a : Addr), x = .ref a → RO G β H (.dct kvs) a → Post G (relU G) β H (bnd (pur (decide (t = .dict))) (fun r => pur (.v (.bl r))) S) Q Z → wpAny (model X.prog X.w) X.A (call (.builtin "isinstance") us) (EP X pins σ Q) X.xe s := fun kvs a e ro p => by
    subst e
    obtain ⟨u1, u2, rfl, r1, r2⟩ := vals2 r
    cases r1
    have e2 := hcv.eq r2
    subst e2
    obtain ⟨es, o, ents, ep, _, _, _, _, _, ho, hc, _⟩ := dct_at eK I ro
    exact PySem.W.kia_one PySem.W.kitx_dict I.kIn ⟨o, ho, hc.1⟩ F.dct (fun z => nomatch z) fun tk => ⟨.bl _, H, I.tok tk, rfl, Post.bl p T⟩
  cases u with
  | l xs =>
    obtain ⟨a, vs, e, q, _⟩ := ru.lst_at
    subst e
    exact std _ _ (.base (.lst q)) F.lst p
  | s xs => exact p.elim
  | d kvs =>
    obtain ⟨a, e, _, ro⟩ := ru
    exact dcts kvs a e ro p
  | v d =>
    cases d with
    | non => cases RU.non_eq ru; exact std _ _ (.base .non) F.non p
    | bl b => cases RU.bl_eq ru; exact std _ _ (.base (.bl b)) F.bl p
    | int i => cases RU.int_eq ru; exact std _ _ (.base (.int i)) F.int p
    | str y => cases RU.str_eq ru; exact std _ _ (.base (.str y)) F.str p
    | tup xs =>
      obtain ⟨a, vs, e, q, _⟩ := RV.tup_at ru
      subst e
      rw [eK] at q
      rcases q with ⟨o, q, _⟩ | ⟨o, its, n, q, hc, _⟩
      · exact std _ _ (.fTuple q) F.tup p
      · exact std _ _ (.kTuple q hc) F.tup p
    | fl xs =>
      obtain ⟨a, vs, e, q, _⟩ := RV.fl_at ru
      subst e
      rw [eK] at q
      rcases q with ⟨o, q⟩ | ⟨o, its, n, q, hc, _⟩
      · exact std _ _ (.base (.frz q)) F.lst p
      · exact std _ _ (.kList q hc) F.lst p
    | obj n =>
      have p : Post G (relU G) β H (bnd (bnd (look n) (tyO t)) (fun r => pur (.v (.bl r))) S) Q Z := p
      rw [bnd_assoc] at p
      obtain ⟨o, e, p⟩ := p.look
      cases o with
      | lst xs =>
        obtain ⟨a, e1, _, vs, q, _⟩ := RV.obj_at T ru e
        subst e1
        exact std _ _ (.base (.lst q)) F.lst p
      | dct kvs =>
        obtain ⟨a, e1, _, ro⟩ := RV.obj_at T ru e
        exact dcts kvs a e1 ro p
      | ins c fs => exact p.elim
    | exn k =>
      have p : Post G (relU G) β H (bnd (opt (tyE pg t k)) (fun r => pur (.v (.bl r))) S) Q Z := p
      obtain ⟨b, e, p⟩ := p.opt
      have ru : RV G β H (.exn k) x := ru
      unfold RV at ru
      obtain ⟨a, oe, rfl, q, ⟨hz1, hz2⟩, vs, hv⟩ := ru
      obtain ⟨u1, u2, rfl, r1, r2⟩ := vals2 r
      cases r1
      have e2 := hcv.eq r2
      subst e2
      obtain ⟨hget, _⟩ := I.hok a _ q
      have C := hx k (tyE_lt e)
      have J : PySem.W.InstAt s.heap a oe (G.xa k) none := by
        obtain ⟨oc, od, oda, osl⟩ := oe
        dsimp only at hz1 hz2 hv
        subst hz1 hz2 hv
        exact ⟨hget, rfl, rfl, trivial⟩
      exact PySem.W.kia_one (PySem.W.handS_kitx_exc C.hg C.hk C.hs C.hd C.ha C.hn C.ht C.hm) I.kIn J (F.exn k b (tyE_lt e) e) (fun z => nomatch z) fun tk => ⟨.bl b, H, I.kept (t' := tk) fun _ _ z => z, rfl, Post.bl p T⟩
    | con k => exact p.elim
theorem pe_isiX (eK : G.K = X.K) {t : Ty} {c : V} {tv : Value} (hcv : ClsV c tv) (F : IsiF X.K G pg t tv) (hx : ∀ c, c < pg.sup.length → ExcC X.K (G.xa c)) {p pos : Pos} {a ce : Expr} {f : Env → M U} (hg : Gl X "isinstance") (hm : X.mg "isinstance" = none)
    (ha : PE X a (tE G W f)) (hs : notStar a = true) (hce : PE X ce (tC c)) (hs2 : notStar ce = true) : PE X (.Call (.Name "isinstance" p) [a, ce] [] pos) (tE G W fun ρ => bnd (f ρ) fun x => bnd (isTy pg t x) fun r => pur (.v (.bl r))) :=
  PE.of (pe_callB (call_isX eK hcv F hx) hg hm (by kernel_rfl) (pa_cons ha (pa_cons hce pa_nil (star_cons hs2 _ _)) (star_cons hs _ _)) (by decide) (by decide) (star_cons hs _ _) (by rw [star_cons hs2] <;> rfl)) fun σ H Q h => by
    obtain ⟨β, ρ, S, E, T, p⟩ := h
    exact ⟨β, ρ, S, E, T, p.first fun u S1 v H1 β1 N1 T1 r1 p1 => ⟨v, rfl, β1, S1, u, _, T1, r1.1, p1.nxt N1⟩⟩
end
end Qc
end
section
set_option Elab.async false
set_option linter.all false
set_option maxHeartbeats 1000000
set_option pp.maxSteps 600
/-! List comprehensions. -/
namespace Qc
open PySem PySem.Spec PyProof.Rows L2
/-- the target's stores, told exactly -/
def gTg (K : PySem.W.Frag) (is : List Nat) (one : Bool) : TG := match one, is with
  | true, [i] => gName i
  | _, is => gTup K is.length (gsNames is)
/-- a turn of a comprehension -/
def stepF (fc : Env → M Bool) (fe : Env → M U) (is : List Nat) (one : Bool) (ρ : Env) (x : D) : M (Option D) := noexc (bnd (target ρ is one x) fun ρ' => bnd (fc ρ') fun b => if b = true then bnd (fe ρ') fun u => bnd (settle u) fun d => pur (some d) else pur none)
section
variable {G : Gx} {β β' : List Addr} {H H' : Hp} {S : Sto}
mutual
theorem RV.chg (hf : ∀ a ob u, H a = some (.frz ob u) → H' a = some (.frz ob u)) : ∀ (d : D) (v : V), RV G β H d v → RV G β H' d v
  | .non, _, h => h
  | .bl _, _, h => h
  | .int _, _, h => h
  | .str _, _, h => h
  | .tup xs, v, h => by
    unfold RV at h ⊢
    obtain ⟨a, vs, e, q, r⟩ := h
    exact ⟨a, vs, e, q.imp (fun ⟨o, q1, q2⟩ => ⟨o, hf _ _ _ q1, q2⟩) id, RVs.chg hf xs vs r⟩
  | .fl xs, v, h => by
    unfold RV at h ⊢
    obtain ⟨a, vs, e, q, r⟩ := h
    exact ⟨a, vs, e, q.imp (fun ⟨o, q1⟩ => ⟨o, hf _ _ _ q1⟩) id, RVs.chg hf xs vs r⟩
  | .obj n, v, h => by
    unfold RV at h ⊢
    exact h
  | .exn c, v, h => by
    unfold RV at h ⊢
    obtain ⟨a, oe, e, q, z⟩ := h
    exact ⟨a, oe, e, hf _ _ _ q, z⟩
  | .con _, _, h => h
theorem RVs.chg (hf : ∀ a ob u, H a = some (.frz ob u) → H' a = some (.frz ob u)) : ∀ (ds : List D) (vs : List V), RVs G β H ds vs → RVs G β H' ds vs
  | [], _, h => h
  | d :: ds, vs, h => by
    unfold RVs at h ⊢
    obtain ⟨v, r, e, h1, h2⟩ := h
    exact ⟨v, r, e, RV.chg hf d v h1, RVs.chg hf ds r h2⟩
end
theorem REs.chg (hf : ∀ a ob u, H a = some (.frz ob u) → H' a = some (.frz ob u)) : ∀ (kvs : List (D × D)) (es : List (NestedKey × V × V)), REs G β H kvs es → REs G β H' kvs es
  | [], _, h => h
  | (d, x) :: r, es, h => by
    unfold REs at h ⊢
    obtain ⟨k, v, y, t, e, hk, h1, h2, h3⟩ := h
    exact ⟨k, v, y, t, e, hk, RV.chg hf d v h1, RV.chg hf x y h2, REs.chg hf r t h3⟩
theorem RFs.chg (hf : ∀ a ob u, H a = some (.frz ob u) → H' a = some (.frz ob u)) : ∀ (fs : List (Nat × D)) (fv : List (Str × V)), RFs G β H fs fv → RFs G β H' fs fv
  | [], _, h => h
  | (n, d) :: r, fv, h => by
    unfold RFs at h ⊢
    obtain ⟨v, t, e, h1, h2⟩ := h
    exact ⟨v, t, e, RV.chg hf d v h1, RFs.chg hf r t h2⟩
theorem RS.chg (T : RS G β H S) (hf : ∀ a ob u, H a = some (.frz ob u) → H' a = some (.frz ob u)) (hb : ∀ a ∈ β, H' a = H a) : RS G β H' S :=
  ⟨T.len, T.nd, fun n o a e1 e2 => by
    have r := T.at_ n o a e1 e2
    have e := hb a (List.mem_of_getElem? e2)
    cases o with
    | lst xs => obtain ⟨vs, h1, h2⟩ := r; exact ⟨vs, e.trans h1, RVs.chg hf _ _ h2⟩
    | dct kvs => obtain ⟨es, h1, h2, h3, h4⟩ := r; exact ⟨es, e.trans h1, REs.chg hf _ _ h2, h3, h4⟩
    | ins c fs => obtain ⟨dx, fv, h1, h2⟩ := r; exact ⟨dx, fv, e.trans h1, RFs.chg hf _ _ h2⟩⟩
end
theorem wipe_set {σ : L2.St} {i : Nat} {v : Option V} : ∀ {vs : List Nat}, i ∈ vs → wipe (σ.set i v) vs = wipe σ vs
  | [], h => by cases h
  | j :: vs, h => by
    unfold wipe
    by_cases hj : i ∈ vs
    · rw [wipe_set hj]
    · have e : i = j := by
        rcases List.mem_cons.mp h with e | h
        · exact e
        · exact absurd h hj
      subst e
      have key : ∀ (vs : List Nat), i ∉ vs → wipe (σ.set i v) vs = (wipe σ vs).set i v := by
        intro vs
        induction vs with
        | nil => intro _; rfl
        | cons k vs ih =>
          intro hn
          have h1 : k ≠ i := fun e => hn (by rw [e]; exact List.mem_cons_self)
          have h2 : i ∉ vs := fun m => hn (List.mem_cons_of_mem _ m)
          unfold wipe
          rw [ih h2, List.set_comm _ _ (Ne.symm h1)]
      rw [key vs hj, List.set_set]
theorem wipe_idem {σ : L2.St} : ∀ {vs : List Nat}, wipe (wipe σ vs) vs = wipe σ vs
  | [] => rfl
  | j :: vs => by
    show (wipe ((wipe σ vs).set j none) vs).set j none = (wipe σ vs).set j none
    by_cases h : j ∈ vs
    · rw [wipe_set h, wipe_idem]
    · have key : ∀ (τ : L2.St) (vs : List Nat), j ∉ vs → wipe (τ.set j none) vs = (wipe τ vs).set j none := by
        intro τ vs
        induction vs with
        | nil => intro _; rfl
        | cons k vs ih =>
          intro hn
          have h1 : k ≠ j := fun e => hn (by rw [e]; exact List.mem_cons_self)
          have h2 : j ∉ vs := fun m => hn (List.mem_cons_of_mem _ m)
          unfold wipe
          rw [ih h2, List.set_comm _ _ (Ne.symm h1)]
      rw [key _ vs h, wipe_idem, List.set_set]
/-- related but for some slots -/
def REnvB (G : Gx) (β : List Addr) (H : Hp) (vs : List Nat) (σ : L2.St) (ρ : Env) : Prop := σ.length = ρ.length ∧ ∀ (i : Nat) (d : D), i ∉ vs → ρ[i]? = some (some d) → ∃ v, σ[i]? = some (some v) ∧ RV G β H d v
section
variable {G : Gx} {β : List Addr} {H : Hp} {σ : L2.St} {ρ : Env}
theorem REnv.wiped (E : REnv G β H σ ρ) (vs : List Nat) : REnvB G β H vs (wipe σ vs) ρ := ⟨(wipe_length σ vs).trans E.1, fun i d hi e => by rw [wipe_out hi]; exact E.2 i d e⟩
theorem REnvB.set {vs : List Nat} (E : REnvB G β H vs σ ρ) (i : Nat) {d : D} {v : V} (r : RV G β H d v) : REnvB G β H (vs.filter (· != i)) (σ.set i (some v)) (setV ρ i d) := by
  refine ⟨by unfold setV; rw [List.length_set, List.length_set]; exact E.1, fun j e hj h => ?_⟩
  unfold setV at h
  by_cases hi : i = j
  · subst hi
    have hl : i < ρ.length := by
      have := (List.getElem?_eq_some_iff.mp h).1
      rwa [List.length_set] at this
    rw [List.getElem?_set_self hl] at h
    cases h
    exact ⟨v, by rw [List.getElem?_set_self (by rw [E.1]; exact hl)], r⟩
  · rw [List.getElem?_set_ne hi] at h
    rw [List.getElem?_set_ne hi]
    refine E.2 j e (fun hm => hj ?_) h
    rw [List.mem_filter]
    exact ⟨hm, by simpa using fun e => hi e.symm⟩
theorem REnvB.full (E : REnvB G β H [] σ ρ) : REnv G β H σ ρ := ⟨E.1, fun i d e => E.2 i d (by simp) e⟩
theorem REnvB.mono {vs ws : List Nat} (E : REnvB G β H vs σ ρ) (h : ∀ i ∈ vs, i ∈ ws) : REnvB G β H ws σ ρ := ⟨E.1, fun i d hi e => E.2 i d (fun m => hi (h i m)) e⟩
/-- the names of a target one behind the other, exactly -/
theorem gsNames_B {own : List Nat} {Q : L2.St → Hp → Prop} : ∀ {is : List Nat} {ds : List D} {vs : List V} {us : List Nat} {σ : L2.St} {ρ ρ' : Env}, REnvB G β H us σ ρ → RVs G β H ds vs → setVs ρ is ds = some ρ' → (∀ i ∈ us, i ∈ is) → (∀ i ∈ is, i ∈ own) → (∀ σ', REnv G β H σ' ρ' → wipe σ' own = wipe σ own → Q σ' H) → gsNames is vs σ H Q
  | [], [], vs, us, σ, ρ, ρ', E, r, e, h1, h2, q => by
    unfold RVs at r
    cases e
    exact ⟨r, q σ (E.mono (ws := []) fun i hi => h1 i hi).full rfl⟩
  | i :: is, d :: ds, vs, us, σ, ρ, ρ', E, r, e, h1, h2, q => by
    unfold RVs at r
    obtain ⟨v, t, rfl, r1, r2⟩ := r
    refine ⟨v, t, rfl, gsNames_B (own := own) (is := is) (E.set i r1) r2 e (fun j hj => ?_) (fun j hj => h2 j (List.mem_cons_of_mem _ hj)) fun σ' E' w => q σ' E' (w.trans (wipe_set (h2 i List.mem_cons_self)))⟩
    rw [List.mem_filter] at hj
    rcases List.mem_cons.mp (h1 j hj.1) with z | z
    · rw [z] at hj
      simp at hj
    · exact z
  | [], _ :: _, _, _, _, _, _, _, _, e, _, _, _ => by cases e
  | _ :: _, [], _, _, _, _, _, _, _, e, _, _, _ => by cases e
end
end Qc
end
section
set_option Elab.async false
set_option linter.all false
set_option maxHeartbeats 1000000
set_option pp.maxSteps 600
/-! List comprehensions: the rule. -/
namespace Qc
open PySem PySem.Spec PyProof.Rows L2
abbrev WF : WX := fun _ _ _ _ => False
theorem noexc_bnd {α γ : Type} (m : M α) (k : α → M γ) : noexc (bnd m k) = bnd (noexc m) fun a => noexc (k a) := by
  funext S
  simp only [noexc, bnd]
  cases m S <;> rfl
section
variable {G : Gx} {β0 β : List Addr} {H0 H : Hp} {S : Sto} {α ν γ μ : Type} {Rl : Rel α ν} {Rl2 : Rel γ μ} {Q : μ → Hp → Prop} {Z : Nat → Hp → Prop}
theorem Post.noexcFirst {m : M α} {k : α → M γ} {Q1 : ν → Hp → Prop} {σ : L2.St} (N : Nxt β0 H0 β H) (h : Post G Rl2 β0 H0 (bnd (noexc m) k S) Q Z)
    (f : ∀ a S1 v H1 β1, Nxt β H β1 H1 → RS G β1 H1 S1 → Rl.r H β1 H1 a v → Post G Rl2 β0 H0 (k a S1) Q Z → Q1 v H1) : Post G Rl β H (m S) Q1 (zW G WF σ) := by
  unfold bnd noexc at h
  cases e : m S with
  | ok a S1 =>
    rw [e] at h
    exact fun v H1 β1 n t r => f a S1 v H1 β1 n t r h
  | exc c S1 => rw [e] at h; exact h.elim
  | stuck => rw [e] at h; exact h.elim
theorem target_g {K : PySem.W.Frag} (eK : G.K = K) {is own : List Nat} {one : Bool} {σ : L2.St} {ρ : Env} {x : D} {xv : V} {k : Env → M γ} {Qt : L2.St → Hp → Prop} (E : REnv G β H σ ρ) (r : RV G β H x xv) (h1 : ∀ i ∈ own, i ∈ is) (h2 : ∀ i ∈ is, i ∈ own)
    (p : Post G Rl2 β0 H0 (bnd (noexc (target ρ is one x)) k S) Q Z) (q : ∀ ρ' σ', REnv G β H σ' ρ' → wipe σ' own = wipe σ own → Post G Rl2 β0 H0 (k ρ' S) Q Z → Qt σ' H) : gTg K is one xv (wipe σ own) H Qt := by
  have tups : ∀ (js : List Nat), is = js → Post G Rl2 β0 H0 (bnd (noexc (match x with | .tup xs => opt (setVs ρ js xs) | _ => stk)) k S) Q Z → gTup K js.length (gsNames js) xv (wipe σ own) H Qt := fun js ej p => by
    subst ej
    cases x with
    | tup xs =>
      obtain ⟨a, vs, rfl, hs, rr⟩ := RV.tup_at r
      rw [eK] at hs
      cases e : setVs ρ is xs with
      | none =>
        simp only [e] at p
        exact p.elim
      | some ρ' =>
        simp only [e] at p
        exact ⟨a, vs, rfl, hs.sq, by rw [← rr.length]; exact setVs_len e, gsNames_B (own := own) (E.wiped own) rr e h1 h2 fun σ' E' w => q ρ' σ' E' (w.trans wipe_idem) p⟩
    | _ => exact p.elim
  cases one with
  | true =>
    match is, h1, h2, p, tups with
    | [i], h1, h2, p, _ =>
      have p : Post G Rl2 β0 H0 (k (setV ρ i x) S) Q Z := p
      refine q _ _ ?_ ((wipe_set (h2 i (List.mem_singleton.mpr rfl))).trans wipe_idem) p
      refine (REnvB.mono ((E.wiped own).set i r) (ws := []) fun j hj => ?_).full
      rw [List.mem_filter] at hj
      have := h1 j hj.1
      rw [List.mem_singleton] at this
      subst this
      simp at hj
    | [], _, _, p, _ => exact p.elim
    | _ :: _ :: _, _, _, p, _ => exact p.elim
  | false =>
    have p2 := tups is rfl p
    match is, p2 with
    | [], p2 => exact p2
    | [_], p2 => exact p2
    | _ :: _ :: _, p2 => exact p2
end
section
variable {X : Cx} {G : Gx} {W : WX}
/-- one turn -/
theorem lc_step (eK : G.K = X.K) {is own : List Nat} {one : Bool} {fc : Env → M Bool} {fe : Env → M U} {β β1 β' : List Addr} {H H1 H' : Hp} {S' : Sto} {σ : L2.St} {ρ : Env} {x : D} {xv : V} {D0 : Addr} {acc : List D} {vs : List V} {Lp : List D → M (List D)} {Q : VK} {Z : Nat → Hp → Prop} {Nx : Hp → Prop}
    (E : REnv G β' H' σ ρ) (N : Nxt β H β1 H1) (fD : H1 D0 = none) (N' : Nxt β1 H1 β' H') (T' : RS G β' H' S') (hD : H' D0 = some (.lst vs)) (hn : D0 ∉ β') (racc : RVs G β' H' acc vs) (r : RV G β' H' x xv) (h1 : ∀ i ∈ own, i ∈ is) (h2 : ∀ i ∈ is, i ∈ own)
    (p : Post G (relU G) β H (bnd (bnd (stepF fc fe is one ρ x) fun o => match o with | some y => bnd (guard (decide (acc.length < line))) fun _ => Lp (acc ++ [y]) | none => Lp acc) (fun ys => pur (.l ys)) S') Q Z)
    (hN : ∀ β4 S4 acc4 vs4 H4, Nxt β1 H1 β4 H4 → RS G β4 H4 S4 → H4 D0 = some (.lst vs4) → D0 ∉ β4 → RVs G β4 H4 acc4 vs4 → Post G (relU G) β H (bnd (Lp acc4) (fun ys => pur (.l ys)) S4) Q Z → Nx H4) :
    gTg X.K is one xv (wipe σ own) H' fun σ2 H2 => wipe σ2 own = wipe σ own ∧ tT G WF fc σ2 H2 fun b H3 => if b = true then tE G WF fe σ2 H3 fun y H4 => ∃ acc, H4 D0 = some (.lst acc) ∧ acc.length < sizeLine ∧ Nx (L2.upd H4 D0 (.lst (acc ++ [y]))) else Nx H3 := by
  unfold stepF at p
  rw [noexc_bnd, bnd_assoc, bnd_assoc] at p
  refine target_g eK E r h1 h2 p fun ρ' σ2 E2 w p2 => ⟨w, β', ρ', S', E2, T', ?_⟩
  rw [noexc_bnd, bnd_assoc] at p2
  refine Post.noexcFirst (N.trans N') p2 fun b S3 bv H3 β3 N3 T3 rb p3 => ?_
  cases (show b = bv from rb)
  have hD3 : H3 D0 = some (.lst vs) := N3.keep D0 _ hD hn
  have hn3 : D0 ∉ β3 := N3.nin hD hn
  have ra3 := RVs.nxt T' N3 _ _ racc
  cases b with
  | false => exact hN β3 S3 acc vs H3 (N'.trans N3) T3 hD3 hn3 ra3 p3
  | true =>
    refine ⟨β3, ρ', S3, E2.nxt T' N3, T3, ?_⟩
    rw [if_pos rfl, noexc_bnd, bnd_assoc] at p3
    refine Post.noexcFirst ((N.trans N').trans N3) p3 fun u S4 y H4 β4 N4 T4 ru p4 => ?_
    have hD4 : H4 D0 = some (.lst vs) := N4.keep D0 _ hD3 hn3
    have hn4 : D0 ∉ β4 := N4.nin hD3 hn3
    have ra4 := RVs.nxt T3 N4 _ _ ra3
    have hs : ∀ xs, u ≠ .s xs := fun xs e => by subst e; exact p4.elim
    obtain ⟨d, S5, β5, e5, N5, T5, rd, ex⟩ := settle_ok hs N4 T4 ru.1 ru.2
    rw [noexc_bnd, bnd_assoc] at p4
    have p5 : Post G (relU G) β H (bnd (bnd (guard (decide (acc.length < line))) fun _ => Lp (acc ++ [d])) (fun ys => pur (.l ys)) S5) Q Z := by
      unfold bnd noexc at p4
      rw [e5] at p4
      exact p4
    rw [bnd_assoc] at p5
    obtain ⟨hz, p5⟩ := p5.guard
    have hz : acc.length < sizeLine := of_decide_eq_true hz
    have hn5 : D0 ∉ β5 := N5.nin hD3 hn3
    have ra5 : RVs G β5 H4 acc vs := by
      rcases ex with e | ⟨a, e⟩
      · rw [e]; exact ra4
      · rw [e]; exact RVs.push a _ _ ra4
    refine ⟨vs, hD4, by rw [← racc.length]; exact hz, ?_⟩
    have hf : ∀ a ob u, H4 a = some (.frz ob u) → L2.upd H4 D0 (.lst (vs ++ [y])) a = some (.frz ob u) := fun a ob u e => by
      rw [upd_ne (fun z => by rw [z, hD4] at e; cases e)]; exact e
    have NN := (N'.trans N3).trans N5
    refine hN β5 S5 (acc ++ [d]) (vs ++ [y]) _ ⟨NN.pre, fun a o e hna => ?_, fun a o e => ?_⟩ (T5.chg hf fun a ha => upd_ne fun z => hn5 (z ▸ ha)) upd_same hn5 (RVs.chg hf _ _ (ra5.append (RVs.one rd))) p5
    · rw [upd_ne (fun z => by rw [z, fD] at e; cases e)]
      exact NN.keep a o e hna
    · obtain ⟨o', e'⟩ := NN.dom a o e
      by_cases hz : a = D0
      · exact ⟨_, by rw [hz]; exact upd_same⟩
      · exact ⟨o', by rw [upd_ne hz]; exact e'⟩

/-- what the comprehension comes to -/
abbrev lcF (fi : Env → M Src) (fc : Env → M Bool) (fe : Env → M U) (is : List Nat) (one : Bool) (wf : Nat) : Env → M U := fun ρ => bnd (fi ρ) fun src => bnd (match src with
  | .items xs => lcGo (stepF fc fe is one ρ) [] xs
  | .live n => lcLive (stepF fc fe is one ρ) n wf 0 []) fun ys => pur (.l ys)
theorem lc_ok (eK : G.K = X.K) {is own : List Nat} {one : Bool} {fi : Env → M Src} {fc : Env → M Bool} {fe : Env → M U} {wf : Nat} (h1 : ∀ i ∈ own, i ∈ is) (h2 : ∀ i ∈ is, i ∈ own) {σ : L2.St} {H : Hp} {Q : VK} (h : tE G W (lcF fi fc fe is one wf) σ H Q) :
    tLc (tI G W fi) (gTg X.K is one) (tT G WF fc) (tE G WF fe) own σ H Q := by
  obtain ⟨β, ρ, S, E, T, p⟩ := h
  refine ⟨β, ρ, S, E, T, p.first fun src S1 J H1 β1 N1 T1 rJ p1 D0 fD => ?_⟩
  have fD' : H D0 = none := N1.back fD
  have finish : ∀ (β' : List Addr) (H' : Hp) (S' : Sto) (acc : List D) (vs : List V), Nxt β1 H1 β' H' → RS G β' H' S' → H' D0 = some (.lst vs) → D0 ∉ β' → RVs G β' H' acc vs → Post G (relU G) β H (pur (.l acc) S') Q (zW G W σ) → Q (.ref D0) H' := fun β' H' S' acc vs n t hd hn ra p' =>
    p' (.ref D0) H' β' (N1.trans n) t ⟨⟨D0, vs, rfl, hn, hd, ra⟩, fun a e => by cases e; exact fD'⟩
  have start : Nxt β1 H1 β1 (L2.upd H1 D0 (.lst [])) ∧ RS G β1 (L2.upd H1 D0 (.lst [])) S1 := ⟨Nxt.new fD, T1.newH fD⟩
  cases src with
  | items xs =>
    refine ⟨fun i m H' => m = xs.length - i ∧ i ≤ xs.length ∧ ∃ β' S' acc vs, Nxt β1 H1 β' H' ∧ RS G β' H' S' ∧ H' D0 = some (.lst vs) ∧ D0 ∉ β' ∧ RVs G β' H' acc vs ∧ Post G (relU G) β H (bnd (lcGo (stepF fc fe is one ρ) acc (xs.drop i)) (fun ys => pur (.l ys)) S') Q (zW G W σ),
      ⟨_, rfl, Nat.zero_le _, β1, S1, [], [], start.1, start.2, upd_same, T1.new fD, by unfold RVs; rfl, p1⟩, ?_⟩
    rintro i m H' ⟨rfl, hi, β', S', acc, vs, n, t, hd, hn, ra, p'⟩
    have io := rJ β' H' S' n t i
    by_cases hlt : i < xs.length
    · obtain ⟨g1, g2⟩ := io.1 xs[i] (List.getElem?_eq_getElem hlt)
      rw [List.drop_eq_getElem_cons hlt] at p'
      refine .inr ⟨g1, fun H2 => ∃ β2 S2 acc2 vs2, Nxt β1 H1 β2 H2 ∧ RS G β2 H2 S2 ∧ H2 D0 = some (.lst vs2) ∧ D0 ∉ β2 ∧ RVs G β2 H2 acc2 vs2 ∧ Post G (relU G) β H (bnd (lcGo (stepF fc fe is one ρ) acc2 (xs.drop (i + 1))) (fun ys => pur (.l ys)) S2) Q (zW G W σ),
        fun H2 ⟨β2, S2, acc2, vs2, a1, a2, a3, a4, a5, a6⟩ => ⟨_, by omega, rfl, hlt, β2, S2, acc2, vs2, a1, a2, a3, a4, a5, a6⟩, fun xv H2 y => ?_⟩
      obtain ⟨y1, y2, y3⟩ := g2 xv H2 y
      refine lc_step (β := β) (H := H) (Lp := fun acc => lcGo (stepF fc fe is one ρ) acc (xs.drop (i + 1))) eK (E.nxt T ((N1.trans n).trans y1)) N1 fD (n.trans y1) y2 (y1.keep D0 _ hd hn) (y1.nin hd hn) (RVs.nxt t y1 _ _ ra) y3 h1 h2 p' fun β4 S4 acc4 vs4 H4 b1 b2 b3 b4 b5 b6 => ⟨β4, S4, acc4, vs4, b1, b2, b3, b4, b5, b6⟩
    · refine .inl ⟨io.2 (Nat.le_of_not_lt hlt), ?_⟩
      rw [List.drop_eq_nil_of_le (Nat.le_of_not_lt hlt)] at p'
      exact finish β' H' S' acc vs n t hd hn ra p'
  | live nn =>
    obtain ⟨a, ea, rfl⟩ := rJ
    refine ⟨fun i m H' => ∃ β' S' acc vs, Nxt β1 H1 β' H' ∧ RS G β' H' S' ∧ H' D0 = some (.lst vs) ∧ D0 ∉ β' ∧ RVs G β' H' acc vs ∧ Post G (relU G) β H (bnd (lcLive (stepF fc fe is one ρ) nn m i acc) (fun ys => pur (.l ys)) S') Q (zW G W σ),
      ⟨wf, β1, S1, [], [], start.1, start.2, upd_same, T1.new fD, by unfold RVs; rfl, p1⟩, ?_⟩
    rintro i m H' ⟨β', S', acc, vs, n, t, hd, hn, ra, p'⟩
    cases m with
    | zero => exact p'.elim
    | succ m =>
      unfold lcLive at p'
      rw [bnd_assoc] at p'
      obtain ⟨o, e, p'⟩ := p'.look
      cases o with
      | lst xs =>
        obtain ⟨ws, q, rr⟩ := t.at_ nn _ a e (n.at_ ea)
        cases e1 : xs[i]? with
        | none =>
          simp only [e1] at p'
          refine .inl ⟨⟨ws, SqL.of q, ?_⟩, finish β' H' S' acc vs n t hd hn ra p'⟩
          rw [← rr.length]
          exact List.getElem?_eq_none_iff.mp e1
        | some d =>
          simp only [e1] at p'
          obtain ⟨v, e2, r2⟩ := rr.get e1
          refine .inr ⟨⟨ws, v, SqL.of q, e2⟩, fun H2 => ∃ β2 S2 acc2 vs2, Nxt β1 H1 β2 H2 ∧ RS G β2 H2 S2 ∧ H2 D0 = some (.lst vs2) ∧ D0 ∉ β2 ∧ RVs G β2 H2 acc2 vs2 ∧ Post G (relU G) β H (bnd (lcLive (stepF fc fe is one ρ) nn m (i + 1) acc2) (fun ys => pur (.l ys)) S2) Q (zW G W σ),
            fun H2 ⟨β2, S2, acc2, vs2, a1, a2, a3, a4, a5, a6⟩ => ⟨m, Nat.lt_succ_self m, β2, S2, acc2, vs2, a1, a2, a3, a4, a5, a6⟩, fun xv H2 y => ?_⟩
          obtain ⟨rfl, y⟩ := y
          have := y ws (SqL.of q)
          rw [e2] at this
          cases this
          exact lc_step (β := β) (H := H) (Lp := fun acc => lcLive (stepF fc fe is one ρ) nn m (i + 1) acc) eK (E.nxt T (N1.trans n)) N1 fD n t hd hn ra r2 h1 h2 p' fun β4 S4 acc4 vs4 H4 b1 b2 b3 b4 b5 b6 => ⟨β4, S4, acc4, vs4, b1, b2, b3, b4, b5, b6⟩
      | _ => exact p'.elim
theorem pe_lcX (eK : G.K = X.K) {elt tg iter : Expr} {ifs : List Expr} {scope : Scope} {own : List (Str × Nat)} {pos : Pos} {is : List Nat} {one : Bool} {fi : Env → M Src} {fc : Env → M Bool} {fe : Env → M U} {wf : Nat} (hc : X.calm = true) (hN : X.N.Nodup) (hi : PI X tg iter (tI G W fi)) (ok : BlkOk X.N X.env.scope scope own)
    (hg : ∀ (s : Shared) (H : Hp) (C : Addr) (cl : List (Str × Addr)) (fp : List Addr), PG (X.blk s H scope (compEnvC scope cl C X.env) fp) tg (gTg X.K is one)) (ht : ∀ (s : Shared) (H : Hp) (C : Addr) (cl : List (Str × Addr)) (fp : List Addr), PTs (X.blk s H scope (compEnvC scope cl C X.env) fp) ifs (tT G WF fc))
    (he : ∀ (s : Shared) (H : Hp) (C : Addr) (cl : List (Str × Addr)) (fp : List Addr), PE (X.blk s H scope (compEnvC scope cl C X.env) fp) elt (tE G WF fe)) (hs : ∀ x, foldedSetIterable iter X.env x = pure x) (h1 : ∀ i ∈ own.map (·.2), i ∈ is) (h2 : ∀ i ∈ is, i ∈ own.map (·.2)) :
    PE X (.ListComp elt [⟨tg, iter, ifs, 0⟩] scope pos) (tE G W (lcF fi fc fe is one wf)) :=
  PE.of (pe_lc hc hN hi ok hg ht he hs) fun σ H Q h => lc_ok eK h1 h2 h
/-- name = [..], on one line -/
theorem ps_setLcX (eK : G.K = X.K) {i : Nat} {y : Str} {py : Pos} {elt tg iter : Expr} {ifs : List Expr} {scope : Scope} {own : List (Str × Nat)} {pos spos : Pos} {is : List Nat} {one : Bool} {fi : Env → M Src} {fc : Env → M Bool} {fe : Env → M U} {wf : Nat} (hc : X.calm = true) (hN : X.N.Nodup)
    (hy : X.N[i]? = some y) (hyl : X.env.scope.names.lookup y = some .local) (hsw : swapsWith (.ListComp elt [⟨tg, iter, ifs, 0⟩] scope pos) (some (.Name y py)) spos.line X.env = pure true) (hi : PI X tg iter (tI G W fi)) (ok : BlkOk X.N X.env.scope scope own)
    (hg : ∀ (s : Shared) (H : Hp) (C : Addr) (cl : List (Str × Addr)) (fp : List Addr), PG (X.blk s H scope (compEnvC scope cl C X.env) fp) tg (gTg X.K is one)) (ht : ∀ (s : Shared) (H : Hp) (C : Addr) (cl : List (Str × Addr)) (fp : List Addr), PTs (X.blk s H scope (compEnvC scope cl C X.env) fp) ifs (tT G WF fc))
    (he : ∀ (s : Shared) (H : Hp) (C : Addr) (cl : List (Str × Addr)) (fp : List Addr), PE (X.blk s H scope (compEnvC scope cl C X.env) fp) elt (tE G WF fe)) (hs : ∀ x, foldedSetIterable iter X.env x = pure x) (h1 : ∀ i ∈ own.map (·.2), i ∈ is) (h2 : ∀ i ∈ is, i ∈ own.map (·.2)) :
    PS X (.Assign [.Name y py] (.ListComp elt [⟨tg, iter, ifs, 0⟩] scope pos) spos) (tS G W fun ρ => lift (lcF fi fc fe is one wf ρ) ρ fun u => lift (settle u) ρ fun d => lift (target ρ [i] true d) ρ fun ρ' => goX (.nx ρ')) :=
  PS.of (ps_setLc hc hN hy hyl hsw hi ok hg ht he hs) fun En σ H q => by
    obtain ⟨β, ρ, S, E, T, p⟩ := q
    refine lc_ok (W := W) eK h1 h2 ⟨β, ρ, S, E, T, PostS.first E T p fun u S1 v H1 β1 N1 T1 r1 p1 => ?_⟩
    obtain ⟨d, S2, β2, N2, T2, r2, ex, p2⟩ := p1.settle N1 T1 r1.1 r1.2
    exact p2 _ H1 β2 N2 T2 (((E.nxt T N1).ext ex).set i r2)
end
end Qc
end
section
set_option Elab.async false
set_option linter.all false
set_option maxHeartbeats 1000000
set_option pp.maxSteps 600
/-! Calls of the program's own functions. -/
namespace Qc
open PySem PySem.Spec PyProof.Rows L2
/-- what a function promises -/
def spF (pg : Pg) (wf : Nat) (G : Gx) (n f : Nat) (np : Nat) : Sp := fun vs H Q E => ∃ β S ds, RS G β H S ∧ RVs G β H ds vs ∧ ds.length = np ∧ Post G (relU G) β H (callF pg wf n f ds S) Q (fun c H' => E (.ref (G.xa c)) none H')
section
variable {G : Gx} {β β' : List Addr} {H : Hp}
mutual
theorem RV.free : ∀ (d : D) (v : V), d.free = true → RV G β H d v → RV G β' H d v
  | .non, _, _, h => h
  | .bl _, _, _, h => h
  | .int _, _, _, h => h
  | .str _, _, _, h => h
  | .tup xs, v, e, h => by
    unfold RV at h ⊢
    unfold D.free at e
    obtain ⟨a, vs, e1, q, r⟩ := h
    exact ⟨a, vs, e1, q, RVs.free xs vs e r⟩
  | .fl xs, v, e, h => by
    unfold RV at h ⊢
    unfold D.free at e
    obtain ⟨a, vs, e1, q, r⟩ := h
    exact ⟨a, vs, e1, q, RVs.free xs vs e r⟩
  | .obj n, v, e, _ => by
    unfold D.free at e
    cases e
  | .exn c, v, _, h => by
    unfold RV at h ⊢
    exact h
  | .con _, _, _, h => h
theorem RVs.free : ∀ (ds : List D) (vs : List V), D.frees ds = true → RVs G β H ds vs → RVs G β' H ds vs
  | [], _, _, h => h
  | d :: ds, vs, e, h => by
    unfold RVs at h ⊢
    unfold D.frees at e
    rw [Bool.and_eq_true] at e
    obtain ⟨v, r, e1, h1, h2⟩ := h
    exact ⟨v, r, e1, RV.free d v e.1 h1, RVs.free ds r e.2 h2⟩
end
theorem REs.free : ∀ (kvs : List (D × D)) (es : List (NestedKey × V × V)), D.frees (kvs.map (·.1)) = true → D.frees (kvs.map (·.2)) = true → REs G β H kvs es → REs G β' H kvs es
  | [], _, _, _, h => h
  | (d, x) :: r, es, e1, e2, h => by
    unfold REs at h ⊢
    rw [List.map_cons] at e1 e2
    unfold D.frees at e1 e2
    rw [Bool.and_eq_true] at e1 e2
    obtain ⟨k, v, y, t, e, hk, h1, h2, h3⟩ := h
    exact ⟨k, v, y, t, e, hk, RV.free d v e1.1 h1, RV.free x y e2.1 h2, REs.free r t e1.2 e2.2 h3⟩
theorem RS.nil : RS G [] H [] := ⟨rfl, List.nodup_nil, fun n o a e => by cases e⟩
/-- what is handed out of the store that a function had for itself -/
theorem out_rel {S S' : Sto} {H' : Hp} {u u' : U} {v : V} (T : RS G β H S) (N : Nxt [] H β' H') (T' : RS G β' H' S') (r : RU G β' H' u v) (fr : Fr H u v) (e : outU S' u = some u') : Nxt β H β H' ∧ RS G β H' S ∧ RU G β H' u' v ∧ Fr H u' v := by
  have keep : ∀ a o, H a = some o → H' a = some o := fun a o q => N.keep a o q (by simp)
  have N2 : Nxt β H β H' := ⟨⟨[], by simp⟩, fun a o q _ => keep a o q, fun a o q => ⟨o, keep a o q⟩⟩
  have T2 : RS G β H' S := ⟨T.len, T.nd, fun n o a e1 e2 => by
    have q := T.at_ n o a e1 e2
    refine RO.nxt T N2 q ?_
    rcases q.some with ⟨_, z⟩ | ⟨_, z⟩ | ⟨_, _, _, z⟩ <;> rw [keep a _ z, z]⟩
  refine ⟨N2, T2, ?_⟩
  have off : ∀ a, H a = none → a ∉ β := fun a ha => T.new ha
  have fresh : ∀ a, a ∈ β' → H a = none := fun a ha => by
    obtain ⟨ext, e1, ne⟩ := N.pre
    rw [e1] at ha
    exact ne a (by simpa using ha)
  have lsts : ∀ (xs : List D) (a : Addr) (vs : List V), v = .ref a → H a = none → H' a = some (.lst vs) → RVs G β' H' xs vs → D.frees xs = true → u' = .l xs → RU G β H' u' v ∧ Fr H u' v := fun xs a vs ev ha hv rr hf eu => by
    subst eu
    exact ⟨⟨a, vs, ev, off a ha, hv, RVs.free xs vs hf rr⟩, fun b eb => by rw [ev] at eb; cases eb; exact ha⟩
  have dcts : ∀ (kvs : List (D × D)) (a : Addr), v = .ref a → H a = none → RO G β' H' (.dct kvs) a → (D.frees (kvs.map (·.1)) && D.frees (kvs.map (·.2))) = true → u' = .d kvs → RU G β H' u' v ∧ Fr H u' v := fun kvs a ev ha ro hf eu => by
    subst eu
    rw [Bool.and_eq_true] at hf
    obtain ⟨es, h1, h2, h3, h4⟩ := ro
    exact ⟨⟨a, ev, off a ha, es, h1, REs.free kvs es hf.1 hf.2 h2, h3, h4⟩, fun b eb => by rw [ev] at eb; cases eb; exact ha⟩
  have plain : ∀ d, u = .v d → (if D.free d = true then some (U.v d) else none) = some u' → RU G β H' u' v ∧ Fr H u' v := fun d eu e0 => by
    subst eu
    have e : (if D.free d = true then some (U.v d) else none) = some u' := e0
    by_cases hf : D.free d = true
    · rw [if_pos hf] at e
      cases e
      exact ⟨RV.free d v hf r, trivial⟩
    · rw [if_neg hf] at e
      cases e
  cases u with
  | v d =>
    cases d with
    | obj n =>
      unfold outU at e
      cases eo : S'[n]? with
      | none => simp only [eo] at e; cases e
      | some o =>
        obtain ⟨a, ev, hb, ro⟩ := RV.obj_at T' r eo
        have ha := fresh a (List.mem_of_getElem? hb)
        simp only [eo] at e
        cases o with
        | lst xs =>
          by_cases hf : D.frees xs = true
          · have e : (if D.frees xs = true then some (U.l xs) else none) = some u' := e
            rw [if_pos hf] at e
            cases e
            obtain ⟨vs, hv, rr⟩ := ro
            exact lsts xs a vs ev ha hv rr hf rfl
          · have e : (if D.frees xs = true then some (U.l xs) else none) = some u' := e
            rw [if_neg hf] at e
            cases e
        | dct kvs =>
          by_cases hf : (D.frees (kvs.map (·.1)) && D.frees (kvs.map (·.2))) = true
          · have e : (if (D.frees (kvs.map (·.1)) && D.frees (kvs.map (·.2))) = true then some (U.d kvs) else none) = some u' := e
            rw [if_pos hf] at e
            cases e
            exact dcts kvs a ev ha ro hf rfl
          · have e : (if (D.frees (kvs.map (·.1)) && D.frees (kvs.map (·.2))) = true then some (U.d kvs) else none) = some u' := e
            rw [if_neg hf] at e
            cases e
        | ins c fs => cases e
    | _ => exact plain _ rfl e
  | l xs =>
    obtain ⟨a, vs, ev, hn, hv, rr⟩ := r
    have e : (if D.frees xs = true then some (U.l xs) else none) = some u' := e
    by_cases hf : D.frees xs = true
    · rw [if_pos hf] at e
      cases e
      exact lsts xs a vs ev (fr a ev) hv rr hf rfl
    · rw [if_neg hf] at e
      cases e
  | s xs => cases e
  | d kvs =>
    obtain ⟨a, ev, hn, ro⟩ := r
    have e : (if (D.frees (kvs.map (·.1)) && D.frees (kvs.map (·.2))) = true then some (U.d kvs) else none) = some u' := e
    by_cases hf : (D.frees (kvs.map (·.1)) && D.frees (kvs.map (·.2))) = true
    · rw [if_pos hf] at e
      cases e
      exact dcts kvs a ev (fr a ev) ro hf rfl
    · rw [if_neg hf] at e
      cases e
end
end Qc
end
section
set_option Elab.async false
set_option linter.all false
set_option maxHeartbeats 1000000
set_option pp.maxSteps 600
/-! raise; try with one except clause whose suite is  y = x . -/
namespace Qc
open PySem PySem.Spec PyProof.Rows L2
section
variable {X : Cx} {G : Gx} {W : WX}
theorem ps_raiX {B newId initId : String} {bmB : List Value} {c : Nat} {x m : Str} {j : Nat} {p p2 pos pos' : Pos} (hc : X.calm = true) (tk : Takes X W) (F : ExcBaseFacts B newId initId bmB) (q : PySem.W.excIn X.K (G.xa c) bmB newId = true) (gC : X.mg x = some (.ref (G.xa c))) (kC : PySem.W.keepIn X.K (.ref (G.xa c)) = true) (r : Raises X (.ref (G.xa c))) (hg : Gl X x)
    (hdb : (x == ("__debug__" : Str)) = false) : PS X (.Raise (some (.Call (.Name x p) [.Constant (.str m) j p2] [] pos)) none pos') (tS G W fun ρ S => .exc c ρ S) :=
  PS.of (ps_raise hc tk (pmk_own F q gC kC r hg hdb)) fun En σ H h => by
    obtain ⟨β, ρ, S, E, T, p⟩ := h
    exact p σ H β .refl T E
/-- a pinned thing that was laid since the begin is told of: it is locked -/
theorem Inv.told {pins : List (Addr × Obj)} {σ : L2.St} {H : Hp} {s : Shared} {a : Addr} {oe : Obj} {u : HO} (I : Inv X ((a, oe) :: pins) σ H s) (hpn : ∀ p ∈ X.pn ++ pins, p.1 ≠ a) (hold : X.s_0.heap.get? a = none) (new : ObjOk X.prog X.w (L2.upd H a (.frz oe u)) s.heap a (.frz oe u)) :
    Inv X pins σ (L2.upd H a (.frz oe u)) s := by
  obtain ⟨ha, na, nL, nF, nc⟩ := I.pin (a, oe) (List.mem_append_right _ List.mem_cons_self)
  have some_ne : ∀ b o, H b = some o → b ≠ a := fun b o e z => by rw [z, na] at e; cases e
  refine ⟨I.ok, I.os, I.bare, ⟨I.base.keep, I.base.slot, fun b o e n hx => ?_, I.base.there, fun b xs e => ?_, fun b o w e => ?_, fun b ps e => ?_⟩, I.loc, I.cell, ?_, fun x c e => ?_, fun p hp => ?_, fun b o e => ?_, I.len⟩
  · have hne : b ≠ a := fun z => by rw [z, hold] at e; cases e
    rw [upd_ne hne]
    exact I.base.free b o e n hx
  · have q := I.base.tups b xs e
    rw [upd_ne (some_ne b _ q)]
    exact q
  · have q := I.base.frzs b o w e
    rw [upd_ne (some_ne b _ q)]
    exact q
  · obtain ⟨m, q⟩ := I.base.tbls b ps e
    exact ⟨m, by rw [upd_ne (some_ne b _ q)]; exact q⟩
  · rw [upd_ne (Ne.symm nL)]
    exact I.free
  · have hne : c ≠ a := fun z => by
      obtain ⟨v, o, ho, hd⟩ := I.cell x c e
      rw [z] at ho
      rw [show s.heap.get? a = some oe from ha] at ho
      cases ho
      exact nc v hd
    rw [upd_ne hne]
    exact I.freeC x c e
  · have hp' : p ∈ X.pn ++ (a, oe) :: pins := by
      rcases List.mem_append.mp hp with z | z
      · exact List.mem_append_left _ z
      · exact List.mem_append_right _ (List.mem_cons_of_mem _ z)
    obtain ⟨e, n, r⟩ := I.pin p hp'
    exact ⟨e, by rw [upd_ne (hpn p hp)]; exact n, r⟩
  · by_cases hb : b = a
    · subst hb
      rw [upd_same] at e
      cases e
      exact new
    · rw [upd_ne hb] at e
      exact (I.hok b o e).stay (fun _ _ _ q => q) (fun c q => by rw [upd_ne (some_ne c _ q)]; exact q) fun c xs q => by rw [upd_ne (some_ne c _ q)]; exact q
theorem xo_ok {P : Program} {w : World} {H : Hp} {h : Heap} {a : Addr} {oe : Obj} (ha : h.get? a = some oe) : ObjOk P w H h a (XO oe) := ⟨ha, trivial, ⟨oe, ha⟩, fun _ _ _ _ => trivial⟩
/-- what the clause wishes of an exception of the body; the suite leaves it behind -/
def wTr (K : PySem.W.Frag) (c : Value) (i : Nat) (ts : Addr → TS) (Wout : WX) (En : Ends) : WX := fun cls d σ H => ∃ b, PySem.W.exmOne K cls c = some b ∧ (b = true → ∀ (a : Addr), H a = none → (∀ q : Unit, True) →
    ts a { nx := fun σ' H' => ∀ oe : Obj, Zc cls d oe → (∃ vs, oe.data = .fields vs) → H' a = none → En.nx (σ'.set i none) (L2.upd H' a (XO oe)), rt := fun _ _ => False, bk := fun _ _ => False, ct := fun _ _ => False } (σ.set i (some (.ref a))) H) ∧ (b = false → Wout cls d σ H)
theorem ps_tryX {x n : Str} {c : Value} {i : Nat} {body suite : List Stmt} {b₀ : Stmt} {np pos pos' : Pos} {tb : WX → TS} {ts : Addr → TS} {Wout : WX} (hst : X.stack = X.env :: X.outer) (hf : X.env.frame = some X.env.locals) (hex : X.ex = []) (hN : X.N.Nodup) (hi : X.N[i]? = some n) (hln : X.env.kindOf n = some .local) (hc : Names X x c) (tk : Takes X Wout)
    (hb : ∀ (W : WX) (pn : List (Addr × Obj)) (xe : Value → Shared → Prop), Takes (X.tr pn xe) W → PassesOwn (model X.prog X.w) X.A X.env xe → PSs (X.tr pn xe) body (tb W))
    (hsu : ∀ (a : Addr) (oe : Obj) (pn : List (Addr × Obj)), PSs (X.suite a ((a, oe) :: pn)) (b₀ :: suite) (ts a)) :
    PS X (.Try body [.ExceptHandler (some (.Name x np)) (some n) (b₀ :: suite) pos'] [] [] pos) (fun En σ H => tb (wTr X.K c i ts Wout En) En σ H) := by
  refine ⟨fun pins s σ H En I h => ?_⟩
  have ok := I.ok
  have frs_eq : X.A.frames = some (X.env :: X.outer) := ok.frames.trans (congrArg some hst)
  refine wpAny_Try_except (wpAny_mono ((hb (wTr X.K c i ts Wout En) (X.pn ++ pins) (fun e s₁ => wpAny (model X.prog X.w) X.A (noteFrame e X.env) (fun _ s₂ => wpAny (model X.prog X.w) X.A (setFlight e none) (fun _ s₃ => wpAny (model X.prog X.w) X.A (handleBy e X.env [.ExceptHandler (some (.Name x np)) (some n) (b₀ :: suite) pos']) (SP X pins En) X.xe s₃) X.xe s₂) X.xe s₁)
    (fun u s' air => ?_) PassesOwn.looking).run [] s σ H En (I.toTry _) h) (fun f s1 hsp => ?_) (fun _ _ he => he))
  · obtain ⟨a, B, sI, pins', σ', H', cls, d, rfl, JI, nb, up, sky, na, os, ag, b, hb1, hyes, hno⟩ := air
    have J : Inv X pins σ' H' sI := JI.ofTry ok
    have sky' : Sky B (X.env :: X.outer) a (Zc cls d) X.env.locals s'.heap := hst ▸ sky
    have hB : B.get? a = none := by
      rcases sky' with ⟨_, z, _⟩ | z | z
      · exact z
      · exact z.2.1
      · exact z.2.1
    show wpAny (model X.prog X.w) X.A (noteFrame (.ref a) X.env) _ _ _
    refine Sky.land Zc.steady frs_eq hf sky' fun h3 fl3 up3 => ?_
    have J3 : Inv X pins σ' H' { s' with heap := h3 } := J.landed nb fl3.1 (up.trans up3) os ag
    obtain ⟨oe3, vs3, he3, hz3, hd3⟩ := fl3.there
    have noFr : a ∉ frs (X.env :: X.outer) := fun hm => by
      obtain ⟨_, o', e', hnf⟩ := fl3.2.2.1.mem hm
      rw [he3] at e'
      cases e'
      exact hnf _ hd3
    have noL : a ≠ X.env.locals := fun z => noFr (List.mem_filterMap.mpr ⟨X.env, List.mem_cons_self, by rw [hf, z]⟩)
    have noF : a ∉ X.fs := fun hm => by
      obtain ⟨e, he, q⟩ := List.mem_filterMap.mp hm
      exact noFr (List.mem_filterMap.mpr ⟨e, List.mem_cons_of_mem _ he, q⟩)
    have gone : sI.heap.get? a = none := by
      cases q : sI.heap.get? a with
      | none => rfl
      | some o => rw [nb a o q (hst ▸ noFr)] at hB; cases hB
    have hold : X.s_0.heap.get? a = none := by
      cases q : X.s_0.heap.get? a with
      | none => rfl
      | some o =>
        obtain ⟨o', z⟩ := J.base.there a o q (by rw [hex]; simp)
        rw [gone] at z
        cases z
    have apart : ∀ p ∈ X.pn ++ pins, p.1 ≠ a := fun p hp z => by
      have e := (J.pin p hp).1
      rw [z, gone] at e
      cases e
    have S3 := J3.suite he3 hd3 na noL noF
    refine wpAny_handleBy_cons (codeAny_handlers_test ?_) (by intro q; cases q)
    have LT : PySem.W.Looks (model X.prog X.w) h3 (typeOf (.ref a)) cls := fun A Q E s k q => wpAny_typeOf_ref (k _ _ he3) (by rw [hz3.1]; exact q)
    have LM := PySem.W.exm_one (M := model X.prog X.w) J3.kIn LT hb1
    have test : ∀ {Q : Value → Shared → Prop} {E : Value → Shared → Prop}, Q c { s' with heap := h3 } → wpAny (model X.prog X.w) (X.A.mark (some (.ref a))) (eval (.Name x np) X.env) Q E { s' with heap := h3 } := fun {Q E} q => by
      obtain ⟨hg, hdbg, hm | ⟨hm, hv, hnn⟩⟩ := hc
      · exact ld_glob (X := X.suite a ((a, oe3) :: (X.pn ++ pins))) S3 hg hm q hdbg
      · exact ld_blt (X := X.suite a ((a, oe3) :: (X.pn ++ pins))) S3 hg hm hv q hnn hdbg
    refine test (LM.here ?_)
    cases b with
    | true =>
      refine codeAny_handlers_suite_as (HandSPX.lands_againZ fl3 fun h4 fl4 up4 => ?_)
      have J4 : Inv X pins σ' H' { s' with heap := h4 } := J.landed nb fl4.1 ((up.trans up3).trans up4) os ag
      obtain ⟨oe4, vs4, he4, hz4, hd4⟩ := fl4.there
      refine store_ok (X := X.suite a ((a, oe4) :: (X.pn ++ pins))) (v := .ref a) (J4.suite he4 hd4 na noL noF) hN hi (.inl hln) rfl (fun s5 S5 => ?_) (.inr hln)
      refine wpAny_mono ((hsu a oe4 (X.pn ++ pins)).run [] s5 _ H' _ S5 (hyes rfl a na fun _ => trivial)) (fun f s6 hsp => ?_) (fun _ _ z => z.elim)
      cases f with
      | next =>
        obtain ⟨σ6, H6, S6, q6⟩ := hsp
        have I6 : Inv X ((a, oe4) :: pins) σ6 H6 s6 := ⟨ok, S6.os, S6.bare, S6.base, S6.loc, S6.cell, S6.free, S6.freeC, fun p hp => S6.pin p (List.mem_append_left _ (by
          rcases List.mem_append.mp hp with z | z
          · exact List.mem_cons_of_mem _ (List.mem_append_left _ z)
          · rcases List.mem_cons.mp z with z | z
            · rw [z]; exact List.mem_cons_self
            · exact List.mem_cons_of_mem _ (List.mem_append_right _ z))), S6.hok, S6.len⟩
        refine gone_ok I6 hN hi hln fun s7 I7 => ?_
        obtain ⟨ha7, na7, _⟩ := I7.pin (a, oe4) (List.mem_append_right _ List.mem_cons_self)
        exact ⟨_, _, Inv.told I7 apart hold (xo_ok ha7), q6 oe4 hz4 ⟨_, hd4⟩ na7⟩
      | brk => obtain ⟨_, _, _, q6⟩ := hsp; exact q6.elim
      | cont => obtain ⟨_, _, _, q6⟩ := hsp; exact q6.elim
      | ret u => obtain ⟨_, _, _, _, _, q6⟩ := hsp; exact q6.elim
    | false =>
      refine wpAny_handleBy_nil ?_
      obtain ⟨k1, k2, k3, oe, vs, T, oT, ts', he, hz, hd, h1, hr⟩ := id fl3
      unfold PySem.passOn
      refine wpAny_bind (wpAny_field he hd h1 ?_)
      rw [if_neg (show ¬ ((Value.ref T == Value.none) = true) from by simp)]
      have fin : wpAny (model X.prog X.w) X.A (setFlight (.ref a) X.env.frame) (fun _ s4 => wpAny (model X.prog X.w) X.A (throw (.ref a) : Sem Flow) (SP X pins En) X.xe s4) X.xe { s' with heap := h3 } := by
        rw [hf]
        exact HandSPX.setFlight_upZ fl3 fun h4 hh4 up4 => wpAny_throw (tk _ _ ⟨a, B, sI, pins, σ', H', cls, d, rfl, J, nb, (up.trans up3).trans up4, .inr (.inr (by rw [hst]; exact hh4)), na, os, ag, hno rfl⟩)
      first
        | exact wpAny_bind (wpAny_pure (wpAny_bind fin))
        | exact wpAny_bind fin
  · cases f with
    | next =>
      obtain ⟨σ', H', J', q⟩ := hsp
      exact wpAny_execs_nil ⟨σ', H', J'.ofTry ok, q⟩
    | brk => obtain ⟨σ', H', J', q⟩ := hsp; exact ⟨σ', H', J'.ofTry ok, q⟩
    | cont => obtain ⟨σ', H', J', q⟩ := hsp; exact ⟨σ', H', J'.ofTry ok, q⟩
    | ret u => obtain ⟨v, σ', H', J', r, q⟩ := hsp; exact ⟨v, σ', H', J'.ofTry ok, r, q⟩

/-- try: body / except C as x: y = x -/
theorem ps_tryAsX {pg : Pg} {x n y : Str} {cv : Value} {c i j : Nat} {body : List Stmt} {np pn' py pos pos' apos : Pos} {fb : Env → Qc.X} (hst : X.stack = X.env :: X.outer) (hf : X.env.frame = some X.env.locals) (hex : X.ex = []) (hN : X.N.Nodup) (hi : X.N[i]? = some n) (hln : X.env.scope.names.lookup n = some .local) (hj : X.N[j]? = some y) (hly : X.env.scope.names.lookup y = some .local) (hij : i ≠ j)
    (hdn : (n == ("__debug__" : Str)) = false) (hcn : (n == ("__classdict__" : Str)) = false) (hc : Names X x cv) (hm : ∀ c', c' < pg.sup.length → PySem.W.exmOne X.K (.ref (G.xa c')) cv = some (isExn pg c' c)) (tk : Takes X W)
    (hsw : ∀ pn : List (Addr × Obj), ∀ a : Addr, swapsWith (.Name n pn') (some (.Name y py)) apos.line (X.suite a pn).env = pure false)
    (hb : ∀ (W' : WX) (pn : List (Addr × Obj)) (xe : Value → Shared → Prop), Takes (X.tr pn xe) W' → PassesOwn (model X.prog X.w) X.A X.env xe → PSs (X.tr pn xe) body (tS G W' fb)) :
    PS X (.Try body [.ExceptHandler (some (.Name x np)) (some n) [.Assign [.Name y py] (.Name n pn') apos] pos'] [] [] pos) (tS G W fun ρ S => match fb ρ S with
      | .exc c' ρ' S' => if c' < pg.sup.length ∧ i < ρ'.length then (if isExn pg c' c = true then .go (.nx ((setV ρ' j (.exn c')).set i none)) S' else .exc c' ρ' S') else .stuck
      | r => r) := by
  refine PS.of (ps_tryX (ts := fun a => tAsg (fun σ H Q => ∃ v, σ[i]? = some (some v) ∧ Q v H) (gName j)) hst hf hex hN hi hln hc tk hb fun a oe pn => pss_one (ps_set (X := X.suite a ((a, oe) :: pn)) hN hj (.inl hly) (pe_var hi (.inl hln) hdn hcn) (hsw _ a) (.inr hly))) fun En σ H h => ?_
  obtain ⟨β, ρ, S, E, T, p⟩ := h
  refine ⟨β, ρ, S, E, T, ?_⟩
  dsimp only at p
  cases e : fb ρ S with
  | go f S' =>
    rw [e] at p
    cases f with
    | nx _ => exact p
    | bk _ => exact p
    | ct _ => exact p
    | rt _ => exact p
  | stuck => rw [e] at p; exact p.elim
  | exc c' ρ' S' =>
    rw [e] at p
    dsimp only at p
    by_cases hl : c' < pg.sup.length ∧ i < ρ'.length
    · rw [if_pos hl] at p
      intro σ' H' β' N' T' E'
      refine ⟨isExn pg c' c, hm c' hl.1, fun hy a na _ => ?_, fun hn => ?_⟩
      · rw [if_pos hy] at p
        refine ⟨.ref a, List.getElem?_set_self (by rw [E'.1]; exact hl.2), fun oe hz hv na' => ?_⟩
        have N2 : Nxt β' H' β' (L2.upd H' a (XO oe)) := Nxt.new na'
        have rx : RV G β' (L2.upd H' a (XO oe)) (.exn c') (.ref a) := by
          unfold RV
          exact ⟨a, oe, rfl, upd_same, hz, hv⟩
        have E2 := (((E'.nxt T' N2).set j rx).gone i)
        have e2 : (((σ'.set i (some (.ref a))).set j (some (.ref a))).set i none) = ((σ'.set j (some (.ref a))).set i none) := by
          rw [List.set_comm _ _ hij, List.set_set]
        rw [e2]
        exact p _ _ β' (N'.trans N2) (T'.newH na') E2
      · rw [if_neg (by rw [hn]; decide)] at p
        exact p σ' H' β' N' T' E'
    · rw [if_neg hl] at p
      exact p.elim
end
end Qc
end
section
set_option Elab.async false
set_option linter.all false
set_option maxHeartbeats 1000000
set_option pp.maxSteps 600
/-! A function of the core language keeps what its def does. -/
namespace Qc
open PySem PySem.Spec PyProof.Rows L2
section
variable {X : Cx} {G : Gx} {W : WX} {pg : Pg} {wf : Nat}
theorem spF_len {n f np : Nat} {vs : List V} {H : Hp} {Q : VK} {E : XK} (h : spF pg wf G n f np vs H Q E) : vs.length = np := by
  obtain ⟨β, S, ds, T, r, e, p⟩ := h
  rw [← r.length]
  exact e
theorem pe_callX {n f fn : Nat} {fa : Addr} {fd : FuncData} {ps : List Str} {k np : Nat} {x : Str} {p pos : Pos} {e : Expr} {es : List Expr} {g : Env → M (List D)} (tk : Takes X W) (F : FnOk X.prog X.w X.K X.mg X.base (L2.CX X.prog X.w) k fa fd ps (spF pg wf G n f np)) (hr : Room k X.A) (hg : Gl X x) (hm : X.mg x = some (.ref fa)) (hk : PySem.W.keepIn X.K (.ref fa) = true) (hb : Binds X.K fd ps [])
    (ha : PA X (e :: es) (tA G W g)) (hs : (e :: es).all notStar = true) (hdb : (x == ("__debug__" : Str)) = false) (hl : ∀ ρ S ds S', g ρ S = .ok ds S' → ds.length = np) :
    PE X (.Call (.Name x p) (e :: es) [] pos) (tE G W fun ρ => bnd (g ρ) fun ds => callF pg wf n f ds) := by
  rw [List.all_cons, Bool.and_eq_true] at hs
  have nost : ∀ (l : List Expr), l.all notStar = true → (backTo pos (starEach l X.env)).any (·.1) = false := by
    intro l
    induction l with
    | nil => intro _; rfl
    | cons a l ih =>
      intro h
      rw [List.all_cons, Bool.and_eq_true] at h
      rw [star_cons h.1]
      show (false || (backTo pos (starEach l X.env)).any (·.1)) = false
      rw [ih h.2]
      rfl
  refine PE.of (pe_callS (E := WE W) F hr hg hm hk hb (passAt tk) ha hdb (star_cons hs.1 _ _) (nost es hs.2)) fun σ H Q h => ?_
  obtain ⟨β, ρ, S, E, T, q⟩ := h
  refine ⟨β, ρ, S, E, T, ?_⟩
  dsimp only at q
  cases eg : g ρ S with
  | ok ds S1 =>
    have q' := q
    unfold bnd at q'
    rw [eg] at q'
    intro vs H1 β1 N1 T1 r1
    exact ⟨β1, S1, ds, T1, r1, hl ρ S ds S1 eg, q'.nxt N1⟩
  | exc c S1 =>
    unfold bnd at q
    rw [eg] at q
    exact q
  | stuck =>
    unfold bnd at q
    rw [eg] at q
    exact q
theorem start_env {β : List Addr} {H : Hp} {N : List Str} {vs : List V} {ds : List D} {F : Fn} (r : RVs G β H ds vs) (hN : N.length = F.ns) : REnv G β H (start N vs) (startE F ds) := by
  have hl := r.length
  refine ⟨by unfold L2.start startE; rw [List.length_append, List.length_append, List.length_map, List.length_map, List.length_replicate, List.length_replicate, hl, hN], fun i d e => ?_⟩
  unfold startE at e
  by_cases hi : i < ds.length
  · rw [List.getElem?_append_left (by rw [List.length_map]; exact hi), List.getElem?_map] at e
    cases ed : ds[i]? with
    | none => rw [ed] at e; cases e
    | some d' =>
      rw [ed] at e
      cases e
      obtain ⟨v, e1, r1⟩ := r.get ed
      refine ⟨v, ?_, r1⟩
      unfold L2.start
      rw [List.getElem?_append_left (by rw [List.length_map, ← hl]; exact hi), List.getElem?_map, e1]
      rfl
  · rw [List.getElem?_append_right (by rw [List.length_map]; exact Nat.le_of_not_lt hi), List.getElem?_replicate] at e
    split at e <;> cases e
/-- a body that keeps what the core says is a def that keeps its promise -/
theorem fn_body {n f : Nat} {F : Fn} {N : List Str} (hF : pg.fns[f]? = some F) (hN : N.length = F.ns) {vs : List V} {H : Hp} {Q : VK} {E : XK} (h : spF pg wf G (n + 1) f F.np vs H Q E) :
    tS G (fun cls d _ H => E cls d H) (exs ⟨pg, wf, callF pg wf n⟩ F.body) { nx := fun _ H' => Q .non H', rt := Q } (start N vs) H := by
  obtain ⟨β, S, ds, T, r, e, p⟩ := h
  unfold callF at p
  rw [hF] at p
  dsimp only at p
  unfold runF at p
  by_cases hg : (decide (ds.length = F.np) && decide (F.np ≤ F.ns)) = true
  · rw [if_pos hg] at p
    by_cases hp : F.pure = true
    · rw [if_pos hp] at p
      by_cases hf : D.frees ds = true
      · rw [if_pos hf] at p
        refine ⟨[], startE F ds, [], start_env (RVs.free ds vs hf r) hN, RS.nil, ?_⟩
        have done : ∀ (u : U) (S' : Sto), endR (exs ⟨pg, wf, callF pg wf n⟩ F.body (startE F ds) []) = .ok u S' → ∀ (v : V) (H' : Hp) (β' : List Addr), Nxt [] H β' H' → RS G β' H' S' → RU G β' H' u v → Fr H u v → Q v H' := fun u S' er v H' β' N' T' ru fr => by
          rw [er] at p
          dsimp only at p
          cases eo : outU S' u with
          | none => rw [eo] at p; exact p.elim
          | some u' =>
            rw [eo] at p
            obtain ⟨a1, a2, a3, a4⟩ := out_rel T N' T' ru fr eo
            exact p v H' β a1 a2 ⟨a3, a4⟩
        have fail : ∀ (c : Nat) (S' : Sto), endR (exs ⟨pg, wf, callF pg wf n⟩ F.body (startE F ds) []) = .exc c S' → ∀ (H' : Hp) (β' : List Addr), Nxt [] H β' H' → E (.ref (G.xa c)) none H' := fun c S' er H' β' N' => by
          rw [er] at p
          have keep : ∀ a o, H a = some o → H' a = some o := fun a o q => N'.keep a o q (by simp)
          have N2 : Nxt β H β H' := ⟨⟨[], by simp⟩, fun a o q _ => keep a o q, fun a o q => ⟨o, keep a o q⟩⟩
          refine p H' β N2 ⟨T.len, T.nd, fun n o a e1 e2 => ?_⟩
          have q := T.at_ n o a e1 e2
          refine RO.nxt T N2 q ?_
          rcases q.some with ⟨_, z⟩ | ⟨_, z⟩ | ⟨_, _, _, z⟩ <;> rw [keep a _ z, z]
        cases er : exs ⟨pg, wf, callF pg wf n⟩ F.body (startE F ds) [] with
        | go fl S' =>
          cases fl with
          | nx ρ' => exact fun σ' H' β' N' T' _ => done (.v .non) S' (by rw [er]; rfl) .non H' β' N' T' (by show RV G β' H' .non .non; unfold RV; rfl) trivial
          | rt u => exact fun v H' β' N' T' ru fr => done u S' (by rw [er]; rfl) v H' β' N' T' ru fr
          | bk ρ' => rw [er] at p; exact p.elim
          | ct ρ' => rw [er] at p; exact p.elim
        | exc c ρ' S' => exact fun σ' H' β' N' _ _ => fail c S' (by rw [er]; rfl) H' β' N'
        | stuck => rw [er] at p; exact p.elim
      · rw [if_neg hf] at p
        exact p.elim
    · rw [if_neg hp] at p
      refine ⟨β, startE F ds, S, start_env r hN, T, ?_⟩
      cases er : exs ⟨pg, wf, callF pg wf n⟩ F.body (startE F ds) S with
      | go fl S' =>
        rw [er] at p
        cases fl with
        | nx ρ' => exact fun σ' H' β' N' T' _ => p .non H' β' N' T' ⟨by show RV G β' H' .non .non; unfold RV; rfl, trivial⟩
        | rt u => exact fun v H' β' N' T' ru fr => p v H' β' N' T' ⟨ru, fr⟩
        | bk ρ' => exact p.elim
        | ct ρ' => exact p.elim
      | exc c ρ' S' =>
        rw [er] at p
        exact fun σ' H' β' N' T' _ => p H' β' N' T'
      | stuck => rw [er] at p; exact p.elim
  · rw [if_neg hg] at p
    exact p.elim
end
end Qc
end
section
set_option Elab.async false
set_option linter.all false
set_option maxHeartbeats 2000000
set_option pp.maxSteps 600
/-! The text of a def beside its core: a check, and what it means. -/
namespace Qc
open PySem PySem.Spec PyProof.Rows L2
/-- names: the slots of the def; the program's functions with their numbers of parameters, its exceptions, its constants -/
structure Gm where
  N : List Str
  fns : List (Str × Nat)
  exs : List Str
  gvs : List Str
def visB (sc : Scope) (x : Str) : Bool := match sc.names.lookup x with
  | some .local => true
  | some .cell => true
  | some .free => true
  | _ => false
def isLocal (sc : Scope) (x : Str) : Bool := match sc.names.lookup x with
  | some .local => true
  | _ => false
def locB (sc : Scope) (top : Bool) (x : Str) : Bool := match sc.names.lookup x with
  | some .local => true
  | some .cell => top
  | _ => false
def glB (sc : Scope) (x : Str) : Bool := match sc.names.lookup x with
  | some .globalImplicit => true
  | _ => false
def plainN (x : Str) : Bool := !(x == ("__debug__" : Str)) && !(x == ("__classdict__" : Str))
def litB : D → Const → Bool
  | .non, .none => true
  | .bl b, .bool c => b == c
  | .int i, .int j => decide (i = j)
  | .str x, .str y => decide (x = y)
  | _, _ => false
def bopB (o : Bop) (p : Operator) : Bool := match bopO o, p with
  | .Add, .Add => true
  | .Sub, .Sub => true
  | .Mult, .Mult => true
  | .Mod, .Mod => true
  | .FloorDiv, .FloorDiv => true
  | .Pow, .Pow => true
  | _, _ => false
theorem bopB_eq {o : Bop} {p : Operator} (h : bopB o p = true) : p = bopO o := by
  unfold bopB at h
  cases o <;> cases p <;> first | rfl | cases h
def copB (o : Cop) (p : CmpOp) : Bool := match copO o, p with
  | .Eq, .Eq => true
  | .NotEq, .NotEq => true
  | .Lt, .Lt => true
  | .LtE, .LtE => true
  | .Gt, .Gt => true
  | .GtE, .GtE => true
  | .Is, .Is => true
  | .IsNot, .IsNot => true
  | .In, .In => true
  | .NotIn, .NotIn => true
  | _, _ => false
theorem copB_eq {o : Cop} {p : CmpOp} (h : copB o p = true) : p = copO o := by
  unfold copB at h
  cases o <;> cases p <;> first | rfl | cases h
def b1N : B1 → Str
  | .len => "len" | .all => "all" | .any => "any" | .list => "list" | .tuple => "tuple" | .dict => "dict" | .set => "set" | .sorted => "sorted" | .max => "max" | .min => "min"
def b2N : B2 → Str
  | .max => "max" | .min => "min"
def m1N : M1 → Str
  | .append => "append" | .count => "count" | .index => "index"
def m2N : M2 → Str
  | .get => "get"
def tyN : Ty → Option Str
  | .int => some "int" | .bool => some "bool" | .str => some "str" | .tuple => some "tuple" | .list => some "list" | .dict => some "dict" | .valueError => some "ValueError"
  | _ => none
def bnames : List Str := ["len", "all", "any", "list", "tuple", "dict", "set", "sorted", "max", "min", "range", "isinstance", "int", "bool", "str", "ValueError"]
def tyB (Γ : Gm) (t : Ty) (x : Str) : Bool := match t with
  | .exc k => decide (Γ.exs[k]? = some x)
  | .cls _ => false
  | t => decide (tyN t = some x)
/-- the names of a target -/
def namesB (Γ : Gm) (sc : Scope) (top : Bool) : List Nat → List Expr → Bool
  | [], [] => true
  | i :: is, .Name x _ :: es => decide (Γ.N[i]? = some x) && locB sc top x && namesB Γ sc top is es
  | _, _ => false
def oneB (Γ : Gm) (sc : Scope) (top : Bool) (x : Str) : List Nat → Bool
  | [i] => decide (Γ.N[i]? = some x) && locB sc top x
  | _ => false
def tgB (Γ : Gm) (sc : Scope) (top : Bool) (is : List Nat) (one : Bool) : Expr → Bool
  | .Name x _ => one && oneB Γ sc top x is
  | .Tuple es _ _ => !one && namesB Γ sc top is es
  | _ => false
def isCmp : Expr → Bool
  | .Compare _ _ _ _ => true
  | _ => false
def notSetD : Expr → Bool
  | .Set _ _ _ => false
  | _ => true
theorem folded_of {e : Expr} (h : notSetD e = true) (env : PySem.Env) : ∀ x, foldedSetIterable e env x = pure x := by
  intro x
  cases e <;> first | rfl | cases h
def ownOf (Γ : Gm) (is : List Nat) : List (Str × Nat) := is.filterMap fun i => (Γ.N[i]?).map fun x => (x, i)
def freeMark (o : Cop) (e : Expr) : Bool := !(behindInMarks (copO o) e)
mutual
def chE (Γ : Gm) (sc : Scope) : E → Expr → Bool
  | .var i, .Name x _ => decide (Γ.N[i]? = some x) && visB sc x && plainN x
  | .lit d, .Constant k _ _ => litB d k
  | .gv g, .Name x _ => decide (Γ.gvs[g]? = some x) && glB sc x && plainN x
  | .tup es, .Tuple xs _ _ => chEs Γ sc es xs
  | .lst es, .List xs _ => chEs Γ sc es xs
  | .dic, .Dict [] [] _ => true
  | .bin o a b, .BinOp x p y _ => bopB o p && chE Γ sc a x && chE Γ sc b y
  | .cmp o a b, .Compare x [p] [y] _ => copB o p && freeMark o y && chE Γ sc a x && chE Γ sc b y
  | .chn o o' a b c, .Compare x [p, p'] [y, z] _ => copB o p && copB o' p' && freeMark o' z && chE Γ sc a x && chE Γ sc b y && chE Γ sc c z
  | .and es, .BoolOp .And xs _ => chBs Γ sc es xs
  | .or es, .BoolOp .Or xs _ => chBs Γ sc es xs
  | .not a, .UnaryOp .Not x _ => chE Γ sc a x
  | .ife t a b, .IfExp c x y _ => chT Γ sc t c && chE Γ sc a x && chE Γ sc b y
  | .ix a i, .Subscript x y _ => chE Γ sc a x && chE Γ sc i y && notSlice y
  | .call f es, .Call (.Name x _) (y :: ys) [] _ => decide (Γ.fns[f]? = some (x, (y :: ys).length)) && glB sc x && plainN x && chEs Γ sc es (y :: ys)
  | .isi a t, .Call (.Name x _) [y, .Name c _] [] _ => decide (x = "isinstance") && glB sc x && glB sc c && plainN c && tyB Γ t c && chE Γ sc a y && notStar y
  | .b1 o a, .Call (.Name x _) [y] [] _ => decide (x = b1N o) && glB sc x && chE Γ sc a y && notStar y
  | .b2 o a b, .Call (.Name x _) [y, z] [] _ => decide (x = b2N o) && glB sc x && chE Γ sc a y && chE Γ sc b z && notStar y && notStar z
  | .m1 o a b, .Call (.Attribute y m p) [z] [] q => decide (m = m1N o) && noSuper y && notStar z && (p.endLine == q.line) && chE Γ sc a y && chE Γ sc b z
  | .m2 o a b c, .Call (.Attribute y m p) [z, u] [] q => decide (m = m2N o) && noSuper y && notStar z && notStar u && (p.endLine == q.line) && chE Γ sc a y && chE Γ sc b z && chE Γ sc c u
  | .lc e is one it ts, .ListComp x [⟨t, i, cs, a⟩] scope _ => decide (a = 0) && tgB Γ (relS scope sc) false is one t && notSetD i && chI Γ sc it i && chC Γ (relS scope sc) ts cs && chE Γ (relS scope sc) e x && blkC Γ.N sc scope (ownOf Γ is) && decide ((ownOf Γ is).map (·.2) = is)
  | _, _ => false
/-- arguments -/
def chEs (Γ : Gm) (sc : Scope) : Es → List Expr → Bool
  | .nil, [] => true
  | .cons e es, x :: xs => notStar x && chE Γ sc e x && chEs Γ sc es xs
  | _, _ => false
/-- the parts of and, or: one at least -/
def chBs (Γ : Gm) (sc : Scope) : Es → List Expr → Bool
  | .cons e .nil, [x] => chE Γ sc e x
  | .cons e (.cons e' es), x :: y :: xs => chE Γ sc e x && chBs Γ sc (.cons e' es) (y :: xs)
  | _, _ => false
def chI (Γ : Gm) (sc : Scope) : It → Expr → Bool
  | .rng a, .Call (.Name x _) [y] [] _ => decide (x = "range") && glB sc x && chE Γ sc a y && notStar y
  | .rng2 a b, .Call (.Name x _) [y, z] [] _ => decide (x = "range") && glB sc x && chE Γ sc a y && chE Γ sc b z && notStar y && notStar z
  | .of a, x => chE Γ sc a x
  | _, _ => false
/-- the tests of a comprehension: none or one -/
def chC (Γ : Gm) (sc : Scope) : Ts → List Expr → Bool
  | .nil, [] => true
  | .cons t .nil, [x] => chT Γ sc t x
  | _, _ => false
def chT (Γ : Gm) (sc : Scope) : T → Expr → Bool
  | .of e, x => chE Γ sc e x && (plainT x || isCmp x)
  | .and ts, .BoolOp .And xs _ => chTs Γ sc ts xs
  | .or ts, .BoolOp .Or xs _ => chTs Γ sc ts xs
  | .not t, .UnaryOp .Not x _ => chT Γ sc t x
  | _, _ => false
def chTs (Γ : Gm) (sc : Scope) : Ts → List Expr → Bool
  | .cons t .nil, [x] => chT Γ sc t x
  | .cons t (.cons t' ts), x :: y :: xs => chT Γ sc t x && chTs Γ sc (.cons t' ts) (y :: xs)
  | _, _ => false
end
end Qc
end
section
set_option Elab.async false
set_option linter.all false
set_option maxHeartbeats 4000000
set_option pp.maxSteps 600
/-! What the check means: expressions. -/
namespace Qc
open PySem PySem.Spec PyProof.Rows L2
/-- a type as the module has it -/
def tyV (G : Gx) : Ty → Option (V × Value)
  | .exc k => some (.ref (G.xa k), .ref (G.xa k))
  | .int => some (.ty "int", .type "int")
  | .bool => some (.ty "bool", .type "bool")
  | .str => some (.ty "str", .type "str")
  | .tuple => some (.ty "tuple", .type "tuple")
  | .list => some (.ty "list", .type "list")
  | .dict => some (.ty "dict", .type "dict")
  | .valueError => some (.ty "ValueError", .type "ValueError")
  | .cls _ => none
def tyOk (pg : Pg) : Ty → Bool
  | .exc k => decide (k < pg.sup.length)
  | _ => true
/-- what stands behind the top -/
structure Wd (Γ : Gm) (pg : Pg) (wf n : Nat) (P : Program) (w : World) (K : PySem.W.Frag) (mg : Str → Option Value) (base : Heap) (G : Gx) : Prop where
  eK : G.K = K
  ew : G.w = w
  fn : ∀ (f : Nat) (x : Str) (np : Nat), Γ.fns[f]? = some (x, np) → ∃ fa fd ps, FnOk P w K mg base (L2.CX P w) n fa fd ps (spF pg wf G n f np) ∧ mg x = some (.ref fa) ∧ PySem.W.keepIn K (.ref fa) = true ∧ Binds K fd ps []
  gv : ∀ (g : Nat) (x : Str), Γ.gvs[g]? = some x → ∃ d v u, pg.gvs[g]? = some d ∧ mg x = some u ∧ RelV v u ∧ ∀ β H, RV G β H d v
  bl : ∀ x ∈ bnames, mg x = none
  ex : ∀ (c : Nat) (x : Str), Γ.exs[c]? = some x → mg x = some (.ref (G.xa c)) ∧ c < pg.sup.length ∧ PySem.W.keepIn K (.ref (G.xa c)) = true ∧ PySem.W.subIn K (.ref (G.xa c)) (.type "BaseException") = some true ∧ PySem.W.typeIn K (.ref (G.xa c)) = some (.type "type") ∧
    ∃ B newId initId bmB, ExcBaseFacts B newId initId bmB ∧ PySem.W.excIn K (G.xa c) bmB newId = true
  xc : ∀ c, c < pg.sup.length → ExcC K (G.xa c)
  is : ∀ t v tv, tyOk pg t = true → tyV G t = some (v, tv) → IsiF K G pg t tv
  xm : ∀ c c', c < Γ.exs.length → c' < pg.sup.length → PySem.W.exmOne K (.ref (G.xa c')) (.ref (G.xa c)) = some (isExn pg c' c)
structure Fx (Γ : Gm) (sc : Scope) (pg : Pg) (wf n : Nat) (G : Gx) (X : Cx) (W : WX) : Prop where
  wd : Wd Γ pg wf n X.prog X.w X.K X.mg X.base G
  hc : X.calm = true
  rm : Room n X.A
  hN : X.N = Γ.N
  nd : Γ.N.Nodup
  sc : X.env.scope = sc
  tk : Takes X W
section
variable {Γ : Gm} {sc : Scope} {pg : Pg} {wf n : Nat} {G : Gx} {X : Cx} {W : WX}
theorem Fx.eK (F : Fx Γ sc pg wf n G X W) : G.K = X.K := F.wd.eK
theorem Fx.hu (F : Fx Γ sc pg wf n G X W) : X.A.units + 64 < cLine := F.rm.units
theorem Fx.ix (F : Fx Γ sc pg wf n G X W) {i : Nat} {x : Str} (h : Γ.N[i]? = some x) : X.N[i]? = some x := by rw [F.hN]; exact h
theorem Fx.nd' (F : Fx Γ sc pg wf n G X W) : X.N.Nodup := by rw [F.hN]; exact F.nd
theorem Fx.vis (F : Fx Γ sc pg wf n G X W) {x : Str} (h : visB sc x = true) : Vis X.env.scope x := by
  rw [F.sc]
  unfold visB at h
  unfold Vis
  split at h
  · exact .inl (by assumption)
  · exact .inr (.inl (by assumption))
  · exact .inr (.inr (by assumption))
  · cases h
theorem Fx.gl (F : Fx Γ sc pg wf n G X W) {x : Str} (h : glB sc x = true) : Gl X x := by
  unfold glB at h
  show X.env.scope.names.lookup x = some .globalImplicit
  rw [F.sc]
  split at h
  · assumption
  · cases h
theorem plain_of {x : Str} (h : plainN x = true) : (x == ("__debug__" : Str)) = false ∧ (x == ("__classdict__" : Str)) = false := by
  unfold plainN at h
  rw [Bool.and_eq_true, Bool.not_eq_true', Bool.not_eq_true'] at h
  exact h
theorem takesF {Y : Cx} : Takes Y WF := fun _ _ h => by
  obtain ⟨a, B, sI, pins, σ, H, cls, d, _, _, _, _, _, _, _, _, w⟩ := h
  exact w.elim
/-- within a comprehension -/
theorem Fx.blk (F : Fx Γ sc pg wf n G X W) (s : Shared) (H : Hp) (C : Addr) (cl : List (Str × Addr)) (fp : List Addr) (scope : Scope) : Fx Γ (relS scope sc) pg wf n G (X.blk s H scope (compEnvC scope cl C X.env) fp) WF :=
  ⟨F.wd, F.hc, F.rm, F.hN, F.nd, by rw [← F.sc]; rfl, takesF⟩
/-- a class, named -/
theorem pe_class (F : Fx Γ sc pg wf n G X W) {t : Ty} {x : Str} {pos : Pos} (hg : glB sc x = true) (hp : plainN x = true) (h : tyB Γ t x = true) : ∃ v tv, PE X (.Name x pos) (tC v) ∧ ClsV v tv ∧ IsiF X.K G pg t tv := by
  have blt : ∀ (nm : String) (s : Str), tyN t = some s → tyV G t = some (.ty nm, .type nm) → s ∈ bnames → bootBuiltins s = some (.type nm) → s ≠ "__name__" → tyB Γ t x = decide (tyN t = some x) → tyOk pg t = true → ∃ v tv, PE X (.Name x pos) (tC v) ∧ ClsV v tv ∧ IsiF X.K G pg t tv := fun nm s e1 e2 e3 e4 e5 e6 e8 => by
    rw [e6] at h
    have e7 := of_decide_eq_true h
    rw [e1] at e7
    cases e7
    exact ⟨.ty nm, .type nm, pe_bltn (F.gl hg) (F.wd.bl _ e3) e4 rfl e5 (plain_of hp).1, .ty nm, F.wd.is t _ _ e8 e2⟩
  cases t with
  | int => exact blt "int" "int" rfl rfl (by decide) (by kernel_rfl) (by decide) rfl rfl
  | bool => exact blt "bool" "bool" rfl rfl (by decide) (by kernel_rfl) (by decide) rfl rfl
  | str => exact blt "str" "str" rfl rfl (by decide) (by kernel_rfl) (by decide) rfl rfl
  | tuple => exact blt "tuple" "tuple" rfl rfl (by decide) (by kernel_rfl) (by decide) rfl rfl
  | list => exact blt "list" "list" rfl rfl (by decide) (by kernel_rfl) (by decide) rfl rfl
  | dict => exact blt "dict" "dict" rfl rfl (by decide) (by kernel_rfl) (by decide) rfl rfl
  | valueError => exact blt "ValueError" "ValueError" rfl rfl (by decide) (by kernel_rfl) (by decide) rfl rfl
  | exc k =>
    have h : decide (Γ.exs[k]? = some x) = true := h
    obtain ⟨e1, e2, _⟩ := F.wd.ex k x (of_decide_eq_true h)
    exact ⟨.ref (G.xa k), .ref (G.xa k), pe_glob (F.gl hg) e1 rfl (plain_of hp).1, .own _, F.wd.is (.exc k) _ _ (decide_eq_true e2) rfl⟩
  | cls c => cases h
end
end Qc
end
section
set_option Elab.async false
set_option linter.all false
set_option maxHeartbeats 2000000
set_option pp.maxSteps 600
/-! Sets of tuples of any keys: what is asked of their members. -/
namespace Qc
open PySem PySem.Spec PyProof.Rows L2
section
variable {P : Program} {w : World}
theorem isT_typeIs {s : Shared} {a : Addr} {o : Obj} (ho : s.heap.get? a = some o) (hc : o.cls = .type "tuple") : s.TypeIs (.ref a) "tuple" := ⟨o, ho, hc⟩
mutual
/-- a key is of no class statement -/
theorem noClass_key : ∀ (k : NestedKey) (v : Value) (m : Nat) (s : Shared) (A : Around) (E : Value → Shared → Prop) (Q : Bool → Shared → Prop), NestedIs s.heap k v → k.depth ≤ m → Q false s → wpAny (model P w) A (ofAClassStatement m v) Q E s
  | .none, _, m, s, A, E, Q, x, _, q => by cases x; cases m <;> exact wpAny_pure q
  | .num i, _, m, s, A, E, Q, x, _, q => by cases x <;> cases m <;> exact wpAny_pure q
  | .text y, _, m, s, A, E, Q, x, _, q => by cases x; cases m <;> exact wpAny_pure q
  | .tup ks, _, m, s, A, E, Q, x, hm, q => by
    cases x with
    | @tup a o vs n _ hg hc hd hk =>
      have hm : NestedKey.depthAll ks + 1 ≤ m := hm
      cases m with
      | zero => omega
      | succ m =>
        unfold ofAClassStatement
        refine wpAny_bind (wpAny_typeOf (isT_typeIs hg hc) ?_)
        have e : (("tuple" : String) == "tuple") = true := by decide
        simp only [e, if_true, Bool.not_true, Bool.false_eq_true, if_false]
        try refine wpAny_bind (wpAny_pure ?_)
        try simp only [Bool.not_true, Bool.false_eq_true, if_false]
        refine wpAny_bind (wpAny_seqItems hg hd ?_)
        show wpAny _ _ ((forIn vs _ _) >>= _) _ _ s
        rw [← Array.forIn_toList]
        refine wpAny_bind (wpAny_mono (noClass_all ks vs.toList m s A E hk (by omega)) (fun r s' hr => ?_) (fun _ _ z => z))
        obtain ⟨rfl, hr⟩ := hr
        obtain ⟨r1, r2⟩ := r
        have hr : r1 = none := hr
        subst hr
        exact wpAny_pure q
theorem noClass_all : ∀ (ks : List NestedKey) (vs : List Value) (m : Nat) (s : Shared) (A : Around) (E : Value → Shared → Prop), NestedAll s.heap ks vs → NestedKey.depthAll ks ≤ m →
    wpAny (model P w) A (forIn vs (none, ()) fun y (__s : Option Bool × Unit) => do
      let __do_lift ← ofAClassStatement m y
      if __do_lift = true then pure (ForInStep.done (some true, ())) else pure (ForInStep.yield (none, ()))) (fun r s' => s' = s ∧ r.1 = none) E s
  | [], _, m, s, A, E, x, _ => by
    cases x
    rw [List.forIn_nil]
    exact wpAny_pure ⟨rfl, rfl⟩
  | k :: ks, _, m, s, A, E, x, hm => by
    cases x with
    | cons h1 h2 =>
      have hm : max k.depth (NestedKey.depthAll ks) ≤ m := hm
      rw [List.forIn_cons]
      refine wpAny_bind (wpAny_bind (noClass_key k _ m s A E _ h1 (by omega) ?_))
      simp only [Bool.false_eq_true, if_false]
      exact wpAny_pure (noClass_all ks _ m s A E h2 (by omega))
end
mutual
/-- whether a key is hashed by its value: answered, one way or the other -/
theorem hashed_key : ∀ (k : NestedKey) (v : Value) (m : Nat) (s : Shared) (A : Around) (E : Value → Shared → Prop) (Q : Bool → Shared → Prop), NestedIs s.heap k v → (∀ b, Q b s) → wpAny (model P w) A (hashByValue m v) Q E s
  | .none, _, m, s, A, E, Q, x, q => by cases x; cases m <;> exact wpAny_pure (q _)
  | .num i, _, m, s, A, E, Q, x, q => by cases x <;> cases m <;> exact wpAny_pure (q _)
  | .text y, _, m, s, A, E, Q, x, q => by cases x; cases m <;> exact wpAny_pure (q _)
  | .tup ks, _, m, s, A, E, Q, x, q => by
    cases x with
    | @tup a o vs n _ hg hc hd hk =>
      cases m with
      | zero => exact wpAny_pure (q _)
      | succ m =>
        unfold hashByValue
        refine wpAny_bind (wpAny_specialOf (isT_typeIs hg hc) F.slot_tuple_hash.lookup ?_)
        show wpAny _ _ (seqItems? (.ref a) >>= _) _ _ s
        refine wpAny_bind (wpAny_seqItems hg hd ?_)
        show wpAny _ _ ((forIn vs _ _) >>= _) _ _ s
        rw [← Array.forIn_toList]
        refine wpAny_bind (wpAny_mono (hashed_all ks vs.toList m s A E hk) (fun r s' hr => ?_) (fun _ _ z => z))
        subst hr
        obtain ⟨r1, r2⟩ := r
        cases r1 with
        | none => exact wpAny_pure (q _)
        | some b => exact wpAny_pure (q _)
theorem hashed_all : ∀ (ks : List NestedKey) (vs : List Value) (m : Nat) (s : Shared) (A : Around) (E : Value → Shared → Prop), NestedAll s.heap ks vs →
    wpAny (model P w) A (forIn vs (none, ()) fun y (__s : Option Bool × Unit) => do
      let __do_lift ← hashByValue m y
      if (!__do_lift) = true then pure (ForInStep.done (some false, ())) else pure (ForInStep.yield (none, ()))) (fun r s' => s' = s) E s
  | [], _, m, s, A, E, x => by
    cases x
    rw [List.forIn_nil]
    exact wpAny_pure rfl
  | k :: ks, _, m, s, A, E, x => by
    cases x with
    | cons h1 h2 =>
      rw [List.forIn_cons]
      refine wpAny_bind (wpAny_bind (hashed_key k _ m s A E _ h1 fun b => ?_))
      cases b with
      | true =>
        simp only [Bool.not_true, Bool.false_eq_true, if_false]
        exact wpAny_pure (hashed_all ks _ m s A E h2)
      | false =>
        simp only [Bool.not_false, if_true]
        exact wpAny_pure (wpAny_pure rfl)
end
/-- a search among keys shows nothing -/
theorem unseen {s : Shared} {A : Around} {E : Value → Shared → Prop} {k : NestedKey} {x : Value} {ys : List Value} {Q : Bool → Shared → Prop} (hk : KIs s.heap k x) (hy : ∀ y ∈ ys, ∃ k', KIs s.heap k' y) (q : Q false s) : wpAny (model P w) A (searchCouldBeSeen x ys) Q E s := by
  unfold searchCouldBeSeen
  refine wpAny_bind (wpAny_mono (wpAny_forIn_list _ (fun rest r s' => r.1 = none ∧ s' = s ∧ ∀ y ∈ rest, ∃ k', KIs s.heap k' y) (fun r s' => r.1 = none ∧ s' = s) (fun v rest r s' hI => ?_) (fun r s' hI => ⟨hI.1, hI.2.1⟩) _ _ ⟨rfl, rfl, hy⟩) (fun r s' hr => ?_) (fun _ _ z => z))
  · obtain ⟨hr, rfl, hall⟩ := hI
    obtain ⟨k', hv⟩ := hall v List.mem_cons_self
    have rest' : ∀ y ∈ rest, ∃ k', KIs s'.heap k' y := fun u hu => hall u (List.mem_cons_of_mem _ hu)
    dsimp only
    refine ite_wp (fun _ => wpAny_pure ⟨rfl, rfl, rest'⟩) fun _ => ?_
    refine wpAny_bind (quiet_of hk ?_)
    simp only [Bool.not_true, Bool.false_eq_true, if_false]
    refine wpAny_bind (quiet_of hv ?_)
    simp only [Bool.not_true, Bool.false_eq_true, if_false]
    refine wpAny_bind (noClass_key k x 8 s' A E _ hk.1 hk.2 ?_)
    simp only [Bool.false_eq_true, if_false]
    refine wpAny_bind (noClass_key k' v 8 s' A E _ hv.1 hv.2 ?_)
    simp only [Bool.false_eq_true, if_false]
    exact wpAny_pure ⟨rfl, rfl, rest'⟩
  · obtain ⟨hr, rfl⟩ := hr
    obtain ⟨r1, r2⟩ := r
    have hr : r1 = none := hr
    subst hr
    exact wpAny_pure q
end
end Qc
end
section
set_option Elab.async false
set_option linter.all false
set_option maxHeartbeats 2000000
set_option pp.maxSteps 600
/-! Sets of tuples of any keys: the search. -/
namespace Qc
open PySem PySem.Spec PyProof.Rows L2
abbrev Row := NestedKey × Value
def rowH (w : World) (p : Row) : Int × Value := (p.1.hash w, p.2)
/-- a set of tuples in the heap: its rows in the table's order -/
structure TS (w : World) (h : Heap) (a : Addr) (L : List Row) (es : Array (Int × Value)) (ep : Nat) (t : SetTable) : Prop where
  ob : ∃ o, h.get? a = some o ∧ o.ExactSet ∧ o.data = .set es ep t
  rows : es.toList = L.map (rowH w)
  tab : TabOk t (L.map fun p => p.1.hash w)
  nd : (L.map (·.1)).Nodup
  is : ∀ p ∈ L, KIs h p.1 p.2 ∧ ∃ b, p.2 = .ref b
  led : w.params.followText "set-order" = true ∨ t.led = true
  room : L.length * 5 < t.mask * 3
  few : L.length < 64
section
variable {P : Program} {w : World} {A : Around} {E : Value → Shared → Prop} {s : Shared} {a : Addr} {L : List Row} {es : Array (Int × Value)} {ep : Nat} {t : SetTable}
theorem TS.size {h : Heap} (R : TS w h a L es ep t) : es.size = L.length := by
  have e := congrArg List.length R.rows
  rw [List.length_map] at e
  rw [← e]
  exact (Array.length_toList).symm
theorem TS.fit {h : Heap} (R : TS w h a L es ep t) : t.fits es.size = true := by
  have h1 := R.tab.sz
  rw [List.length_map] at h1
  have h2 := R.size
  have h3 := R.room
  unfold SetTable.fits SetTable.fill
  rw [R.tab.dm, Bool.and_eq_true, beq_iff_eq, decide_eq_true_eq]
  refine ⟨h1.trans h2.symm, ?_⟩
  show t.place.size + 0 ≤ t.mask
  omega
theorem TS.row {h : Heap} (R : TS w h a L es ep t) {i : Nat} {p : Row} (e : L[i]? = some p) : es[i]? = some (rowH w p) := by
  rw [← Array.getElem?_toList, R.rows, List.getElem?_map, e]
  rfl
theorem TS.notGone {h : Heap} (R : TS w h a L es ep t) : ¬ t.gaveWay = true := fun z => by
  unfold SetTable.gaveWay at z
  rw [mask_odd R.tab.mok] at z
  exact absurd z (by decide)
theorem nth_clean (m : Nat) : ∀ (n : Nat) (p : SetTable.Probe), p.dummy = none → (nth m p n).dummy = none
  | 0, _, h => h
  | n + 1, p, h => nth_clean m n (adv m p) (by
      unfold adv
      split <;> exact h)
/-- the search among the rows, from a step c of the key's way on -/
theorem seek (R : TS w s.heap a L es ep t) {k : NestedKey} {x : Value} (hx : KIs s.heap k x) (hu : A.units + 8 < cLine) {K : Nat} (hKf : K < 10 * SetTable.turns t.mask) (hK : way t.mask (k.hash w) K ∉ t.place.toList) (hb : ∀ c, c < K → way t.mask (k.hash w) c ∈ t.place.toList) {Q : SetFound → Shared → Prop}
    (yes : k ∈ L.map (·.1) → Q (.there none) s) (no : k ∉ L.map (·.1) → Q (.free (way t.mask (k.hash w) K) false) s) : ∀ (f c : Nat) (st : Option SetTable.Probe), st.getD (t.probeStart (k.hash w)) = nth t.mask (runAt t.mask (SetTable.bits (k.hash w) % (t.mask + 1)) (SetTable.bits (k.hash w))) c → c ≤ K → K - c < f →
      (∀ (i : Nat) (p : Row), L[i]? = some p → p.1 = k → ∃ c', c ≤ c' ∧ c' < K ∧ t.place.toList[i]? = some (way t.mask (k.hash w) c')) → wpAny (model P w) A (setSearchFrom a x (k.hash w) true f st) Q E s
  | 0, _, _, _, _, hf, _ => absurd hf (Nat.not_lt_zero _)
  | f + 1, c, st, hst, hc, hf, hre => by
    obtain ⟨o, ho, hex, hd⟩ := R.ob
    rw [setSearchFrom_succ]
    refine wpAny_bind (wpAny_setState_of ho hd R.fit ?_)
    dsimp only
    refine wp_if_neg R.notGone ?_
    try refine wpAny_bind (wpAny_pure ?_)
    generalize hr0 : runAt t.mask (SetTable.bits (k.hash w) % (t.mask + 1)) (SetTable.bits (k.hash w)) = r0 at hst
    have wy : ∀ q, way t.mask (k.hash w) q = (nth t.mask r0 q).j := fun q => by rw [← hr0]
    have sh : ∀ q, nth t.mask (nth t.mask r0 c) q = nth t.mask r0 (c + q) := fun q => (nth_add t.mask c r0 q).symm
    have cl : (nth t.mask r0 c).dummy = none := nth_clean t.mask c r0 (by rw [← hr0]; rfl)
    have at_ : ∀ (i : Nat) (p : Row), L[i]? = some p → (es[i]?.map (·.1)).getD 0 = p.1.hash w := fun i p hp => by rw [R.row hp]; rfl
    have spec := go_spec t R.tab.ris R.tab.dm (fun i => (es[i]?.map (·.1)).getD 0) (k.hash w) (10 * SetTable.turns t.mask) (K - c) (nth t.mask r0 c) cl (by omega)
      (fun q hq => by rw [sh, ← wy]; exact hb (c + q) (by omega)) (by rw [sh, ← wy, show c + (K - c) = K by omega]; exact hK)
    rcases spec with ⟨q, i, hq, hi, hh, hno, hpr⟩ | ⟨hno, hpr⟩
    · have hpr' : t.probe (fun i => (es[i]?.map (·.1)).getD 0) (k.hash w) (st.getD (t.probeStart (k.hash w))) = some (.candidate (way t.mask (k.hash w) (c + q)) i (nth t.mask r0 (c + (q + 1)))) := by
        rw [hst, wy, ← sh, ← sh]
        exact hpr
      rw [hpr']
      dsimp only
      rw [sh, ← wy] at hi
      have hil : i < L.length := by
        have h1 : i < t.place.toList.length := (List.getElem?_eq_some_iff.mp hi).1
        have h2 := R.tab.sz
        rw [List.length_map] at h2
        rw [Array.length_toList] at h1
        omega
      obtain ⟨p, hp⟩ : ∃ p, L[i]? = some p := ⟨_, List.getElem?_eq_getElem hil⟩
      have hm : p ∈ L := List.mem_of_getElem? hp
      obtain ⟨hpk, b, hpb⟩ := R.is p hm
      have rest : wpAny (model P w) A (searchRest a x (k.hash w) true f es t (way t.mask (k.hash w) (c + q)) i (nth t.mask r0 (c + (q + 1)))) Q E s := by
        unfold searchRest
        rw [R.row hp]
        unfold rowH
        dsimp only
        refine wpAny_bind (wpAny_holding (eqAt_key p.1 k A s p.2 x hpk.1 hx.1 (by have := hx.2; omega) P w _ _ ?_))
        refine wpAny_bind (wpAny_setState_of ho hd R.fit ?_)
        dsimp only
        cases hq2 : NestedKey.beq p.1 k with
        | true =>
          refine wp_if_pos rfl ?_
          exact wpAny_pure (yes (List.mem_map.mpr ⟨p, hm, kbeq.mp hq2⟩))
        | false =>
          have hkk : p.1 ≠ k := fun e => by rw [kbeq.mpr e] at hq2; cases hq2
          refine wp_if_neg (by decide) ?_
          try refine wpAny_bind (wpAny_pure ?_)
          rw [sameMem]
          dsimp only
          have hsl : t.slot (way t.mask (k.hash w) (c + q)) = .live i := slot_live R.tab.ris hi
          have hrow : es[i]? = some (p.1.hash w, p.2) := R.row hp
          rw [hpb] at hrow
          simp only [if_true, hsl, hrow, hpb]
          refine wpAny_bind (wpAny_isSame_ref_self (wpAny_bind (wpAny_pure ?_)))
          simp only [if_true, Bool.false_eq_true, if_false]
          refine seek R hx hu hKf hK hb yes no f (c + (q + 1)) _ (by rw [hr0]; rfl) (by omega) (by omega) fun i0 p0 h0 hk0 => ?_
          obtain ⟨c', a1, a2, a3⟩ := hre i0 p0 h0 hk0
          refine ⟨c', ?_, a2, a3⟩
          rcases Nat.lt_trichotomy c' (c + q) with z | z | z
          · exact absurd ((at_ i0 p0 h0).trans (by rw [hk0])) (hno (c' - c) i0 (by omega) (by rw [sh, ← wy, show c + (c' - c) = c' by omega]; exact a3))
          · rw [z] at a3
            have s0 := slot_live R.tab.ris a3
            rw [hsl] at s0
            injection s0 with s0
            rw [← s0, hp] at h0
            cases h0
            exact absurd hk0 hkk
          · omega
      by_cases hl : t.led = true
      · refine wp_if_neg (by rw [hl]; decide) ?_
        try refine wpAny_bind (wpAny_pure ?_)
        exact rest
      · refine wp_if_pos (by rw [Bool.eq_false_iff.mpr hl]; rfl) ?_
        refine wpAny_bind (unseen hx (fun y hy => ?_) ?_)
        · obtain ⟨e, he, ee⟩ := List.mem_map.mp hy
          have he1 : e ∈ es ∧ e.1 = k.hash w := by simpa using he
          have he2 : e ∈ es.toList := by simpa using he1.1
          rw [R.rows] at he2
          obtain ⟨p2, hp2, e2⟩ := List.mem_map.mp he2
          refine ⟨p2.1, ?_⟩
          rw [← ee, ← e2]
          exact (R.is p2 hp2).1
        · refine wp_if_neg (by decide) ?_
          try refine wpAny_bind (wpAny_pure ?_)
          exact rest
    · have hpr' : t.probe (fun i => (es[i]?.map (·.1)).getD 0) (k.hash w) (st.getD (t.probeStart (k.hash w))) = some (.empty (way t.mask (k.hash w) K) none) := by
        have e2 : way t.mask (k.hash w) K = (nth t.mask (nth t.mask r0 c) (K - c)).j := by rw [sh, ← wy, show c + (K - c) = K by omega]
        rw [hst, e2]
        exact hpr
      rw [hpr']
      dsimp only
      refine wpAny_pure (no fun hm => ?_)
      obtain ⟨p0, h0, hk0⟩ := List.mem_map.mp hm
      obtain ⟨i0, h00⟩ := List.mem_iff_getElem?.mp h0
      obtain ⟨c', a1, a2, a3⟩ := hre i0 p0 h00 hk0
      exact hno (c' - c) i0 (by omega) (by rw [sh, ← wy, show c + (c' - c) = c' by omega]; exact a3) ((at_ i0 p0 h00).trans (by rw [hk0]))
end
end Qc
end
section
set_option Elab.async false
set_option linter.all false
set_option maxHeartbeats 2000000
set_option pp.maxSteps 600
/-! Sets of tuples of any keys: adding. -/
namespace Qc
open PySem PySem.Spec PyProof.Rows L2
section
variable {P : Program} {w : World} {A : Around} {E : Value → Shared → Prop} {s : Shared} {a : Addr} {L : List Row} {es : Array (Int × Value)} {ep : Nat} {t : SetTable}
/-- as adding asks for it -/
theorem seek_add (R : TS w s.heap a L es ep t) {k : NestedKey} {x : Value} (hx : KIs s.heap k x) (hu : A.units + 8 < cLine) {Q : SetFound → Shared → Prop} (yes : k ∈ L.map (·.1) → Q (.there none) s)
    (no : ∀ K, k ∉ L.map (·.1) → way t.mask (k.hash w) K ∉ t.place.toList → (∀ c, c < K → way t.mask (k.hash w) c ∈ t.place.toList) → Q (.free (way t.mask (k.hash w) K) false) s) : wpAny (model P w) A (setSearch a x (k.hash w) true) Q E s := by
  have hroom := R.room
  obtain ⟨K, hKf, hK, hb⟩ := R.tab.first (by rw [List.length_map]; omega) (k.hash w)
  have few : K < 100000 := by
    have : 10 * SetTable.turns t.mask ≤ 1420 := by
      unfold SetTable.turns
      rcases R.tab.mok with e | e | e <;> omega
    omega
  unfold setSearch
  refine seek R hx hu hKf hK hb yes (fun hn => no K hn hK hb) 100000 0 none rfl (Nat.zero_le _) (by omega) fun i p hp hk => ?_
  have hi : (L.map fun p => p.1.hash w)[i]? = some (k.hash w) := by rw [List.getElem?_map, hp, ← hk]; rfl
  have hil : i < t.place.toList.length := by
    have h1 := (List.getElem?_eq_some_iff.mp hp).1
    have h2 := R.tab.sz
    rw [List.length_map] at h2
    rw [Array.length_toList]
    omega
  obtain ⟨c, hc, e⟩ := R.tab.before hK hi (List.getElem?_eq_getElem hil)
  exact ⟨c, Nat.zero_le _, hc, by rw [List.getElem?_eq_getElem hil, e]⟩
/-- a key isn't the set -/
theorem KIs.other {h h' : Heap} {k : NestedKey} {v : Value} {o : Obj} (hk : KIs h k v) (ho : h.get? a = some o) (hd : o.data = .set es ep t) (hs : Heap.SameBut a h h') : KIs h' k v := by
  refine ⟨NestedIs.at (fun b ob vs n e hdat => (hs.2 b fun z => ?_).trans e) k v hk.1, hk.2⟩
  subst z
  rw [ho] at e
  cases e
  rw [hd] at hdat
  cases hdat
/-- the rows put in another order -/
theorem rows_order {order : Array Nat} (hr : es.toList = L.map (rowH w)) (hp : order.toList.Perm (List.range L.length)) : ∃ L2 : List Row, (order.filterMap (es[·]?)).toList = L2.map (rowH w) ∧ L2.Perm L ∧ (L2.map fun p => p.1.hash w) = order.toList.map fun i => (es.map (·.1)).getD i 0 := by
  have hsz : es.size = L.length := by
    have e := congrArg List.length hr
    rw [List.length_map, Array.length_toList] at e
    exact e
  have ent : ∀ i (p : Row), L[i]? = some p → es[i]? = some (rowH w p) := fun i p e => by
    rw [← Array.getElem?_toList, hr, List.getElem?_map, e]
    rfl
  have go : ∀ l : List Nat, (∀ i ∈ l, i < L.length) → ∃ L2 : List Row, l.filterMap (fun i => es[i]?) = L2.map (rowH w) ∧ L2 = l.filterMap (fun i => L[i]?) ∧ (L2.map fun p => p.1.hash w) = l.map fun i => (es.map (·.1)).getD i 0 := by
    intro l
    induction l with
    | nil => intro _; exact ⟨[], rfl, rfl, rfl⟩
    | cons i l ih =>
      intro hl
      have hi := hl i List.mem_cons_self
      obtain ⟨p, hp⟩ : ∃ p, L[i]? = some p := ⟨_, List.getElem?_eq_getElem hi⟩
      obtain ⟨L2, e1, e2, e3⟩ := ih fun j hj => hl j (List.mem_cons_of_mem _ hj)
      refine ⟨p :: L2, ?_, ?_, ?_⟩
      · rw [List.filterMap_cons_some (ent i p hp), e1, List.map_cons]
      · rw [List.filterMap_cons_some hp, e2]
      · rw [List.map_cons, List.map_cons, e3]
        have e5 : (es.map (·.1))[i]? = some (p.1.hash w) := by rw [Array.getElem?_map, ent i p hp]; rfl
        have e4 : (es.map (·.1)).getD i 0 = p.1.hash w := by simp [Array.getD_eq_getD_getElem?, e5]
        rw [e4]
  obtain ⟨L2, e1, e2, e3⟩ := go order.toList fun i hi => List.mem_range.mp (hp.mem_iff.mp hi)
  refine ⟨L2, by first | (rw [Array.toList_filterMap]; exact e1) | simpa using e1, ?_, e3⟩
  have all : ∀ m, m ≤ L.length → (List.range m).filterMap (fun i => L[i]?) = L.take m := by
    intro m
    induction m with
    | zero => intro _; rfl
    | succ m ih =>
      intro hm
      rw [List.range_succ, List.filterMap_append, ih (Nat.le_of_lt hm), List.take_succ, List.getElem?_eq_getElem hm, List.filterMap_cons_some (List.getElem?_eq_getElem hm)]
      rfl
  have h1 : L2.Perm ((List.range L.length).filterMap fun i => L[i]?) := by rw [e2]; exact hp.filterMap _
  rw [all L.length (Nat.le_refl _), List.take_length] at h1
  exact h1
theorem put_row (L : List Row) (p : Nat) (r : Row) : (L.take p ++ r :: L.drop p).Perm (r :: L) := by
  have h : (L.take p ++ r :: L.drop p).Perm (r :: (L.take p ++ L.drop p)) := List.perm_middle
  rw [List.take_append_drop] at h
  exact h
/-- the table is laid anew, larger -/
theorem relay {o : Obj} (ho : s.heap.get? a = some o) (hex : o.ExactSet) (hd : o.data = .set es ep t) (hr : es.toList = L.map (rowH w)) (hsz : t.place.size = es.size) (hdm : t.dummies = #[]) (hfl : es.size ≤ t.mask) (nd : (L.map (·.1)).Nodup) (is : ∀ p ∈ L, KIs s.heap p.1 p.2 ∧ ∃ b, p.2 = .ref b)
    (ld : w.params.followText "set-order" = true ∨ t.led = true) (few : L.length < 64) {wanted M : Nat} (hw : SetTable.sizeAbove wanted - 1 = M) (hM : MaskOk M) (hw2 : SetTable.sizeAbove wanted ≤ 128) (hn : L.length * 5 < M * 3) {Q : Unit → Shared → Prop}
    (hQ : ∀ h' L' es' ep' t', Heap.SameBut a s.heap h' → TS w h' a L' es' ep' t' → L'.Perm L → Q () { s with heap := h' }) : wpAny (model P w) A (setRelay a wanted) Q E s := by
  have hsl : es.size = L.length := by
    have e := congrArg List.length hr
    rw [List.length_map, Array.length_toList] at e
    exact e
  have hfits : t.fits es.size = true := by
    unfold SetTable.fits SetTable.fill
    rw [hdm, Bool.and_eq_true, beq_iff_eq, decide_eq_true_eq]
    refine ⟨hsz, ?_⟩
    show t.place.size + 0 ≤ t.mask
    omega
  obtain ⟨t', order, e, hp, T, em, el, _, _⟩ := relaid_ok t (hs := es.map (·.1)) (wanted := wanted) hw hM (by rw [Array.size_map, hsl]; omega)
  rw [Array.size_map, hsl] at hp
  obtain ⟨L2, r1, r2, r3⟩ := rows_order hr hp
  rw [← r3] at T
  have hs2 : (order.filterMap (es[·]?)).size = es.size := by
    have e := congrArg List.length r1
    rw [List.length_map, Array.length_toList, r2.length_eq] at e
    rw [e, hsl]
  rw [setRelay_eq]
  refine wpAny_bind (wpAny_setState_of ho hd hfits ?_)
  dsimp only
  refine wp_if_neg (by rw [sizeLine_eq]; omega) ?_
  try refine wpAny_bind (wpAny_pure ?_)
  rw [e]
  dsimp only
  refine wpAny_bind (wp_if_neg (by rw [hs2]; simp) ?_)
  try refine wpAny_bind (wpAny_pure ?_)
  refine wpAny_pure ?_
  dsimp only
  refine wpAny_storeSet_of ho hd ?_ (by rw [hs2, hsl, sizeLine_eq]; omega)
  have sb : Heap.SameBut a s.heap (s.heap.update a (Obj.putSet (order.filterMap (es[·]?)) t')) := Heap.SameBut.update ..
  refine hQ _ L2 (order.filterMap (es[·]?)) (ep + 1) t' sb ⟨⟨_, store_at ho hd, ⟨hex.1, hex.2.1, hex.2.2⟩, rfl⟩, r1, T, (r2.map (·.1)).nodup_iff.mpr nd, fun p hpm => ?_, by rw [el]; exact ld, by rw [r2.length_eq, em]; exact hn, by rw [r2.length_eq]; exact few⟩ r2
  obtain ⟨h1, h2⟩ := is p (r2.mem_iff.mp hpm)
  exact ⟨KIs.other h1 ho hd sb, h2⟩
/-- a member more, or none -/
theorem add_key (R : TS w s.heap a L es ep t) {k : NestedKey} {x : Value} {bx : Addr} (hx : KIs s.heap k x) (ex : x = .ref bx) (hu : A.units + 8 < cLine) (few : L.length + 1 < 64) {Q : Bool → Shared → Prop}
    (hQ : ∀ b h' L' es' ep' t', Heap.SameBut a s.heap h' → TS w h' a L' es' ep' t' → (k ∈ L.map (·.1) → L' = L) → (k ∉ L.map (·.1) → L'.Perm ((k, x) :: L)) → Q b { s with heap := h' }) : wpAny (model P w) A (setAddHashed a x (k.hash w)) Q E s := by
  obtain ⟨o, ho, hex, hd⟩ := R.ob
  have hsl := R.size
  have hroom := R.room
  unfold setAddHashed
  refine wpAny_holding ?_
  rw [show (100000 : Nat) = 99999 + 1 from rfl, setAddHashedIn_succ]
  refine wpAny_bind (wpAny_setState_of ho hd R.fit ?_)
  dsimp only
  refine wp_if_neg (by rw [ex]; simp [byScan, Value.scannable]) ?_
  try refine wpAny_bind (wpAny_pure ?_)
  refine wpAny_bind (seek_add R hx hu (fun hm => ?_) fun K hm hK hb => ?_)
  · dsimp only
    exact wpAny_pure (hQ false s.heap L es ep t (Heap.SameBut.refl a s.heap) R (fun _ => rfl) fun z => absurd hm z)
  · dsimp only
    refine wpAny_bind (wpAny_setState_of ho hd R.fit ?_)
    dsimp only
    obtain ⟨q1, q2, q3, q4, q5, q6, q7, q8, q9⟩ := R.tab.put hK hb
    generalize hpt : t.put (way t.mask (k.hash w) K) = pt at q1 q3 q4 q5 q6 q7 q8 q9 ⊢
    obtain ⟨t1, p⟩ := pt
    dsimp only at q1 q3 q4 q5 q6 q7 q8 q9 ⊢
    subst q1
    have hin : (SetTable.insertAt es (SetTable.below t.place (way t.mask (k.hash w) K)) (k.hash w, x)).toList = (L.take (SetTable.below t.place (way t.mask (k.hash w) K)) ++ (k, x) :: L.drop (SetTable.below t.place (way t.mask (k.hash w) K))).map (rowH w) := by
      rw [SetTable.toList_insertAt, R.rows, List.map_append, List.map_cons, List.map_take, List.map_drop]
      rfl
    generalize hpp : SetTable.below t.place (way t.mask (k.hash w) K) = p at q2 q3 hin ⊢
    have pm := put_row L p (k, x)
    have hlen : (L.take p ++ (k, x) :: L.drop p).length = L.length + 1 := pm.length_eq
    have hhs : (L.take p ++ (k, x) :: L.drop p).map (fun p => p.1.hash w) = (L.map fun p => p.1.hash w).take p ++ k.hash w :: (L.map fun p => p.1.hash w).drop p := by
      rw [List.map_append, List.map_cons, List.map_take, List.map_drop]
    rw [← hhs] at q3
    have nd1 : ((L.take p ++ (k, x) :: L.drop p).map (·.1)).Nodup := by
      refine (pm.map (·.1)).nodup_iff.mpr ?_
      rw [List.map_cons]
      exact List.nodup_cons.mpr ⟨hm, R.nd⟩
    have hes : (SetTable.insertAt es p (k.hash w, x)).size = L.length + 1 := by
      have e := congrArg List.length hin
      rw [List.length_map, Array.length_toList, hlen] at e
      exact e
    generalize SetTable.insertAt es p (k.hash w, x) = es1 at hin hes ⊢
    generalize L.take p ++ (k, x) :: L.drop p = L1 at pm hlen q3 nd1 hin
    -- whichever way the table is marked
    have done : ∀ t2 : SetTable, t2.place = t1.place → t2.dummies = t1.dummies → t2.mask = t1.mask → t2.led = t1.led → t2.fill = t1.fill → TabOk t2 (L1.map fun p => p.1.hash w) →
        wpAny (model P w) A (do
          storeSet a es1 t2
          if (!false && t2.tooFull) = true then setRelay a (SetTable.grown (es.size + 1))
          return true) Q E s := fun t2 d1 d2 d3 d4 d5 q3 => by
      refine wpAny_bind (wpAny_storeSet_of ho hd ?_ (by rw [hes, sizeLine_eq]; omega))
      have sb : Heap.SameBut a s.heap (s.heap.update a (Obj.putSet es1 t2)) := Heap.SameBut.update ..
      have ho1 := store_at (es' := es1) (t' := t2) ho hd
      generalize s.heap.update a (Obj.putSet es1 t2) = h1 at sb ho1 ⊢
      have is1 : ∀ p ∈ L1, KIs h1 p.1 p.2 ∧ ∃ b, p.2 = .ref b := fun p hp => by
        rcases List.mem_cons.mp (pm.mem_iff.mp hp) with e | hp
        · rw [e]; exact ⟨KIs.other hx ho hd sb, bx, ex⟩
        · obtain ⟨h1, h2⟩ := R.is p hp
          exact ⟨KIs.other h1 ho hd sb, h2⟩
      have ld1 : w.params.followText "set-order" = true ∨ t2.led = true := by rw [d4, q5]; exact R.led
      have dm2 : t2.mask = t.mask := d3.trans q4
      by_cases hf : t2.tooFull = true
      · first
          | (refine wpAny_bind ?_; refine wp_if_pos (by simp [hf]) ?_)
          | (refine wp_if_pos (by simp [hf]) ?_; refine wpAny_bind ?_)
        have hfull : (L.length + 1) * 5 ≥ t2.mask * 3 := by
          have h := hf
          unfold SetTable.tooFull at h
          rw [decide_eq_true_eq, d5, q9, List.length_map] at h
          exact h
        rw [hsl]
        have hsz1 : t2.place.size = es1.size := by
          have h := q3.sz
          rw [List.length_map, hlen] at h
          rw [h, hes]
        have two : (t.mask = 7 ∧ L.length = 4) ∨ (t.mask = 31 ∧ L.length = 18) := by
          rcases R.tab.mok with e | e | e
          · left; rw [dm2, e] at hfull; rw [e] at hroom; exact ⟨e, by omega⟩
          · right; rw [dm2, e] at hfull; rw [e] at hroom; exact ⟨e, by omega⟩
          · exfalso; rw [dm2, e] at hfull; omega
        have go : ∀ M, SetTable.sizeAbove (SetTable.grown (L.length + 1)) - 1 = M → MaskOk M → SetTable.sizeAbove (SetTable.grown (L.length + 1)) ≤ 128 → (L.length + 1) * 5 < M * 3 →
            wpAny (model P w) A (setRelay a (SetTable.grown (L.length + 1))) (fun _ s' => wpAny (model P w) A (pure true) Q E s') E { s with heap := h1 } := fun M g1 g2 g3 g4 => by
          refine relay (s := { s with heap := h1 }) ho1 ⟨hex.1, hex.2.1, hex.2.2⟩ rfl hin hsz1 q3.dm (by rw [hes, dm2]; rcases two with ⟨e, e2⟩ | ⟨e, e2⟩ <;> omega) nd1 is1 ld1 (by rw [hlen]; exact few) g1 g2 g3 (by rw [hlen]; exact g4) ?_
          intro h2 L2 es2 ep2 t3 sb2 R2 pm2
          exact wpAny_pure (hQ true h2 L2 es2 ep2 t3 (sb.trans sb2) R2 (fun z => absurd z hm) fun _ => pm2.trans pm)
        rcases two with ⟨_, e2⟩ | ⟨_, e2⟩
        · exact go 31 (by rw [e2, size_20]) (.inr (.inl rfl)) (by rw [e2, size_20]; decide) (by omega)
        · exact go 127 (by rw [e2, size_76]) (.inr (.inr rfl)) (by rw [e2, size_76]; decide) (by omega)
      · first
          | refine wp_if_neg (by simp [hf]) ?_
          | (refine wpAny_bind ?_; refine wp_if_neg (by simp [hf]) ?_; refine wpAny_pure ?_)
        refine wpAny_pure (hQ true h1 L1 es1 (ep + 1) t2 sb ⟨⟨_, ho1, ⟨hex.1, hex.2.1, hex.2.2⟩, rfl⟩, hin, q3, nd1, is1, ld1, ?_, by rw [hlen]; exact few⟩ (fun z => absurd z hm) fun _ => pm)
        have h := hf
        unfold SetTable.tooFull at h
        rw [decide_eq_true_eq, d5, q9, List.length_map] at h
        rw [hlen]
        omega
    have unplain : ∀ q3 : TabOk t1 (L1.map fun p => p.1.hash w), TabOk { t1 with plain := false } (L1.map fun p => p.1.hash w) := fun q => ⟨q.ris, q.dm, q.sz, q.mok, q.bd, q.reach⟩
    have both : ∀ b : Bool, wpAny (model P w) A (do
          storeSet a es1 (if b = true then t1 else { t1 with plain := false })
          if (!false && (if b = true then t1 else { t1 with plain := false }).tooFull) = true then setRelay a (SetTable.grown (es.size + 1))
          return true) Q E s := fun b => by
      cases b with
      | true => exact done t1 rfl rfl rfl rfl rfl q3
      | false => exact done { t1 with plain := false } rfl rfl rfl rfl rfl (unplain q3)
    first
      | exact wpAny_bind (ite_wp (fun _ => hashed_key k x 8 s A E _ hx.1 both) fun _ => wpAny_pure (both true))
      | exact ite_wp (fun _ => wpAny_bind (hashed_key k x 8 s A E _ hx.1 both)) fun _ => wpAny_bind (wpAny_pure (both true))
end
end Qc
end
section
set_option Elab.async false
set_option linter.all false
set_option maxHeartbeats 4000000
set_option maxRecDepth 100000
set_option pp.maxSteps 600
/-! set(a list or a tuple): the walk, whatever the members are. -/
namespace Qc
open PySem PySem.Spec PyProof.Rows L2
section
variable {P : Program} {w : World} {A : Around} {E : Value → Shared → Prop} {s : Shared}
/-- each item of the source is added: Tab i is what the set has got from the first i -/
structure AddsTo (P : Program) (w : World) (A : Around) (S : Addr) (h0 : Heap) (n : Nat) (Pv : Nat → Value → Prop) (Tab : Nat → Heap → Prop) : Prop where
  keep : ∀ i h h', i ≤ n → Tab i h → (∀ o, h.get? S = some o → h'.get? S = some o) → (∀ b o, h0.get? b = some o → h'.get? b = some o) → Tab i h'
  step : ∀ (i : Nat) (v : Value) (s : Shared) (Q : Bool → Shared → Prop) (E : Value → Shared → Prop), i < n → Pv i v → Tab i s.heap → (∀ b o, h0.get? b = some o → s.heap.get? b = some o) →
    (∀ b h' tk, s.toks ≤ tk → Tab (i + 1) h' → Heap.SameBut S s.heap h' → Q b { s with heap := h', toks := tk }) → wpAny (model P w) A (setAdd S v) Q E s
theorem adds_loop {I : Addr} {fp wr : List Addr} {G : Array GenState → Array GenState → Prop} {n : Nat} {Pv : Nat → Value → Prop} {St : Nat → Shared → Prop} {R : Result → Shared → Prop} {S : Addr} {h0 : Heap} {Tab : Nat → Heap → Prop}
    (W : WalksS P w A.in1 I fp wr G n Pv St) (Ad : AddsTo P w A.in1 S h0 n Pv Tab) (hSf : S ∉ fp) (hS0 : h0.get? S = none) (hw0 : ∀ b ∈ wr, h0.get? b = none) : ∀ (k i : Nat) (s : Shared), n - i = k → i ≤ n → St i s → (∀ b o, h0.get? b = some o → s.heap.get? b = some o) → Tab i s.heap →
      (∀ s', Moved (S :: wr) G s s' → Tab n s'.heap → (∀ b o, h0.get? b = some o → s'.heap.get? b = some o) → R (.ok (.ret .none)) s') → codeAny (model P w) A (.builtin "set.update.loop" ⟨[.ref S, .ref I], []⟩) R s := by
  have offw : S ∉ wr := fun h => hSf (W.sub _ h)
  have wider : ∀ b ∈ wr, b ∈ S :: wr := fun b hb => List.mem_cons_of_mem _ hb
  have still : ∀ {s s' : Shared}, Moved wr G s s' → (∀ b o, h0.get? b = some o → s.heap.get? b = some o) → ∀ b o, h0.get? b = some o → s'.heap.get? b = some o := fun hm hk b o e => hm.heap b o (fun hb => by rw [hw0 b hb] at e; cases e) (hk b o e)
  intro k
  induction k with
  | zero =>
    intro i s hk hi hst hkp tab hR
    have hin : i = n := by omega
    subst hin
    refine codeAny_builtin F.entry_set_update_loop ?_
    rw [Around.under_plainId F.plain_set_update_loop _]
    show wpAny _ A.in1 (pyNext (.ref I) >>= _) _ _ s
    refine wpAny_bind (W.done s _ _ hst fun s' hm => ?_)
    have hkp' := still hm hkp
    exact wpAny_pure (hR s' (hm.mono wider) (Ad.keep i _ _ (Nat.le_refl _) tab (fun o e => hm.heap S o offw e) hkp') hkp')
  | succ k ih =>
    intro i s hk hi hst hkp tab hR
    have hlt : i < n := by omega
    refine codeAny_builtin F.entry_set_update_loop ?_
    rw [Around.under_plainId F.plain_set_update_loop _]
    show wpAny _ A.in1 (pyNext (.ref I) >>= _) _ _ s
    refine wpAny_bind (W.item i s _ _ hlt hst fun v s' hP hst' hm => ?_)
    have hkp' := still hm hkp
    have tab' := Ad.keep i _ _ hi tab (fun o e => hm.heap S o offw e) hkp'
    show wpAny _ A.in1 (holding [v] (setAdd S v) >>= _) _ _ s'
    refine wpAny_bind (wpAny_holding (Ad.step i v s' _ _ hlt hP tab' hkp' fun b h' tk htk tab2 hsb => ?_))
    have hkp2 : ∀ b o, h0.get? b = some o → h'.get? b = some o := fun b o e => (hsb.2 b (fun z => by rw [z, hS0] at e; cases e)).trans (hkp' b o e)
    refine wpAny_pure ⟨plainId_quiet F.plain_set_update_loop _, ih (i + 1) _ (by omega) hlt (W.frame _ s' _ _ hst' htk fun b hb o e => ?_) hkp2 tab2 fun s'' hm'' tab3 hkp'' => ?_⟩
    · rw [hsb.2 b (fun h : b = S => hSf (by rw [← h]; exact hb))]; exact e
    · refine hR s'' (Moved.trans W.gtrans ((hm.mono wider).then_heap htk fun b o hb e => ?_) hm'') tab3 hkp''
      rw [hsb.2 b (fun h : b = S => hb (by rw [h]; exact List.mem_cons_self))]; exact e
abbrev freshSet (w : World) : Obj := { cls := .type "set", dict := none, data := .set #[] 0 (.fresh 0 0 (!w.params.followText "set-order")) }
theorem call_set_any {l : Addr} {items : Array Value} {Tab : Nat → Heap → Prop} {Q : Value → Shared → Prop} (hh : A.handled = none) (hl : s.heap.IsList l items ∨ s.heap.IsTuple l items)
    (h0 : ∀ h : Heap, h.get? s.heap.objs.size = some (freshSet w) → (∀ b o, s.heap.get? b = some o → h.get? b = some o) → Tab 0 h) (Ad : AddsTo P w A.in1.in1.in1 s.heap.objs.size s.heap items.size (fun i v => items[i]? = some v) Tab)
    (h : ∀ (h' : Heap) (tk : Nat), Tab items.size h' → (∀ b o, s.heap.get? b = some o → h'.get? b = some o) → Q (.ref s.heap.objs.size) { s with heap := h', toks := tk }) : wpAny (model P w) A (call (.type "set") [.ref l]) Q E s := by
  obtain ⟨c, tl, hmro⟩ := F.called_set.mro
  have made := F.called_set.made
  have sub := F.called_set.sub
  refine wpAny_call (codeAny_of_tree ?_)
  show wpAny _ _ (callAny (.type "set") _) _ _ _
  refine wpAny_pure ⟨Code.quiet_builtin _ (by decide +kernel), codeAny_builtin F.entry_type_call ?_⟩
  rw [Around.under_plain (weight_type_call_type "set" [.ref l] []) rfl]
  have n1 := F.called_set.notType
  have n2 := F.called_set.canCreate
  have n3 := F.typeCall_set_1 (.ref l)
  repeat (any_goals (first | assumption | wp_step))
  refine codeAny_mono (code_set_led1 (.ref l) (E := E) (Q₁ := fun obj s₁ => obj = .ref s.heap.objs.size ∧ s₁ = { s with heap := s.heap.push (freshSet w) }) ⟨rfl, rfl⟩) fun r s₁ hr => ?_
  cases r with
  | error e => exact hr
  | ok fl =>
    cases fl with
    | ret obj =>
      obtain ⟨rfl, rfl⟩ := hr
      have hS : (s.heap.push (freshSet w)).get? s.heap.objs.size = some (freshSet w) := Heap.get?_push_size _ rfl
      have hT : Shared.TypeIs { s with heap := s.heap.push (freshSet w) } (.ref s.heap.objs.size) "set" := ⟨_, hS, rfl⟩
      have n4 := F.called_set.init.lookup
      have n5 := F.called_set.init.bind (.ref s.heap.objs.size)
      repeat (any_goals (first | assumption | wp_step))
      refine codeAny_mono (codeAny_call_builtin (R := wants (fun r s₂ => r = .none ∧ ∃ h' tk, s₂ = { s with heap := h', toks := tk } ∧ Tab items.size h' ∧ (∀ b o, s.heap.get? b = some o → h'.get? b = some o)) E) F.called_set.init.plain F.entry_set_init (check_set_init_1 hT ?_)) fun r₂ s₂ hr₂ => ?_
      · have none_of : ∀ b, s.heap.objs.size ≤ b → s.heap.get? b = none := fun b hb => by
          cases q : s.heap.get? b with
          | none => rfl
          | some o => exact absurd (Nat.lt_of_lt_of_le (Heap.lt_size q) hb) (Nat.lt_irrefl _)
        have hh3 : A.in1.in1.in1.handled = none := by simp [hh]
        have lt_of : ∀ o, s.heap.get? l = some o → l < s.heap.objs.size := fun o e => Heap.lt_size e
        have fin : ∀ (I : Addr) (wr : List Addr), I = (s.heap.push (freshSet w)).objs.size → ∀ s', Moved (s.heap.objs.size :: wr) (fun g g' => g' = g) { s with heap := s.heap.push (freshSet w) } s' → True := fun _ _ _ _ _ => trivial
        rcases hl with hl | hl
        all_goals
          obtain ⟨ol, hol, hcl, nl, hdl⟩ := hl
          obtain ⟨ocls, odict, odata, oslots⟩ := ol
          simp only at hcl hdl
          subst hcl; subst hdl
          have hol' := Heap.get?_push_of_some (h := s.heap) (freshSet w) hol
          have hlS : l < s.heap.objs.size := Heap.lt_size hol
          have hneI : l ≠ (s.heap.push (freshSet w)).objs.size := by
            rw [Heap.size_push]; exact Nat.ne_of_lt (Nat.lt_succ_of_lt hlS)
          have hSf : s.heap.objs.size ∉ [(s.heap.push (freshSet w)).objs.size, l] := by
            rw [Heap.size_push]
            intro z
            rcases List.mem_cons.mp z with z | z
            · exact absurd z (Nat.ne_of_lt (Nat.lt_succ_self _))
            · exact absurd (List.mem_singleton.mp z) (Nat.ne_of_gt hlS)
        · have s1 := F.sub_list_set
          have s2 := F.sub_list_frozenset
          have s3 : (Value.type "list" == Value.type "dict") = false := by decide
          have hl1 : (s.heap.push (freshSet w)).IsList l items := ⟨_, hol', rfl, nl, rfl⟩
          unfold Builtin.«set.__init__» noKeywords Builtin.Frozenset.updateFrom
          generalize hPI : pyIter = PI
          wp_walk
          subst hPI
          refine wpAny_pyIter_list hl1 (wpAny_bind (wpAny_runValue ?_))
          refine adds_loop ((Walks.list hh3 _ l hneI items).toS) Ad hSf (none_of _ (Nat.le_refl _)) (fun b hb => none_of b (by rw [List.mem_singleton.mp hb, Heap.size_push]; exact Nat.le_succ _)) (items.size - 0) 0 _ (by omega) (Nat.zero_le _) ⟨⟨_, Heap.get?_push_size _ rfl, rfl, rfl⟩, (hl1.push _)⟩
            (fun b o e => Heap.get?_push_of_some _ (Heap.get?_push_of_some _ e)) (h0 _ (Heap.get?_push_of_some _ hS) fun b o e => Heap.get?_push_of_some _ (Heap.get?_push_of_some _ e)) fun s' hm tab hkp => ?_
          obtain ⟨h', g2, d', tk', os'⟩ := s'
          have eg : g2 = s.gens := hm.gens
          have ed : d' = s.drawn := hm.drawn
          have eo : os' = s.os := hm.os
          subst eg; subst ed; subst eo
          show wpAny _ _ _ _ _ _
          refine wpAny_pure ?_
          show wpAny _ _ (ret Value.none) _ _ _
          exact wpAny_pure ⟨rfl, h', tk', rfl, tab, hkp⟩
        · have s1 := F.sub_tuple_set
          have s2 := F.sub_tuple_frozenset
          have s3 : (Value.type "tuple" == Value.type "dict") = false := by decide
          have hl1 : (s.heap.push (freshSet w)).IsTuple l items := ⟨_, hol', rfl, nl, rfl⟩
          unfold Builtin.«set.__init__» noKeywords Builtin.Frozenset.updateFrom
          generalize hPI : pyIter = PI
          wp_walk
          subst hPI
          refine wpAny_pyIter_tuple hl1 (wpAny_bind (wpAny_runValue ?_))
          refine adds_loop ((Walks.tuple hh3 _ l hneI items).toS) Ad hSf (none_of _ (Nat.le_refl _)) (fun b hb => none_of b (by rw [List.mem_singleton.mp hb, Heap.size_push]; exact Nat.le_succ _)) (items.size - 0) 0 _ (by omega) (Nat.zero_le _) ⟨⟨_, Heap.get?_push_size _ rfl, rfl, rfl⟩, (hl1.push _)⟩
            (fun b o e => Heap.get?_push_of_some _ (Heap.get?_push_of_some _ e)) (h0 _ (Heap.get?_push_of_some _ hS) fun b o e => Heap.get?_push_of_some _ (Heap.get?_push_of_some _ e)) fun s' hm tab hkp => ?_
          obtain ⟨h', g2, d', tk', os'⟩ := s'
          have eg : g2 = s.gens := hm.gens
          have ed : d' = s.drawn := hm.drawn
          have eo : os' = s.os := hm.os
          subst eg; subst ed; subst eo
          show wpAny _ _ _ _ _ _
          refine wpAny_pure ?_
          show wpAny _ _ (ret Value.none) _ _ _
          exact wpAny_pure ⟨rfl, h', tk', rfl, tab, hkp⟩
      · cases r₂ with
        | error e => exact hr₂
        | ok fl₂ =>
          cases fl₂ with
          | ret r =>
            obtain ⟨rfl, h', tk, rfl, tab, hkp⟩ := hr₂
            repeat (any_goals (first | assumption | wp_step))
            exact h _ _ tab hkp
          | _ => exact hr₂.elim
    | _ => exact hr.elim
end
end Qc
end
section
set_option Elab.async false
set_option linter.all false
set_option maxHeartbeats 4000000
set_option pp.maxSteps 600
/-! set(x) in the core language. -/
namespace Qc
open PySem PySem.Spec PyProof.Rows L2
/-- an item with its key and its values -/
abbrev Q4 := NestedKey × D × V × Value
def addT (acc : List Q4) (r : Q4) : List Q4 := if (acc.any fun p => NestedKey.beq p.1 r.1) = true then acc else acc ++ [r]
def fT (l : List Q4) : List Q4 := l.foldl addT []
theorem fT_snoc (l : List Q4) (r : Q4) : fT (l ++ [r]) = addT (fT l) r := by unfold fT; rw [List.foldl_append]; rfl
theorem any_key {acc : List Q4} {k : NestedKey} : (acc.any fun p => NestedKey.beq p.1 k) = true ↔ k ∈ acc.map (·.1) := by
  rw [List.any_eq_true, List.mem_map]
  constructor
  · rintro ⟨p, h1, h2⟩
    exact ⟨p, h1, kbeq.mp h2⟩
  · rintro ⟨p, h1, h2⟩
    exact ⟨p, h1, kbeq.mpr h2⟩
theorem addT_facts {acc : List Q4} {r : Q4} (nd : (acc.map (·.1)).Nodup) : ((addT acc r).map (·.1)).Nodup ∧ (∀ p ∈ addT acc r, p ∈ acc ∨ p = r) ∧ (addT acc r).length ≤ acc.length + 1 := by
  unfold addT
  by_cases h : (acc.any fun p => NestedKey.beq p.1 r.1) = true
  · rw [if_pos h]
    exact ⟨nd, fun p hp => .inl hp, Nat.le_succ _⟩
  · rw [if_neg h]
    refine ⟨?_, fun p hp => ?_, by rw [List.length_append]; exact Nat.le_refl _⟩
    · rw [List.map_append, List.nodup_append]
      refine ⟨nd, by simp, fun a ha b hb e => h (any_key.mpr ?_)⟩
      have hb : b = r.1 := by simpa using hb
      rw [← hb, ← e]
      exact ha
    · rcases List.mem_append.mp hp with z | z
      · exact .inl z
      · exact .inr (List.mem_singleton.mp z)
theorem fold_facts : ∀ (l acc : List Q4), (acc.map (·.1)).Nodup → ((l.foldl addT acc).map (·.1)).Nodup ∧ (∀ p ∈ l.foldl addT acc, p ∈ acc ∨ p ∈ l) ∧ (l.foldl addT acc).length ≤ acc.length + l.length
  | [], acc, nd => ⟨nd, fun p hp => .inl hp, Nat.le_refl _⟩
  | r :: l, acc, nd => by
    obtain ⟨a1, a2, a3⟩ := addT_facts (r := r) nd
    obtain ⟨b1, b2, b3⟩ := fold_facts l (addT acc r) a1
    refine ⟨b1, fun p hp => ?_, ?_⟩
    · rcases b2 p hp with z | z
      · rcases a2 p z with y | y
        · exact .inl y
        · exact .inr (by rw [y]; exact List.mem_cons_self)
      · exact .inr (List.mem_cons_of_mem _ z)
    · rw [List.length_cons]
      have : (List.foldl addT acc (r :: l)).length = (List.foldl addT (addT acc r) l).length := rfl
      omega
theorem fT_facts (l : List Q4) : ((fT l).map (·.1)).Nodup ∧ (∀ p ∈ fT l, p ∈ l) ∧ (fT l).length ≤ l.length := by
  obtain ⟨a, b, c⟩ := fold_facts l [] List.nodup_nil
  refine ⟨a, fun p hp => ?_, ?_⟩
  · rcases b p hp with z | z
    · cases z
    · exact z
  · have c : (fT l).length ≤ 0 + l.length := c
    omega
theorem any_keys {k : NestedKey} : ∀ {acc : List Q4}, (∀ p ∈ acc, okey p.2.1 = some p.1) → (acc.map (·.2.1)).any (keyIs k) = acc.any fun p => NestedKey.beq p.1 k
  | [], _ => rfl
  | p :: acc, h => by
    rw [List.map_cons, List.any_cons, List.any_cons, any_keys fun q hq => h q (List.mem_cons_of_mem _ hq)]
    congr 1
    unfold keyIs
    rw [h p List.mem_cons_self]
    cases q : NestedKey.beq p.1 k with
    | true => exact decide_eq_true (by rw [kbeq.mp q])
    | false =>
      refine decide_eq_false fun z => ?_
      injection z with z
      rw [z, NestedKey.beq_self] at q
      cases q
theorem sAdd_fold : ∀ (l acc : List Q4), (∀ p ∈ acc, okey p.2.1 = some p.1) → (∀ p ∈ l, okey p.2.1 = some p.1) → sAdd (acc.map (·.2.1)) (l.map (·.2.1)) = some ((l.foldl addT acc).map (·.2.1))
  | [], acc, _, _ => by simp [sAdd]
  | r :: l, acc, h1, h2 => by
    have hr := h2 r List.mem_cons_self
    have hl : ∀ p ∈ l, okey p.2.1 = some p.1 := fun p hp => h2 p (List.mem_cons_of_mem _ hp)
    have e := any_keys (k := r.1) h1
    rw [List.map_cons]
    show sAdd _ (r.2.1 :: _) = _
    simp only [sAdd, hr, e]
    have step : l.foldl addT (addT acc r) = (r :: l).foldl addT acc := rfl
    rw [← step]
    by_cases hb : (acc.any fun p => NestedKey.beq p.1 r.1) = true
    · rw [if_pos hb]
      have : addT acc r = acc := by unfold addT; rw [if_pos hb]
      rw [this]
      exact sAdd_fold l acc h1 hl
    · rw [if_neg hb]
      have : addT acc r = acc ++ [r] := by unfold addT; rw [if_neg hb]
      rw [this]
      have h3 : acc.map (·.2.1) ++ [r.2.1] = (acc ++ [r]).map (·.2.1) := by rw [List.map_append]; rfl
      rw [h3]
      exact sAdd_fold l (acc ++ [r]) (fun p hp => by
        rcases List.mem_append.mp hp with z | z
        · exact h1 p z
        · rw [List.mem_singleton.mp z]; exact hr) hl
theorem sAdd_keys : ∀ {ds acc ys : List D}, sAdd acc ds = some ys → ∀ d ∈ ds, ∃ k, okey d = some k
  | [], _, _, _, d, hd => by cases hd
  | x :: ds, acc, ys, e, d, hd => by
    cases ek : okey x with
    | none => simp [sAdd, ek] at e
    | some k =>
      rcases List.mem_cons.mp hd with rfl | hd
      · exact ⟨k, ek⟩
      · simp only [sAdd, ek] at e
        split at e
        · exact sAdd_keys e d hd
        · exact sAdd_keys e d hd
section
variable {G : Gx} {β : List Addr} {H : Hp}
theorem mk4 : ∀ {ds : List D} {vs : List V} {us : List Value}, RVs G β H ds vs → Vals vs us → (∀ d ∈ ds, ∃ k, okey d = some k) → ∃ T : List Q4, T.map (·.2.1) = ds ∧ T.map (·.2.2.1) = vs ∧ T.map (·.2.2.2) = us ∧ ∀ p ∈ T, okey p.2.1 = some p.1 ∧ RV G β H p.2.1 p.2.2.1 ∧ RelV p.2.2.1 p.2.2.2
  | [], vs, us, r, q, _ => by
    unfold RVs at r
    subst r
    cases q
    exact ⟨[], rfl, rfl, rfl, fun p hp => by cases hp⟩
  | d :: ds, vs, us, r, q, h => by
    unfold RVs at r
    obtain ⟨v, t, rfl, r1, r2⟩ := r
    cases q with
    | @cons _ u _ us q1 q2 =>
      obtain ⟨k, ek⟩ := h d List.mem_cons_self
      obtain ⟨T, e1, e2, e3, e4⟩ := mk4 r2 q2 fun d hd => h d (List.mem_cons_of_mem _ hd)
      refine ⟨(k, d, v, u) :: T, by rw [List.map_cons, e1], by rw [List.map_cons, e2], by rw [List.map_cons, e3], fun p hp => ?_⟩
      rcases List.mem_cons.mp hp with z | z
      · rw [z]; exact ⟨ek, r1, q1⟩
      · exact e4 p z
theorem RVs.of4 : ∀ {T : List Q4}, (∀ p ∈ T, RV G β H p.2.1 p.2.2.1) → RVs G β H (T.map (·.2.1)) (T.map (·.2.2.1))
  | [], _ => by unfold RVs; rfl
  | p :: T, h => RVs.cons (h p List.mem_cons_self) (RVs.of4 fun q hq => h q (List.mem_cons_of_mem _ hq))
end
/-- a list in the order of its image -/
theorem perm_back {α γ : Type} {f : α → γ} : ∀ {l m : List γ}, l.Perm m → ∀ {F : List α}, m = F.map f → ∃ F' : List α, F'.Perm F ∧ l = F'.map f := by
  intro l m h
  induction h with
  | nil => intro F e; exact ⟨F, List.Perm.refl _, e⟩
  | cons x _ ih =>
    intro F e
    cases F with
    | nil => cases e
    | cons y F =>
      rw [List.map_cons] at e
      injection e with e1 e2
      obtain ⟨F', p, e3⟩ := ih e2
      exact ⟨y :: F', p.cons y, by rw [List.map_cons, ← e1, ← e3]⟩
  | swap x y l =>
    intro F e
    match F, e with
    | [], e => cases e
    | [_], e => simp at e
    | a :: b :: F, e =>
      rw [List.map_cons, List.map_cons] at e
      injection e with e1 e2
      injection e2 with e2 e3
      exact ⟨b :: a :: F, List.Perm.swap a b F, by rw [List.map_cons, List.map_cons, ← e1, ← e2, ← e3]⟩
  | trans _ _ ih1 ih2 =>
    intro F e
    obtain ⟨F2, p2, e2⟩ := ih2 e
    obtain ⟨F1, p1, e1⟩ := ih1 e2
    exact ⟨F1, p1.trans p2, e1⟩
theorem paired_map {α γ δ : Type} {R : γ → δ → Prop} {f : α → γ} {g : α → δ} : ∀ {l : List α}, (∀ x ∈ l, R (f x) (g x)) → Paired R (l.map f) (l.map g)
  | [], _ => .nil
  | x :: l, h => .cons (h x List.mem_cons_self) (paired_map fun y hy => h y (List.mem_cons_of_mem _ hy))
theorem TS.fresh {w : World} {h : Heap} {a : Addr} (ho : h.get? a = some (freshSet w)) : TS w h a [] #[] 0 (.fresh 0 0 (!w.params.followText "set-order")) where
  ob := ⟨_, ho, ⟨rfl, rfl, rfl⟩, rfl⟩
  rows := rfl
  tab := ⟨List.Pairwise.nil, rfl, rfl, .inl rfl, fun x hx => (by cases hx), fun i h j hi => (by simp at hi)⟩
  nd := List.nodup_nil
  is := fun p hp => (by cases hp)
  led := by
    show _ ∨ (!w.params.followText "set-order") = true
    cases w.params.followText "set-order"
    · exact .inr rfl
    · exact .inl rfl
  room := by
    show 0 * 5 < 7 * 3
    decide
  few := by
    show 0 < 64
    decide
theorem take_one {α : Type} {l : List α} {i : Nat} {x : α} (h : l[i]? = some x) : l.take (i + 1) = l.take i ++ [x] := by
  rw [List.take_succ, h]; rfl
theorem so_ok {P : Program} {w w' : World} {H : Hp} {h : Heap} {a : Addr} {L : List (NestedKey × V)} {n : Nat} {b : Bool} (q : ∃ o es ep t, h.get? a = some o ∧ o.ExactSet ∧ o.data = .set es ep t ∧ es.size = n ∧ n < 64 ∧ t.fits es.size = true ∧
  (b = true → Paired (fun (p : NestedKey × V) (e : Int × Value) => e.1 = p.1.hash w' ∧ RelV p.2 e.2) L es.toList ∧ Ris t.place.toList ∧ (w'.params.followText "set-order" = true ∨ t.led = true))) : ObjOk P w H h a (SO w' a L n b) := by
  have q0 := q
  obtain ⟨o, es, ep, t, ho, r⟩ := q
  refine ⟨q0, ⟨o, ho⟩, ?_⟩
  rintro h1 h2 ⟨o', es', ep', t', k1, k2⟩ st
  exact ⟨o', es', ep', t', st o' k1, k2⟩
/-- a set of tuples gets its items -/
theorem adds_tup {P : Program} {w : World} {A : Around} {S : Addr} {h0 : Heap} {T : List Q4} {n : Nat} (hu : A.units + 9 < cLine) (hn : n = T.length) (few : T.length < 63) (hk : ∀ p ∈ T, KIs h0 p.1 p.2.2.2 ∧ ∃ b, p.2.2.2 = .ref b) {Pv : Nat → Value → Prop} (hv : ∀ i v, Pv i v → ∃ p, T[i]? = some p ∧ p.2.2.2 = v) :
    AddsTo P w A S h0 n Pv fun i h => ∃ L es ep t, TS w h S L es ep t ∧ L.Perm ((fT (T.take i)).map fun p => (p.1, p.2.2.2)) where
  keep := fun i h h' _ ⟨L, es, ep, t, R, pm⟩ ks kh => by
    obtain ⟨o, ho, r⟩ := R.ob
    refine ⟨L, es, ep, t, ⟨⟨o, ks o ho, r⟩, R.rows, R.tab, R.nd, fun p hp => ?_, R.led, R.room, R.few⟩, pm⟩
    obtain ⟨q, hq, e⟩ := List.mem_map.mp (pm.mem_iff.mp hp)
    obtain ⟨h1, h2⟩ := hk q (List.mem_of_mem_take ((fT_facts _).2.1 q hq))
    rw [← e]
    exact ⟨KIs.keep kh h1, h2⟩
  step := fun i v s Q E hi hP ⟨L, es, ep, t, R, pm⟩ hkp hQ => by
    obtain ⟨p, hp, rfl⟩ := hv i v hP
    obtain ⟨h1, bx, ex⟩ := hk p (List.mem_of_getElem? hp)
    have hx : KIs s.heap p.1 p.2.2.2 := KIs.keep hkp h1
    have hlen : L.length ≤ i := by
      rw [pm.length_eq, List.length_map]
      have := (fT_facts (T.take i)).2.2
      rw [List.length_take] at this
      omega
    unfold setAdd
    refine wpAny_holding (wpAny_bind (pyHash_key p.1 p.2.2.2 A s _ hx.1 (by have := hx.2; omega) ?_))
    refine add_key (s := { s with toks := s.toks + p.1.draws }) (x := p.2.2.2) R hx ex (by omega) (by omega) fun b h' L' es' ep' t' hsb R2 c1 c2 => hQ b h' _ (Nat.le_add_right _ _) ⟨L', es', ep', t', R2, ?_⟩ hsb
    rw [take_one hp, fT_snoc]
    have keys : p.1 ∈ L.map (·.1) ↔ p.1 ∈ (fT (T.take i)).map (·.1) := by
      rw [(pm.map (·.1)).mem_iff, List.map_map]
      exact Iff.rfl
    unfold addT
    by_cases hm : ((fT (T.take i)).any fun q => NestedKey.beq q.1 p.1) = true
    · rw [if_pos hm, c1 (keys.mpr (any_key.mp hm))]
      exact pm
    · rw [if_neg hm, List.map_append]
      refine (c2 fun z => hm (any_key.mpr (keys.mp z))).trans ?_
      exact (pm.cons _).trans (List.perm_append_singleton _ _).symm
end Qc
end
section
set_option Elab.async false
set_option linter.all false
set_option maxHeartbeats 4000000
set_option pp.maxSteps 600
/-! set(x) in the core language: the rule. -/
namespace Qc
open PySem PySem.Spec PyProof.Rows L2
def keyK : NestedKey → Option Key
  | .num i => some (.inl i)
  | .text x => some (.inr x)
  | _ => none
theorem keyK_inj {a b : NestedKey} {q : Key} (h1 : keyK a = some q) (h2 : keyK b = some q) : a = b := by
  cases a <;> cases b <;> simp [keyK] at h1 h2 <;> subst h1 <;> simp at h2 <;> rw [h2]
theorem flat_is {P : Program} {w : World} {G : Gx} {β : List Addr} {H : Hp} {d : D} {k : NestedKey} {v : V} {u : Value} (f : isFlatK d = true) (e : okey d = some k) (r : RV G β H d v) (q : RelV v u) : ∃ c, keyK k = some c ∧ (mixKind P w).is c u = true ∧ u.scannable = true ∧ (mixKind P w).hash c = k.hash w := by
  have e' := (okey_of e).1
  cases d with
  | int i =>
    cases RV.int_eq r
    obtain ⟨t, rfl⟩ := q
    cases e'
    exact ⟨.inl i, rfl, mixKind_int P w i t, rfl, rfl⟩
  | str x =>
    cases RV.str_eq r
    obtain ⟨t, rfl⟩ := q
    cases e'
    exact ⟨.inr x, rfl, mixKind_str P w x t, rfl, rfl⟩
  | _ => cases f
/-- what a set of whole numbers and texts has -/
def hasK (l : List Q4) : Key → Bool := fun q => l.any fun p => decide (keyK p.1 = some q)
theorem adds_flat {P : Program} {w : World} {A : Around} {S : Addr} {h0 : Heap} {T : List Q4} {n : Nat} (hu : A.units + 9 < cLine) (hn : n = T.length) (few : T.length < 63) (hk : ∀ p ∈ T, KIs h0 p.1 p.2.2.2 ∧ ∃ c, keyK p.1 = some c ∧ (mixKind P w).is c p.2.2.2 = true ∧ p.2.2.2.scannable = true ∧ (mixKind P w).hash c = p.1.hash w) {Pv : Nat → Value → Prop} (hv : ∀ i v, Pv i v → ∃ p, T[i]? = some p ∧ p.2.2.2 = v) :
    AddsTo P w A S h0 n Pv fun i h => h.SetOf (mixKind P w) S (hasK (fT (T.take i))) (fT (T.take i)).length where
  keep := fun i h h' _ ⟨o, es, ep, t, ho, r⟩ ks _ => ⟨o, es, ep, t, ks o ho, r⟩
  step := fun i v s Q E hi hP hS hkp hQ => by
    obtain ⟨p, hp, rfl⟩ := hv i v hP
    obtain ⟨h1, c, k1, k2, k3, k4⟩ := hk p (List.mem_of_getElem? hp)
    have hx : KIs s.heap p.1 p.2.2.2 := KIs.keep hkp h1
    have hlen : (fT (T.take i)).length ≤ i := by
      have := (fT_facts (T.take i)).2.2
      rw [List.length_take] at this
      omega
    unfold setAdd
    refine wpAny_holding (wpAny_bind (pyHash_key p.1 p.2.2.2 A s _ hx.1 (by have := hx.2; omega) ?_))
    rw [← k4]
    refine wpAny_setAddHashed_of (knd := mixKind P w) (s := { s with toks := s.toks + p.1.draws }) k2 k3 hS (by unfold scanBound; omega) fun h' hsb hS2 => hQ _ h' _ (Nat.le_add_right _ _) ?_ hsb
    have same : hasK (fT (T.take i)) c = ((fT (T.take i)).any fun q => NestedKey.beq q.1 p.1) := by
      cases hm : ((fT (T.take i)).any fun q => NestedKey.beq q.1 p.1) with
      | true =>
        obtain ⟨q, hq, e⟩ := List.any_eq_true.mp hm
        exact List.any_eq_true.mpr ⟨q, hq, decide_eq_true (by rw [kbeq.mp e]; exact k1)⟩
      | false =>
        refine Bool.eq_false_iff.mpr fun z => ?_
        obtain ⟨q, hq, e⟩ := List.any_eq_true.mp z
        have e2 := keyK_inj (of_decide_eq_true e) k1
        have : ((fT (T.take i)).any fun q => NestedKey.beq q.1 p.1) = true := List.any_eq_true.mpr ⟨q, hq, kbeq.mpr e2⟩
        rw [hm] at this
        cases this
    rw [take_one hp, fT_snoc]
    unfold addT
    obtain ⟨o, es, ep, t, a1, a2, a3, a4, a5, a6, a7, a8⟩ := hS2
    by_cases hm : ((fT (T.take i)).any fun q => NestedKey.beq q.1 p.1) = true
    · rw [if_pos hm]
      rw [same, hm] at a8
      refine ⟨o, es, ep, t, a1, a2, a3, a4, fun q => ?_, a6, a7, a8⟩
      rw [← a5 q, Bool.or_eq_true, decide_eq_true_eq]
      constructor
      · exact .inl
      · rintro (z | rfl)
        · exact z
        · rw [same, hm]
    · rw [if_neg hm]
      rw [same, if_neg hm] at a8
      refine ⟨o, es, ep, t, a1, a2, a3, a4, fun q => ?_, a6, a7, by rw [List.length_append, List.length_singleton]; exact a8⟩
      rw [← a5 q, Bool.or_eq_true, decide_eq_true_eq]
      unfold hasK
      rw [List.any_append, Bool.or_eq_true]
      refine or_congr Iff.rfl ?_
      rw [List.any_cons, List.any_nil, Bool.or_false, decide_eq_true_eq, k1]
      exact ⟨fun z => Option.some.inj z |>.symm, fun z => by rw [z]⟩
section
variable {Γ : Gm} {sc : Scope} {pg : Pg} {wf n : Nat} {G : Gx} {X : Cx} {W : WX}
theorem cr_set (F : Fx Γ sc pg wf n G X W) : CallR X (.type "set") (rA1 G kSet) := by
  intro pins s σ H xs us Q I r h
  obtain ⟨x, rfl, β, S, u, Z, T0, ru, p⟩ := h
  obtain ⟨ds, l, vs, rfl, hs, rr, p⟩ := Post.sq p T0 ru
  obtain ⟨hg, p⟩ := p.guard
  obtain ⟨ys, ek, p⟩ := p.opt
  rw [Bool.and_eq_true, Bool.or_eq_true] at hg
  have few : ds.length < 63 := of_decide_eq_true hg.1
  obtain ⟨w', rfl, rx⟩ := vals1 r
  cases rx
  have eK := F.eK
  have ew := F.wd.ew
  have hu := F.hu
  have fr : H s.heap.objs.size = none := I.hok.fresh (Nat.le_refl _)
  have src : ∃ its : List Value, Vals vs its ∧ (s.heap.IsList l its.toArray ∨ s.heap.IsTuple l its.toArray) := by
    rw [eK] at hs
    rcases hs with hs | hs
    · obtain ⟨its, rv, pl, _⟩ := I.list hs
      exact ⟨its, rv, .inl pl.isList⟩
    · obtain ⟨its, rv, pl, _⟩ := I.tuple hs.sq
      exact ⟨its, rv, .inr pl⟩
  obtain ⟨its, rv, hl⟩ := src
  obtain ⟨T, e1, e2, e3, e4⟩ := mk4 rr rv (sAdd_keys ek)
  have lenT : T.length = ds.length := by rw [← e1, List.length_map]
  have ey : ys = (fT T).map (·.2.1) := by
    have := sAdd_fold T [] (fun p hp => by cases hp) (fun p hp => (e4 p hp).1)
    rw [e1] at this
    have this : sAdd [] ds = some ((fT T).map (·.2.1)) := this
    rw [ek] at this
    exact Option.some.inj this
  have isz : its.toArray.size = T.length := by rw [List.size_toArray, ← e3, List.length_map]
  have kis : ∀ p ∈ T, KIs s.heap p.1 p.2.2.2 := fun p hp => RV.is eK I (e4 p hp).1 (e4 p hp).2.1 (e4 p hp).2.2
  have hv : ∀ (i : Nat) (v : Value), its.toArray[i]? = some v → ∃ p, T[i]? = some p ∧ p.2.2.2 = v := fun i v e => by
    rw [List.getElem?_toArray, ← e3, List.getElem?_map] at e
    cases q : T[i]? with
    | none => rw [q] at e; cases e
    | some p => rw [q] at e; exact ⟨p, rfl, by injection e⟩
  obtain ⟨f1, f2, f3⟩ := fT_facts T
  have rys : ∀ H', (∀ a ob u, H a = some (.frz ob u) → H' a = some (.frz ob u)) → RVs G β H' ys ((fT T).map (·.2.2.1)) := fun H' hf => by
    rw [ey]
    exact RVs.of4 fun p hp => RV.chg hf _ _ (e4 p (f2 p hp)).2.1
  have close : ∀ (h' : Heap) (tk : Nat) (L : List (NestedKey × V)), (∀ b o, s.heap.get? b = some o → h'.get? b = some o) → ObjOk X.prog X.w (L2.upd H s.heap.objs.size (SO G.w s.heap.objs.size L ys.length (ys.all isTupD))) h' s.heap.objs.size (SO G.w s.heap.objs.size L ys.length (ys.all isTupD)) →
      (ys.all isTupD = true → ∃ ks : List NestedKey, ys.map okey = ks.map some ∧ ks.Nodup ∧ L.Perm (ks.zip ((fT T).map (·.2.2.1)))) → EP X pins σ Q (.ref s.heap.objs.size) { s with heap := h', toks := tk } := fun h' tk L kp ok hL => by
    refine ⟨.ref s.heap.objs.size, _, I.laid (t' := tk) kp (Nat.le_refl _) ok, rfl, ?_⟩
    refine p (.ref s.heap.objs.size) _ β (Nxt.new fr) (T0.newH fr) ⟨⟨_, L, _, rfl, T0.new fr, upd_same, rys _ fun a ob u e => ?_, hL⟩, fun a e => by cases e; exact fr⟩
    rw [upd_ne (ne_of_none e fr)]
    exact e
  by_cases ht : ds.all isTupD = true
  · have refs : ∀ p ∈ T, ∃ b, p.2.2.2 = .ref b := fun p hp => by
      have hd : isTupD p.2.1 = true := List.all_eq_true.mp ht _ (by rw [← e1]; exact List.mem_map.mpr ⟨p, hp, rfl⟩)
      obtain ⟨_, r1, r2⟩ := e4 p hp
      generalize p.2.1 = d at hd r1
      cases d with
      | tup xs =>
        obtain ⟨a, _, ev, _⟩ := RV.tup_at r1
        rw [ev] at r2
        exact ⟨a, r2⟩
      | _ => cases hd
    refine call_set_any (I.ok.hd F.hc) hl (fun h' hS _ => ⟨[], #[], 0, _, TS.fresh hS, by simp [fT]⟩) (adds_tup (by have : X.A.in1.in1.in1.units = X.A.units + 3 := rfl; omega) isz (by omega) (fun p hp => ⟨kis p hp, refs p hp⟩) hv) fun h' tk ⟨L, es, ep, t, R, pm⟩ kp => ?_
    rw [isz, List.take_length] at pm
    obtain ⟨F', p1, p2⟩ := perm_back pm rfl
    refine close h' tk (F'.map fun p => (p.1, p.2.2.1)) kp (so_ok ?_) fun _ => ⟨(fT T).map (·.1), ?_, f1, ?_⟩
    · obtain ⟨o, ho, hex, hd⟩ := R.ob
      refine ⟨o, es, ep, t, ho, hex, hd, ?_, ?_, R.fit, fun _ => ⟨?_, R.tab.ris, by rw [ew]; exact R.led⟩⟩
      · rw [R.size, pm.length_eq, List.length_map, ey, List.length_map]
      · rw [ey, List.length_map]; omega
      · rw [R.rows, p2, List.map_map]
        exact paired_map fun q hq => ⟨by rw [ew]; rfl, (e4 q (f2 q (p1.mem_iff.mp hq))).2.2⟩
    · rw [ey, List.map_map, List.map_map]
      exact List.map_congr_left fun q hq => (e4 q (f2 q hq)).1
    · have : ((fT T).map (·.1)).zip ((fT T).map (·.2.2.1)) = (fT T).map fun p => (p.1, p.2.2.1) := by
        rw [List.zip_map', ]
      rw [this]
      exact p1.map _
  · have hflat : ds.all isFlatK = true := hg.2.resolve_left ht
    have fl : ∀ p ∈ T, isFlatK p.2.1 = true := fun p hp => List.all_eq_true.mp hflat _ (by rw [← e1]; exact List.mem_map.mpr ⟨p, hp, rfl⟩)
    have hy : ys.all isTupD = false := by
      refine Bool.eq_false_iff.mpr fun z => ?_
      cases T with
      | nil =>
        rw [← e1] at ht
        exact ht rfl
      | cons q T =>
        have hne : fT (q :: T) ≠ [] := fun e => by
          have h0 : q.1 ∈ (fT (q :: T)).map (·.1) ∨ ¬ q.1 ∈ (fT (q :: T)).map (·.1) := Classical.em _
          have grow : ∀ (l acc : List Q4), acc ≠ [] → l.foldl addT acc ≠ [] := by
            intro l
            induction l with
            | nil => intro acc h; exact h
            | cons r l ih =>
              intro acc h
              refine ih (addT acc r) ?_
              unfold addT
              split
              · exact h
              · simp
          exact grow T (addT [] q) (by unfold addT; simp) e
        cases hc : fT (q :: T) with
        | nil => exact hne hc
        | cons r rest =>
          rw [ey, hc, List.map_cons, List.all_cons, Bool.and_eq_true] at z
          have hr : isFlatK r.2.1 = true := fl r (f2 r (by rw [hc]; exact List.mem_cons_self))
          have z1 := z.1
          generalize r.2.1 = d at hr z1
          cases d <;> first | (cases hr; done) | (cases z1; done)
    refine call_set_any (I.ok.hd F.hc) hl (fun h' hS _ => ⟨_, #[], 0, _, hS, ⟨rfl, rfl, rfl⟩, rfl, (fun e he => by simp at he), (by simp [hasK, fT]), (by unfold scanBound; decide), (by rfl), (by simp [fT])⟩)
      (adds_flat (by have : X.A.in1.in1.in1.units = X.A.units + 3 := rfl; omega) isz (by omega) (fun p hp => ⟨kis p hp, flat_is (fl p hp) (e4 p hp).1 (e4 p hp).2.1 (e4 p hp).2.2⟩) hv) fun h' tk ⟨o, es, ep, t, a1, a2, a3, a4, a5, a6, a7, a8⟩ kp => ?_
    rw [isz, List.take_length] at a8
    refine close h' tk [] kp (so_ok ⟨o, es, ep, t, a1, a2, a3, ?_, ?_, a7, fun z => by rw [hy] at z; cases z⟩) fun z => by rw [hy] at z; cases z
    · rw [a8, ey, List.length_map]
    · rw [ey, List.length_map]; omega
end
end Qc
end
section
set_option Elab.async false
set_option linter.all false
set_option maxHeartbeats 4000000
set_option pp.maxSteps 600
/-! sorted(x) in the core language. -/
namespace Qc
open PySem PySem.Spec PySem.Calls PyProof.Rows L2
mutual
theorem reads_in {h : Heap} : ∀ {v : Value} {d : PyData} {as : List Addr}, Reads h v d as → ∀ b ∈ as, ∃ o, h.get? b = some o
  | _, _, _, .none => fun _ m => by cases m
  | _, _, _, .bool b => fun _ m => by cases m
  | _, _, _, .int i t => fun _ m => by cases m
  | _, _, _, .str x t => fun _ m => by cases m
  | _, _, _, .list h1 h2 h3 h4 => fun b m => by
    rcases List.mem_cons.mp m with rfl | m
    · exact ⟨_, h1⟩
    · exact readsAll_in h4 b m
  | _, _, _, .tuple h1 h2 h3 h4 => readsAll_in h4
  | _, _, _, .dict h1 h2 h3 h4 h5 => fun b m => by
    rcases List.mem_cons.mp m with rfl | m
    · exact ⟨_, h1⟩
    · rcases List.mem_append.mp m with m | m
      · exact readsAll_in h4 b m
      · exact readsAll_in h5 b m
theorem readsAll_in {h : Heap} : ∀ {vs : List Value} {ds : List PyData} {as : List Addr}, ReadsAll h vs ds as → ∀ b ∈ as, ∃ o, h.get? b = some o
  | _, _, _, .nil => fun _ m => by cases m
  | _, _, _, .cons h1 h2 => fun b m => by
    rcases List.mem_append.mp m with m | m
    · exact reads_in h1 b m
    · exact readsAll_in h2 b m
end
theorem pds_mem : ∀ {xs : List D} {ps : List PyData}, D.pds xs = some ps → ps = xs.map D.pdd ∧ ∀ d ∈ xs, d.pd = some d.pdd
  | [], ps, e => by
    unfold D.pds at e
    cases e
    exact ⟨rfl, fun _ m => by cases m⟩
  | d :: ds, ps, e => by
    unfold D.pds at e
    cases e1 : d.pd with
    | none => rw [e1] at e; cases e
    | some p =>
      cases e2 : D.pds ds with
      | none => rw [e1, e2] at e; cases e
      | some qs =>
        rw [e1, e2] at e
        obtain ⟨h1, h2⟩ := pds_mem e2
        have ep : d.pdd = p := by unfold D.pdd; rw [e1]; rfl
        cases e
        refine ⟨by rw [List.map_cons, ep, h1], fun x m => ?_⟩
        rcases List.mem_cons.mp m with rfl | m
        · rw [ep]; exact e1
        · exact h2 x m
theorem depth_mem : ∀ {ps : List PyData} {p : PyData}, p ∈ ps → p.depth ≤ PyData.depthAll ps
  | q :: ps, p, m => by
    rw [PyData.depthAll]
    rcases List.mem_cons.mp m with rfl | m
    · exact Nat.le_max_left _ _
    · exact Nat.le_trans (depth_mem m) (Nat.le_max_right _ _)
abbrev leD : D → D → Bool := PySem.W.dataLe false D.pdd
theorem sortD_facts {xs ys : List D} (e : sortD xs = some ys) : (∀ d ∈ xs, d.pd = some d.pdd ∧ d.pdd.depth ≤ 60) ∧ (∀ a ∈ xs, ∀ b ∈ xs, PySem.W.alike a.pdd b.pdd = true) ∧ ((∀ d ∈ xs, ∃ x r, d.pdd = .tuple (x :: r)) ∨ ∀ d ∈ xs, d.pdd ≠ .none ∧ ∀ zs, d.pdd ≠ .tuple zs) ∧ xs.length < 64 ∧ ys = xs.mergeSort leD := by
  unfold sortD at e
  cases e1 : D.pds xs with
  | none => rw [e1] at e; cases e
  | some ps =>
    rw [e1] at e
    dsimp only at e
    split at e
    case isFalse => cases e
    case isTrue h =>
      rw [Bool.and_eq_true, Bool.and_eq_true, Bool.and_eq_true] at h
      obtain ⟨⟨⟨h1, h2⟩, h3⟩, h4⟩ := h
      obtain ⟨rfl, hm⟩ := pds_mem e1
      have mem : ∀ d ∈ xs, d.pdd ∈ xs.map D.pdd := fun d m => List.mem_map.mpr ⟨d, m, rfl⟩
      refine ⟨fun d m => ⟨hm d m, Nat.le_trans (depth_mem (mem d m)) (of_decide_eq_true h3)⟩, fun a ma b mb => ?_, ?_, of_decide_eq_true h4, (Option.some.inj e).symm⟩
      · exact List.all_eq_true.mp (List.all_eq_true.mp h1 _ (mem a ma)) _ (mem b mb)
      · rcases Bool.or_eq_true _ _ |>.mp h2 with z | z
        · refine .inl fun d m => ?_
          have q := List.all_eq_true.mp z _ (mem d m)
          generalize d.pdd = p at q
          cases p with
          | tuple ws =>
            cases ws with
            | nil => cases q
            | cons w ws => exact ⟨w, ws, rfl⟩
          | _ => cases q
        · refine .inr fun d m => ?_
          have q := List.all_eq_true.mp z _ (mem d m)
          generalize d.pdd = p at q
          cases p with
          | tuple ws => cases q
          | none => cases q
          | _ => exact ⟨by simp, by simp⟩
theorem leD_total : PySem.W.TotalLe leD := PySem.W.sortLe_total _ _ _
theorem strict_perm {xs : List D} : ∀ {zs : List D}, zs.Perm xs → strictB (xs.mergeSort leD) = true → zs.mergeSort leD = xs.mergeSort leD := by
  intro zs hp hs
  have anti : ∀ l : List D, strictB l = true → l.Pairwise fun a b => leD b a = false := by
    intro l
    induction l with
    | nil => intro _; exact .nil
    | cons x l ih =>
      intro h
      unfold strictB at h
      rw [Bool.and_eq_true] at h
      refine .cons (fun y hy => ?_) (ih h.2)
      have := List.all_eq_true.mp h.1 y hy
      rwa [Bool.not_eq_true'] at this
  have hp2 : (zs.mergeSort leD).Perm (xs.mergeSort leD) := ((List.mergeSort_perm zs leD).trans hp).trans (List.mergeSort_perm xs leD).symm
  have p1 : (zs.mergeSort leD).Pairwise fun a b => leD a b = true := PySem.W.sort_pairwise leD_total _
  have p2 := anti _ hs
  generalize zs.mergeSort leD = l at hp2 p1
  generalize xs.mergeSort leD = m at hp2 p2
  clear hs hp
  induction m generalizing l with
  | nil => exact hp2.eq_nil
  | cons x m ih =>
    cases l with
    | nil => exact absurd hp2.symm.eq_nil (by simp)
    | cons y l =>
      rw [List.pairwise_cons] at p1 p2
      have e : y = x := by
        have m1 : y ∈ x :: m := hp2.mem_iff.mp List.mem_cons_self
        have m2 : x ∈ y :: l := hp2.mem_iff.mpr List.mem_cons_self
        rcases List.mem_cons.mp m1 with e | m1
        · exact e
        · rcases List.mem_cons.mp m2 with e | m2
          · exact e.symm
          · have a := p1.1 x m2
            have b := p2.1 y m1
            rw [a] at b
            cases b
      subst e
      exact congrArg _ (by first | exact ih _ p1.2 (List.Perm.cons_inv hp2) p2.2 | exact ih _ p1.2 p2.2 (List.Perm.cons_inv hp2))
section
variable {Γ : Gm} {sc : Scope} {pg : Pg} {wf n : Nat} {G : Gx} {X : Cx} {W : WX} {pins : List (Addr × Obj)} {σ : L2.St} {H : Hp} {s : Shared} {β : List Addr}
abbrev SR (G : Gx) (β : List Addr) (H : Hp) (u : Value) (d : D) : Prop := ∃ v, RelV v u ∧ RV G β H d v
theorem each_of : ∀ {ds : List D} {vs : List V} {us : List Value}, RVs G β H ds vs → Vals vs us → PySem.W.EachIs (SR G β H) us ds
  | [], vs, us, r, q => by
    unfold RVs at r
    subst r
    cases q
    exact .nil
  | d :: ds, vs, us, r, q => by
    unfold RVs at r
    obtain ⟨v, t, rfl, h1, h2⟩ := r
    cases q with
    | cons q1 q2 => exact .cons ⟨v, q1, h1⟩ (each_of h2 q2)
theorem each_back : ∀ {ds : List D} {us : List Value}, PySem.W.EachIs (SR G β H) us ds → ∃ vs, Vals vs us ∧ RVs G β H ds vs
  | [], _, h => by
    cases h
    exact ⟨[], .nil, by unfold RVs; rfl⟩
  | d :: ds, _, h => by
    cases h with
    | cons h1 h2 =>
      obtain ⟨v, q, r⟩ := h1
      obtain ⟨vs, q2, r2⟩ := each_back h2
      exact ⟨v :: vs, .cons q q2, RVs.cons r r2⟩
theorem Inv.drew {s' : Shared} (I : Inv X pins σ H s) (e1 : s'.heap = s.heap) (e2 : s'.gens = s.gens) (e3 : s'.os = s.os) : Inv X pins σ H s' := by
  obtain ⟨a, b, c, d, e, f, g, h, i, j, k⟩ := I
  exact ⟨a, by rw [e3]; exact b, by rw [e2]; exact c, by rw [e1]; exact d, by rw [e1]; exact e, by rw [e1]; exact f, g, h, by rw [e1]; exact i, by rw [e1]; exact j, k⟩
/-- what a gathering of v ends in -/
def Gath (X : Cx) (s : Shared) (v : Value) (G : Gx) (β : List Addr) (H : Hp) (xs ys : List D) : Prop :=
  ∀ Q : List Value → Shared → Prop, (∀ zs us vs s', zs.Perm xs → zs.mergeSort leD = ys → RVs G β H zs us → Vals us vs → (∀ b o, s.heap.get? b = some o → s'.heap.get? b = some o) → s'.gens = s.gens → s'.os = s.os → Q vs s') →
    wpAny (model X.prog X.w) X.A.in1 (collect v) Q X.xe s
theorem sorted_go (F : Fx Γ sc pg wf n G X W) (I : Inv X pins σ H s) {S : Sto} (T : RS G β H S) {v : Value} {xs ys : List D} (e : sortD xs = some ys) (hg : Gath X s v G β H xs ys) {Q : VK} {Z : Nat → Hp → Prop} (p : Post G (relU G) β H (pur (U.l ys) S) Q Z) :
    wpAny (model X.prog X.w) X.A (call (.builtin "sorted") [v]) (EP X pins σ Q) X.xe s := by
  have eK := F.eK
  have hu := F.hu
  obtain ⟨f1, f2, f3, f4, f5⟩ := sortD_facts e
  refine call_function_entry kind_sorted plain_sorted entry_sorted (args_sorted1 _) ?_
  unfold Builtin.«sorted»
  refine wpAny_bind (m := checkCount "sorted" 1 1 _) (wpAny_pure ?_)
  refine wpAny_bind (hg _ fun zs us vs s' hp hz rr rv kp e2 e3 => ?_)
  have lz : zs.length = xs.length := hp.length_eq
  have lv : vs.length = zs.length := by rw [rr.length, rv.length]
  refine wpAny_bind (wpAny_newList ?_ (by rw [lv, lz, sizeLine_eq]; omega))
  have m : ∀ d, d ∈ zs → d ∈ xs := fun d h => hp.mem_iff.mp h
  have kp1 : ∀ b o, s.heap.get? b = some o → (s'.heap.push { cls := .type "list", data := .seq vs.toArray }).get? b = some o := fun b o h => Heap.get?_push_of_some _ (kp b o h)
  have ho : (s'.heap.push { cls := .type "list", data := .seq vs.toArray }).get? s'.heap.objs.size = some (seqObj "list" vs.toArray 0) := Heap.get?_push_size _ rfl
  have na : s.heap.get? s'.heap.objs.size = none := by
    cases q : s.heap.get? s'.heap.objs.size with
    | none => rfl
    | some o => exact absurd (Heap.lt_size (kp _ _ q)) (Nat.lt_irrefl _)
  have hn : H s'.heap.objs.size = none := I.hok.gone na
  have er : PySem.W.EachIs (fun v b => ∃ as, Reads (s'.heap.push { cls := .type "list", data := .seq vs.toArray }) v (D.pdd b) as ∧ s'.heap.objs.size ∉ as) vs zs := by
    refine (PySem.W.each_mem (each_of rr rv)).mono fun u d ⟨⟨v, q, r⟩, hd⟩ => ?_
    have dp := RV.dp d v _ r (f1 d (m d hd)).1
    rw [eK] at dp
    obtain ⟨as, ra⟩ := Dp.reads I _ _ _ dp q
    refine ⟨as, PyProof.Rows.Reads.keeps kp1 ra, fun ha => ?_⟩
    obtain ⟨o, ho⟩ := reads_in ra _ ha
    rw [na] at ho
    cases ho
  have hal : PySem.W.AllAlike (zs.map D.pdd) := fun d hd d' hd' => by
    obtain ⟨b, hb, rfl⟩ := List.mem_map.mp hd
    obtain ⟨b', hb', rfl⟩ := List.mem_map.mp hd'
    exact f2 b (m b hb) b' (m b' hb')
  have hk : PySem.W.Sortable (zs.map D.pdd) := by
    rcases f3 with f3 | f3
    · refine .inl fun d hd => ?_
      obtain ⟨b, hb, rfl⟩ := List.mem_map.mp hd
      exact f3 b (m b hb)
    · refine .inr fun d hd => ?_
      obtain ⟨b, hb, rfl⟩ := List.mem_map.mp hd
      exact f3 b (m b hb)
  refine wpAny_bind (wpAny_holding (PySem.W.list_sort_data (s := { s' with heap := s'.heap.push { cls := .type "list", data := .seq vs.toArray } }) ho (each_of rr rv) er hal hk (by rw [lz, sizeLine_eq]; omega) (fun b hb => ?_) fun out lo eo => ?_))
  · have := (f1 b (m b hb)).2
    show X.A.units + 1 + 1 + _ < _
    omega
  refine wpAny_pure ⟨_, rfl, ?_⟩
  rw [hz] at eo
  obtain ⟨ws, rw1, rw2⟩ := each_back eo
  obtain ⟨ep, hat⟩ := sortedHeap_at (vs := vs) (out := out.toArray) ho
  have kp2 : ∀ b o, s.heap.get? b = some o → (sortedHeap (s'.heap.push { cls := .type "list", data := .seq vs.toArray }) s'.heap.objs.size vs out.toArray).get? b = some o := fun b o h => by
    have hb : b ≠ s'.heap.objs.size := fun z => by rw [z, na] at h; cases h
    rw [sortedHeap_old hb (Heap.lt_size (kp1 b o h))]
    exact kp1 b o h
  refine ⟨.ref s'.heap.objs.size, _, ?_, rfl, p.newL T rw2 hn⟩
  refine Inv.drew (s := { s with heap := sortedHeap (s'.heap.push { cls := .type "list", data := .seq vs.toArray }) s'.heap.objs.size vs out.toArray }) (Inv.laidN (t' := s.toks) I kp2 na hn ?_) rfl e2 e3
  have := rw1.length
  refine ⟨by rw [sizeLine_eq]; omega, out, ep, rw1, hat⟩
theorem gath_list (I : Inv X pins σ H s) {l : Addr} {xs ys : List D} {vs : List V} (hs : SqL X.K H l vs) (rr : RVs G β H xs vs) (few : xs.length < 64) (hy : xs.mergeSort leD = ys) : Gath X s (.ref l) G β H xs ys := by
  intro Q hQ
  obtain ⟨its, rv, pl, _⟩ := I.list hs
  have l1 := rr.length
  have l2 := rv.length
  refine collect_list pl.isList ?_ (by rw [sizeLine_eq]; omega)
  refine hQ xs vs its _ (List.Perm.refl _) hy rr rv (fun b o e => ?_) rfl rfl
  show ((s.heap.push (seqObj "list" #[] 0)).update s.heap.objs.size (Obj.mapSeq (· ++ its.toArray))).get? b = some o
  rw [Heap.get?_update_ne _ _ _ _ (Nat.ne_of_lt (Heap.lt_size e))]
  exact Heap.get?_push_of_some _ e
theorem vals_of_get : ∀ {vs : List V} {us : List Value}, vs.length = us.length → (∀ (i : Nat) (v : V) (u : Value), vs[i]? = some v → us[i]? = some u → RelV v u) → Vals vs us
  | [], [], _, _ => .nil
  | v :: vs, u :: us, h, k => .cons (k 0 v u rfl rfl) (vals_of_get (Nat.succ.inj h) fun i v u e1 e2 => k (i + 1) v u e1 e2)
  | [], _ :: _, h, _ => by cases h
  | _ :: _, [], h, _ => by cases h
theorem REs.keys {kvs : List (D × D)} : ∀ {es : List (NestedKey × V × V)}, REs G β H kvs es → RVs G β H (kvs.map (·.1)) (es.map (·.2.1)) := by
  induction kvs with
  | nil =>
    intro es h
    unfold REs at h
    subst h
    show RVs G β H [] []
    unfold RVs
    rfl
  | cons p kvs ih =>
    intro es h
    obtain ⟨d, x⟩ := p
    unfold REs at h
    obtain ⟨k, v, y, t, rfl, _, h1, _, h2⟩ := h
    exact RVs.cons h1 (ih h2)
theorem entr_getk {w : World} : ∀ {es : List (NestedKey × V × V)} {ents : List DictEntry}, Paired (EntR w) es ents → es.length = ents.length ∧ ∀ (i : Nat) p e, es[i]? = some p → ents[i]? = some e → RelV p.2.1 e.key
  | _, _, .nil => ⟨rfl, fun i p e h => by simp at h⟩
  | _, _, .cons h t => by
    obtain ⟨a, b⟩ := entr_getk t
    refine ⟨by rw [List.length_cons, List.length_cons, a], fun i p e h1 h2 => ?_⟩
    cases i with
    | zero =>
      cases h1
      cases h2
      exact h.2.1
    | succ i => exact b i p e h1 h2
theorem gath_dict (F : Fx Γ sc pg wf n G X W) (I : Inv X pins σ H s) {a : Addr} {kvs : List (D × D)} {ys : List D} (hs : RO G β H (.dct kvs) a) (few : kvs.length < 64) (hy : (kvs.map (·.1)).mergeSort leD = ys) : Gath X s (.ref a) G β H (kvs.map (·.1)) ys := by
  intro Q hQ
  obtain ⟨es, hH, re, _, _⟩ := hs
  obtain ⟨⟨lo, o, ents, ep, ho, hex, hd, pr⟩, _⟩ := I.hok a _ hH
  obtain ⟨e1, e2⟩ := entr_getk pr
  have rk := re.keys
  have l1 := rk.length
  rw [List.length_map, List.length_map] at l1
  have l2 : ents.size = kvs.length := by rw [← Array.length_toList, ← e1, l1]
  refine PySem.W.kdu_collect (PySem.KdlSrc.rawDict (es := ents) (ep := ep) lo) (I.ok.hd F.hc) ⟨o, ho, hex, hd⟩ (by rw [sizeLine_eq]; omega) fun h' tk acc kp hacc => ?_
  refine hQ _ (es.map (·.2.1)) acc.toList _ (List.Perm.refl _) hy rk (vals_of_get ?_ fun i v u q1 q2 => ?_) kp rfl rfl
  · rw [List.length_map, e1, Array.length_toList, Array.length_toList]
    exact hacc.1.symm
  · rw [Array.getElem?_toList] at q2
    obtain ⟨hi, rfl⟩ := hacc.2 i u q2
    rw [List.getElem?_map] at q1
    cases q : es[i]? with
    | none => rw [q] at q1; cases q1
    | some p =>
      rw [q] at q1
      cases q1
      exact e2 i p ents[i] q (by rw [Array.getElem?_toList, Array.getElem?_eq_getElem hi])
theorem rvs_zip : ∀ {xs : List D} {vs : List V}, RVs G β H xs vs → ∃ Z : List (D × V), Z.map (·.1) = xs ∧ Z.map (·.2) = vs ∧ ∀ p ∈ Z, RV G β H p.1 p.2
  | [], vs, h => by
    unfold RVs at h
    subst h
    exact ⟨[], rfl, rfl, fun p m => by cases m⟩
  | d :: ds, vs, h => by
    unfold RVs at h
    obtain ⟨v, t, rfl, h1, h2⟩ := h
    obtain ⟨Z, a, b, c⟩ := rvs_zip h2
    refine ⟨(d, v) :: Z, by rw [List.map_cons, a], by rw [List.map_cons, b], fun p m => ?_⟩
    rcases List.mem_cons.mp m with rfl | m
    · exact h1
    · exact c p m
theorem rvs_map : ∀ {Z : List (D × V)}, (∀ p ∈ Z, RV G β H p.1 p.2) → RVs G β H (Z.map (·.1)) (Z.map (·.2))
  | [], _ => by unfold RVs; rfl
  | p :: Z, h => RVs.cons (h p List.mem_cons_self) (rvs_map fun q hq => h q (List.mem_cons_of_mem _ hq))
theorem ents_zip {w : World} : ∀ {L : List (NestedKey × V)} {es : List (Int × Value)}, Paired (fun (p : NestedKey × V) (e : Int × Value) => e.1 = p.1.hash w ∧ RelV p.2 e.2) L es → ∃ Z : List (V × Value), Z.map (·.1) = L.map (·.2) ∧ Z.map (·.2) = es.map (·.2) ∧ ∀ p ∈ Z, RelV p.1 p.2
  | _, _, .nil => ⟨[], rfl, rfl, fun p m => by cases m⟩
  | _, _, .cons (a := p) (b := e) h t => by
    obtain ⟨Z, a, b, c⟩ := ents_zip t
    refine ⟨(p.2, e.2) :: Z, by rw [List.map_cons, List.map_cons, a], by rw [List.map_cons, List.map_cons, b], fun q m => ?_⟩
    rcases List.mem_cons.mp m with rfl | m
    · exact h.2
    · exact c q m
theorem vals_map : ∀ {Z : List (V × Value)}, (∀ p ∈ Z, RelV p.1 p.2) → Vals (Z.map (·.1)) (Z.map (·.2))
  | [], _ => .nil
  | p :: Z, h => .cons (h p List.mem_cons_self) (vals_map fun q hq => h q (List.mem_cons_of_mem _ hq))
theorem gath_set (F : Fx Γ sc pg wf n G X W) (I : Inv X pins σ H s) {v : V} {xs ys : List D} (ru : RU G β H (.s xs) v) (ht : xs.all isTupD = true) (e : sortDS xs = some ys) : ∃ a, v = .ref a ∧ sortD xs = some ys ∧ Gath X s (.ref a) G β H xs ys := by
  obtain ⟨a, L, vs, rfl, hn, hH, rr, hL⟩ := ru
  unfold sortDS at e
  cases e1 : sortD xs with
  | none => rw [e1] at e; cases e
  | some zs =>
    rw [e1] at e
    dsimp only at e
    split at e
    case isFalse => cases e
    case isTrue hs =>
      cases e
      refine ⟨a, rfl, rfl, fun Q hQ => ?_⟩
      obtain ⟨-, -, -, -, hy⟩ := sortD_facts e1
      obtain ⟨ks, k1, k2, k3⟩ := hL ht
      obtain ⟨⟨o, es, ep, t, ho, hex, hd, hn1, hn2, hf, hx⟩, _⟩ := I.hok a _ hH
      obtain ⟨pr, ri, led⟩ := hx ht
      rw [F.wd.ew] at led pr
      have lk : ks.length = vs.length := by
        have := congrArg List.length k1
        rw [List.length_map, List.length_map] at this
        rw [← this, rr.length]
      refine collect_set (I.ok.hd F.hc) ⟨o, ho, hex.1, hd⟩ hf (by unfold scanBound; omega) ri led fun s' out kp _ eg eo pm => ?_
      obtain ⟨Z, z1, z2, z3⟩ := ents_zip pr
      rw [← z2] at pm
      obtain ⟨F1, p1, rfl⟩ := perm_back pm rfl
      obtain ⟨Y, y1, y2, y3⟩ := rvs_zip rr
      have pv : (F1.map (·.1)).Perm (Y.map (·.2)) := by
        rw [y2]
        refine (p1.map (·.1)).trans ?_
        rw [z1]
        refine (k3.map (·.2)).trans ?_
        rw [List.map_snd_zip (by omega)]
      obtain ⟨F2, p2, q2⟩ := perm_back pv rfl
      refine hQ (F2.map (·.1)) (F1.map (·.1)) _ s' (by rw [← y1]; exact p2.map _) ?_ (by rw [q2]; exact rvs_map fun p m => y3 p (p2.mem_iff.mp m)) (vals_map fun p m => z3 p (p1.mem_iff.mp m)) kp eg eo
      rw [hy]
      refine strict_perm (by rw [← y1]; exact p2.map _) ?_
      rw [← hy]
      exact hs
theorem cr_sorted (F : Fx Γ sc pg wf n G X W) : CallR X (.builtin "sorted") (rA1 G kSorted) := by
  intro pins s σ H xs us Q I r h
  obtain ⟨x, rfl, β, S, u, Z, T0, ru, p⟩ := h
  obtain ⟨w', rfl, rx⟩ := vals1 r
  have eK := F.eK
  have go : ∀ {a : Addr} {xs ys : List D}, RelV (.ref a) w' → sortD xs = some ys → Gath X s (.ref a) G β H xs ys → Post G (relU G) β H (pur (U.l ys) S) Q Z → wpAny (model X.prog X.w) X.A (call (.builtin "sorted") [w']) (EP X pins σ Q) X.xe s := fun rx e hg p => by
    cases rx
    exact sorted_go F I T0 e hg p
  cases u with
  | s xs =>
    obtain ⟨ht, p⟩ := Post.guard (b := xs.all isTupD) p
    obtain ⟨ys, e, p⟩ := p.opt
    obtain ⟨a, rfl, e2, hg⟩ := gath_set F I ru ht e
    exact go rx e2 hg p
  | d kvs =>
    obtain ⟨ys, e, p⟩ := Post.opt (o := sortD (kvs.map (·.1))) p
    obtain ⟨a, rfl, hn, ro⟩ := ru
    obtain ⟨-, -, -, f4, f5⟩ := sortD_facts e
    exact go rx e (gath_dict F I ro (by rw [List.length_map] at f4; exact f4) f5.symm) p
  | l xs =>
    obtain ⟨ys, e, p⟩ := Post.opt (o := sortD xs) p
    obtain ⟨a, vs, rfl, q, rr⟩ := RU.lst_at ru
    obtain ⟨-, -, -, f4, f5⟩ := sortD_facts e
    exact go rx e (gath_list I (SqL.of q) rr f4 f5.symm) p
  | v d =>
    cases d with
    | obj n =>
      obtain ⟨o, eo, p⟩ := Post.look p
      cases o with
      | lst xs =>
        obtain ⟨ys, e, p⟩ := Post.opt (o := sortD xs) p
        obtain ⟨a, rfl, _, vs, q, rr⟩ := RV.obj_at T0 ru eo
        obtain ⟨-, -, -, f4, f5⟩ := sortD_facts e
        exact go rx e (gath_list I (SqL.of q) rr f4 f5.symm) p
      | dct kvs =>
        obtain ⟨ys, e, p⟩ := Post.opt (o := sortD (kvs.map (·.1))) p
        obtain ⟨a, rfl, _, ro⟩ := RV.obj_at T0 ru eo
        obtain ⟨-, -, -, f4, f5⟩ := sortD_facts e
        exact go rx e (gath_dict F I ro (by rw [List.length_map] at f4; exact f4) f5.symm) p
      | ins c fs => exact p.elim
    | _ => exact p.elim
end
end Qc
end
section
set_option Elab.async false
set_option linter.all false
set_option maxHeartbeats 8000000
set_option pp.maxSteps 600
/-! What the check means: expressions. -/
namespace Qc
open PySem PySem.Spec PyProof.Rows L2
section
variable {Γ : Gm} {sc : Scope} {pg : Pg} {wf n : Nat} {G : Gx} {X : Cx} {W : WX}
theorem pe_b1O (F : Fx Γ sc pg wf n G X W) (o : B1) {p pos : Pos} {a : Expr} {f : Env → M U} (hg : glB sc (b1N o) = true) (ha : PE X a (tE G W f)) (hs : notStar a = true) : PE X (.Call (.Name (b1N o) p) [a] [] pos) (tE G W fun ρ => bnd (f ρ) (semB1 o)) := by
  have hg := F.gl hg
  cases o with
  | len => exact pe_b1 (cr_len F.eK) hg (F.wd.bl _ (by decide)) (by kernel_rfl) ha hs (by decide) (by decide)
  | all => exact pe_b1 (cr_allX F.eK F.hc) hg (F.wd.bl _ (by decide)) (by kernel_rfl) ha hs (by decide) (by decide)
  | any => exact pe_b1 (cr_anyX F.eK F.hc) hg (F.wd.bl _ (by decide)) (by kernel_rfl) ha hs (by decide) (by decide)
  | list => exact pe_t1 (cr_list F.eK) hg (F.wd.bl _ (by decide)) (by kernel_rfl) ha hs (by decide) (by decide)
  | tuple => exact pe_t1 (cr_tuple F.eK) hg (F.wd.bl _ (by decide)) (by kernel_rfl) ha hs (by decide) (by decide)
  | dict => exact pe_t1 (cr_dict F.eK F.wd.ew F.hc F.hu) hg (F.wd.bl _ (by decide)) (by kernel_rfl) ha hs (by decide) (by decide)
  | set => exact pe_t1 (cr_set F) hg (F.wd.bl _ (by decide)) (by kernel_rfl) ha hs (by decide) (by decide)
  | sorted => exact pe_b1 (cr_sorted F) hg (F.wd.bl _ (by decide)) (by kernel_rfl) ha hs (by decide) (by decide)
  | max => exact pe_b1 (cr_maxX F.eK F.hc) hg (F.wd.bl _ (by decide)) (by kernel_rfl) ha hs (by decide) (by decide)
  | min => exact pe_b1 (cr_minX F.eK F.hc) hg (F.wd.bl _ (by decide)) (by kernel_rfl) ha hs (by decide) (by decide)
theorem pe_b2O (F : Fx Γ sc pg wf n G X W) (o : B2) {p pos : Pos} {a b : Expr} {f g : Env → M U} (hg : glB sc (b2N o) = true) (ha : PE X a (tE G W f)) (hb : PE X b (tE G W g)) (hs : notStar a = true) (hs2 : notStar b = true) : PE X (.Call (.Name (b2N o) p) [a, b] [] pos) (tE G W fun ρ => bnd (f ρ) fun x => bnd (g ρ) fun y => semB2 o x y) := by
  have hg := F.gl hg
  cases o with
  | max => exact pe_b2 (cr_max2X F.hc) hg (F.wd.bl _ (by decide)) (by kernel_rfl) ha hb hs hs2 (by decide) (by decide)
  | min => exact pe_b2 (cr_min2X F.hc) hg (F.wd.bl _ (by decide)) (by kernel_rfl) ha hb hs hs2 (by decide) (by decide)
theorem pe_m1O (F : Fx Γ sc pg wf n G X W) (o : M1) {p q : Pos} {a b : Expr} {f g : Env → M U} (ha : PE X a (tE G W f)) (hb : PE X b (tE G W g)) (hs : notStar b = true) (hn : noSuper a = true) (hl : (p.endLine == q.line) = true) : PE X (.Call (.Attribute a (m1N o) p) [b] [] q) (tE G W fun ρ => bnd (f ρ) fun x => bnd (kindM1 o x) fun _ => bnd (g ρ) fun y => semM1 o x y) := by
  cases o with
  | append => exact pe_m1X mth_append (kind_list F.eK) mx_append ha hb hn hs hl
  | count => exact pe_m1X mth_count (kind_list F.eK) (mx_count F.eK F.hu) ha hb hn hs hl
  | index => exact pe_m1X mth_index (kind_list F.eK) (mx_index F.eK F.hu) ha hb hn hs hl
theorem pe_m2O (F : Fx Γ sc pg wf n G X W) (o : M2) {p q : Pos} {a b c : Expr} {f g h : Env → M U} (ha : PE X a (tE G W f)) (hb : PE X b (tE G W g)) (hc : PE X c (tE G W h)) (hs : notStar b = true) (hs2 : notStar c = true) (hn : noSuper a = true) (hl : (p.endLine == q.line) = true) : PE X (.Call (.Attribute a (m2N o) p) [b, c] [] q) (tE G W fun ρ => bnd (f ρ) fun x => bnd (kindM2 o x) fun _ => bnd (g ρ) fun y => bnd (h ρ) fun z => semM2 o x y z) := by
  cases o with
  | get => exact pe_m2X mth_get (kind_dict F.eK) (mx_get F.eK F.wd.ew F.hu) ha hb hc hn hs hs2 hl
/-- targets in a comprehension's block -/
theorem names_blk {Y : Cx} (hN : Y.N = Γ.N) (nd : Γ.N.Nodup) (hsc : Y.env.scope = sc) : ∀ {is : List Nat} {es : List Expr}, namesB Γ sc false is es = true → PGs Y es (gsNames is) ∧ (assignEach es Y.env).length = is.length ∧ (assignEach es Y.env).findIdx? (·.1) = none
  | [], [], _ => ⟨pgs_nil, rfl, rfl⟩
  | i :: is, .Name x pos :: es, h => by
    unfold namesB at h
    rw [Bool.and_eq_true, Bool.and_eq_true] at h
    obtain ⟨⟨h1, h2⟩, h3⟩ := h
    obtain ⟨a1, a2, a3⟩ := names_blk hN nd hsc h3
    have hl : Y.env.scope.names.lookup x = some .local := by
      rw [hsc]
      unfold locB at h2
      split at h2
      · assumption
      · cases h2
      · cases h2
    refine ⟨pgs_cons (pg_name (by rw [hN]; exact nd) (by rw [hN]; exact of_decide_eq_true h1) (.inl hl) (.inr hl)) a1 rfl, ?_, ?_⟩
    · show (assignEach es Y.env).length + 1 = is.length + 1
      rw [a2]
    · show ((false, assign (.Name x pos) Y.env) :: assignEach es Y.env).findIdx? (·.1) = none
      rw [List.findIdx?_cons]
      simp only [Bool.false_eq_true, if_false, a3]
      rfl
  | [], _ :: _, h => by cases h
  | _ :: _, [], h => by cases h
  | _ :: _, .BoolOp _ _ _ :: _, h => by cases h
  | _ :: _, .NamedExpr _ _ _ :: _, h => by cases h
  | _ :: _, .BinOp _ _ _ _ :: _, h => by cases h
  | _ :: _, .UnaryOp _ _ _ :: _, h => by cases h
  | _ :: _, .Lambda _ _ _ _ :: _, h => by cases h
  | _ :: _, .IfExp _ _ _ _ :: _, h => by cases h
  | _ :: _, .Dict _ _ _ :: _, h => by cases h
  | _ :: _, .Set _ _ _ :: _, h => by cases h
  | _ :: _, .ListComp _ _ _ _ :: _, h => by cases h
  | _ :: _, .SetComp _ _ _ _ :: _, h => by cases h
  | _ :: _, .DictComp _ _ _ _ _ :: _, h => by cases h
  | _ :: _, .GeneratorExp _ _ _ _ :: _, h => by cases h
  | _ :: _, .Await _ _ :: _, h => by cases h
  | _ :: _, .Yield _ _ :: _, h => by cases h
  | _ :: _, .YieldFrom _ _ :: _, h => by cases h
  | _ :: _, .Compare _ _ _ _ :: _, h => by cases h
  | _ :: _, .Call _ _ _ _ :: _, h => by cases h
  | _ :: _, .FormattedValue _ _ _ _ :: _, h => by cases h
  | _ :: _, .JoinedStr _ _ :: _, h => by cases h
  | _ :: _, .Constant _ _ _ :: _, h => by cases h
  | _ :: _, .Attribute _ _ _ :: _, h => by cases h
  | _ :: _, .Subscript _ _ _ :: _, h => by cases h
  | _ :: _, .Starred _ _ :: _, h => by cases h
  | _ :: _, .List _ _ :: _, h => by cases h
  | _ :: _, .Tuple _ _ _ :: _, h => by cases h
  | _ :: _, .Slice _ _ _ _ :: _, h => by cases h
theorem tg_blk {Y : Cx} (hc : Y.calm = true) (hN : Y.N = Γ.N) (nd : Γ.N.Nodup) (hsc : Y.env.scope = sc) {is : List Nat} {one : Bool} {t : Expr} (h : tgB Γ sc false is one t = true) : PG Y t (gTg Y.K is one) := by
  cases t with
  | Name x pos =>
    have h : (one && oneB Γ sc false x is) = true := h
    rw [Bool.and_eq_true] at h
    obtain ⟨rfl, h⟩ := h
    match is, h with
    | [i], h =>
      have h : (decide (Γ.N[i]? = some x) && locB sc false x) = true := h
      rw [Bool.and_eq_true] at h
      have hl : Y.env.scope.names.lookup x = some .local := by
        rw [hsc]
        have h2 := h.2
        unfold locB at h2
        split at h2
        · assumption
        · cases h2
        · cases h2
      exact pg_name (by rw [hN]; exact nd) (by rw [hN]; exact of_decide_eq_true h.1) (.inl hl) (.inr hl)
  | Tuple es k pos =>
    have h : (!one && namesB Γ sc false is es) = true := h
    rw [Bool.and_eq_true, Bool.not_eq_true'] at h
    obtain ⟨rfl, h⟩ := h
    obtain ⟨a1, a2, a3⟩ := names_blk hN nd hsc h
    have g : PG Y (.Tuple es k pos) (gTup Y.K is.length (gsNames is)) := pg_tup hc a1 a2 a3
    match is, g with
    | [], g => exact g
    | [_], g => exact g
    | _ :: _ :: _, g => exact g
  | _ => cases h
end
end Qc
end
section
set_option Elab.async false
set_option linter.all false
set_option maxHeartbeats 8000000
set_option pp.maxSteps 400
/-! What the check means: expressions. -/
namespace Qc
open PySem PySem.Spec PyProof.Rows L2
section
variable {Γ : Gm} {pg : Pg} {wf n : Nat} {G : Gx}
abbrev K0 (pg : Pg) (wf n : Nat) : Cfg := ⟨pg, wf, callF pg wf n⟩
theorem Es_all {Γ : Gm} {sc : Scope} : ∀ {es : Es} {xs : List Expr}, chEs Γ sc es xs = true → xs.all notStar = true
  | .nil, [], _ => rfl
  | .cons e es, x :: xs, h => by
    have h : (notStar x && chE Γ sc e x && chEs Γ sc es xs) = true := h
    rw [Bool.and_eq_true, Bool.and_eq_true] at h
    rw [List.all_cons, h.1.1, Es_all h.2]
    rfl
  | .nil, _ :: _, h => by cases h
  | .cons _ _, [], h => by cases h
theorem evs_len {Γ : Gm} {sc : Scope} {K : Cfg} : ∀ {es : Es} {xs : List Expr}, chEs Γ sc es xs = true → ∀ ρ S ds S', evs K es ρ S = .ok ds S' → ds.length = xs.length
  | .nil, [], _, ρ, S, ds, S', e => by cases e; rfl
  | .cons a es, x :: xs, h, ρ, S, ds, S', e => by
    have h : (notStar x && chE Γ sc a x && chEs Γ sc es xs) = true := h
    rw [Bool.and_eq_true, Bool.and_eq_true] at h
    have e : bnd (ev K a ρ) (fun u => bnd (settle u) fun d => bnd (evs K es ρ) fun ds => pur (d :: ds)) S = .ok ds S' := e
    unfold bnd at e
    cases e1 : ev K a ρ S with
    | ok u S1 =>
      rw [e1] at e
      dsimp only at e
      cases e2 : settle u S1 with
      | ok d S2 =>
        rw [e2] at e
        dsimp only at e
        cases e3 : evs K es ρ S2 with
        | ok ds' S3 =>
          rw [e3] at e
          cases e
          rw [List.length_cons, List.length_cons, evs_len h.2 ρ S2 ds' _ e3]
        | exc c S3 => rw [e3] at e; cases e
        | stuck => rw [e3] at e; cases e
      | exc c S2 => rw [e2] at e; cases e
      | stuck => rw [e2] at e; cases e
    | exc c S1 => rw [e1] at e; cases e
    | stuck => rw [e1] at e; cases e
  | .nil, _ :: _, h, _, _, _, _, _ => by cases h
  | .cons _ _, [], h, _, _, _, _, _ => by cases h
mutual
theorem sdE : ∀ (c : E) {sc : Scope} {X : Cx} {W : WX} (F : Fx Γ sc pg wf n G X W) (e : Expr), chE Γ sc c e = true → PE X e (tE G W (ev (K0 pg wf n) c))
  | .var i, sc, X, W, F, e, h => by
    cases e with
    | Name x pos =>
      have h : (decide (Γ.N[i]? = some x) && visB sc x && plainN x) = true := h
      rw [Bool.and_eq_true, Bool.and_eq_true] at h
      exact pe_varX (F.ix (of_decide_eq_true h.1.1)) (F.vis h.1.2) (plain_of h.2).1 (plain_of h.2).2
    | _ => cases h
  | .lit d, sc, X, W, F, e, h => by
    cases e with
    | Constant k j pos =>
      have h : litB d k = true := h
      cases d with
      | non => cases k with
        | none => exact pe_nonX
        | _ => cases h
      | bl b => cases k with
        | bool c =>
          have h : (b == c) = true := h
          rw [eq_of_beq h]
          exact pe_blX
        | _ => cases h
      | int i => cases k with
        | int j =>
          have h : decide (i = j) = true := h
          rw [of_decide_eq_true h]
          exact pe_intX
        | _ => cases h
      | str x => cases k with
        | str y =>
          have h : decide (x = y) = true := h
          rw [of_decide_eq_true h]
          exact pe_strX
        | _ => cases h
      | _ => cases h
    | _ => cases h
  | .gv g, sc, X, W, F, e, h => by
    cases e with
    | Name x pos =>
      have h : (decide (Γ.gvs[g]? = some x) && glB sc x && plainN x) = true := h
      rw [Bool.and_eq_true, Bool.and_eq_true] at h
      obtain ⟨d, v, u, e1, e2, e3, e4⟩ := F.wd.gv g x (of_decide_eq_true h.1.1)
      have q := pe_gvX (G := G) (W := W) (F.gl h.1.2) e2 e3 e4 (plain_of h.2).1 (pos := pos)
      refine PE.of q fun σ H Q t => ?_
      have e : ev (K0 pg wf n) (.gv g) = fun _ => pur (.v d) := by
        funext ρ
        show opt ((pg.gvs[g]?).map U.v) = _
        rw [e1]
        rfl
      rw [e] at t
      exact t
    | _ => cases h
  | .tup es, sc, X, W, F, e, h => by
    cases e with
    | Tuple xs k pos => exact pe_tupX (sdEs es F xs h)
    | _ => cases h
  | .lst es, sc, X, W, F, e, h => by
    cases e with
    | List xs pos => exact pe_lstX (sdEs es F xs h)
    | _ => cases h
  | .dic, sc, X, W, F, e, h => by
    cases e with
    | Dict ks vs pos =>
      cases ks with
      | nil => cases vs with
        | nil => exact pe_dicX
        | cons _ _ => cases h
      | cons _ _ => cases h
    | _ => cases h
  | .bin o a b, sc, X, W, F, e, h => by
    cases e with
    | BinOp x p y pos =>
      have h : (bopB o p && chE Γ sc a x && chE Γ sc b y) = true := h
      rw [Bool.and_eq_true, Bool.and_eq_true] at h
      rw [bopB_eq h.1.1]
      exact pe_bin F.eK o (sdE a F x h.1.2) (sdE b F y h.2)
    | _ => cases h
  | .cmp o a b, sc, X, W, F, e, h => by
    cases e with
    | Compare x ps ys pos =>
      rcases ps with _ | ⟨p, _ | ⟨_, _⟩⟩ <;> rcases ys with _ | ⟨y, _ | ⟨_, _⟩⟩ <;> first
        | (have h : (copB o p && freeMark o y && chE Γ sc a x && chE Γ sc b y) = true := h
           rw [Bool.and_eq_true, Bool.and_eq_true, Bool.and_eq_true] at h
           rw [copB_eq h.1.1.1]
           exact pe_cmpX F.eK F.hu o (by have h2 := h.1.1.2; unfold freeMark at h2; rw [Bool.not_eq_true'] at h2; exact h2) (sdE a F x h.1.2) (sdE b F y h.2))
        | cases h
    | _ => cases h
  | .chn o o' a b c, sc, X, W, F, e, h => by
    cases e with
    | Compare x ps ys pos =>
      rcases ps with _ | ⟨p, _ | ⟨p', _ | ⟨_, _⟩⟩⟩ <;> rcases ys with _ | ⟨y, _ | ⟨z, _ | ⟨_, _⟩⟩⟩ <;> first
        | (have h : (copB o p && copB o' p' && freeMark o' z && chE Γ sc a x && chE Γ sc b y && chE Γ sc c z) = true := h
           rw [Bool.and_eq_true, Bool.and_eq_true, Bool.and_eq_true, Bool.and_eq_true, Bool.and_eq_true] at h
           rw [copB_eq h.1.1.1.1.1, copB_eq h.1.1.1.1.2]
           exact pe_chnX F.eK F.hu (sdE a F x h.1.1.2) (sdE b F y h.1.2) (sdE c F z h.2) (by have h2 := h.1.1.1.2; unfold freeMark at h2; rw [Bool.not_eq_true'] at h2; exact h2))
        | cases h
    | _ => cases h
  | .and es, sc, X, W, F, e, h => by
    cases e with
    | BoolOp p xs pos => cases p with
      | And => exact sdAnd es F xs pos h
      | Or => cases h
    | _ => cases h
  | .or es, sc, X, W, F, e, h => by
    cases e with
    | BoolOp p xs pos => cases p with
      | Or => exact sdOr es F xs pos h
      | And => cases h
    | _ => cases h
  | .not a, sc, X, W, F, e, h => by
    cases e with
    | UnaryOp p x pos => cases p with
      | Not => exact pe_notX F.eK (sdE a F x h)
      | _ => cases h
    | _ => cases h
  | .ife t a b, sc, X, W, F, e, h => by
    cases e with
    | IfExp c x y pos =>
      have h : (chT Γ sc t c && chE Γ sc a x && chE Γ sc b y) = true := h
      rw [Bool.and_eq_true, Bool.and_eq_true] at h
      exact pe_ifeX (sdT t F c h.1.1) (sdE a F x h.1.2) (sdE b F y h.2)
    | _ => cases h
  | .ix a i, sc, X, W, F, e, h => by
    cases e with
    | Subscript x y pos =>
      have h : (chE Γ sc a x && chE Γ sc i y && notSlice y) = true := h
      rw [Bool.and_eq_true, Bool.and_eq_true] at h
      exact pe_ixA F.eK F.wd.ew F.hu (sdE a F x h.1.1) (sdE i F y h.1.2) h.2
    | _ => cases h
  | .call f es, sc, X, W, F, e, h => by
    cases e with
    | Call g ys kw pos => cases g with
      | Name x p => cases ys with
        | nil => cases h
        | cons y ys => cases kw with
          | cons _ _ => cases h
          | nil =>
            have h : (decide (Γ.fns[f]? = some (x, (y :: ys).length)) && glB sc x && plainN x && chEs Γ sc es (y :: ys)) = true := h
            rw [Bool.and_eq_true, Bool.and_eq_true, Bool.and_eq_true] at h
            obtain ⟨fa, fd, ps, f1, f2, f3, f4⟩ := F.wd.fn f x _ (of_decide_eq_true h.1.1.1)
            exact pe_callX (fn := f) F.tk f1 F.rm (F.gl h.1.1.2) f2 f3 f4 (sdEs es F (y :: ys) h.2) (Es_all h.2) (plain_of h.1.2).1 (evs_len h.2)
      | _ => rcases ys with _ | ⟨_, _⟩ <;> cases h
    | _ => cases h
  | .isi a t, sc, X, W, F, e, h => by
    cases e with
    | Call g ys kw pos => cases g with
      | Name x p =>
        rcases ys with _ | ⟨y, _ | ⟨z, _ | ⟨_, _⟩⟩⟩
        · cases h
        · cases h
        · cases z with
          | Name c p' => cases kw with
            | cons _ _ => cases h
            | nil =>
              have h : (decide (x = "isinstance") && glB sc x && glB sc c && plainN c && tyB Γ t c && chE Γ sc a y && notStar y) = true := h
              simp only [Bool.and_eq_true] at h
              obtain ⟨⟨⟨⟨⟨⟨h1, h2⟩, h3⟩, h4⟩, h5⟩, h6⟩, h7⟩ := h
              have ex := of_decide_eq_true h1
              subst ex
              obtain ⟨v, tv, c1, c2, c3⟩ := pe_class (pos := p') F h3 h4 h5
              exact pe_isiX F.eK c2 c3 F.wd.xc (F.gl h2) (F.wd.bl _ (by decide)) (sdE a F y h6) h7 c1 rfl
          | _ => cases h
        · cases z <;> cases h
      | _ =>
        rcases ys with _ | ⟨_, _ | ⟨z, _ | ⟨_, _⟩⟩⟩ <;> first
          | cases h
          | (cases z <;> cases h)
    | _ => cases h
  | .b1 o a, sc, X, W, F, e, h => by
    cases e with
    | Call g ys kw pos => cases g with
      | Name x p =>
        rcases ys with _ | ⟨y, _ | ⟨_, _⟩⟩
        · cases h
        · cases kw with
          | cons _ _ => cases h
          | nil =>
            have h : (decide (x = b1N o) && glB sc x && chE Γ sc a y && notStar y) = true := h
            simp only [Bool.and_eq_true] at h
            obtain ⟨⟨⟨h1, h2⟩, h3⟩, h4⟩ := h
            have ex := of_decide_eq_true h1
            subst ex
            exact pe_b1O F o h2 (sdE a F y h3) h4
        · cases h
      | _ => rcases ys with _ | ⟨_, _⟩ <;> cases h
    | _ => cases h
  | .b2 o a b, sc, X, W, F, e, h => by
    cases e with
    | Call g ys kw pos => cases g with
      | Name x p =>
        rcases ys with _ | ⟨y, _ | ⟨z, _ | ⟨_, _⟩⟩⟩
        · cases h
        · cases h
        · cases kw with
          | cons _ _ => cases h
          | nil =>
            have h : (decide (x = b2N o) && glB sc x && chE Γ sc a y && chE Γ sc b z && notStar y && notStar z) = true := h
            simp only [Bool.and_eq_true] at h
            obtain ⟨⟨⟨⟨⟨h1, h2⟩, h3⟩, h4⟩, h5⟩, h6⟩ := h
            have ex := of_decide_eq_true h1
            subst ex
            exact pe_b2O F o h2 (sdE a F y h3) (sdE b F z h4) h5 h6
        · cases h
      | _ => rcases ys with _ | ⟨_, _ | ⟨_, _⟩⟩ <;> cases h
    | _ => cases h
  | .m1 o a b, sc, X, W, F, e, h => by
    cases e with
    | Call g ys kw pos => cases g with
      | Attribute y m p =>
        rcases ys with _ | ⟨z, _ | ⟨_, _⟩⟩
        · cases h
        · cases kw with
          | cons _ _ => cases h
          | nil =>
            have h : (decide (m = m1N o) && noSuper y && notStar z && (p.endLine == pos.line) && chE Γ sc a y && chE Γ sc b z) = true := h
            simp only [Bool.and_eq_true] at h
            obtain ⟨⟨⟨⟨⟨h1, h2⟩, h3⟩, h4⟩, h5⟩, h6⟩ := h
            have ex := of_decide_eq_true h1
            subst ex
            exact pe_m1O F o (sdE a F y h5) (sdE b F z h6) h3 h2 h4
        · cases h
      | _ => rcases ys with _ | ⟨_, _ | ⟨_, _⟩⟩ <;> cases h
    | _ => cases h
  | .m2 o a b c, sc, X, W, F, e, h => by
    cases e with
    | Call g ys kw pos => cases g with
      | Attribute y m p =>
        rcases ys with _ | ⟨z, _ | ⟨u, _ | ⟨_, _⟩⟩⟩
        · cases h
        · cases h
        · cases kw with
          | cons _ _ => cases h
          | nil =>
            have h : (decide (m = m2N o) && noSuper y && notStar z && notStar u && (p.endLine == pos.line) && chE Γ sc a y && chE Γ sc b z && chE Γ sc c u) = true := h
            simp only [Bool.and_eq_true] at h
            obtain ⟨⟨⟨⟨⟨⟨⟨h1, h2⟩, h3⟩, h4⟩, h5⟩, h6⟩, h7⟩, h8⟩ := h
            have ex := of_decide_eq_true h1
            subst ex
            exact pe_m2O F o (sdE a F y h6) (sdE b F z h7) (sdE c F u h8) h3 h4 h2 h5
        · cases h
      | _ => rcases ys with _ | ⟨_, _ | ⟨_, _ | ⟨_, _⟩⟩⟩ <;> cases h
    | _ => cases h
  | .lc elt is one it ts, sc, X, W, F, e, h => by
    cases e with
    | ListComp x gs scope pos =>
      rcases gs with _ | ⟨⟨t, i, cs, a⟩, _ | ⟨_, _⟩⟩
      · cases h
      · have h : (decide (a = 0) && tgB Γ (relS scope sc) false is one t && notSetD i && chI Γ sc it i && chC Γ (relS scope sc) ts cs && chE Γ (relS scope sc) elt x && blkC Γ.N sc scope (ownOf Γ is) && decide ((ownOf Γ is).map (·.2) = is)) = true := h
        simp only [Bool.and_eq_true] at h
        obtain ⟨⟨⟨⟨⟨⟨⟨h1, h2⟩, h3⟩, h4⟩, h5⟩, h6⟩, h7⟩, h8⟩ := h
        have ea := of_decide_eq_true h1
        subst ea
        have eo := of_decide_eq_true h8
        have ok : BlkOk X.N X.env.scope scope (ownOf Γ is) := by
          rw [F.hN, F.sc]
          exact blkOk_by h7
        exact pe_lcX F.eK (wf := wf) F.hc F.nd' (sdI it F i h4) ok (fun s H C cl fp => tg_blk (F.blk s H C cl fp scope).hc (F.blk s H C cl fp scope).hN F.nd (F.blk s H C cl fp scope).sc h2) (fun s H C cl fp => sdC ts (F.blk s H C cl fp scope) cs h5) (fun s H C cl fp => sdE elt (F.blk s H C cl fp scope) x h6)
          (folded_of h3 _) (by rw [eo]; exact fun _ h => h) (by rw [eo]; exact fun _ h => h)
      · cases h
    | _ => cases h
theorem sdEs : ∀ (c : Es) {sc : Scope} {X : Cx} {W : WX} (F : Fx Γ sc pg wf n G X W) (xs : List Expr), chEs Γ sc c xs = true → PA X xs (tA G W (evs (K0 pg wf n) c))
  | .nil, sc, X, W, F, xs, h => by
    cases xs with
    | nil => exact pa_nilX
    | cons _ _ => cases h
  | .cons e es, sc, X, W, F, xs, h => by
    cases xs with
    | nil => cases h
    | cons x xs =>
      have h : (notStar x && chE Γ sc e x && chEs Γ sc es xs) = true := h
      rw [Bool.and_eq_true, Bool.and_eq_true] at h
      exact pa_consX (sdE e F x h.1.2) (sdEs es F xs h.2) (star_cons h.1.1 _ _)
theorem sdAnd : ∀ (c : Es) {sc : Scope} {X : Cx} {W : WX} (F : Fx Γ sc pg wf n G X W) (xs : List Expr) (pos : Pos), chBs Γ sc c xs = true → PE X (.BoolOp .And xs pos) (tE G W (evAnd (K0 pg wf n) c))
  | .nil, sc, X, W, F, xs, pos, h => by cases h
  | .cons e .nil, sc, X, W, F, xs, pos, h => by
    rcases xs with _ | ⟨x, _ | ⟨_, _⟩⟩ <;> first
      | exact pe_one (sdE e F x h)
      | cases h
  | .cons e (.cons e' es), sc, X, W, F, xs, pos, h => by
    rcases xs with _ | ⟨x, _ | ⟨y, xs⟩⟩
    · cases h
    · cases h
    · have h : (chE Γ sc e x && chBs Γ sc (.cons e' es) (y :: xs)) = true := h
      rw [Bool.and_eq_true] at h
      exact pe_andX F.eK (sdE e F x h.1) (sdAnd (.cons e' es) F (y :: xs) pos h.2)
theorem sdOr : ∀ (c : Es) {sc : Scope} {X : Cx} {W : WX} (F : Fx Γ sc pg wf n G X W) (xs : List Expr) (pos : Pos), chBs Γ sc c xs = true → PE X (.BoolOp .Or xs pos) (tE G W (evOr (K0 pg wf n) c))
  | .nil, sc, X, W, F, xs, pos, h => by cases h
  | .cons e .nil, sc, X, W, F, xs, pos, h => by
    rcases xs with _ | ⟨x, _ | ⟨_, _⟩⟩ <;> first
      | exact pe_one (sdE e F x h)
      | cases h
  | .cons e (.cons e' es), sc, X, W, F, xs, pos, h => by
    rcases xs with _ | ⟨x, _ | ⟨y, xs⟩⟩
    · cases h
    · cases h
    · have h : (chE Γ sc e x && chBs Γ sc (.cons e' es) (y :: xs)) = true := h
      rw [Bool.and_eq_true] at h
      exact pe_orX F.eK (sdE e F x h.1) (sdOr (.cons e' es) F (y :: xs) pos h.2)
theorem sdI : ∀ (c : Qc.It) {sc : Scope} {X : Cx} {W : WX} (F : Fx Γ sc pg wf n G X W) (e : Expr), chI Γ sc c e = true → ∀ {tg : Expr}, PI X tg e (tI G W (evI (K0 pg wf n) c))
  | .rng a, sc, X, W, F, e, h => by
    cases e with
    | Call g ys kw pos => cases g with
      | Name x p =>
        rcases ys with _ | ⟨y, _ | ⟨_, _⟩⟩
        · cases h
        · cases kw with
          | cons _ _ => cases h
          | nil =>
            have h : (decide (x = "range") && glB sc x && chE Γ sc a y && notStar y) = true := h
            simp only [Bool.and_eq_true] at h
            obtain ⟨⟨⟨h1, h2⟩, h3⟩, h4⟩ := h
            have ex := of_decide_eq_true h1
            subst ex
            exact pi_rngX (F.gl h2) (F.wd.bl _ (by decide)) (sdE a F y h3) h4
        · cases h
      | _ => rcases ys with _ | ⟨_, _⟩ <;> cases h
    | _ => cases h
  | .rng2 a b, sc, X, W, F, e, h => by
    cases e with
    | Call g ys kw pos => cases g with
      | Name x p =>
        rcases ys with _ | ⟨y, _ | ⟨z, _ | ⟨_, _⟩⟩⟩
        · cases h
        · cases h
        · cases kw with
          | cons _ _ => cases h
          | nil =>
            have h : (decide (x = "range") && glB sc x && chE Γ sc a y && chE Γ sc b z && notStar y && notStar z) = true := h
            simp only [Bool.and_eq_true] at h
            obtain ⟨⟨⟨⟨⟨h1, h2⟩, h3⟩, h4⟩, h5⟩, h6⟩ := h
            have ex := of_decide_eq_true h1
            subst ex
            exact pi_rng2X (F.gl h2) (F.wd.bl _ (by decide)) (sdE a F y h3) (sdE b F z h4) h5 h6
        · cases h
      | _ => rcases ys with _ | ⟨_, _ | ⟨_, _⟩⟩ <;> cases h
    | _ => cases h
  | .of a, sc, X, W, F, e, h => by
    exact pi_ofX F.eK (sdE a F e h)
theorem sdC : ∀ (c : Ts) {sc : Scope} {X : Cx} {W : WX} (F : Fx Γ sc pg wf n G X W) (xs : List Expr), chC Γ sc c xs = true → PTs X xs (tT G W (evIfs (K0 pg wf n) c))
  | .nil, sc, X, W, F, xs, h => by
    cases xs with
    | nil =>
      refine ⟨fun pins s σ H Q I q => pts_nil.run pins s σ H Q I ?_⟩
      obtain ⟨β, ρ, S, E, T, p⟩ := q
      exact p true H β .refl T rfl
    | cons _ _ => cases h
  | .cons t .nil, sc, X, W, F, xs, h => by
    rcases xs with _ | ⟨x, _ | ⟨_, _⟩⟩ <;> first
      | exact pts_one (sdT t F x h)
      | cases h
  | .cons _ (.cons _ _), sc, X, W, F, xs, h => by cases h
theorem sdT : ∀ (c : T) {sc : Scope} {X : Cx} {W : WX} (F : Fx Γ sc pg wf n G X W) (e : Expr), chT Γ sc c e = true → PT X e (tT G W (evT (K0 pg wf n) c))
  | .of c, sc, X, W, F, e, h => by
    have h : (chE Γ sc c e && (plainT e || isCmp e)) = true := h
    rw [Bool.and_eq_true, Bool.or_eq_true] at h
    rcases h with ⟨h1, h2 | h2⟩
    · exact pt_ofX F.eK (sdE c F e h1) (plainT_of h2 _)
    · exact sdCmp c F e h1 h2
  | .and ts, sc, X, W, F, e, h => by
    cases e with
    | BoolOp p xs pos => cases p with
      | And => exact (sdTA ts F xs pos h).pt
      | Or => cases h
    | _ => cases h
  | .or ts, sc, X, W, F, e, h => by
    cases e with
    | BoolOp p xs pos => cases p with
      | Or => exact (sdTO ts F xs pos h).pt
      | And => cases h
    | _ => cases h
  | .not t, sc, X, W, F, e, h => by
    cases e with
    | UnaryOp p x pos => cases p with
      | Not => exact pt_notX (sdT t F x h)
      | _ => cases h
    | _ => cases h
theorem sdCmp : ∀ (c : E) {sc : Scope} {X : Cx} {W : WX} (F : Fx Γ sc pg wf n G X W) (e : Expr), chE Γ sc c e = true → isCmp e = true → PT X e (tT G W fun ρ => bnd (ev (K0 pg wf n) c ρ) tru)
  | .cmp o a b, sc, X, W, F, e, h, h0 => by
    cases e with
    | Compare x ps ys pos =>
      rcases ps with _ | ⟨p, _ | ⟨_, _⟩⟩ <;> rcases ys with _ | ⟨y, _ | ⟨_, _⟩⟩ <;> first
        | (have h : (copB o p && freeMark o y && chE Γ sc a x && chE Γ sc b y) = true := h
           rw [Bool.and_eq_true, Bool.and_eq_true, Bool.and_eq_true] at h
           rw [copB_eq h.1.1.1]
           exact pt_cmpX F.eK F.hu o (by have h2 := h.1.1.2; unfold freeMark at h2; rw [Bool.not_eq_true'] at h2; exact h2) (sdE a F x h.1.2) (sdE b F y h.2))
        | cases h
    | _ => cases h
  | .chn o o' a b c, sc, X, W, F, e, h, h0 => by
    cases e with
    | Compare x ps ys pos =>
      rcases ps with _ | ⟨p, _ | ⟨p', _ | ⟨_, _⟩⟩⟩ <;> rcases ys with _ | ⟨y, _ | ⟨z, _ | ⟨_, _⟩⟩⟩ <;> first
        | (have h : (copB o p && copB o' p' && freeMark o' z && chE Γ sc a x && chE Γ sc b y && chE Γ sc c z) = true := h
           rw [Bool.and_eq_true, Bool.and_eq_true, Bool.and_eq_true, Bool.and_eq_true, Bool.and_eq_true] at h
           rw [copB_eq h.1.1.1.1.1, copB_eq h.1.1.1.1.2]
           exact pt_chnX F.eK F.hu (sdE a F x h.1.1.2) (sdE b F y h.1.2) (sdE c F z h.2) (by have h2 := h.1.1.1.2; unfold freeMark at h2; rw [Bool.not_eq_true'] at h2; exact h2))
        | cases h
    | _ => cases h
  | .var _, _, _, _, _, e, h, h0 => by cases e <;> first | (cases h; done) | (cases h0; done)
  | .lit _, _, _, _, _, e, h, h0 => by cases e <;> first | (cases h; done) | (cases h0; done)
  | .gv _, _, _, _, _, e, h, h0 => by cases e <;> first | (cases h; done) | (cases h0; done)
  | .tup _, _, _, _, _, e, h, h0 => by cases e <;> first | (cases h; done) | (cases h0; done)
  | .lst _, _, _, _, _, e, h, h0 => by cases e <;> first | (cases h; done) | (cases h0; done)
  | .dic, _, _, _, _, e, h, h0 => by cases e <;> first | (cases h; done) | (cases h0; done)
  | .bin _ _ _, _, _, _, _, e, h, h0 => by cases e <;> first | (cases h; done) | (cases h0; done)
  | .and _, _, _, _, _, e, h, h0 => by cases e <;> first | (cases h; done) | (cases h0; done)
  | .or _, _, _, _, _, e, h, h0 => by cases e <;> first | (cases h; done) | (cases h0; done)
  | .not _, _, _, _, _, e, h, h0 => by cases e <;> first | (cases h; done) | (cases h0; done)
  | .ife _ _ _, _, _, _, _, e, h, h0 => by cases e <;> first | (cases h; done) | (cases h0; done)
  | .ix _ _, _, _, _, _, e, h, h0 => by cases e <;> first | (cases h; done) | (cases h0; done)
  | .call _ _, _, _, _, _, e, h, h0 => by cases e <;> first | (cases h; done) | (cases h0; done)
  | .isi _ _, _, _, _, _, e, h, h0 => by cases e <;> first | (cases h; done) | (cases h0; done)
  | .b1 _ _, _, _, _, _, e, h, h0 => by cases e <;> first | (cases h; done) | (cases h0; done)
  | .b2 _ _ _, _, _, _, _, e, h, h0 => by cases e <;> first | (cases h; done) | (cases h0; done)
  | .m1 _ _ _, _, _, _, _, e, h, h0 => by cases e <;> first | (cases h; done) | (cases h0; done)
  | .m2 _ _ _ _, _, _, _, _, e, h, h0 => by cases e <;> first | (cases h; done) | (cases h0; done)
  | .lc _ _ _ _ _, _, _, _, _, e, h, h0 => by cases e <;> first | (cases h; done) | (cases h0; done)
theorem sdTA : ∀ (c : Ts) {sc : Scope} {X : Cx} {W : WX} (F : Fx Γ sc pg wf n G X W) (xs : List Expr) (pos : Pos), chTs Γ sc c xs = true → PW X (.BoolOp .And xs pos) (tT G W (evTA (K0 pg wf n) c))
  | .nil, sc, X, W, F, xs, pos, h => by cases h
  | .cons t .nil, sc, X, W, F, xs, pos, h => by
    rcases xs with _ | ⟨x, _ | ⟨_, _⟩⟩ <;> first
      | exact pw_and1 (sdT t F x h)
      | cases h
  | .cons t (.cons t' ts), sc, X, W, F, xs, pos, h => by
    rcases xs with _ | ⟨x, _ | ⟨y, xs⟩⟩
    · cases h
    · cases h
    · have h : (chT Γ sc t x && chTs Γ sc (.cons t' ts) (y :: xs)) = true := h
      rw [Bool.and_eq_true] at h
      exact pw_andX (sdT t F x h.1) (sdTA (.cons t' ts) F (y :: xs) pos h.2)
theorem sdTO : ∀ (c : Ts) {sc : Scope} {X : Cx} {W : WX} (F : Fx Γ sc pg wf n G X W) (xs : List Expr) (pos : Pos), chTs Γ sc c xs = true → PW X (.BoolOp .Or xs pos) (tT G W (evTO (K0 pg wf n) c))
  | .nil, sc, X, W, F, xs, pos, h => by cases h
  | .cons t .nil, sc, X, W, F, xs, pos, h => by
    rcases xs with _ | ⟨x, _ | ⟨_, _⟩⟩ <;> first
      | exact pw_or1 (sdT t F x h)
      | cases h
  | .cons t (.cons t' ts), sc, X, W, F, xs, pos, h => by
    rcases xs with _ | ⟨x, _ | ⟨y, xs⟩⟩
    · cases h
    · cases h
    · have h : (chT Γ sc t x && chTs Γ sc (.cons t' ts) (y :: xs)) = true := h
      rw [Bool.and_eq_true] at h
      exact pw_orX (sdT t F x h.1) (sdTO (.cons t' ts) F (y :: xs) pos h.2)
end
end
end Qc
end
section
set_option Elab.async false
set_option linter.all false
set_option maxHeartbeats 8000000
set_option pp.maxSteps 400
/-! What the check means: statements. -/
namespace Qc
open PySem PySem.Spec PyProof.Rows L2
def notComp : Expr → Bool
  | .ListComp _ _ _ _ => false
  | .SetComp _ _ _ _ => false
  | .DictComp _ _ _ _ _ => false
  | _ => true
def notTup : Expr → Bool
  | .Tuple _ _ _ => false
  | _ => true
/-- name = [..] that is stored within -/
def swB (sc : Scope) (x : Str) (p : Pos) : Expr → Bool
  | .ListComp _ _ s q => isLocal sc x && (p.line == q.line) && !(s.names.any fun (n, k) => n == x && (k == .local || k == .cell))
  | _ => false
def isLcE : E → Bool
  | .lc _ _ _ _ _ => true
  | _ => false
def isLc : Expr → Bool
  | .ListComp _ _ _ _ => true
  | _ => false
/-- try: body / except cn as n: y = n' -/
def tryParts : Stmt → Option (List Stmt × Str × Str × Str × Str)
  | .Try x [.ExceptHandler (some (.Name cn _)) (some n) [.Assign [.Name y _] (.Name n' _) _] _] [] [] _ => some (x, cn, n, y, n')
  | _ => none
theorem tryParts_eq {s : Stmt} {x : List Stmt} {cn n y n' : Str} (h : tryParts s = some (x, cn, n, y, n')) : ∃ np py pn apos hp pos, s = .Try x [.ExceptHandler (some (.Name cn np)) (some n) [.Assign [.Name y py] (.Name n' pn) apos] hp] [] [] pos := by
  unfold tryParts at h
  split at h
  · cases h
    exact ⟨_, _, _, _, _, _, rfl⟩
  · cases h
mutual
def chS (Γ : Gm) (sc : Scope) : St → Stmt → Bool
  | .asg is one e, .Assign [.Name x p] v _ => one && oneB Γ sc true x is && chE Γ sc e v && (notComp v || isLc v)
  | .asg is one e, .Assign [.Tuple es k p] v _ => !one && namesB Γ sc true is es && chE Γ sc e v && notTup v && (notComp v || isLc v)
  | .seti o i e, .Assign [.Subscript x y _] v _ => chE Γ sc o x && chE Γ sc i y && chE Γ sc e v && notSlice y && (notComp v || isLc v)
  | .expr e, .Expr v _ => chE Γ sc e v && notComp v
  | .pass, .Expr (.Constant (.str _) _ _) _ => true
  | .pass, .Pass _ => true
  | .ret e, .Return (some v) _ => chE Γ sc e v
  | .ret (.lit .non), .Return none _ => true
  | .rai c, .Raise (some (.Call (.Name x _) [.Constant (.str _) _ _] [] _)) none _ => decide (Γ.exs[c]? = some x) && glB sc x && plainN x
  | .brk, .Break _ => true
  | .cnt, .Continue _ => true
  | .ite t a b, .If c x y _ => chT Γ sc t c && chSs Γ sc a x && chSs Γ sc b y
  | .for_ is one it b, .For t i x [] _ => tgB Γ sc true is one t && notSetD i && chI Γ sc it i && chSs Γ sc b x
  | .whl t b, .While c x [] _ => chT Γ sc t c && chSs Γ sc b x
  | .tryAs b c i j, s => (match tryParts s with
    | some (x, cn, n, y, n') => chSs Γ sc b x && decide (Γ.exs[c]? = some cn) && glB sc cn && plainN cn && decide (Γ.N[i]? = some n) && decide (n' = n) && isLocal sc n && plainN n && decide (Γ.N[j]? = some y) && isLocal sc y && decide (i ≠ j)
    | none => false)
  | _, _ => false
def chSs (Γ : Gm) (sc : Scope) : Sts → List Stmt → Bool
  | .nil, [] => true
  | .cons s .nil, [x] => chS Γ sc s x
  | .cons s (.cons s' ss), x :: y :: xs => chS Γ sc s x && chSs Γ sc (.cons s' ss) (y :: xs)
  | _, _ => false
end
/-- at a def's own statements -/
structure Fs (Γ : Gm) (sc : Scope) (pg : Pg) (wf n : Nat) (G : Gx) (X : Cx) (W : WX) : Prop where
  fx : Fx Γ sc pg wf n G X W
  hst : X.stack = X.env :: X.outer
  hf : X.env.frame = some X.env.locals
  hex : X.ex = []
  hfn : ∀ x, X.fn x = true
  pass : PassesOwn (model X.prog X.w) X.A X.env X.xe
  kd : X.env.scope.kind = .function
section
variable {Γ : Gm} {sc : Scope} {pg : Pg} {wf n : Nat} {G : Gx} {X : Cx} {W : WX}
theorem Fs.tr (F : Fs Γ sc pg wf n G X W) {pn : List (Addr × Obj)} {xe : Value → Shared → Prop} {W' : WX} (tk : Takes (X.tr pn xe) W') (hp : PassesOwn (model X.prog X.w) X.A X.env xe) : Fs Γ sc pg wf n G (X.tr pn xe) W' :=
  ⟨⟨F.fx.wd, F.fx.hc, F.fx.rm, F.fx.hN, F.fx.nd, F.fx.sc, tk⟩, F.hst, F.hf, F.hex, F.hfn, hp, F.kd⟩
theorem local_of {x : Str} (h : isLocal sc x = true) : sc.names.lookup x = some .local := by
  unfold isLocal at h
  split at h
  · assumption
  · cases h
theorem loc_of {top : Bool} {x : Str} (h : locB sc top x = true) : Loc sc x := by
  unfold locB at h
  split at h
  · exact .inl (by assumption)
  · exact .inr (by assumption)
  · cases h
/-- targets at a def's own statements -/
theorem names_top (F : Fs Γ sc pg wf n G X W) : ∀ {is : List Nat} {es : List Expr}, namesB Γ sc true is es = true → PGs X es (gsNames is) ∧ (assignEach es X.env).length = is.length ∧ (assignEach es X.env).findIdx? (·.1) = none
  | [], es, h => by
    cases es with
    | nil => exact ⟨pgs_nil, rfl, rfl⟩
    | cons _ _ => cases h
  | i :: is, es, h => by
    cases es with
    | nil => cases h
    | cons e es =>
      cases e with
      | Name x pos =>
        have h : (decide (Γ.N[i]? = some x) && locB sc true x && namesB Γ sc true is es) = true := h
        rw [Bool.and_eq_true, Bool.and_eq_true] at h
        obtain ⟨⟨h1, h2⟩, h3⟩ := h
        obtain ⟨a1, a2, a3⟩ := names_top F h3
        refine ⟨pgs_cons (pg_name F.fx.nd' (F.fx.ix (of_decide_eq_true h1)) (by rw [F.fx.sc]; exact loc_of h2) (.inl (F.hfn x))) a1 rfl, ?_, ?_⟩
        · show (assignEach es X.env).length + 1 = is.length + 1
          rw [a2]
        · show ((false, assign (.Name x pos) X.env) :: assignEach es X.env).findIdx? (·.1) = none
          rw [List.findIdx?_cons]
          simp only [Bool.false_eq_true, if_false, a3]
          rfl
      | _ => cases h
theorem tg_top (F : Fs Γ sc pg wf n G X W) {is : List Nat} {one : Bool} {t : Expr} (h : tgB Γ sc true is one t = true) : PG X t (tG G fun ρ d => target ρ is one d) := by
  cases t with
  | Name x pos =>
    have h : (one && oneB Γ sc true x is) = true := h
    rw [Bool.and_eq_true] at h
    obtain ⟨rfl, h⟩ := h
    match is, h with
    | [i], h =>
      have h : (decide (Γ.N[i]? = some x) && locB sc true x) = true := h
      rw [Bool.and_eq_true] at h
      exact pg_nameX F.fx.nd' (F.fx.ix (of_decide_eq_true h.1)) (by rw [F.fx.sc]; exact loc_of h.2) (.inl (F.hfn x))
  | Tuple es k pos =>
    have h : (!one && namesB Γ sc true is es) = true := h
    rw [Bool.and_eq_true, Bool.not_eq_true'] at h
    obtain ⟨rfl, h⟩ := h
    obtain ⟨a1, a2, a3⟩ := names_top F h
    have g := pg_tupX (G := G) (k := k) (pos := pos) F.fx.eK F.fx.hc a1 a2 a3
    refine PG.of g fun v σ H Q q => ?_
    obtain ⟨β, ρ, S, d, E, T, r, p⟩ := q
    refine ⟨β, ρ, S, d, E, T, r, ?_⟩
    unfold target at p
    match is, p with
    | [], p => exact p
    | [_], p => exact p
    | _ :: _ :: _, p => exact p
  | _ => cases h
theorem sw_of {x : Str} {p : Pos} {v : Expr} {l : Nat} (F : Fs Γ sc pg wf n G X W) (h : swB sc x p v = false) (hv : (notComp v || isLc v) = true) : swapsWithSole [.Name x p] v l X.env = pure false := by
  cases v with
  | ListComp e gs s q =>
    have e1 : swapsWithSole [.Name x p] (.ListComp e gs s q) l X.env = pure (X.env.blockKind == .function && X.env.kindOf x == some .local && p.line == q.line && !(s.names.any fun (n, k) => n == x && (k == .local || k == .cell))) := rfl
    rw [e1]
    congr 1
    have h : (isLocal sc x && (p.line == q.line) && !(s.names.any fun (n, k) => n == x && (k == .local || k == .cell))) = false := h
    cases h1 : isLocal sc x with
    | true =>
      rw [h1, Bool.true_and] at h
      rw [Bool.and_assoc, h, Bool.and_false]
    | false =>
      have h2 : (X.env.kindOf x == some NameKind.local) = false := by
        show (X.env.scope.names.lookup x == some NameKind.local) = false
        rw [F.fx.sc]
        unfold isLocal at h1
        split at h1
        · cases h1
        · rename_i hne
          cases q : sc.names.lookup x with
          | none => rfl
          | some k =>
            cases k <;> first
              | rfl
              | exact absurd q hne
      rw [h2, Bool.and_false, Bool.false_and, Bool.false_and]
  | SetComp _ _ _ _ => cases hv
  | DictComp _ _ _ _ _ => cases hv
  | _ => rfl
end
end Qc
end
section
set_option Elab.async false
set_option linter.all false
set_option maxHeartbeats 8000000
set_option pp.maxSteps 400
/-! What the check means: statements. -/
namespace Qc
open PySem PySem.Spec PyProof.Rows L2
section
variable {Γ : Gm} {pg : Pg} {wf n : Nat} {G : Gx}
theorem sw_other {t v : Expr} {l : Nat} {env : PySem.Env} (ht : ∀ x p, t ≠ .Name x p) (hv : (notComp v || isLc v) = true) : swapsWithSole [t] v l env = pure false := by
  cases v with
  | SetComp _ _ _ _ => cases hv
  | DictComp _ _ _ _ _ => cases hv
  | ListComp _ _ _ _ =>
    cases t <;> first
      | rfl
      | exact absurd rfl (ht _ _)
  | _ => rfl
theorem sw_drop {v : Expr} {l : Nat} {env : PySem.Env} (hv : notComp v = true) : swapsWith v none l env = pure false := by
  cases v <;> first | rfl | cases hv
theorem stores_tup {es : List Expr} {k : Nat} {p : Pos} {v : Expr} {env : PySem.Env} (h : notTup v = true) : swappedStores [.Tuple es k p] v env = pure none := by
  cases v <;> first | rfl | cases h
theorem stores_sub {x y : Expr} {p : Pos} {v : Expr} {env : PySem.Env} : swappedStores [.Subscript x y p] v env = pure none := by
  cases v <;> rfl
theorem stores_name {x : Str} {p : Pos} {v : Expr} {env : PySem.Env} : swappedStores [.Name x p] v env = pure none := by
  cases v <;> rfl
theorem assign_sub {o i : Expr} {tpos : Pos} {env : PySem.Env} (h : notSlice i = true) : ∀ v, assign (.Subscript o i tpos) env v = (do
      let ov ← holding [v] (eval o env)
      let iv ← holding [v, ov] (eval i env)
      standAt tpos
      holding [v, ov, iv] (setItem ov iv v)
      release [v, ov, iv] []) := by
  intro v
  cases i <;> first | rfl | cases h
/-- name = e -/
theorem sd_name {sc : Scope} {X : Cx} {W : WX} (F : Fs Γ sc pg wf n G X W) {is : List Nat} {c : E} {x : Str} {p pos : Pos} {v : Expr} (h1 : oneB Γ sc true x is = true) (h2 : chE Γ sc c v = true) (h3 : (notComp v || isLc v) = true) : PS X (.Assign [.Name x p] v pos) (tS G W (ex (K0 pg wf n) (.asg is true c))) := by
  match is, h1 with
  | [i], h1 =>
    have h1 : (decide (Γ.N[i]? = some x) && locB sc true x) = true := h1
    rw [Bool.and_eq_true] at h1
    have hi := F.fx.ix (of_decide_eq_true h1.1)
    cases hs : swB sc x p v with
    | false => exact ps_asgX (sdE c F.fx v h2) (pg_nameX F.fx.nd' hi (by rw [F.fx.sc]; exact loc_of h1.2) (.inl (F.hfn x))) (sw_of F hs h3) stores_name rfl (target_pure [i] true)
    | true =>
      cases v with
      | ListComp y gs scope q =>
        have hs : (isLocal sc x && (p.line == q.line) && !(scope.names.any fun (n, k) => n == x && (k == .local || k == .cell))) = true := hs
        simp only [Bool.and_eq_true, Bool.not_eq_true'] at hs
        obtain ⟨⟨s1, s2⟩, s3⟩ := hs
        cases c with
        | lc elt js one it ts =>
          rcases gs with _ | ⟨⟨t, it', cs, a⟩, _ | ⟨_, _⟩⟩
          · cases h2
          · have h : (decide (a = 0) && tgB Γ (relS scope sc) false js one t && notSetD it' && chI Γ sc it it' && chC Γ (relS scope sc) ts cs && chE Γ (relS scope sc) elt y && blkC Γ.N sc scope (ownOf Γ js) && decide ((ownOf Γ js).map (·.2) = js)) = true := h2
            simp only [Bool.and_eq_true] at h
            obtain ⟨⟨⟨⟨⟨⟨⟨g1, g2⟩, g3⟩, g4⟩, g5⟩, g6⟩, g7⟩, g8⟩ := h
            have ea := of_decide_eq_true g1
            subst ea
            have eo := of_decide_eq_true g8
            have ok : BlkOk X.N X.env.scope scope (ownOf Γ js) := by
              rw [F.fx.hN, F.fx.sc]
              exact blkOk_by g7
            have hl : X.env.scope.names.lookup x = some .local := by rw [F.fx.sc]; exact local_of s1
            exact ps_setLcX F.fx.eK (wf := wf) F.fx.hc F.fx.nd' hi hl (sw_true F.kd hl s2 s3) (sdI it F.fx it' g4) ok (fun s H C cl fp => tg_blk (F.fx.blk s H C cl fp scope).hc (F.fx.blk s H C cl fp scope).hN F.fx.nd (F.fx.blk s H C cl fp scope).sc g2) (fun s H C cl fp => sdC ts (F.fx.blk s H C cl fp scope) cs g5) (fun s H C cl fp => sdE elt (F.fx.blk s H C cl fp scope) y g6)
              (folded_of g3 _) (by rw [eo]; exact fun _ h => h) (by rw [eo]; exact fun _ h => h)
          · cases h2
        | _ => rcases gs with _ | ⟨_, _ | ⟨_, _⟩⟩ <;> cases h2
      | _ => cases hs
mutual
theorem sdS : ∀ (c : St) {sc : Scope} {X : Cx} {W : WX} (F : Fs Γ sc pg wf n G X W) (s : Stmt), chS Γ sc c s = true → PS X s (tS G W (ex (K0 pg wf n) c))
  | .asg is one c, sc, X, W, F, s, h => by
    cases s with
    | Assign ts v pos =>
      rcases ts with _ | ⟨t, _ | ⟨_, _⟩⟩
      · cases h
      · cases t with
        | Name x p =>
          have h : (one && oneB Γ sc true x is && chE Γ sc c v && (notComp v || isLc v)) = true := h
          rw [Bool.and_eq_true, Bool.and_eq_true, Bool.and_eq_true] at h
          obtain ⟨⟨⟨rfl, h1⟩, h2⟩, h3⟩ := h
          exact sd_name F h1 h2 h3
        | Tuple es k p =>
          have h : (!one && namesB Γ sc true is es && chE Γ sc c v && notTup v && (notComp v || isLc v)) = true := h
          simp only [Bool.and_eq_true, Bool.not_eq_true'] at h
          obtain ⟨⟨⟨⟨rfl, h1⟩, h2⟩, h3⟩, h4⟩ := h
          exact ps_asgX (sdE c F.fx v h2) (tg_top F (is := is) (one := false) (t := .Tuple es k p) (by show (!false && namesB Γ sc true is es) = true; rw [h1]; rfl)) (sw_other (fun _ _ e => by cases e) h4) (stores_tup h3) rfl (target_pure is false)
        | _ => cases h
      · cases t <;> cases h
    | _ => cases h
  | .seti o i c, sc, X, W, F, s, h => by
    cases s with
    | Assign ts v pos =>
      rcases ts with _ | ⟨t, _ | ⟨_, _⟩⟩
      · cases h
      · cases t with
        | Subscript x y p =>
          have h : (chE Γ sc o x && chE Γ sc i y && chE Γ sc c v && notSlice y && (notComp v || isLc v)) = true := h
          simp only [Bool.and_eq_true] at h
          obtain ⟨⟨⟨⟨h1, h2⟩, h3⟩, h4⟩, h5⟩ := h
          exact ps_setiX F.fx.eK F.fx.wd.ew F.fx.hu (sdE c F.fx v h3) (sdE o F.fx x h1) (sdE i F.fx y h2) h4 (sw_other (fun _ _ e => by cases e) h5) stores_sub rfl (assign_sub h4)
        | _ => cases h
      · cases t <;> cases h
    | _ => cases h
  | .expr c, sc, X, W, F, s, h => by
    cases s with
    | Expr v pos =>
      have h : (chE Γ sc c v && notComp v) = true := h
      rw [Bool.and_eq_true] at h
      exact ps_exprX (sdE c F.fx v h.1) (sw_drop h.2)
    | _ => cases h
  | .pass, sc, X, W, F, s, h => by
    cases s with
    | Pass pos => exact ps_passX
    | Expr v pos => cases v with
      | Constant k j p => cases k with
        | str x =>
          exact PS.of ps_doc fun En σ H h => by
            obtain ⟨β, ρ, S, E, T, p⟩ := h
            exact p σ H β .refl T E
        | _ => cases h
      | _ => cases h
    | _ => cases h
  | .ret c, sc, X, W, F, s, h => by
    cases s with
    | Return v pos => cases v with
      | some v => exact ps_retX (sdE c F.fx v h)
      | none => cases c with
        | lit d => cases d with
          | non => exact ps_retNX
          | _ => cases h
        | _ => cases h
    | _ => cases h
  | .rai c, sc, X, W, F, s, h => by
    cases s with
    | Raise e cause pos => cases e with
      | none => cases h
      | some e => cases e with
        | Call g ys kw cpos => cases g with
          | Name x p =>
            rcases ys with _ | ⟨y, _ | ⟨_, _⟩⟩
            · cases h
            · cases y with
              | Constant k j p2 => cases k with
                | str m => cases kw with
                  | nil => cases cause with
                    | none =>
                      have h : (decide (Γ.exs[c]? = some x) && glB sc x && plainN x) = true := h
                      rw [Bool.and_eq_true, Bool.and_eq_true] at h
                      obtain ⟨e1, e2, e3, e4, e5, B, nI, iI, bm, e6, e7⟩ := F.fx.wd.ex c x (of_decide_eq_true h.1.1)
                      exact ps_raiX F.fx.hc F.fx.tk e6 e7 e1 e3 (raises_own e4 e5) (F.fx.gl h.1.2) (plain_of h.2).1
                    | some _ => cases h
                  | cons _ _ => cases h
                | _ => cases h
              | _ => cases h
            · cases y with
              | Constant k j p2 => cases k <;> cases h
              | _ => cases h
          | _ => rcases ys with _ | ⟨_, _⟩ <;> cases h
        | _ => cases h
    | _ => cases h
  | .brk, sc, X, W, F, s, h => by
    cases s with
    | Break pos => exact ps_brkX
    | _ => cases h
  | .cnt, sc, X, W, F, s, h => by
    cases s with
    | Continue pos => exact ps_cntX
    | _ => cases h
  | .ite t a b, sc, X, W, F, s, h => by
    cases s with
    | If c x y pos =>
      have h : (chT Γ sc t c && chSs Γ sc a x && chSs Γ sc b y) = true := h
      rw [Bool.and_eq_true, Bool.and_eq_true] at h
      exact ps_iteX (sdT t F.fx c h.1.1) (sdSs a F x h.1.2) (sdSs b F y h.2)
    | _ => cases h
  | .for_ is one it b, sc, X, W, F, s, h => by
    cases s with
    | For t i x els pos => cases els with
      | nil =>
        have h : (tgB Γ sc true is one t && notSetD i && chI Γ sc it i && chSs Γ sc b x) = true := h
        rw [Bool.and_eq_true, Bool.and_eq_true, Bool.and_eq_true] at h
        exact ps_forX F.fx.eK (wf := wf) F.pass F.fx.hc (sdI it F.fx i h.1.2) (tg_top F h.1.1.1) (sdSs b F x h.2) (folded_of h.1.1.2 _) (fun ρ d S => target_pure is one ρ d S)
      | cons _ _ => cases h
    | _ => cases h
  | .whl t b, sc, X, W, F, s, h => by
    cases s with
    | While c x els pos => cases els with
      | nil =>
        have h : (chT Γ sc t c && chSs Γ sc b x) = true := h
        rw [Bool.and_eq_true] at h
        exact ps_whlX (wf := wf) F.pass (sdT t F.fx c h.1) (sdSs b F x h.2)
      | cons _ _ => cases h
    | _ => cases h
  | .tryAs b c i j, sc, X, W, F, s, h => by
    have h : (match tryParts s with
      | some (x, cn, n, y, n') => chSs Γ sc b x && decide (Γ.exs[c]? = some cn) && glB sc cn && plainN cn && decide (Γ.N[i]? = some n) && decide (n' = n) && isLocal sc n && plainN n && decide (Γ.N[j]? = some y) && isLocal sc y && decide (i ≠ j)
      | none => false) = true := h
    cases e : tryParts s with
    | none => rw [e] at h; cases h
    | some q =>
      obtain ⟨x, cn, m, y, m'⟩ := q
      rw [e] at h
      obtain ⟨np, py, pn, apos, hp, pos, rfl⟩ := tryParts_eq e
      have h : (chSs Γ sc b x && decide (Γ.exs[c]? = some cn) && glB sc cn && plainN cn && decide (Γ.N[i]? = some m) && decide (m' = m) && isLocal sc m && plainN m && decide (Γ.N[j]? = some y) && isLocal sc y && decide (i ≠ j)) = true := h
      simp only [Bool.and_eq_true] at h
      obtain ⟨⟨⟨⟨⟨⟨⟨⟨⟨⟨h1, h2⟩, h3⟩, h4⟩, h5⟩, h6⟩, h7⟩, h8⟩, h9⟩, h10⟩, h11⟩ := h
      have en := of_decide_eq_true h6
      subst en
      obtain ⟨e1, e2, _⟩ := F.fx.wd.ex c cn (of_decide_eq_true h2)
      have hl : c < Γ.exs.length := (List.getElem?_eq_some_iff.mp (of_decide_eq_true h2)).1
      exact ps_tryAsX (pg := pg) (cv := .ref (G.xa c)) F.hst F.hf F.hex F.fx.nd' (F.fx.ix (of_decide_eq_true h5)) (by rw [F.fx.sc]; exact local_of h7) (F.fx.ix (of_decide_eq_true h9)) (by rw [F.fx.sc]; exact local_of h10) (of_decide_eq_true h11) (plain_of h8).1 (plain_of h8).2
        ⟨F.fx.gl h3, (plain_of h4).1, .inl e1⟩ (fun c' hc' => F.fx.wd.xm c c' hl hc') F.fx.tk (fun _ _ => rfl) (fun W' pn xe tk hp => sdSs b (F.tr tk hp) x h1)
theorem sdSs : ∀ (c : Sts) {sc : Scope} {X : Cx} {W : WX} (F : Fs Γ sc pg wf n G X W) (xs : List Stmt), chSs Γ sc c xs = true → PSs X xs (tS G W (exs (K0 pg wf n) c))
  | .nil, sc, X, W, F, xs, h => by
    cases xs with
    | nil => exact pss_nilX
    | cons _ _ => cases h
  | .cons s .nil, sc, X, W, F, xs, h => by
    rcases xs with _ | ⟨x, _ | ⟨_, _⟩⟩ <;> first
      | exact pss_one (sdS s F x h)
      | cases h
  | .cons s (.cons s' ss), sc, X, W, F, xs, h => by
    rcases xs with _ | ⟨x, _ | ⟨y, xs⟩⟩
    · cases h
    · cases h
    · have h : (chS Γ sc s x && chSs Γ sc (.cons s' ss) (y :: xs)) = true := h
      rw [Bool.and_eq_true] at h
      exact pss_consX (sdS s F x h.1) (sdSs (.cons s' ss) F (y :: xs) h.2)
end
end
end Qc
end
section
set_option Elab.async false
set_option linter.all false
set_option maxHeartbeats 4000000
set_option pp.maxSteps 600
/-! Every function of the module is what its core says, at every depth. -/
namespace Qc
open PySem PySem.Spec PyProof.Rows L2
/-- what stands behind the top, beside the functions -/
structure Wb (Γ : Gm) (pg : Pg) (K : PySem.W.Frag) (mg : Str → Option Value) (w : World) (G : Gx) : Prop where
  eK : G.K = K
  ew : G.w = w
  gv : ∀ (g : Nat) (x : Str), Γ.gvs[g]? = some x → ∃ d v u, pg.gvs[g]? = some d ∧ mg x = some u ∧ RelV v u ∧ ∀ β H, RV G β H d v
  bl : ∀ x ∈ bnames, mg x = none
  ex : ∀ (c : Nat) (x : Str), Γ.exs[c]? = some x → mg x = some (.ref (G.xa c)) ∧ c < pg.sup.length ∧ PySem.W.keepIn K (.ref (G.xa c)) = true ∧ PySem.W.subIn K (.ref (G.xa c)) (.type "BaseException") = some true ∧ PySem.W.typeIn K (.ref (G.xa c)) = some (.type "type") ∧
    ∃ B newId initId bmB, ExcBaseFacts B newId initId bmB ∧ PySem.W.excIn K (G.xa c) bmB newId = true
  xc : ∀ c, c < pg.sup.length → ExcC K (G.xa c)
  is : ∀ t v tv, tyOk pg t = true → tyV G t = some (v, tv) → IsiF K G pg t tv
  xm : ∀ c c', c < Γ.exs.length → c' < pg.sup.length → PySem.W.exmOne K (.ref (G.xa c')) (.ref (G.xa c)) = some (isExn pg c' c)
/-- a def beside its core -/
def FnT (Γ : Gm) (pg : Pg) (K : PySem.W.Frag) (mg : Str → Option Value) (f : Nat) (x : Str) (np : Nat) : Prop :=
  ∃ F N ps xq qual params body scope fa fd, pg.fns[f]? = some F ∧ F.np = np ∧ List.length ps = np ∧ List.length N = F.ns ∧ FunD K xq qual params body scope [] [] fa fd ∧ FnScope N ps scope ∧ chSs { Γ with N := N } scope F.body body = true ∧ mg x = some (.ref fa) ∧ Binds K fd ps []
section
variable {Γ : Gm} {pg : Pg} {wf : Nat} {P : Program} {w : World} {K : PySem.W.Frag} {mg : Str → Option Value} {base : Heap} {G : Gx}
theorem fs_of {n : Nat} {N ps : List Str} {scope : Scope} {qual : Str} {f : Addr} {cdv : Value} {A : Around} {outer : List PySem.Env} {s : Shared} {H : Hp} {E : XK} (W : Wd { Γ with N := N } pg wf n P w K mg base G) (S : FnScope N ps scope) (hr : Room n (A.deeper (envOfC qual scope s.heap.objs.size f cdv))) :
    Fs { Γ with N := N } scope pg wf n G (cxOf (L2.CX P w) P w K mg base N qual scope f cdv A outer s H E) (fun cls d _ H => E cls d H) where
  fx := ⟨W, rfl, hr, rfl, S.nd, rfl, takes_of rfl rfl rfl rfl⟩
  hst := rfl
  hf := rfl
  hex := rfl
  hfn := fun _ => rfl
  pass := passes_of rfl
  kd := S.kind
theorem wd_all (b : Wb Γ pg K mg w G) (h : ∀ f x np, Γ.fns[f]? = some (x, np) → FnT Γ pg K mg f x np) : ∀ (n : Nat) (N : List Str), Wd { Γ with N := N } pg wf n P w K mg base G
  | n, N => by
    refine ⟨b.eK, b.ew, fun f x np hf => ?_, b.gv, b.bl, b.ex, b.xc, b.is, b.xm⟩
    obtain ⟨F, Nf, ps, xq, qual, params, body, scope, fa, fd, hF, rfl, hp, hN, FD, S, ch, hm, hb⟩ := h f x np hf
    refine ⟨fa, fd, ps, ?_, hm, FD.kp, hb⟩
    cases n with
    | zero => exact ⟨fun vs H Q E hs => by rw [hp]; exact spF_len hs, fun _ _ _ _ _ _ _ _ _ _ _ _ _ hs => by obtain ⟨β, S, ds, T, r, e, p⟩ := hs; exact p.elim⟩
    | succ n =>
      refine FD.ok S (fun vs H Q E hs => by rw [hp]; exact spF_len hs) fun cdv A outer s H vs Q E hr hs => ⟨_, sdSs F.body (fs_of (w := w) (P := P) (base := base) (wd_all b h n Nf) S hr) body ch, ?_⟩
      exact fn_body hF hN hs
end
end Qc
end
section
set_option Elab.async false
set_option linter.all false
set_option maxHeartbeats 4000000
set_option pp.maxSteps 600
/-! What stands behind the top, decided by one look at the top's end. -/
namespace Qc
open PySem PySem.Spec PyProof.Rows L2
def gxOf (exs : List Str) (K : PySem.W.Frag) (w : World) : Gx := ⟨K, w, fun c => He.ga K (exs.getD c ""), fun _ => 0, fun _ => 0, fun _ => ""⟩
def flatV : D → Option V
  | .non => some .non
  | .bl b => some (.bl b)
  | .int i => some (.int i)
  | .str x => some (.str x)
  | _ => none
def gvB (K : PySem.W.Frag) (x : Str) (d : D) : Bool := match PySem.W.nsIn K mainGlobals x, flatV d with
  | some (some u), some v => He.relB v u
  | _, _ => false
def kitB (K : PySem.W.Frag) (t c : Value) (b : Bool) : Bool := decide (PySem.W.kitOne K t c = some b)
def isB (pg : Pg) (K : PySem.W.Frag) (xa : Nat → Addr) (t : Ty) (tv : Value) : Bool :=
  kitB K (.type "NoneType") tv false && (kitB K (.type "bool") tv (decide (t = .bool) || decide (t = .int)) && (kitB K (.type "int") tv (decide (t = .int)) && (kitB K (.type "str") tv (decide (t = .str)) && (kitB K (.type "tuple") tv (decide (t = .tuple)) &&
    (kitB K (.type "list") tv (decide (t = .list)) && (kitB K (.type "dict") tv (decide (t = .dict)) && (List.range pg.sup.length).all fun c => (match tyE pg t c with
      | some b => kitB K (.ref (xa c)) tv b
      | none => true)))))))
def excCB (K : PySem.W.Frag) (C : Addr) : Bool :=
  He.eqO (PySem.W.findIn K (.ref C) "__getattribute__") (some (some (.builtin "BaseException.__getattribute__"))) && (He.eqO (PySem.W.findIn K (.ref C) "__getattr__") (some none) && (decide (PySem.W.subIn K (.ref C) (.type "BaseException") = some true) &&
    (PySem.W.hasDictIn K C && (He.eqO (PySem.W.findIn K (.ref C) "__class__") (some (some (.builtin "object.__class__"))) && (He.eqO (PySem.W.specialIn K (.builtin "object.__class__") "__get__") (some (some (.builtin "getset_descriptor.__get__"))) &&
      (decide (PySem.W.takesIn K (.builtin "object.__class__") = some true) && decide (PySem.W.mroIn K C (.type "object") = some true)))))))
def bTys : List (Ty × Value) := [(.int, .type "int"), (.bool, .type "bool"), (.str, .type "str"), (.tuple, .type "tuple"), (.list, .type "list"), (.dict, .type "dict"), (.valueError, .type "ValueError")]
/-- the exceptions' order -/
def supB (pg : Pg) (K : PySem.W.Frag) (xa : Nat → Addr) (n : Nat) : Bool := (List.range n).all fun c => (List.range n).all fun c' => decide (PySem.W.exmOne K (.ref (xa c')) (.ref (xa c)) = some (isExn pg c' c))
def factsB (Γ : Gm) (pg : Pg) (K : PySem.W.Frag) : Bool :=
  decide (Γ.exs.length = pg.sup.length) && (decide (Γ.gvs.length = pg.gvs.length) && (bnames.all (fun x => (He.Fa.free x).ok K) && (Γ.exs.all (fun x => (He.Fa.glo x).ok K && ((He.Fa.exc x).ok K && excCB K (He.ga K x))) &&
    (supB pg K (fun c => He.ga K (Γ.exs.getD c "")) pg.sup.length && (bTys.all (fun p => isB pg K (fun c => He.ga K (Γ.exs.getD c "")) p.1 p.2) && ((List.range pg.sup.length).all (fun k => isB pg K (fun c => He.ga K (Γ.exs.getD c "")) (.exc k) (.ref (He.ga K (Γ.exs.getD k "")))) &&
      ((Γ.gvs.zip pg.gvs).all (fun p => gvB K p.1 p.2) && Γ.fns.all fun p => (He.Fa.glo p.1).ok K)))))))
section
variable {Γ : Gm} {pg : Pg} {K : PySem.W.Frag} {h : Heap} {mg : Str → Option Value} {w : World}
theorem isB_ok {t : Ty} {tv : Value} (e : isB pg K (gxOf Γ.exs K w).xa t tv = true) : IsiF K (gxOf Γ.exs K w) pg t tv := by
  unfold isB at e
  obtain ⟨e1, e⟩ := He.ba e
  obtain ⟨e2, e⟩ := He.ba e
  obtain ⟨e3, e⟩ := He.ba e
  obtain ⟨e4, e⟩ := He.ba e
  obtain ⟨e5, e⟩ := He.ba e
  obtain ⟨e6, e⟩ := He.ba e
  obtain ⟨e7, e8⟩ := He.ba e
  refine ⟨of_decide_eq_true e1, of_decide_eq_true e2, of_decide_eq_true e3, of_decide_eq_true e4, of_decide_eq_true e5, of_decide_eq_true e6, of_decide_eq_true e7, fun c b hc hb => ?_⟩
  have q := List.all_eq_true.mp e8 c (List.mem_range.mpr hc)
  rw [hb] at q
  exact of_decide_eq_true q
theorem excCB_ok {C : Addr} (e : excCB K C = true) : ExcC K C := by
  unfold excCB at e
  obtain ⟨e1, e⟩ := He.ba e
  obtain ⟨e2, e⟩ := He.ba e
  obtain ⟨e3, e⟩ := He.ba e
  obtain ⟨e4, e⟩ := He.ba e
  obtain ⟨e5, e⟩ := He.ba e
  obtain ⟨e6, e⟩ := He.ba e
  obtain ⟨e7, e8⟩ := He.ba e
  exact ⟨He.eqO_ok e1, He.eqO_ok e2, of_decide_eq_true e3, e4, He.eqO_ok e5, He.eqO_ok e6, of_decide_eq_true e7, of_decide_eq_true e8⟩
theorem flatV_ok {d : D} {v : V} (e : flatV d = some v) {G : Gx} (β : List Addr) (H : Hp) : RV G β H d v := by
  cases d <;> first | (cases e; done) | (unfold flatV at e; cases e; unfold RV; rfl)
theorem wb_of (X : K.In h) (N : h.Ns mainGlobals mg) (e : factsB Γ pg K = true) : Wb Γ pg K mg w (gxOf Γ.exs K w) ∧ ∀ (f : Nat) (x : Str) (np : Nat), Γ.fns[f]? = some (x, np) → mg x = some (.ref (He.ga K x)) := by
  unfold factsB at e
  obtain ⟨e1, e⟩ := He.ba e
  obtain ⟨e1', e⟩ := He.ba e
  obtain ⟨e2, e⟩ := He.ba e
  obtain ⟨e3, e⟩ := He.ba e
  obtain ⟨e4, e⟩ := He.ba e
  obtain ⟨e5, e⟩ := He.ba e
  obtain ⟨e6, e⟩ := He.ba e
  obtain ⟨e7, e8⟩ := He.ba e
  have len : Γ.exs.length = pg.sup.length := of_decide_eq_true e1
  have lenG : Γ.gvs.length = pg.gvs.length := of_decide_eq_true e1'
  have at_ : ∀ (c : Nat) (x : Str), Γ.exs[c]? = some x → (gxOf Γ.exs K w).xa c = He.ga K x := fun c x hx => by
    show He.ga K (Γ.exs.getD c "") = _
    rw [List.getD_eq_getElem?_getD, hx]
    rfl
  have one : ∀ (c : Nat) (x : Str), Γ.exs[c]? = some x → (He.Fa.glo x).ok K = true ∧ (He.Fa.exc x).ok K = true ∧ excCB K (He.ga K x) = true := fun c x hx => by
    obtain ⟨a, b⟩ := He.ba (List.all_eq_true.mp e3 x (List.mem_of_getElem? hx))
    obtain ⟨b, c⟩ := He.ba b
    exact ⟨a, b, c⟩
  refine ⟨⟨rfl, rfl, fun g x hx => ?_, fun x hx => He.free_ok X N (List.all_eq_true.mp e2 x hx), fun c x hx => ?_, fun c hc => ?_, fun t v tv ht hv => ?_, fun c c' hc hc' => ?_⟩, fun f x np hf => He.glo_ok X N (List.all_eq_true.mp e8 (x, np) (List.mem_of_getElem? hf))⟩
  · have hg : g < pg.gvs.length := by
      rw [← lenG]
      exact (List.getElem?_eq_some_iff.mp hx).1
    have hd := List.getElem?_eq_getElem hg
    have q := List.all_eq_true.mp e7 (x, pg.gvs[g]) (List.mem_of_getElem? (i := g) (List.getElem?_zip_eq_some.mpr ⟨hx, hd⟩))
    have q : gvB K x pg.gvs[g] = true := q
    unfold gvB at q
    cases e9 : PySem.W.nsIn K mainGlobals x with
    | none => rw [e9] at q; cases q
    | some o =>
      rw [e9] at q
      cases o with
      | none => cases q
      | some u =>
        cases e10 : flatV pg.gvs[g] with
        | none => rw [e10] at q; cases q
        | some v =>
          rw [e10] at q
          exact ⟨_, v, u, hd, PySem.W.mg_of X N e9, He.relB_ok q, fun β H => flatV_ok e10 β H⟩
  · obtain ⟨a, b, c'⟩ := one c x hx
    rw [at_ c x hx]
    obtain ⟨b1, b2, b3, b4⟩ := He.exc_ok b
    exact ⟨He.glo_ok X N a, by rw [← len]; exact (List.getElem?_eq_some_iff.mp hx).1, b2, b3, b4, _, _, _, _, PySem.F.excBase_ValueError, b1⟩
  · have hx := List.getElem?_eq_getElem (l := Γ.exs) (i := c) (by rw [len]; exact hc)
    rw [at_ c _ hx]
    exact excCB_ok (one c _ hx).2.2
  · cases t with
    | exc k =>
      cases hv
      have hk : k < pg.sup.length := of_decide_eq_true ht
      exact isB_ok (List.all_eq_true.mp e6 k (List.mem_range.mpr hk))
    | cls c => cases hv
    | int => cases hv; exact isB_ok (List.all_eq_true.mp e5 (.int, .type "int") (by simp [bTys]))
    | bool => cases hv; exact isB_ok (List.all_eq_true.mp e5 (.bool, .type "bool") (by simp [bTys]))
    | str => cases hv; exact isB_ok (List.all_eq_true.mp e5 (.str, .type "str") (by simp [bTys]))
    | tuple => cases hv; exact isB_ok (List.all_eq_true.mp e5 (.tuple, .type "tuple") (by simp [bTys]))
    | list => cases hv; exact isB_ok (List.all_eq_true.mp e5 (.list, .type "list") (by simp [bTys]))
    | dict => cases hv; exact isB_ok (List.all_eq_true.mp e5 (.dict, .type "dict") (by simp [bTys]))
    | valueError => cases hv; exact isB_ok (List.all_eq_true.mp e5 (.valueError, .type "ValueError") (by simp [bTys]))
  · have q := List.all_eq_true.mp (List.all_eq_true.mp e4 c (List.mem_range.mpr (by rw [← len]; exact hc))) c' (List.mem_range.mpr hc')
    exact of_decide_eq_true q
end
/-! ### the Hook -/
def obsQ (fb : PySem.W.Frag → Bool) (fn : List He.DefD) (K : PySem.W.Frag) : He.AlD := (fb K && fn.all fun d => d.ok K, fn.map fun d => He.fnW K d.at_)
def SaysQ (fb : PySem.W.Frag → Bool) (fn : List He.DefD) (K : PySem.W.Frag) : Prop := obsQ fb fn K = He.valD fn
def obsQG (n : Nat) (fb : PySem.W.Frag → Bool) (fn : List He.DefD) (g : Addr → Option Obj) : He.AlD := obsQ fb fn (He.frG g (He.asD g n))
def hookQ (n : Nat) (fb : PySem.W.Frag → Bool) (fn : List He.DefD) : PySem.W.Hook where
  α := He.AlD
  obs := fun s => obsQG n fb fn s.heap.get?
  val := fun _ => He.valD fn
  says := fun _ h => ∃ K : PySem.W.Frag, K.In h ∧ SaysQ fb fn K
  of := fun _ _ e => ⟨_, He.frG_in, e⟩
  keeps := fun _ _ _ ⟨K, hK, c⟩ k => ⟨K, PySem.W.Frag.In.keeps hK k, c⟩
theorem obsQG_eq {n : Nat} {fb : PySem.W.Frag → Bool} {fn : List He.DefD} {g : Addr → Option Obj} {s : Shared} (h : ∀ a, g a = s.heap.get? a) : obsQG n fb fn g = (hookQ n fb fn).obs s := by
  have e : g = s.heap.get? := funext h
  rw [e] <;> rfl
section
variable {fb : PySem.W.Frag → Bool} {fn : List He.DefD} {K : PySem.W.Frag}
theorem SaysQ.b (c : SaysQ fb fn K) : fb K = true := (He.ba (show (fb K && fn.all fun d => d.ok K) = true from congrArg (fun z : He.AlD => z.1) c)).1
theorem SaysQ.def_ (c : SaysQ fb fn K) (i : Nat) {d : He.DefD} (h : fn[i]? = some d := by rfl) : ∃ fd, FunD K d.name d.qual d.params d.body d.scope (d.dvs K) (d.kws K) (He.fAd K d.at_) fd := by
  have c2 := (He.ba (show (fb K && fn.all fun d => d.ok K) = true from congrArg (fun z : He.AlD => z.1) c)).2
  have e : fn.map (fun d => He.fnW K d.at_) = fn.map He.DefD.val := congrArg (fun z : He.AlD => z.2) c
  have e2 : (fn.map fun d => He.fnW K d.at_)[i]? = (fn.map He.DefD.val)[i]? := by rw [e]
  rw [List.getElem?_map, List.getElem?_map, h] at e2
  exact He.DefD.funD (Option.some.inj e2) (List.all_eq_true.mp c2 d (List.mem_of_getElem? h))
end
end Qc
end
section
set_option Elab.async false
set_option linter.all false
set_option maxHeartbeats 4000000
set_option pp.maxSteps 600
/-! The law's end: its def, called with the script, says True. -/
namespace Qc
open PySem PySem.Spec PyProof.Rows L2
theorem walk_q {l : PySem.W.OpenLaw} {n k : Nat} {q : Program} {loose : List Str} {XP : (Str → Option Value) → Heap → Prop} {YP : World → Heap → Prop} {d : DefRec} {x : Str}
    (hn : l.most = some n) (hn2 : n ≤ sizeLine) (hdf : d.params.defaults = []) (hr : Room k callerA)
    (F : ∀ (w : World) (mg : Str → Option Value) (fa : Addr) (h : Heap), YP w h → h.Ns mainGlobals mg → mg d.name = some (.ref fa) →
      ∃ (K : PySem.W.Frag) (fd : FuncData) (sp : Sp), K.In h ∧ (∀ (s : Shared) (u : Value), BindsTo s fd ⟨[u], []⟩ [(x, u)]) ∧
        (∀ (H : Hp) (a : Addr) (ns : List Int), ns.length ≤ n → (∀ i ∈ ns, Builtin.Int.intBits i ≤ 1048576) → Only H → SqL K H a (ns.map V.int) → sp [.ref a] H (fun v _ => v = .bl true) fun _ _ _ => False) ∧
        ∀ base : Heap, K.In base → base.Ns mainGlobals mg → FnOk l.prog w K mg base (L2.CX l.prog w) k fa fd [x] sp) :
    PySem.W.WalkO q loose XP YP l.row.toRowW d [] (fun f vs => PySem.call f vs) := by
  refine Att.attach_callB hn hdf fun w s₀ s₁ mg mb fa o pm cd doc a vs ns G Y ho hd hcd hmg hobj hints hlen hbits hg => ?_
  obtain ⟨K, fd, sp, KX, hb, hsp, hF⟩ := F w mg fa _ Y G.T.g hmg
  exact law_call KX G.T.g G.T.b G.T.builtins G.T.nolimit hg hobj hints (Nat.le_trans hlen hn2) hr hF hb (fun H hO hS => hsp H a ns hlen hbits hO hS) fun H e s' hq => by
    obtain ⟨a, B, H', cls, d, _, _, _, _, _, _, _, z⟩ := hq
    exact z
def intD (ns : List Int) : List D := ns.map D.int
theorem rvs_ints {G : Gx} {β : List Addr} {H : Hp} : ∀ ns : List Int, RVs G β H (intD ns) (ns.map V.int)
  | [] => by unfold intD RVs; rfl
  | n :: ns => RVs.cons (by unfold RV; rfl) (rvs_ints ns)
theorem spF_script {pg : Pg} {wf n f : Nat} {G : Gx} {H : Hp} {a : Addr} {ns : List Int} (hO : Only H) (hS : SqL G.K H a (ns.map V.int)) (e : ∃ S', callF pg wf n f [.fl (intD ns)] [] = .ok (.v (.bl true)) S') :
    spF pg wf G n f 1 [.ref a] H (fun v _ => v = .bl true) fun _ _ _ => False := by
  have sf : SqF G.K H a (ns.map V.int) := by
    rcases hS with hS | hS
    · rcases hS with q | ⟨o, q⟩
      · rcases hO a with z | ⟨o, xs, z⟩
        · rw [z] at q; cases q
        · rw [z] at q; cases q
      · exact .inl ⟨o, q⟩
    · exact .inr hS
  obtain ⟨S', e⟩ := e
  refine ⟨[], [], [.fl (intD ns)], RS.nil, ?_, rfl, ?_⟩
  · refine RVs.one ?_
    unfold RV
    exact ⟨a, _, rfl, sf, rvs_ints ns⟩
  · rw [e]
    intro v H' β' N T r
    obtain ⟨r1, r2⟩ := r
    have r1 : RV G β' H' (.bl true) v := r1
    unfold RV at r1
    exact r1
end Qc
end
section
set_option Elab.async false
set_option linter.all false
set_option maxRecDepth 100000
set_option maxHeartbeats 0
/-! The core text of K12 (printed by gen.py). -/
namespace K12
open PySem PySem.Spec PyProof.Rows L2 Qc
def top (i : Nat) : Stmt := PySem.Challenge.pw_manyquill_k12_whole_versions.main.body.getD i (.Pass ⟨0, 0, 0, 0⟩)
/-- is_whole_number -/
def N_is_whole_number : List Str := ["thing"]
def b_is_whole_number : Sts :=
  (.cons (.ret (.and (.cons (.isi (.var 0) .int) (.cons (.not (.isi (.var 0) .bool)) .nil)))) .nil)
/-- is_hand -/
def N_is_hand : List Str := ["thing", "sign"]
def b_is_hand : Sts :=
  (.cons (.ite (.or (.cons (.not (.of (.isi (.var 0) .str))) (.cons (.not (.of (.chn .le .le (.lit (.int 1)) (.b1 .len (.var 0)) (.gv 1)))) .nil))) (.cons (.ret (.lit (.bl false))) .nil) .nil)
  (.cons (.ret (.b1 .all (.lc (.cmp .in_ (.var 1) (.gv 0)) [1] true (.of (.var 0)) .nil))) .nil))
/-- is_name -/
def N_is_name : List Str := ["thing"]
def b_is_name : Sts :=
  (.cons (.ite (.or (.cons (.not (.of (.isi (.var 0) .tuple))) (.cons (.of (.cmp .ne (.b1 .len (.var 0)) (.lit (.int 2)))) .nil))) (.cons (.ret (.lit (.bl false))) .nil) .nil)
  (.cons (.ret (.and (.cons (.call 1 (.cons (.ix (.var 0) (.lit (.int 0))) .nil)) (.cons (.call 0 (.cons (.ix (.var 0) (.lit (.int 1))) .nil)) (.cons (.cmp .ge (.ix (.var 0) (.lit (.int 1))) (.lit (.int 1))) .nil))))) .nil))
/-- are_names -/
def N_are_names : List Str := ["thing", "name"]
def b_are_names : Sts :=
  (.cons (.ite (.or (.cons (.not (.of (.isi (.var 0) .tuple))) (.cons (.not (.of (.b1 .all (.lc (.call 2 (.cons (.var 1) .nil)) [1] true (.of (.var 0)) .nil)))) .nil))) (.cons (.ret (.lit (.bl false))) .nil) .nil)
  (.cons (.ret (.cmp .eq (.b1 .list (.var 0)) (.b1 .sorted (.b1 .set (.var 0))))) .nil))
/-- is_version -/
def N_is_version : List Str := ["thing", "hand", "count"]
def b_is_version : Sts :=
  (.cons (.ret (.and (.cons (.call 3 (.cons (.var 0) .nil)) (.cons (.cmp .eq (.b1 .len (.b1 .set (.lc (.var 1) [1, 2] false (.of (.var 0)) .nil))) (.b1 .len (.var 0))) .nil)))) .nil)
/-- need_version -/
def N_need_version : List Str := ["thing"]
def b_need_version : Sts :=
  (.cons (.ite (.not (.of (.call 4 (.cons (.var 0) .nil)))) (.cons (.rai 3) .nil) .nil) .nil)
/-- version_of -/
def N_version_of : List Str := ["counts", "hand"]
def b_version_of : Sts :=
  (.cons (.ret (.b1 .tuple (.lc (.tup (.cons (.var 1) (.cons (.ix (.var 0) (.var 1)) .nil))) [1] true (.of (.b1 .sorted (.var 0))) (.cons (.of (.cmp .gt (.ix (.var 0) (.var 1)) (.lit (.int 0)))) .nil)))) .nil)
/-- count_in -/
def N_count_in : List Str := ["version", "hand"]
def b_count_in : Sts :=
  (.cons (.expr (.call 5 (.cons (.var 0) .nil)))
  (.cons (.ret (.m2 .get (.b1 .dict (.var 0)) (.var 1) (.lit (.int 0)))) .nil))
/-- within -/
def N_within : List Str := ["one", "other", "counts", "hand", "count"]
def b_within : Sts :=
  (.cons (.expr (.call 5 (.cons (.var 0) .nil)))
  (.cons (.expr (.call 5 (.cons (.var 1) .nil)))
  (.cons (.asg [2] true (.b1 .dict (.var 1)))
  (.cons (.ret (.b1 .all (.lc (.cmp .ge (.m2 .get (.var 2) (.var 3) (.lit (.int 0))) (.var 4)) [3, 4] false (.of (.var 0)) .nil))) .nil))))
/-- joined -/
def N_joined : List Str := ["one", "other", "counts", "hand", "count"]
def b_joined : Sts :=
  (.cons (.expr (.call 5 (.cons (.var 0) .nil)))
  (.cons (.expr (.call 5 (.cons (.var 1) .nil)))
  (.cons (.asg [2] true (.b1 .dict (.var 0)))
  (.cons (.for_ [3, 4] false (.of (.var 1))
    (.cons (.seti (.var 2) (.var 3) (.b2 .max (.m2 .get (.var 2) (.var 3) (.lit (.int 0))) (.var 4))) .nil))
  (.cons (.ret (.call 6 (.cons (.var 2) .nil))) .nil)))))
/-- common -/
def N_common : List Str := ["one", "other", "counts", "hand", "count"]
def b_common : Sts :=
  (.cons (.expr (.call 5 (.cons (.var 0) .nil)))
  (.cons (.expr (.call 5 (.cons (.var 1) .nil)))
  (.cons (.asg [2] true (.b1 .dict (.var 1)))
  (.cons (.ret (.call 6 (.cons (.b1 .dict (.lc (.tup (.cons (.var 3) (.cons (.b2 .min (.var 4) (.m2 .get (.var 2) (.var 3) (.lit (.int 0)))) .nil))) [3, 4] false (.of (.var 0)) .nil)) .nil))) .nil))))
/-- _law_draw -/
def N__law_draw : List Str := ["_law_state", "_law_many", "_law_found"]
def b__law_draw : Sts :=
  (.cons (.asg [2] true (.bin .mod (.ix (.var 0) (.lit (.int 0))) (.var 1)))
  (.cons (.seti (.var 0) (.lit (.int 0)) (.bin .fdiv (.ix (.var 0) (.lit (.int 0))) (.var 1)))
  (.cons (.ret (.var 2)) .nil)))
/-- _law_number -/
def N__law_number : List Str := ["_law_script", "_law_k", "_law_cell", "_law_mixed", "_law_more"]
def b__law_number : Sts :=
  (.cons (.asg [2] true (.ife (.of (.cmp .lt (.var 1) (.b1 .len (.var 0)))) (.ix (.var 0) (.var 1)) (.var 1)))
  (.cons (.ite (.and (.cons (.of (.cmp .eq (.bin .mod (.b1 .len (.var 0)) (.lit (.int 2))) (.lit (.int 0)))) (.cons (.of (.cmp .ge (.var 2) (.bin .pow (.lit (.int 2)) (.lit (.int 64))))) .nil))) (.cons (.ret (.var 2)) .nil) .nil)
  (.cons (.asg [3] true (.bin .mod (.bin .add (.bin .add (.bin .mul (.var 2) (.lit (.int 48271))) (.bin .mul (.lit (.int 104729)) (.var 1))) (.lit (.int 11))) (.lit (.int 2147483647))))
  (.cons (.asg [4] true (.bin .mod (.bin .mul (.var 3) (.bin .add (.bin .add (.var 3) (.var 1)) (.lit (.int 1)))) (.lit (.int 2147483629))))
  (.cons (.asg [3] true (.bin .add (.bin .mod (.bin .mul (.bin .mod (.bin .mul (.var 3) (.var 3)) (.lit (.int 2147483629))) (.lit (.int 69621))) (.lit (.int 2147483647))) (.bin .mul (.lit (.int 2147483647)) (.var 4))))
  (.cons (.ret (.bin .add (.bin .mul (.var 3) (.lit (.int 2147483629))) (.bin .pow (.bin .add (.bin .mod (.var 3) (.lit (.int 65521))) (.bin .mul (.lit (.int 7)) (.var 1))) (.lit (.int 4))))) .nil))))))
/-- _law_word_of -/
def N__law_word_of : List Str := ["_law_error", "_law_some", "_law_names"]
def b__law_word_of : Sts :=
  (.cons (.asg [1] true (.lst (.cons (.isi (.var 0) (.exc 1)) (.cons (.isi (.var 0) (.exc 2)) (.cons (.isi (.var 0) (.exc 3)) .nil)))))
  (.cons (.asg [1] true (.bin .add (.var 1) (.lst (.cons (.isi (.var 0) (.exc 4)) (.cons (.isi (.var 0) (.exc 5)) (.cons (.isi (.var 0) (.exc 6)) .nil))))))
  (.cons (.asg [1] true (.bin .add (.var 1) (.lst (.cons (.isi (.var 0) (.exc 7)) (.cons (.isi (.var 0) (.exc 8)) .nil)))))
  (.cons (.ite (.or (.cons (.of (.cmp .ne (.m1 .count (.var 1) (.lit (.bl true))) (.lit (.int 1)))) (.cons (.not (.of (.isi (.var 0) .valueError))) (.cons (.not (.of (.isi (.var 0) (.exc 0)))) .nil)))) (.cons (.ret (.lit (.str "other"))) .nil) .nil)
  (.cons (.asg [2] true (.lst (.cons (.lit (.str "NoDeed")) (.cons (.lit (.str "NoHeap")) (.cons (.lit (.str "NoVersion")) (.cons (.lit (.str "NoPart")) (.cons (.lit (.str "NoPlace")) (.cons (.lit (.str "NoRight")) (.cons (.lit (.str "NoText")) (.cons (.lit (.str "NoPacking")) .nil))))))))))
  (.cons (.ret (.ix (.var 2) (.m1 .index (.var 1) (.lit (.bl true))))) .nil))))))
/-- _law_version -/
def N__law_version : List Str := ["_law_state", "_law_hands", "_law_found", "_law_hand", "_law_count"]
def b__law_version : Sts :=
  (.cons (.asg [2] true (.lst .nil))
  (.cons (.for_ [3] true (.of (.var 1))
    (.cons (.asg [4] true (.ix (.lst (.cons (.lit (.int 0)) (.cons (.lit (.int 0)) (.cons (.lit (.int 1)) (.cons (.lit (.int 2)) (.cons (.lit (.int 3)) (.cons (.bin .sub (.bin .pow (.lit (.int 10)) (.lit (.int 18))) (.call 11 (.cons (.var 0) (.cons (.lit (.int 3)) .nil)))) .nil))))))) (.call 11 (.cons (.var 0) (.cons (.lit (.int 6)) .nil)))))
    (.cons (.ite (.of (.cmp .gt (.var 4) (.lit (.int 0)))) (.cons (.expr (.m1 .append (.var 2) (.tup (.cons (.var 3) (.cons (.var 4) .nil))))) .nil) .nil) .nil)))
  (.cons (.ret (.b1 .tuple (.var 2))) .nil)))
/-- _law_refused -/
def N__law_refused : List Str := ["_law_way", "_law_one", "_law_other", "_law_error", "e"]
def b__law_refused : Sts :=
  (.cons (.asg [3] true (.lit .non))
  (.cons (.tryAs (.cons (.ite (.of (.cmp .eq (.var 0) (.lit (.int 0)))) (.cons (.expr (.call 8 (.cons (.var 1) (.cons (.var 2) .nil)))) .nil) (.cons (.ite (.of (.cmp .eq (.var 0) (.lit (.int 1)))) (.cons (.expr (.call 9 (.cons (.var 1) (.cons (.var 2) .nil)))) .nil) (.cons (.ite (.of (.cmp .eq (.var 0) (.lit (.int 2)))) (.cons (.expr (.call 10 (.cons (.var 1) (.cons (.var 2) .nil)))) .nil) (.cons (.expr (.call 7 (.cons (.var 1) (.cons (.lit (.str "a")) .nil)))) .nil)) .nil)) .nil)) .nil) 0 4 3)
  (.cons (.ret (.ife (.of (.cmp .is_ (.var 3) (.lit .non))) (.lit (.str "")) (.call 13 (.cons (.var 3) .nil)))) .nil)))
/-- _law_right -/
def N__law_right : List Str := ["_law_one", "_law_other", "_law_hands", "_law_counts", "_law_due", "_law_hand", "_law_both", "_law_count", "_law_k", "_law_found", "_law_held", "_law_less", "_law_more"]
def b__law_right : Sts :=
  (.cons (.asg [3] true (.lst (.cons (.b1 .dict (.var 0)) (.cons (.b1 .dict (.var 1)) .nil))))
  (.cons (.asg [4] true (.lst (.cons (.lst .nil) (.cons (.lst .nil) .nil))))
  (.cons (.for_ [5] true (.of (.bin .add (.var 2) (.lst (.cons (.lit (.str "zzz")) .nil))))
    (.cons (.asg [6] true (.lc (.m2 .get (.var 7) (.var 5) (.lit (.int 0))) [7] true (.of (.var 3)) .nil))
    (.cons (.ite (.of (.cmp .ne (.lst (.cons (.call 7 (.cons (.var 0) (.cons (.var 5) .nil))) (.cons (.call 7 (.cons (.var 1) (.cons (.var 5) .nil))) .nil))) (.var 6))) (.cons (.ret (.lit (.bl false))) .nil) .nil)
    (.cons (.for_ [8] true (.rng (.lit (.int 2)))
      (.cons (.ite (.of (.cmp .gt (.ix (.lst (.cons (.b1 .max (.var 6)) (.cons (.b1 .min (.var 6)) .nil))) (.var 8)) (.lit (.int 0)))) (.cons (.expr (.m1 .append (.ix (.var 4) (.var 8)) (.tup (.cons (.var 5) (.cons (.ix (.lst (.cons (.b1 .max (.var 6)) (.cons (.b1 .min (.var 6)) .nil))) (.var 8)) .nil))))) .nil) .nil) .nil)) .nil))))
  (.cons (.asg [9] true (.lst (.cons (.call 9 (.cons (.var 0) (.cons (.var 1) .nil))) (.cons (.call 10 (.cons (.var 0) (.cons (.var 1) .nil))) .nil))))
  (.cons (.ite (.of (.cmp .ne (.var 9) (.lst (.cons (.b1 .tuple (.ix (.var 4) (.lit (.int 0)))) (.cons (.b1 .tuple (.ix (.var 4) (.lit (.int 1)))) .nil))))) (.cons (.ret (.lit (.bl false))) .nil) .nil)
  (.cons (.asg [10] true (.lst (.cons (.call 8 (.cons (.var 0) (.cons (.var 1) .nil))) (.cons (.call 8 (.cons (.var 1) (.cons (.var 0) .nil))) (.cons (.call 8 (.cons (.var 0) (.cons (.ix (.var 9) (.lit (.int 0))) .nil))) (.cons (.call 8 (.cons (.ix (.var 9) (.lit (.int 1))) (.cons (.var 1) .nil))) .nil))))))
  (.cons (.asg [11] true (.cmp .eq (.lc (.var 5) [5] true (.of (.var 2)) (.cons (.of (.cmp .gt (.m2 .get (.ix (.var 3) (.lit (.int 0))) (.var 5) (.lit (.int 0))) (.m2 .get (.ix (.var 3) (.lit (.int 1))) (.var 5) (.lit (.int 0))))) .nil)) (.lst .nil)))
  (.cons (.asg [12] true (.cmp .eq (.lc (.var 5) [5] true (.of (.var 2)) (.cons (.of (.cmp .gt (.m2 .get (.ix (.var 3) (.lit (.int 1))) (.var 5) (.lit (.int 0))) (.m2 .get (.ix (.var 3) (.lit (.int 0))) (.var 5) (.lit (.int 0))))) .nil)) (.lst .nil)))
  (.cons (.ret (.and (.cons (.cmp .eq (.var 10) (.lst (.cons (.var 11) (.cons (.var 12) (.cons (.lit (.bl true)) (.cons (.lit (.bl true)) .nil)))))) (.cons (.cmp .eq (.lc (.isi (.var 0) .bool) [0] true (.of (.var 10)) .nil) (.bin .mul (.lst (.cons (.lit (.bl true)) .nil)) (.lit (.int 4)))) .nil)))) .nil)))))))))
/-- law -/
def N_law : List Str := ["_law_script", "_law_hands", "_law_k", "_law_state", "_law_one", "_law_other", "_law_some", "_law_odd", "_law_way"]
def b_law : Sts :=
  (.cons (.asg [1] true (.ix (.lst (.cons (.lst (.cons (.lit (.str "a")) (.cons (.lit (.str "ab")) (.cons (.lit (.str "b")) (.cons (.lit (.str "c")) (.cons (.lit (.str "zz")) .nil)))))) (.cons (.lst (.cons (.lit (.str "a")) (.cons (.lit (.str "b")) (.cons (.lit (.str "c")) (.cons (.lit (.str "d")) (.cons (.lit (.str "e")) .nil)))))) .nil))) (.bin .mod (.b1 .len (.var 0)) (.lit (.int 2)))))
  (.cons (.for_ [2] true (.rng (.bin .add (.b2 .min (.lit (.int 63)) (.b1 .len (.var 0))) (.lit (.int 2))))
    (.cons (.asg [3] true (.lst (.cons (.call 12 (.cons (.var 0) (.cons (.var 2) .nil))) .nil)))
    (.cons (.asg [4] true (.call 14 (.cons (.var 3) (.cons (.var 1) .nil))))
    (.cons (.asg [5] true (.call 14 (.cons (.var 3) (.cons (.var 1) .nil))))
    (.cons (.ite (.or (.cons (.not (.of (.call 16 (.cons (.var 4) (.cons (.var 5) (.cons (.var 1) .nil)))))) (.cons (.not (.of (.call 16 (.cons (.var 4) (.cons (.var 4) (.cons (.var 1) .nil)))))) .nil))) (.cons (.ret (.lit (.bl false))) .nil) .nil)
    (.cons (.asg [6] true (.lst (.cons (.lit .non) (.cons (.lit (.int 5)) (.cons (.lit (.str "a")) (.cons (.lst .nil) (.cons (.lst (.cons (.tup (.cons (.lit (.str "a")) (.cons (.lit (.int 1)) .nil))) .nil)) (.cons (.tup (.cons (.tup (.cons (.lit (.str "a")) (.cons (.lit (.int 0)) .nil))) .nil)) (.cons (.tup (.cons (.tup (.cons (.lit (.str "b")) (.cons (.lit (.int 1)) .nil))) (.cons (.tup (.cons (.lit (.str "a")) (.cons (.lit (.int 1)) .nil))) .nil))) (.cons (.tup (.cons (.tup (.cons (.lit (.str "a")) (.cons (.lit (.int 1)) .nil))) (.cons (.tup (.cons (.lit (.str "a")) (.cons (.lit (.int 2)) .nil))) .nil))) (.cons (.tup (.cons (.lit (.str "a")) (.cons (.lit (.int 1)) .nil))) (.cons .dic .nil))))))))))))
    (.cons (.asg [6] true (.bin .add (.var 6) (.lst (.cons (.tup (.cons (.tup (.cons (.lit (.str "A")) (.cons (.lit (.int 1)) .nil))) .nil)) (.cons (.tup (.cons (.tup (.cons (.lit (.str "a")) (.cons (.lit (.bl true)) .nil))) .nil)) (.cons (.tup (.cons (.tup (.cons (.lit (.str "a")) (.cons (.lit (.int 1)) (.cons (.lit (.int 1)) .nil)))) .nil)) (.cons (.tup (.cons (.lst (.cons (.lit (.str "a")) (.cons (.lit (.int 1)) .nil))) .nil)) .nil)))))))
    (.cons (.asg [7] true (.ix (.var 6) (.bin .mod (.bin .add (.bin .fdiv (.call 12 (.cons (.var 0) (.cons (.var 2) .nil))) (.lit (.int 3))) (.var 2)) (.lit (.int 14)))))
    (.cons (.for_ [8] true (.rng (.lit (.int 4)))
      (.cons (.ite (.of (.cmp .ne (.call 15 (.cons (.var 8) (.cons (.var 7) (.cons (.var 4) .nil)))) (.lit (.str "NoVersion")))) (.cons (.ret (.lit (.bl false))) .nil) .nil)
      (.cons (.ite (.and (.cons (.of (.cmp .lt (.var 8) (.lit (.int 3)))) (.cons (.of (.cmp .ne (.call 15 (.cons (.var 8) (.cons (.var 4) (.cons (.var 7) .nil)))) (.lit (.str "NoVersion")))) .nil))) (.cons (.ret (.lit (.bl false))) .nil) .nil) .nil))) .nil)))))))))
  (.cons (.ret (.and (.cons (.cmp .eq (.call 9 (.cons (.tup .nil) (.cons (.tup .nil) .nil))) (.tup .nil)) (.cons (.cmp .is_ (.call 8 (.cons (.tup .nil) (.cons (.tup .nil) .nil))) (.lit (.bl true))) .nil)))) .nil)))
def f_is_whole_number : Fn := ⟨1, 1, [], false, b_is_whole_number⟩
def f_is_hand : Fn := ⟨1, 2, [], false, b_is_hand⟩
def f_is_name : Fn := ⟨1, 1, [], false, b_is_name⟩
def f_are_names : Fn := ⟨1, 2, [], false, b_are_names⟩
def f_is_version : Fn := ⟨1, 3, [], false, b_is_version⟩
def f_need_version : Fn := ⟨1, 1, [], false, b_need_version⟩
def f_version_of : Fn := ⟨1, 2, [], false, b_version_of⟩
def f_count_in : Fn := ⟨2, 2, [], false, b_count_in⟩
def f_within : Fn := ⟨2, 5, [], false, b_within⟩
def f_joined : Fn := ⟨2, 5, [], false, b_joined⟩
def f_common : Fn := ⟨2, 5, [], false, b_common⟩
def f__law_draw : Fn := ⟨2, 3, [], false, b__law_draw⟩
def f__law_number : Fn := ⟨2, 5, [], false, b__law_number⟩
def f__law_word_of : Fn := ⟨1, 3, [], false, b__law_word_of⟩
def f__law_version : Fn := ⟨2, 5, [], false, b__law_version⟩
def f__law_refused : Fn := ⟨3, 5, [], false, b__law_refused⟩
def f__law_right : Fn := ⟨3, 13, [], false, b__law_right⟩
def f_law : Fn := ⟨1, 9, [], false, b_law⟩
def pg : Pg := ⟨[f_is_whole_number, f_is_hand, f_is_name, f_are_names, f_is_version, f_need_version, f_version_of, f_count_in, f_within, f_joined, f_common, f__law_draw, f__law_number, f__law_word_of, f__law_version, f__law_refused, f__law_right, f_law], [], [(.str "abcdefghijklmnopqrstuvwxyz"), (.int 8)], [], [[0], [1, 0], [2, 0], [3, 0], [4, 0], [5, 0], [6, 0], [7, 0], [8, 0]]⟩
def gm (N : List Str) : Gm := ⟨N, [("is_whole_number", 1), ("is_hand", 1), ("is_name", 1), ("are_names", 1), ("is_version", 1), ("need_version", 1), ("version_of", 1), ("count_in", 2), ("within", 2), ("joined", 2), ("common", 2), ("_law_draw", 2), ("_law_number", 2), ("_law_word_of", 1), ("_law_version", 2), ("_law_refused", 3), ("_law_right", 3), ("law", 1)], ["QuillError", "NoDeed", "NoHeap", "NoVersion", "NoPart", "NoPlace", "NoRight", "NoText", "NoPacking"], ["SMALL", "MOST_SMALL"]⟩
theorem ch_is_whole_number : chSs (gm N_is_whole_number) (defScope (top 3)) b_is_whole_number (defBody (top 3)) = true := by kernel_rfl
theorem sc_is_whole_number : FnScope N_is_whole_number ["thing"] (defScope (top 3)) := ⟨rfl, rfl, rfl, by decide +kernel, rfl, by decide +kernel, by decide +kernel⟩
theorem ch_is_hand : chSs (gm N_is_hand) (defScope (top 4)) b_is_hand (defBody (top 4)) = true := by kernel_rfl
theorem sc_is_hand : FnScope N_is_hand ["thing"] (defScope (top 4)) := ⟨rfl, rfl, rfl, by decide +kernel, rfl, by decide +kernel, by decide +kernel⟩
theorem ch_is_name : chSs (gm N_is_name) (defScope (top 5)) b_is_name (defBody (top 5)) = true := by kernel_rfl
theorem sc_is_name : FnScope N_is_name ["thing"] (defScope (top 5)) := ⟨rfl, rfl, rfl, by decide +kernel, rfl, by decide +kernel, by decide +kernel⟩
theorem ch_are_names : chSs (gm N_are_names) (defScope (top 6)) b_are_names (defBody (top 6)) = true := by kernel_rfl
theorem sc_are_names : FnScope N_are_names ["thing"] (defScope (top 6)) := ⟨rfl, rfl, rfl, by decide +kernel, rfl, by decide +kernel, by decide +kernel⟩
theorem ch_is_version : chSs (gm N_is_version) (defScope (top 7)) b_is_version (defBody (top 7)) = true := by kernel_rfl
theorem sc_is_version : FnScope N_is_version ["thing"] (defScope (top 7)) := ⟨rfl, rfl, rfl, by decide +kernel, rfl, by decide +kernel, by decide +kernel⟩
theorem ch_need_version : chSs (gm N_need_version) (defScope (top 19)) b_need_version (defBody (top 19)) = true := by kernel_rfl
theorem sc_need_version : FnScope N_need_version ["thing"] (defScope (top 19)) := ⟨rfl, rfl, rfl, by decide +kernel, rfl, by decide +kernel, by decide +kernel⟩
theorem ch_version_of : chSs (gm N_version_of) (defScope (top 20)) b_version_of (defBody (top 20)) = true := by kernel_rfl
theorem sc_version_of : FnScope N_version_of ["counts"] (defScope (top 20)) := ⟨rfl, rfl, rfl, by decide +kernel, rfl, by decide +kernel, by decide +kernel⟩
theorem ch_count_in : chSs (gm N_count_in) (defScope (top 21)) b_count_in (defBody (top 21)) = true := by kernel_rfl
theorem sc_count_in : FnScope N_count_in ["version", "hand"] (defScope (top 21)) := ⟨rfl, rfl, rfl, by decide +kernel, rfl, by decide +kernel, by decide +kernel⟩
theorem ch_within : chSs (gm N_within) (defScope (top 22)) b_within (defBody (top 22)) = true := by kernel_rfl
theorem sc_within : FnScope N_within ["one", "other"] (defScope (top 22)) := ⟨rfl, rfl, rfl, by decide +kernel, rfl, by decide +kernel, by decide +kernel⟩
theorem ch_joined : chSs (gm N_joined) (defScope (top 23)) b_joined (defBody (top 23)) = true := by kernel_rfl
theorem sc_joined : FnScope N_joined ["one", "other"] (defScope (top 23)) := ⟨rfl, rfl, rfl, by decide +kernel, rfl, by decide +kernel, by decide +kernel⟩
theorem ch_common : chSs (gm N_common) (defScope (top 24)) b_common (defBody (top 24)) = true := by kernel_rfl
theorem sc_common : FnScope N_common ["one", "other"] (defScope (top 24)) := ⟨rfl, rfl, rfl, by decide +kernel, rfl, by decide +kernel, by decide +kernel⟩
theorem ch__law_draw : chSs (gm N__law_draw) (defScope (top 26)) b__law_draw (defBody (top 26)) = true := by kernel_rfl
theorem sc__law_draw : FnScope N__law_draw ["_law_state", "_law_many"] (defScope (top 26)) := ⟨rfl, rfl, rfl, by decide +kernel, rfl, by decide +kernel, by decide +kernel⟩
theorem ch__law_number : chSs (gm N__law_number) (defScope (top 27)) b__law_number (defBody (top 27)) = true := by kernel_rfl
theorem sc__law_number : FnScope N__law_number ["_law_script", "_law_k"] (defScope (top 27)) := ⟨rfl, rfl, rfl, by decide +kernel, rfl, by decide +kernel, by decide +kernel⟩
theorem ch__law_word_of : chSs (gm N__law_word_of) (defScope (top 28)) b__law_word_of (defBody (top 28)) = true := by kernel_rfl
theorem sc__law_word_of : FnScope N__law_word_of ["_law_error"] (defScope (top 28)) := ⟨rfl, rfl, rfl, by decide +kernel, rfl, by decide +kernel, by decide +kernel⟩
theorem ch__law_version : chSs (gm N__law_version) (defScope (top 29)) b__law_version (defBody (top 29)) = true := by kernel_rfl
theorem sc__law_version : FnScope N__law_version ["_law_state", "_law_hands"] (defScope (top 29)) := ⟨rfl, rfl, rfl, by decide +kernel, rfl, by decide +kernel, by decide +kernel⟩
theorem ch__law_refused : chSs (gm N__law_refused) (defScope (top 30)) b__law_refused (defBody (top 30)) = true := by kernel_rfl
theorem sc__law_refused : FnScope N__law_refused ["_law_way", "_law_one", "_law_other"] (defScope (top 30)) := ⟨rfl, rfl, rfl, by decide +kernel, rfl, by decide +kernel, by decide +kernel⟩
theorem ch__law_right : chSs (gm N__law_right) (defScope (top 31)) b__law_right (defBody (top 31)) = true := by kernel_rfl
theorem sc__law_right : FnScope N__law_right ["_law_one", "_law_other", "_law_hands"] (defScope (top 31)) := ⟨rfl, rfl, rfl, by decide +kernel, rfl, by decide +kernel, by decide +kernel⟩
theorem ch_law : chSs (gm N_law) (defScope (top 32)) b_law (defBody (top 32)) = true := by kernel_rfl
theorem sc_law : FnScope N_law ["_law_script"] (defScope (top 32)) := ⟨rfl, rfl, rfl, by decide +kernel, rfl, by decide +kernel, by decide +kernel⟩
def dd (x : Str) (i : Nat) : He.DefD := ⟨(x, none), x, x, defArgs (top i), defBody (top i), defScope (top i), [], []⟩
def fn : List He.DefD := [dd "is_whole_number" 3, dd "is_hand" 4, dd "is_name" 5, dd "are_names" 6, dd "is_version" 7, dd "need_version" 19, dd "version_of" 20, dd "count_in" 21, dd "within" 22, dd "joined" 23, dd "common" 24, dd "_law_draw" 26, dd "_law_number" 27, dd "_law_word_of" 28, dd "_law_version" 29, dd "_law_refused" 30, dd "_law_right" 31, dd "law" 32]
abbrev R : PySem.W.OpenRow := PySem.W.OpenLaw.row PySem.Challenge.rw_manyquill_k12_whole_versions
def fb (K : PySem.W.Frag) : Bool := factsB (gm []) pg K
abbrev hk : PySem.W.Hook := hookQ 5 fb fn
def ob (s : PySem.W.SharedT) : He.AlD := obsQG 5 fb fn (HandSHeadRun.getT s)
theorem ob_eq (s : PySem.W.SharedT) : ob s = hk.obs s.abs := obsQG_eq (HandSHeadRun.getT_eq s)
abbrev lo : List Str := ["__name__", "SMALL", "MOST_SMALL", "is_whole_number", "is_hand", "is_name", "are_names", "is_version", "QuillError", "NoDeed", "NoHeap", "NoVersion", "NoPart", "NoPlace", "NoRight", "NoText", "NoPacking", "need_version", "version_of", "count_in", "within", "joined", "common", "_law_draw", "_law_number", "_law_word_of", "_law_version", "_law_refused", "_law_right"]
theorem run (w : World) : HandSHeadRun.RunEq R (PySem.W.view R.prog [32]) hk ob 4000 lo w := by
  intro os
  kernel_rfl
section
variable {K : PySem.W.Frag} {h : Heap} {mg : Str → Option Value}
theorem ft_is_whole_number (c : SaysQ fb fn K) (g : mg "is_whole_number" = some (.ref (He.ga K "is_whole_number"))) : FnT (gm []) pg K mg 0 "is_whole_number" 1 := by
  obtain ⟨fd, F⟩ := c.def_ 0 (d := dd "is_whole_number" 3) rfl
  exact ⟨f_is_whole_number, N_is_whole_number, ["thing"], _, _, _, _, _, _, fd, rfl, rfl, rfl, rfl, F, sc_is_whole_number, ch_is_whole_number, g, F.bindsN fun _ _ _ _ _ _ us hl => match us, hl with | [_], _ => rfl⟩
theorem ft_is_hand (c : SaysQ fb fn K) (g : mg "is_hand" = some (.ref (He.ga K "is_hand"))) : FnT (gm []) pg K mg 1 "is_hand" 1 := by
  obtain ⟨fd, F⟩ := c.def_ 1 (d := dd "is_hand" 4) rfl
  exact ⟨f_is_hand, N_is_hand, ["thing"], _, _, _, _, _, _, fd, rfl, rfl, rfl, rfl, F, sc_is_hand, ch_is_hand, g, F.bindsN fun _ _ _ _ _ _ us hl => match us, hl with | [_], _ => rfl⟩
theorem ft_is_name (c : SaysQ fb fn K) (g : mg "is_name" = some (.ref (He.ga K "is_name"))) : FnT (gm []) pg K mg 2 "is_name" 1 := by
  obtain ⟨fd, F⟩ := c.def_ 2 (d := dd "is_name" 5) rfl
  exact ⟨f_is_name, N_is_name, ["thing"], _, _, _, _, _, _, fd, rfl, rfl, rfl, rfl, F, sc_is_name, ch_is_name, g, F.bindsN fun _ _ _ _ _ _ us hl => match us, hl with | [_], _ => rfl⟩
theorem ft_are_names (c : SaysQ fb fn K) (g : mg "are_names" = some (.ref (He.ga K "are_names"))) : FnT (gm []) pg K mg 3 "are_names" 1 := by
  obtain ⟨fd, F⟩ := c.def_ 3 (d := dd "are_names" 6) rfl
  exact ⟨f_are_names, N_are_names, ["thing"], _, _, _, _, _, _, fd, rfl, rfl, rfl, rfl, F, sc_are_names, ch_are_names, g, F.bindsN fun _ _ _ _ _ _ us hl => match us, hl with | [_], _ => rfl⟩
theorem ft_is_version (c : SaysQ fb fn K) (g : mg "is_version" = some (.ref (He.ga K "is_version"))) : FnT (gm []) pg K mg 4 "is_version" 1 := by
  obtain ⟨fd, F⟩ := c.def_ 4 (d := dd "is_version" 7) rfl
  exact ⟨f_is_version, N_is_version, ["thing"], _, _, _, _, _, _, fd, rfl, rfl, rfl, rfl, F, sc_is_version, ch_is_version, g, F.bindsN fun _ _ _ _ _ _ us hl => match us, hl with | [_], _ => rfl⟩
theorem ft_need_version (c : SaysQ fb fn K) (g : mg "need_version" = some (.ref (He.ga K "need_version"))) : FnT (gm []) pg K mg 5 "need_version" 1 := by
  obtain ⟨fd, F⟩ := c.def_ 5 (d := dd "need_version" 19) rfl
  exact ⟨f_need_version, N_need_version, ["thing"], _, _, _, _, _, _, fd, rfl, rfl, rfl, rfl, F, sc_need_version, ch_need_version, g, F.bindsN fun _ _ _ _ _ _ us hl => match us, hl with | [_], _ => rfl⟩
theorem ft_version_of (c : SaysQ fb fn K) (g : mg "version_of" = some (.ref (He.ga K "version_of"))) : FnT (gm []) pg K mg 6 "version_of" 1 := by
  obtain ⟨fd, F⟩ := c.def_ 6 (d := dd "version_of" 20) rfl
  exact ⟨f_version_of, N_version_of, ["counts"], _, _, _, _, _, _, fd, rfl, rfl, rfl, rfl, F, sc_version_of, ch_version_of, g, F.bindsN fun _ _ _ _ _ _ us hl => match us, hl with | [_], _ => rfl⟩
theorem ft_count_in (c : SaysQ fb fn K) (g : mg "count_in" = some (.ref (He.ga K "count_in"))) : FnT (gm []) pg K mg 7 "count_in" 2 := by
  obtain ⟨fd, F⟩ := c.def_ 7 (d := dd "count_in" 21) rfl
  exact ⟨f_count_in, N_count_in, ["version", "hand"], _, _, _, _, _, _, fd, rfl, rfl, rfl, rfl, F, sc_count_in, ch_count_in, g, F.bindsN fun _ _ _ _ _ _ us hl => match us, hl with | [_, _], _ => rfl⟩
theorem ft_within (c : SaysQ fb fn K) (g : mg "within" = some (.ref (He.ga K "within"))) : FnT (gm []) pg K mg 8 "within" 2 := by
  obtain ⟨fd, F⟩ := c.def_ 8 (d := dd "within" 22) rfl
  exact ⟨f_within, N_within, ["one", "other"], _, _, _, _, _, _, fd, rfl, rfl, rfl, rfl, F, sc_within, ch_within, g, F.bindsN fun _ _ _ _ _ _ us hl => match us, hl with | [_, _], _ => rfl⟩
theorem ft_joined (c : SaysQ fb fn K) (g : mg "joined" = some (.ref (He.ga K "joined"))) : FnT (gm []) pg K mg 9 "joined" 2 := by
  obtain ⟨fd, F⟩ := c.def_ 9 (d := dd "joined" 23) rfl
  exact ⟨f_joined, N_joined, ["one", "other"], _, _, _, _, _, _, fd, rfl, rfl, rfl, rfl, F, sc_joined, ch_joined, g, F.bindsN fun _ _ _ _ _ _ us hl => match us, hl with | [_, _], _ => rfl⟩
theorem ft_common (c : SaysQ fb fn K) (g : mg "common" = some (.ref (He.ga K "common"))) : FnT (gm []) pg K mg 10 "common" 2 := by
  obtain ⟨fd, F⟩ := c.def_ 10 (d := dd "common" 24) rfl
  exact ⟨f_common, N_common, ["one", "other"], _, _, _, _, _, _, fd, rfl, rfl, rfl, rfl, F, sc_common, ch_common, g, F.bindsN fun _ _ _ _ _ _ us hl => match us, hl with | [_, _], _ => rfl⟩
theorem ft__law_draw (c : SaysQ fb fn K) (g : mg "_law_draw" = some (.ref (He.ga K "_law_draw"))) : FnT (gm []) pg K mg 11 "_law_draw" 2 := by
  obtain ⟨fd, F⟩ := c.def_ 11 (d := dd "_law_draw" 26) rfl
  exact ⟨f__law_draw, N__law_draw, ["_law_state", "_law_many"], _, _, _, _, _, _, fd, rfl, rfl, rfl, rfl, F, sc__law_draw, ch__law_draw, g, F.bindsN fun _ _ _ _ _ _ us hl => match us, hl with | [_, _], _ => rfl⟩
theorem ft__law_number (c : SaysQ fb fn K) (g : mg "_law_number" = some (.ref (He.ga K "_law_number"))) : FnT (gm []) pg K mg 12 "_law_number" 2 := by
  obtain ⟨fd, F⟩ := c.def_ 12 (d := dd "_law_number" 27) rfl
  exact ⟨f__law_number, N__law_number, ["_law_script", "_law_k"], _, _, _, _, _, _, fd, rfl, rfl, rfl, rfl, F, sc__law_number, ch__law_number, g, F.bindsN fun _ _ _ _ _ _ us hl => match us, hl with | [_, _], _ => rfl⟩
theorem ft__law_word_of (c : SaysQ fb fn K) (g : mg "_law_word_of" = some (.ref (He.ga K "_law_word_of"))) : FnT (gm []) pg K mg 13 "_law_word_of" 1 := by
  obtain ⟨fd, F⟩ := c.def_ 13 (d := dd "_law_word_of" 28) rfl
  exact ⟨f__law_word_of, N__law_word_of, ["_law_error"], _, _, _, _, _, _, fd, rfl, rfl, rfl, rfl, F, sc__law_word_of, ch__law_word_of, g, F.bindsN fun _ _ _ _ _ _ us hl => match us, hl with | [_], _ => rfl⟩
theorem ft__law_version (c : SaysQ fb fn K) (g : mg "_law_version" = some (.ref (He.ga K "_law_version"))) : FnT (gm []) pg K mg 14 "_law_version" 2 := by
  obtain ⟨fd, F⟩ := c.def_ 14 (d := dd "_law_version" 29) rfl
  exact ⟨f__law_version, N__law_version, ["_law_state", "_law_hands"], _, _, _, _, _, _, fd, rfl, rfl, rfl, rfl, F, sc__law_version, ch__law_version, g, F.bindsN fun _ _ _ _ _ _ us hl => match us, hl with | [_, _], _ => rfl⟩
theorem ft__law_refused (c : SaysQ fb fn K) (g : mg "_law_refused" = some (.ref (He.ga K "_law_refused"))) : FnT (gm []) pg K mg 15 "_law_refused" 3 := by
  obtain ⟨fd, F⟩ := c.def_ 15 (d := dd "_law_refused" 30) rfl
  exact ⟨f__law_refused, N__law_refused, ["_law_way", "_law_one", "_law_other"], _, _, _, _, _, _, fd, rfl, rfl, rfl, rfl, F, sc__law_refused, ch__law_refused, g, F.bindsN fun _ _ _ _ _ _ us hl => match us, hl with | [_, _, _], _ => rfl⟩
theorem ft__law_right (c : SaysQ fb fn K) (g : mg "_law_right" = some (.ref (He.ga K "_law_right"))) : FnT (gm []) pg K mg 16 "_law_right" 3 := by
  obtain ⟨fd, F⟩ := c.def_ 16 (d := dd "_law_right" 31) rfl
  exact ⟨f__law_right, N__law_right, ["_law_one", "_law_other", "_law_hands"], _, _, _, _, _, _, fd, rfl, rfl, rfl, rfl, F, sc__law_right, ch__law_right, g, F.bindsN fun _ _ _ _ _ _ us hl => match us, hl with | [_, _, _], _ => rfl⟩
theorem ft_law (c : SaysQ fb fn K) (g : mg "law" = some (.ref (He.ga K "law"))) : FnT (gm []) pg K mg 17 "law" 1 := by
  obtain ⟨fd, F⟩ := c.def_ 17 (d := dd "law" 32) rfl
  exact ⟨f_law, N_law, ["_law_script"], _, _, _, _, _, _, fd, rfl, rfl, rfl, rfl, F, sc_law, ch_law, g, F.bindsN fun _ _ _ _ _ _ us hl => match us, hl with | [_], _ => rfl⟩
theorem fts (c : SaysQ fb fn K) (g : ∀ (f : Nat) (x : Str) (np : Nat), (gm []).fns[f]? = some (x, np) → mg x = some (.ref (He.ga K x))) : ∀ (f : Nat) (x : Str) (np : Nat), (gm []).fns[f]? = some (x, np) → FnT (gm []) pg K mg f x np
  | 0, x, np, h => by
    have e : some (("is_whole_number" : Str), 1) = some (x, np) := h
    cases e
    exact ft_is_whole_number c (g 0 _ _ rfl)
  | 1, x, np, h => by
    have e : some (("is_hand" : Str), 1) = some (x, np) := h
    cases e
    exact ft_is_hand c (g 1 _ _ rfl)
  | 2, x, np, h => by
    have e : some (("is_name" : Str), 1) = some (x, np) := h
    cases e
    exact ft_is_name c (g 2 _ _ rfl)
  | 3, x, np, h => by
    have e : some (("are_names" : Str), 1) = some (x, np) := h
    cases e
    exact ft_are_names c (g 3 _ _ rfl)
  | 4, x, np, h => by
    have e : some (("is_version" : Str), 1) = some (x, np) := h
    cases e
    exact ft_is_version c (g 4 _ _ rfl)
  | 5, x, np, h => by
    have e : some (("need_version" : Str), 1) = some (x, np) := h
    cases e
    exact ft_need_version c (g 5 _ _ rfl)
  | 6, x, np, h => by
    have e : some (("version_of" : Str), 1) = some (x, np) := h
    cases e
    exact ft_version_of c (g 6 _ _ rfl)
  | 7, x, np, h => by
    have e : some (("count_in" : Str), 2) = some (x, np) := h
    cases e
    exact ft_count_in c (g 7 _ _ rfl)
  | 8, x, np, h => by
    have e : some (("within" : Str), 2) = some (x, np) := h
    cases e
    exact ft_within c (g 8 _ _ rfl)
  | 9, x, np, h => by
    have e : some (("joined" : Str), 2) = some (x, np) := h
    cases e
    exact ft_joined c (g 9 _ _ rfl)
  | 10, x, np, h => by
    have e : some (("common" : Str), 2) = some (x, np) := h
    cases e
    exact ft_common c (g 10 _ _ rfl)
  | 11, x, np, h => by
    have e : some (("_law_draw" : Str), 2) = some (x, np) := h
    cases e
    exact ft__law_draw c (g 11 _ _ rfl)
  | 12, x, np, h => by
    have e : some (("_law_number" : Str), 2) = some (x, np) := h
    cases e
    exact ft__law_number c (g 12 _ _ rfl)
  | 13, x, np, h => by
    have e : some (("_law_word_of" : Str), 1) = some (x, np) := h
    cases e
    exact ft__law_word_of c (g 13 _ _ rfl)
  | 14, x, np, h => by
    have e : some (("_law_version" : Str), 2) = some (x, np) := h
    cases e
    exact ft__law_version c (g 14 _ _ rfl)
  | 15, x, np, h => by
    have e : some (("_law_refused" : Str), 3) = some (x, np) := h
    cases e
    exact ft__law_refused c (g 15 _ _ rfl)
  | 16, x, np, h => by
    have e : some (("_law_right" : Str), 3) = some (x, np) := h
    cases e
    exact ft__law_right c (g 16 _ _ rfl)
  | 17, x, np, h => by
    have e : some (("law" : Str), 1) = some (x, np) := h
    cases e
    exact ft_law c (g 17 _ _ rfl)
  | k + 18, x, np, h => by
    have e : (none : Option (Str × Nat)) = some (x, np) := h
    cases e
end
theorem facts {P : Program} {w : World} {K : PySem.W.Frag} {h : Heap} {mg : Str → Option Value} {f : Addr} {wf k : Nat} (X : K.In h) (N : h.Ns mainGlobals mg) (hfa : mg ("law" : Str) = some (.ref f)) (c : SaysQ fb fn K) :
    ∃ fd : FuncData, (∀ (s : Shared) (v : Value), BindsTo s fd ⟨[v], []⟩ [("_law_script", v)]) ∧ ∀ base : Heap, FnOk P w K mg base (L2.CX P w) k f fd ["_law_script"] (spF pg wf (gxOf (gm []).exs K w) k 17 1) := by
  obtain ⟨b, g⟩ := wb_of (w := w) X N c.b
  obtain ⟨fd, F⟩ := c.def_ 17 (d := dd "law" 32) rfl
  have e := hfa.symm.trans (g 17 "law" 1 rfl)
  cases e
  have bi := FunD.bindsA (ps := ["_law_script"]) F fun _ _ _ _ _ _ us hl => match us, hl with | [_], _ => rfl
  refine ⟨fd, fun s v => bi s [v] rfl, fun base => ?_⟩
  cases k with
  | zero => exact ⟨fun vs H Q E hs => spF_len hs, fun _ _ _ _ _ _ _ _ _ _ _ _ _ hs => by obtain ⟨β, S, ds, T, r, e, p⟩ := hs; exact p.elim⟩
  | succ k =>
    refine F.ok sc_law (fun vs H Q E hs => spF_len hs) fun cdv A outer s H vs Q E hr hs => ⟨_, sdSs b_law (fs_of (wf := wf) (w := w) (P := P) (base := base) (wd_all b (fts c g) k N_law) sc_law hr) _ ch_law, ?_⟩
    exact fn_body (F := f_law) rfl rfl hs
end K12
open PySem PySem.W PySem.Calls PyProof.Rows
theorem K12.holds_of {wf : Nat} (law : ∀ ns : List Int, ns.length ≤ 63 → (∀ i ∈ ns, Builtin.Int.intBits i ≤ 1048576) → ∃ S', Qc.callF K12.pg wf 24 17 [.fl (Qc.intD ns)] [] = .ok (.v (.bl true)) S') : PySem.Challenge.rw_manyquill_k12_whole_versions.Holds := by
  w_on; o_law
  refine HandSHeadRun.head_any (r := OpenLaw.row PySem.Challenge.rw_manyquill_k12_whole_versions) (q := view (OpenLaw.row PySem.Challenge.rw_manyquill_k12_whole_versions).prog [32]) (H := K12.hk) (ob := K12.ob) (M := 4000) (loose := K12.lo) (d := HandSHeadRun.topDef (OpenLaw.row PySem.Challenge.rw_manyquill_k12_whole_versions).prog 32) (kwd := []) K12.ob_eq
    (by kernel_rfl) (fun s => by kernel_rfl) K12.run (by kernel_rfl) (by kernel_rfl) (by kernel_rfl) (by rfl) (by first | assumption | decide +kernel) (by decide +kernel) ⟨rfl, rfl, rfl, rfl, rfl, by decide +kernel⟩ ?hw ?hc
  case hw => w_witness2
  case hc =>
    refine Qc.walk_q (l := PySem.Challenge.rw_manyquill_k12_whole_versions) (n := 63) (k := 24) (x := "_law_script") rfl (by decide) (by kernel_rfl) ⟨rfl, by decide, by decide⟩ ?F
    intro w mg fa h Y G hmg0
    obtain ⟨K, KX, c⟩ := Y
    have hmg : mg ("law" : PySem.Str) = some (.ref fa) := by
      have e : (HandSHeadRun.topDef (OpenLaw.row PySem.Challenge.rw_manyquill_k12_whole_versions).prog 32).name = ("law" : PySem.Str) := by kernel_rfl
      rw [← e]
      exact hmg0
    obtain ⟨fd, hb, hF⟩ := K12.facts (P := (PySem.Challenge.rw_manyquill_k12_whole_versions).prog) (w := w) (wf := wf) (k := 24) KX G hmg c
    exact ⟨K, fd, _, KX, hb, fun H a ns hl hbt hO hS => Qc.spF_script hO hS (law ns hl hbt), fun base _ _ => hF base⟩
end
section
set_option Elab.async false
set_option linter.all false
set_option maxRecDepth 100000
set_option maxHeartbeats 4000000
/-! Weakest preconditions for the evaluator. -/
namespace Qc
open PySem
def Wp {α : Type} (m : M α) (S : Sto) (Q : α → Sto → Prop) (E : Nat → Sto → Prop) : Prop := match m S with
  | .ok a S' => Q a S'
  | .exc c S' => E c S'
  | .stuck => False
def Wx (m : X) (S : Sto) (Q : Fl → Sto → Prop) (E : Nat → Env → Sto → Prop) : Prop := match m S with
  | .go f S' => Q f S'
  | .exc c ρ S' => E c ρ S'
  | .stuck => False
section
variable {α β : Type} {S : Sto} {E : Nat → Sto → Prop}
@[simp] theorem wp_bnd {m : M α} {k : α → M β} {Q} : Wp (bnd m k) S Q E = Wp m S (fun a S' => Wp (k a) S' Q E) E := by
  unfold Wp bnd
  cases m S <;> rfl
@[simp] theorem wp_pur {a : α} {Q} : Wp (pur a) S Q E = Q a S := rfl
@[simp] theorem wp_stk {Q : α → Sto → Prop} : Wp stk S Q E = False := rfl
@[simp] theorem wp_rai {c : Nat} {Q : α → Sto → Prop} : Wp (rai c) S Q E = E c S := rfl
@[simp] theorem wp_some {a : α} {Q} : Wp (opt (some a)) S Q E = Q a S := rfl
@[simp] theorem wp_guard {b : Bool} {Q} : Wp (guard b) S Q E = (b = true ∧ Q () S) := by
  cases b <;> simp [guard, Wp, stk]
@[simp] theorem wp_alloc {o : O} {Q} : Wp (alloc o) S Q E = Q (.obj S.length) (S ++ [o]) := rfl
@[simp] theorem wp_put {n : Nat} {o : O} {Q} : Wp (putO n o) S Q E = Q () (S.set n o) := rfl
theorem wp_look {n : Nat} {o : O} {Q} (h : S[n]? = some o) : Wp (look n) S Q E = Q o S := by
  unfold Wp look
  rw [h]
@[simp] theorem wp_ite {c : Prop} [Decidable c] {m k : M α} {Q} : Wp (if c then m else k) S Q E = if c then Wp m S Q E else Wp k S Q E := by
  split <;> rfl
theorem wp_mono {m : M α} {Q R : α → Sto → Prop} {E F : Nat → Sto → Prop} (h : Wp m S Q E) (hq : ∀ a S', Q a S' → R a S') (he : ∀ c S', E c S' → F c S') : Wp m S R F := by
  unfold Wp at *
  revert h
  cases m S with
  | ok a S' => exact hq _ _
  | exc c S' => exact he _ _
  | stuck => exact id
theorem wp_ok {m : M α} {a : α} {S' : Sto} {Q} (h : m S = .ok a S') (q : Q a S') : Wp m S Q E := by
  unfold Wp; rw [h]; exact q
theorem wp_run {m : M α} {Q : α → Sto → Prop} (h : Wp m S Q fun _ _ => False) : ∃ a S', m S = .ok a S' ∧ Q a S' := by
  unfold Wp at h
  revert h
  cases m S with
  | ok a S' => exact fun h => ⟨a, S', rfl, h⟩
  | exc c S' => exact fun h => h.elim
  | stuck => exact fun h => h.elim
theorem wp_runE {m : M α} {c : Nat} {F : Sto → Prop} (h : Wp m S (fun _ _ => False) fun c' S' => c' = c ∧ F S') : ∃ S', m S = .exc c S' ∧ F S' := by
  unfold Wp at h
  revert h
  cases m S with
  | ok a S' => exact fun h => h.elim
  | exc c S' => exact fun h => by obtain ⟨rfl, h⟩ := h; exact ⟨S', rfl, h⟩
  | stuck => exact fun h => h.elim
@[simp] theorem wp_noexc {m : M α} {Q} : Wp (noexc m) S Q E = Wp m S Q fun _ _ => False := by
  unfold Wp noexc
  cases m S <;> rfl
end
section
variable {α : Type} {S : Sto} {Q : Fl → Sto → Prop} {E : Nat → Env → Sto → Prop} {ρ : Env}
@[simp] theorem wx_lift {m : M α} {k : α → X} : Wx (lift m ρ k) S Q E = Wp m S (fun a S' => Wx (k a) S' Q E) (fun c S' => E c ρ S') := by
  unfold Wx Wp lift
  cases m S <;> rfl
@[simp] theorem wx_go {f : Fl} : Wx (goX f) S Q E = Q f S := rfl
@[simp] theorem wx_ite {c : Prop} [Decidable c] {m k : X} : Wx (if c then m else k) S Q E = if c then Wx m S Q E else Wx k S Q E := by
  split <;> rfl
@[simp] theorem wx_rai {c : Nat} : Wx (fun S => .exc c ρ S) S Q E = E c ρ S := rfl
theorem wx_mono {m : X} {R : Fl → Sto → Prop} {F : Nat → Env → Sto → Prop} (h : Wx m S Q E) (hq : ∀ a S', Q a S' → R a S') (he : ∀ c r S', E c r S' → F c r S') : Wx m S R F := by
  unfold Wx at *
  revert h
  cases m S with
  | go a S' => exact hq _ _
  | exc c r S' => exact he _ _ _
  | stuck => exact id
/-- what a statement ahead of others must bring -/
def Nx (k : Env → X) (Q : Fl → Sto → Prop) (E : Nat → Env → Sto → Prop) : Fl → Sto → Prop := fun f S' => match f with
  | .nx ρ' => Wx (k ρ') S' Q E
  | f => Q f S'
@[simp] theorem nx_nx {k : Env → X} {ρ' : Env} : Nx k Q E (.nx ρ') S = Wx (k ρ') S Q E := rfl
@[simp] theorem nx_rt {k : Env → X} {u : U} : Nx k Q E (.rt u) S = Q (.rt u) S := rfl
@[simp] theorem nx_bk {k : Env → X} {ρ' : Env} : Nx k Q E (.bk ρ') S = Q (.bk ρ') S := rfl
@[simp] theorem nx_ct {k : Env → X} {ρ' : Env} : Nx k Q E (.ct ρ') S = Q (.ct ρ') S := rfl
@[simp] theorem wx_seq {m : X} {k : Env → X} : Wx (seqX m k) S Q E = Wx m S (Nx k Q E) E := by
  unfold Wx seqX
  cases m S with
  | go f S' => cases f <;> rfl
  | exc c r S' => rfl
  | stuck => rfl
end
/-- what a call's body must bring -/
def Rt (Q : U → Sto → Prop) : Fl → Sto → Prop := fun f S' => match f with
  | .rt u => Q u S'
  | .nx _ => Q (.v .non) S'
  | _ => False
@[simp] theorem rt_rt {Q : U → Sto → Prop} {u : U} {S : Sto} : Rt Q (.rt u) S = Q u S := rfl
@[simp] theorem rt_nx {Q : U → Sto → Prop} {ρ : Env} {S : Sto} : Rt Q (.nx ρ) S = Q (.v .non) S := rfl
theorem wp_call {pg : Pg} {wf n f : Nat} {ds : List D} {F : Fn} {S : Sto} {Q : U → Sto → Prop} {E : Nat → Sto → Prop} (hF : pg.fns[f]? = some F) (hp : F.pure = false) (hn : (decide (ds.length = F.np) && decide (F.np ≤ F.ns)) = true)
    (h : Wx (exs ⟨pg, wf, callF pg wf n⟩ F.body (startE F ds)) S (Rt Q) fun c _ S' => E c S') : Wp (callF pg wf (n + 1) f ds) S Q E := by
  unfold callF
  rw [hF]
  unfold Wp runF
  dsimp only
  rw [if_pos hn, hp]
  rw [if_neg (by decide)]
  unfold Wx at h
  revert h
  cases exs ⟨pg, wf, callF pg wf n⟩ F.body (startE F ds) S with
  | go f S' => cases f <;> exact id
  | exc c r S' => exact id
  | stuck => exact id

/-! loops -/
theorem wp_lcGo {step : D → M (Option D)} {E : Nat → Sto → Prop} {I : List D → List D → Sto → Prop} (hs : ∀ acc x xs S, I acc (x :: xs) S → Wp (step x) S (fun r S' => acc.length < line ∧ I (acc ++ r.toList) xs S') E) : ∀ {xs acc : List D} {S : Sto} {Q : List D → Sto → Prop}, I acc xs S → (∀ acc S, I acc [] S → Q acc S) → Wp (lcGo step acc xs) S Q E
  | [], acc, S, Q, h, q => by
    unfold lcGo
    exact q _ _ h
  | x :: xs, acc, S, Q, h, q => by
    unfold lcGo
    rw [wp_bnd]
    refine wp_mono (hs acc x xs S h) (fun r S' h' => ?_) fun _ _ h => h
    cases r with
    | none =>
      rw [show acc ++ (none : Option D).toList = acc from List.append_nil _] at h'
      exact wp_lcGo hs h'.2 q
    | some y =>
      dsimp only
      rw [wp_bnd, wp_guard]
      exact ⟨decide_eq_true h'.1, wp_lcGo hs h'.2 q⟩
/-- a comprehension whose step changes nothing -/
theorem lcGo_pure {step : D → M (Option D)} {S : Sto} {E : Nat → Sto → Prop} {f : D → Option D} {xs : List D} {Q : List D → Sto → Prop} (hl : xs.length ≤ line) (hs : ∀ x ∈ xs, Wp (step x) S (fun r S' => r = f x ∧ S' = S) E) (q : Q (xs.filterMap f) S) : Wp (lcGo step [] xs) S Q E := by
  refine wp_lcGo (I := fun acc r S' => S' = S ∧ ∃ l, xs = l ++ r ∧ acc = l.filterMap f) ?_ ⟨rfl, [], rfl, rfl⟩ ?_
  · rintro acc x r S' ⟨rfl, l, e, rfl⟩
    refine wp_mono (hs x (by rw [e]; simp)) ?_ fun _ _ h => h
    rintro r' S'' ⟨rfl, rfl⟩
    refine ⟨?_, rfl, l ++ [x], by rw [e]; simp, by rw [List.filterMap_append]; cases hf : f x <;> simp [hf]⟩
    have h1 := List.length_filterMap_le f l
    have h2 : l.length < xs.length := by rw [e]; simp
    omega
  · rintro acc S' ⟨rfl, l, e, rfl⟩
    rw [List.append_nil] at e
    subst e
    exact q
theorem wp_lcLive {step : D → M (Option D)} {n : Nat} {E : Nat → Sto → Prop} {I : List D → Nat → Sto → Prop} {ys : List D} (hl : ∀ acc i S, I acc i S → S[n]? = some (.lst ys)) (hs : ∀ acc i x S, ys[i]? = some x → I acc i S → Wp (step x) S (fun r S' => acc.length < line ∧ I (acc ++ r.toList) (i + 1) S') E) : ∀ {f i : Nat} {acc : List D} {S : Sto} {Q : List D → Sto → Prop}, i ≤ ys.length → ys.length < i + f → I acc i S → (∀ acc i S, ys[i]? = none → I acc i S → Q acc S) → Wp (lcLive step n f i acc) S Q E
  | 0, i, acc, S, Q, hi, hf, h, q => by omega
  | f + 1, i, acc, S, Q, hi, hf, h, q => by
    unfold lcLive
    rw [wp_bnd, wp_look (hl _ _ _ h)]
    dsimp only
    cases e : ys[i]? with
    | none => exact q _ _ _ e h
    | some x =>
      have hx := (List.getElem?_eq_some_iff.mp e).1
      dsimp only
      rw [wp_bnd]
      refine wp_mono (hs acc i x S e h) (fun r S' h' => ?_) fun _ _ h => h
      cases r with
      | none =>
        rw [show acc ++ (none : Option D).toList = acc from List.append_nil _] at h'
        exact wp_lcLive hl hs (by omega) (by omega) h'.2 q
      | some y =>
        dsimp only
        rw [wp_bnd, wp_guard]
        exact ⟨decide_eq_true h'.1, wp_lcLive hl hs (by omega) (by omega) h'.2 q⟩
/-- what a turn must bring -/
def Tn (J : Env → Sto → Prop) (Q : Fl → Sto → Prop) : Fl → Sto → Prop := fun f S => match f with
  | .nx ρ => J ρ S
  | .ct ρ => J ρ S
  | .bk ρ => Q (.nx ρ) S
  | .rt u => Q (.rt u) S
@[simp] theorem tn_nx {J : Env → Sto → Prop} {Q} {ρ : Env} {S : Sto} : Tn J Q (.nx ρ) S = J ρ S := rfl
@[simp] theorem tn_ct {J : Env → Sto → Prop} {Q} {ρ : Env} {S : Sto} : Tn J Q (.ct ρ) S = J ρ S := rfl
@[simp] theorem tn_bk {J : Env → Sto → Prop} {Q} {ρ : Env} {S : Sto} : Tn J Q (.bk ρ) S = Q (.nx ρ) S := rfl
@[simp] theorem tn_rt {J : Env → Sto → Prop} {Q} {u : U} {S : Sto} : Tn J Q (.rt u) S = Q (.rt u) S := rfl
theorem wx_forGo {step : D → Env → X} {Q : Fl → Sto → Prop} {E : Nat → Env → Sto → Prop} {I : List D → Env → Sto → Prop} (hs : ∀ x xs ρ S, I (x :: xs) ρ S → Wx (step x ρ) S (Tn (I xs) Q) E) (q : ∀ ρ S, I [] ρ S → Q (.nx ρ) S) : ∀ {xs : List D} {ρ : Env} {S : Sto}, I xs ρ S → Wx (forGo step xs ρ) S Q E
  | [], ρ, S, h => q _ _ h
  | x :: xs, ρ, S, h => by
    have h' := hs x xs ρ S h
    unfold Wx at h' ⊢
    rw [show forGo step (x :: xs) ρ S = (match step x ρ S with
      | .go (.nx ρ') S' => forGo step xs ρ' S'
      | .go (.ct ρ') S' => forGo step xs ρ' S'
      | .go (.bk ρ') S' => .go (.nx ρ') S'
      | r => r) from rfl]
    revert h'
    cases step x ρ S with
    | go f S' => cases f with
      | nx r => exact fun h' => wx_forGo hs q h'
      | ct r => exact fun h' => wx_forGo hs q h'
      | bk r => exact id
      | rt u => exact id
    | exc c r S' => exact id
    | stuck => exact id
theorem wx_forLive {step : D → Env → X} {n : Nat} {ys : List D} {Q : Fl → Sto → Prop} {E : Nat → Env → Sto → Prop} {I : Nat → Env → Sto → Prop} (hl : ∀ i ρ S, I i ρ S → S[n]? = some (.lst ys)) (hs : ∀ i x ρ S, ys[i]? = some x → I i ρ S → Wx (step x ρ) S (Tn (I (i + 1)) Q) E) (q : ∀ i ρ S, ys[i]? = none → I i ρ S → Q (.nx ρ) S) : ∀ {f i : Nat} {ρ : Env} {S : Sto}, i ≤ ys.length → ys.length < i + f → I i ρ S → Wx (forLive step n f i ρ) S Q E
  | 0, i, ρ, S, hi, hf, h => by omega
  | f + 1, i, ρ, S, hi, hf, h => by
    unfold forLive Wx
    dsimp only
    rw [hl _ _ _ h]
    dsimp only
    cases e : ys[i]? with
    | none => exact q _ _ _ e h
    | some x =>
      have hx := (List.getElem?_eq_some_iff.mp e).1
      dsimp only
      have h' := hs i x ρ S e h
      unfold Wx at h'
      revert h'
      cases step x ρ S with
      | go f S' => cases f with
        | nx r => exact fun h' => wx_forLive hl hs q (by omega) (by omega) h'
        | ct r => exact fun h' => wx_forLive hl hs q (by omega) (by omega) h'
        | bk r => exact id
        | rt u => exact id
      | exc c r S' => exact id
      | stuck => exact id

/-- what stood stands -/
def Ext (S S' : Sto) : Prop := ∀ (n : Nat) (o : O), S[n]? = some o → S'[n]? = some o
theorem Ext.refl (S : Sto) : Ext S S := fun _ _ h => h
theorem Ext.trans {S S' T : Sto} (h : Ext S S') (g : Ext S' T) : Ext S T := fun n o e => g n o (h n o e)
theorem Ext.app (S G : Sto) : Ext S (S ++ G) := fun n o e => by
  rw [List.getElem?_append_left]
  · exact e
  · exact (List.getElem?_eq_some_iff.mp e).1
theorem Ext.len {S S' : Sto} (h : Ext S S') : S.length ≤ S'.length := by
  cases hl : S.length with
  | zero => omega
  | succ k =>
    have := h k S[k] (by rw [List.getElem?_eq_getElem (by omega)])
    have := (List.getElem?_eq_some_iff.mp this).1
    omega
theorem Ext.set {S S' : Sto} (h : Ext S S') {n : Nat} (o : O) (hn : S.length ≤ n) : Ext S (S'.set n o) := fun m o' e => by
  have := (List.getElem?_eq_some_iff.mp e).1
  rw [List.getElem?_set_ne (by omega)]
  exact h m o' e

section
variable {K : Cfg} {ρ : Env} {a b c i : E} {es : Es} {e : E} {t : T} {ts : Ts}
@[simp] theorem ev_var {i : Nat} : ev K (.var i) ρ = opt ((ρ[i]?.bind id).map U.v) := by rw [ev]
@[simp] theorem ev_lit {d : D} : ev K (.lit d) ρ = pur (.v d) := by rw [ev]
@[simp] theorem ev_gv {g : Nat} : ev K (.gv g) ρ = opt ((K.pg.gvs[g]?).map U.v) := by rw [ev]
@[simp] theorem ev_tup : ev K (.tup es) ρ = bnd (evs K es ρ) fun ds => bnd (guard (okLen ds.length)) fun _ => pur (.v (.tup ds)) := by rw [ev]
@[simp] theorem ev_lst : ev K (.lst es) ρ = bnd (evs K es ρ) fun ds => bnd (guard (okLen ds.length)) fun _ => pur (.l ds) := by rw [ev]
@[simp] theorem ev_dic : ev K .dic ρ = pur (.d []) := by rw [ev]
@[simp] theorem ev_bin {o : Bop} : ev K (.bin o a b) ρ = bnd (ev K a ρ) fun x => bnd (ev K b ρ) fun y => bop o x y := by rw [ev]
@[simp] theorem ev_cmp {o : Cop} : ev K (.cmp o a b) ρ = bnd (ev K a ρ) fun x => bnd (ev K b ρ) fun y => bnd (cop o x y) fun r => pur (.v (.bl r)) := by rw [ev]
@[simp] theorem ev_chn {o p : Cop} : ev K (.chn o p a b c) ρ = bnd (ev K a ρ) fun x => bnd (ev K b ρ) fun y => bnd (cop o x y) fun r => if r = true then bnd (ev K c ρ) fun z => bnd (cop p y z) fun r' => pur (.v (.bl r')) else pur (.v (.bl false)) := by rw [ev]
@[simp] theorem ev_and : ev K (.and es) ρ = evAnd K es ρ := by rw [ev]
@[simp] theorem ev_or : ev K (.or es) ρ = evOr K es ρ := by rw [ev]
@[simp] theorem ev_not : ev K (.not a) ρ = bnd (ev K a ρ) fun x => bnd (tru x) fun r => pur (.v (.bl (!r))) := by rw [ev]
@[simp] theorem ev_ife : ev K (.ife t a b) ρ = bnd (evT K t ρ) fun r => if r = true then ev K a ρ else ev K b ρ := by rw [ev]
@[simp] theorem ev_ix : ev K (.ix a i) ρ = bnd (ev K a ρ) fun x => bnd (ev K i ρ) fun y => ixA x y := by rw [ev]
@[simp] theorem ev_call {f : Nat} : ev K (.call f es) ρ = bnd (evs K es ρ) fun ds => K.call f ds := by rw [ev]
@[simp] theorem ev_isi {t : Ty} : ev K (.isi a t) ρ = bnd (ev K a ρ) fun x => bnd (isTy K.pg t x) fun r => pur (.v (.bl r)) := by rw [ev]
@[simp] theorem ev_b1 {o : B1} : ev K (.b1 o a) ρ = bnd (ev K a ρ) (semB1 o) := by rw [ev]
@[simp] theorem ev_b2 {o : B2} : ev K (.b2 o a b) ρ = bnd (ev K a ρ) fun x => bnd (ev K b ρ) fun y => semB2 o x y := by rw [ev]
@[simp] theorem ev_m1 {o : M1} : ev K (.m1 o a b) ρ = bnd (ev K a ρ) fun x => bnd (kindM1 o x) fun _ => bnd (ev K b ρ) fun y => semM1 o x y := by rw [ev]
@[simp] theorem ev_m2 {o : M2} : ev K (.m2 o a b c) ρ = bnd (ev K a ρ) fun x => bnd (kindM2 o x) fun _ => bnd (ev K b ρ) fun y => bnd (ev K c ρ) fun z => semM2 o x y z := by rw [ev]
@[simp] theorem evs_nil : evs K .nil ρ = pur [] := by rw [evs]
@[simp] theorem evs_cons : evs K (.cons e es) ρ = bnd (ev K e ρ) fun u => bnd (settle u) fun d => bnd (evs K es ρ) fun ds => pur (d :: ds) := by rw [evs]
@[simp] theorem evAnd_one : evAnd K (.cons e .nil) ρ = ev K e ρ := by rw [evAnd]
@[simp] theorem evAnd_cons : evAnd K (.cons e (.cons a es)) ρ = bnd (ev K e ρ) fun u => bnd (tru u) fun b => if b = true then evAnd K (.cons a es) ρ else pur u := by rw [evAnd]; intro h; cases h
@[simp] theorem evOr_one : evOr K (.cons e .nil) ρ = ev K e ρ := by rw [evOr]
@[simp] theorem evOr_cons : evOr K (.cons e (.cons a es)) ρ = bnd (ev K e ρ) fun u => bnd (tru u) fun b => if b = true then pur u else evOr K (.cons a es) ρ := by rw [evOr]; intro h; cases h
def rngK : U → M Src := fun x => match x with
  | .v (.int n) => bnd (guard (small62 n)) fun _ => pur (.items (intsFrom 0 n.toNat))
  | _ => stk
@[simp] theorem rngK_int {n : Int} : rngK (.v (.int n)) = bnd (guard (small62 n)) fun _ => pur (.items (intsFrom 0 n.toNat)) := rfl
@[simp] theorem evI_rng : evI K (.rng a) ρ = bnd (ev K a ρ) rngK := by rw [evI]; rfl
@[simp] theorem evI_of : evI K (.of a) ρ = bnd (ev K a ρ) srcOf := by rw [evI]
@[simp] theorem evIfs_nil : evIfs K .nil ρ = pur true := by rw [evIfs]
@[simp] theorem evIfs_one : evIfs K (.cons t .nil) ρ = evT K t ρ := by rw [evIfs]
@[simp] theorem evT_of : evT K (.of e) ρ = bnd (ev K e ρ) tru := by rw [evT]
@[simp] theorem evT_and : evT K (.and ts) ρ = evTA K ts ρ := by rw [evT]
@[simp] theorem evT_or : evT K (.or ts) ρ = evTO K ts ρ := by rw [evT]
@[simp] theorem evT_not : evT K (.not t) ρ = bnd (evT K t ρ) fun b => pur (!b) := by rw [evT]
@[simp] theorem evTA_one : evTA K (.cons t .nil) ρ = evT K t ρ := by rw [evTA]
@[simp] theorem evTA_cons {t' : T} : evTA K (.cons t (.cons t' ts)) ρ = bnd (evT K t ρ) fun b => if b = true then evTA K (.cons t' ts) ρ else pur false := by rw [evTA]; intro h; cases h
@[simp] theorem evTO_one : evTO K (.cons t .nil) ρ = evT K t ρ := by rw [evTO]
@[simp] theorem evTO_cons {t' : T} : evTO K (.cons t (.cons t' ts)) ρ = bnd (evT K t ρ) fun b => if b = true then pur true else evTO K (.cons t' ts) ρ := by rw [evTO]; intro h; cases h
variable {tg : List Nat} {one : Bool} {o : E} {ss : Sts} {s : St} {ss' : Sts} {it : It}
@[simp] theorem ex_asg : ex K (.asg tg one e) ρ = lift (ev K e ρ) ρ fun u => lift (settle u) ρ fun d => lift (target ρ tg one d) ρ fun ρ' => goX (.nx ρ') := by rw [ex]
@[simp] theorem ex_seti : ex K (.seti o i e) ρ = lift (ev K e ρ) ρ fun u => lift (settle u) ρ fun d => lift (ev K o ρ) ρ fun x => lift (ev K i ρ) ρ fun y => lift (seti x y d) ρ fun _ => goX (.nx ρ) := by rw [ex]
@[simp] theorem ex_expr : ex K (.expr e) ρ = lift (ev K e ρ) ρ fun _ => goX (.nx ρ) := by rw [ex]
@[simp] theorem ex_ret : ex K (.ret e) ρ = lift (ev K e ρ) ρ fun u => goX (.rt u) := by rw [ex]
@[simp] theorem ex_pass : ex K .pass ρ = goX (.nx ρ) := by rw [ex]
@[simp] theorem ex_brk : ex K .brk ρ = goX (.bk ρ) := by rw [ex]
@[simp] theorem ex_cnt : ex K .cnt ρ = goX (.ct ρ) := by rw [ex]
@[simp] theorem ex_ite : ex K (.ite t ss ss') ρ = lift (evT K t ρ) ρ fun t => if t = true then exs K ss ρ else exs K ss' ρ := by rw [ex]
@[simp] theorem exs_nil : exs K .nil ρ = goX (.nx ρ) := by rw [exs]
@[simp] theorem exs_one : exs K (.cons s .nil) ρ = ex K s ρ := by rw [exs]
@[simp] theorem exs_cons : exs K (.cons s (.cons (s') ss)) ρ = seqX (ex K s ρ) fun ρ' => exs K (.cons s' ss) ρ' := by rw [exs]; intro h; cases h
variable {S : Sto} {Q : Fl → Sto → Prop} {F : Nat → Env → Sto → Prop}
@[simp] theorem wx_raise {c : Nat} : Wx (ex K (.rai c) ρ) S Q F = F c ρ S := by rw [ex]; rfl
/-- a turn of a for -/
def turnX (K : Cfg) (tg : List Nat) (one : Bool) (ss : Sts) (x : D) (ρ' : Env) : X := lift (target ρ' tg one x) ρ' fun ρ2 => exs K ss ρ2
def forK (K : Cfg) (tg : List Nat) (one : Bool) (ss : Sts) (ρ : Env) : Src → X
  | .items xs => forGo (turnX K tg one ss) xs ρ
  | .live n => forLive (turnX K tg one ss) n K.wf 0 ρ
theorem ex_for : ex K (.for_ tg one it ss) ρ = lift (evI K it ρ) ρ (forK K tg one ss ρ) := by
  rw [ex]
  congr 1
/-- a turn of a comprehension -/
def turnL (K : Cfg) (tg : List Nat) (one : Bool) (elt : E) (ifs : Ts) (ρ : Env) (x : D) : M (Option D) := noexc (bnd (target ρ tg one x) fun ρ' => bnd (evIfs K ifs ρ') fun b => if b = true then bnd (ev K elt ρ') fun u => bnd (settle u) fun d => pur (some d) else pur none)
def lcK (K : Cfg) (tg : List Nat) (one : Bool) (elt : E) (ifs : Ts) (ρ : Env) : Src → M (List D)
  | .items xs => lcGo (turnL K tg one elt ifs ρ) [] xs
  | .live n => lcLive (turnL K tg one elt ifs ρ) n K.wf 0 []
theorem ev_lc {elt : E} {ifs : Ts} : ev K (.lc elt tg one it ifs) ρ = bnd (evI K it ρ) fun src => bnd (lcK K tg one elt ifs ρ src) fun ys => pur (.l ys) := by
  rw [ev]
  congr 1
/-- what a try takes -/
def Ct (K : Cfg) (c x y : Nat) (Q : Fl → Sto → Prop) (F : Nat → Env → Sto → Prop) : Nat → Env → Sto → Prop := fun c' ρ' S' => (c' < K.pg.sup.length ∧ x < ρ'.length) ∧ if isExn K.pg c' c = true then Q (.nx ((setV ρ' y (.exn c')).set x none)) S' else F c' ρ' S'
theorem wx_try {c x y : Nat} : Wx (ex K (.tryAs ss c x y) ρ) S Q F = Wx (exs K ss ρ) S Q (Ct K c x y Q F) := by
  rw [ex]
  unfold Wx Ct
  dsimp only
  cases exs K ss ρ S with
  | go f S' => rfl
  | stuck => rfl
  | exc c' r S' =>
    dsimp only
    by_cases h : c' < K.pg.sup.length ∧ x < r.length
    · rw [if_pos h]
      split <;> rename_i q <;> split at q <;> simp_all
    · rw [if_neg h]
      simp [h]
@[simp] theorem settle_v {d : D} : settle (.v d) = pur d := rfl
@[simp] theorem settle_l {xs : List D} : settle (.l xs) = alloc (.lst xs) := rfl
@[simp] theorem settle_d {xs : List (D × D)} : settle (.d xs) = alloc (.dct xs) := rfl
@[simp] theorem target_one {i : Nat} {d : D} : target ρ [i] true d = pur (setV ρ i d) := rfl
@[simp] theorem target_tup {xs : List D} : target ρ tg false (.tup xs) = opt (setVs ρ tg xs) := by cases tg <;> rfl
@[simp] theorem setVs_nil : setVs ρ [] [] = some ρ := rfl
@[simp] theorem setVs_cons {i : Nat} {is : List Nat} {d : D} {ds : List D} : setVs ρ (i :: is) (d :: ds) = setVs (setV ρ i d) is ds := rfl
@[simp] theorem tru_bl {b : Bool} : tru (.v (.bl b)) = pur b := rfl
@[simp] theorem tru_non : tru (.v .non) = pur false := rfl
@[simp] theorem ixA_d {kvs : List (D × D)} {y : U} : ixA (.d kvs) y = ixK kvs y := rfl
@[simp] theorem ixA_tup {xs : List D} {n : Int} : ixA (.v (.tup xs)) (.v (.int n)) = opt ((L2.atI xs n).map U.v) := rfl
@[simp] theorem ixA_fl {xs : List D} {n : Int} : ixA (.v (.fl xs)) (.v (.int n)) = opt ((L2.atI xs n).map U.v) := rfl
@[simp] theorem ixA_l {xs : List D} {n : Int} : ixA (.l xs) (.v (.int n)) = opt ((L2.atI xs n).map U.v) := rfl
end
end Qc
end
section
set_option Elab.async false
set_option linter.all false
set_option maxRecDepth 100000
set_option maxHeartbeats 4000000
/-! Calls and built-in functions, and versions as lists of pairs. -/
namespace Qc
open PySem
section
variable {pg : Pg} {t : Ty} {S : Sto} {E : Nat → Sto → Prop}
@[simp] theorem isTy_tup {xs : List D} : isTy pg t (.v (.tup xs)) = pur (decide (t = .tuple)) := rfl
@[simp] theorem isTy_str {x : Str} : isTy pg t (.v (.str x)) = pur (decide (t = .str)) := rfl
@[simp] theorem isTy_int {i : Int} : isTy pg t (.v (.int i)) = pur (decide (t = .int)) := rfl
@[simp] theorem isTy_bl {b : Bool} : isTy pg t (.v (.bl b)) = pur (decide (t = .bool) || decide (t = .int)) := rfl
@[simp] theorem isTy_non : isTy pg t (.v .non) = pur false := rfl
@[simp] theorem isTy_exn {c : Nat} : isTy pg t (.v (.exn c)) = opt (tyE pg t c) := rfl
@[simp] theorem isTy_obj {n : Nat} : isTy pg t (.v (.obj n)) = bnd (look n) (tyO t) := rfl
@[simp] theorem tyO_lst {xs : List D} : tyO t (.lst xs) = pur (decide (t = .list)) := rfl
@[simp] theorem tyO_dct {xs : List (D × D)} : tyO t (.dct xs) = pur (decide (t = .dict)) := rfl
theorem cop_eq {a b : U} : cop .eq a b = bnd (upd a) fun p => bnd (upd b) fun q => bnd (guard (PySem.SeqAt.shaped p && PySem.SeqAt.shaped q)) fun _ => pur (PyData.eqv p q) := by unfold cop; rfl
theorem cop_ne {a b : U} : cop .ne a b = bnd (upd a) fun p => bnd (upd b) fun q => bnd (guard (PySem.SeqAt.shaped p && PySem.SeqAt.shaped q)) fun _ => pur (!PyData.eqv p q) := by unfold cop; rfl
theorem upd_v {d : D} {p : PyData} (h : d.pd = some p) : upd (.v d) = pur p := by
  cases d with
  | obj n => unfold D.pd at h; cases h
  | _ => unfold upd; dsimp only; rw [h]; rfl
theorem upd_l {xs : List D} {ps : List PyData} (h : D.pds xs = some ps) : upd (.l xs) = pur (.list ps) := by
  show opt _ = _
  rw [h]
  rfl
@[simp] theorem bnd_pur {α β : Type} {a : α} {k : α → M β} : bnd (pur a) k = k a := rfl
@[simp] theorem eq_int {i j : Int} : cop .eq (.v (.int i)) (.v (.int j)) = pur (i == j) := by
  rw [cop_eq, upd_v (show (D.int i).pd = some (.int i) by unfold D.pd; rfl), upd_v (show (D.int j).pd = some (.int j) by unfold D.pd; rfl)]
  rfl
@[simp] theorem ne_int {i j : Int} : cop .ne (.v (.int i)) (.v (.int j)) = pur (!(i == j)) := by
  rw [cop_ne, upd_v (show (D.int i).pd = some (.int i) by unfold D.pd; rfl), upd_v (show (D.int j).pd = some (.int j) by unfold D.pd; rfl)]
  rfl
theorem wp_same {a b : U} {p : PyData} {Q : Bool → Sto → Prop} (ha : upd a S = .ok p S) (hb : upd b S = .ok p S) (hs : PySem.SeqAt.shaped p = true) (q : Q true S) : Wp (cop .eq a b) S Q E := by
  rw [cop_eq, wp_bnd]
  refine wp_ok ha ?_
  rw [wp_bnd]
  refine wp_ok hb ?_
  rw [wp_bnd, wp_guard, hs]
  have : p.canLay0 = true := by unfold PySem.SeqAt.shaped at hs; rw [Bool.and_eq_true] at hs; exact hs.1
  exact ⟨rfl, by show Q (PyData.eqv p p) S; rw [PySem.SeqAt.eqv_refl p this]; exact q⟩
theorem wp_nsame {a b : U} {p : PyData} {Q : Bool → Sto → Prop} (ha : upd a S = .ok p S) (hb : upd b S = .ok p S) (hs : PySem.SeqAt.shaped p = true) (q : Q false S) : Wp (cop .ne a b) S Q E := by
  rw [cop_ne, wp_bnd]
  refine wp_ok ha ?_
  rw [wp_bnd]
  refine wp_ok hb ?_
  rw [wp_bnd, wp_guard, hs]
  have : p.canLay0 = true := by unfold PySem.SeqAt.shaped at hs; rw [Bool.and_eq_true] at hs; exact hs.1
  exact ⟨rfl, by show Q (!PyData.eqv p p) S; rw [PySem.SeqAt.eqv_refl p this]; exact q⟩
@[simp] theorem lt_int {i j : Int} : cop .lt (.v (.int i)) (.v (.int j)) = pur (decide (i < j)) := rfl
@[simp] theorem le_int {i j : Int} : cop .le (.v (.int i)) (.v (.int j)) = pur (decide (i ≤ j)) := rfl
@[simp] theorem gt_int {i j : Int} : cop .gt (.v (.int i)) (.v (.int j)) = pur (decide (j < i)) := rfl
@[simp] theorem ge_int {i j : Int} : cop .ge (.v (.int i)) (.v (.int j)) = pur (decide (j ≤ i)) := rfl
@[simp] theorem is_non {d : D} : cop .is_ (.v d) (.v .non) = pur (match d with
    | .non => true
    | _ => false) := by cases d <;> rfl
@[simp] theorem is_bl {b c : Bool} : cop .is_ (.v (.bl b)) (.v (.bl c)) = pur (b == c) := rfl
@[simp] theorem len_tup {xs : List D} : semB1 .len (.v (.tup xs)) = pur (.v (.int xs.length)) := rfl
@[simp] theorem len_fl {xs : List D} : semB1 .len (.v (.fl xs)) = pur (.v (.int xs.length)) := rfl
@[simp] theorem len_l {xs : List D} : semB1 .len (.l xs) = pur (.v (.int xs.length)) := rfl
@[simp] theorem len_s {xs : List D} : semB1 .len (.s xs) = pur (.v (.int xs.length)) := rfl
@[simp] theorem list_tup {xs : List D} : semB1 .list (.v (.tup xs)) = pur (.l xs) := rfl
@[simp] theorem tuple_l {xs : List D} : semB1 .tuple (.l xs) = pur (.v (.tup xs)) := rfl
@[simp] theorem tuple_obj {n : Nat} : semB1 .tuple (.v (.obj n)) = bnd (sq (.v (.obj n))) fun xs => pur (.v (.tup xs)) := rfl
theorem wp_sq {n : Nat} {xs : List D} {Q : List D → Sto → Prop} (h : S[n]? = some (.lst xs)) (q : Q xs S) : Wp (sq (.v (.obj n))) S Q E := by
  show Wp (bnd (look n) _) S Q E
  rw [wp_bnd, wp_look h]
  exact q
theorem wp_sqL {n : Nat} {xs : List D} {Q : List D → Sto → Prop} (h : S[n]? = some (.lst xs)) (q : Q xs S) : Wp (sqL (.v (.obj n))) S Q E := by
  show Wp (bnd (look n) _) S Q E
  rw [wp_bnd, wp_look h]
  exact q
theorem wp_dcL {n : Nat} {xs : List (D × D)} {Q : List (D × D) → Sto → Prop} (h : S[n]? = some (.dct xs)) (q : Q xs S) : Wp (dcL (.v (.obj n))) S Q E := by
  show Wp (bnd (look n) _) S Q E
  rw [wp_bnd, wp_look h]
  exact q
theorem bls_map {α : Type} {xs : List α} {p : α → Bool} : blsOf (xs.map fun x => D.bl (p x)) = some (xs.map p) := by
  induction xs with
  | nil => rfl
  | cons x xs ih =>
    show Option.map _ (blsOf (xs.map fun x => D.bl (p x))) = _
    rw [ih]
    rfl
theorem all_bls {α : Type} {xs : List α} {p : α → Bool} : semB1 .all (.l (xs.map fun x => D.bl (p x))) = pur (.v (.bl (xs.all p))) := by
  show bnd (opt (blsOf _)) _ = _
  rw [bls_map]
  show pur (U.v (.bl ((xs.map p).all id))) = _
  rw [List.all_map]
  rfl
@[simp] theorem dict_tup {xs : List D} : semB1 .dict (.v (.tup xs)) = bnd (guard (decide (xs.length < line))) fun _ => bnd (opt (dPairs [] xs)) fun kvs => pur (.d kvs) := rfl
@[simp] theorem dict_l {xs : List D} : semB1 .dict (.l xs) = bnd (guard (decide (xs.length < line))) fun _ => bnd (opt (dPairs [] xs)) fun kvs => pur (.d kvs) := rfl
@[simp] theorem kindM2_d {m : M2} {kvs : List (D × D)} : kindM2 m (.d kvs) = pur () := rfl
@[simp] theorem kindM2_obj {m : M2} {n : Nat} : kindM2 m (.v (.obj n)) = bnd (dcL (.v (.obj n))) fun _ => pur () := rfl
@[simp] theorem kindM1_obj {m : M1} {n : Nat} : kindM1 m (.v (.obj n)) = bnd (sqL (.v (.obj n))) fun _ => pur () := rfl
@[simp] theorem get_d {kvs : List (D × D)} {k d : D} : semM2 .get (.d kvs) (.v k) (.v d) = bnd (opt (okey k)) fun k' => pur (.v ((dLook kvs k').getD d)) := rfl
@[simp] theorem get_obj {n : Nat} {k d : D} : semM2 .get (.v (.obj n)) (.v k) (.v d) = bnd (opt (okey k)) fun k' => bnd (dcL (.v (.obj n))) fun kvs => pur (.v ((dLook kvs k').getD d)) := rfl
@[simp] theorem max2_int {i j : Int} : semB2 .max (.v (.int i)) (.v (.int j)) = pur (.v (.int (if j > i then j else i))) := rfl
@[simp] theorem min2_int {i j : Int} : semB2 .min (.v (.int i)) (.v (.int j)) = pur (.v (.int (if j < i then j else i))) := rfl
@[simp] theorem okLen_lit {n : Nat} (h : n ≤ 1000) : okLen n = true := decide_eq_true (Nat.le_trans h (by unfold line sizeLine; decide))
theorem ixN_obj {n : Nat} {xs : List D} {i : Int} {d : D} {Q : U → Sto → Prop} (h : S[n]? = some (.lst xs)) (e : L2.atI xs i = some d) (q : Q (.v d) S) : Wp (ixA (.v (.obj n)) (.v (.int i))) S Q E := by
  show Wp (bnd (look n) _) S Q E
  rw [wp_bnd, wp_look h]
  show Wp (bnd (sq (.v (.obj n))) _) S Q E
  rw [wp_bnd]
  refine wp_sq h ?_
  rw [e]
  exact q
theorem ixK_obj {n : Nat} {kvs : List (D × D)} {k d : D} {nk : NestedKey} {Q : U → Sto → Prop} (h : S[n]? = some (.dct kvs)) (hk : okey k = some nk) (e : dLook kvs nk = some d) (q : Q (.v d) S) : Wp (ixA (.v (.obj n)) (.v k)) S Q E := by
  show Wp (bnd (look n) _) S Q E
  rw [wp_bnd, wp_look h]
  show Wp (bnd (opt (okey k)) _) S Q E
  rw [hk]
  show Wp (bnd (opt (dLook kvs nk)) _) S Q E
  rw [e]
  exact q
end
theorem okey_str {x : Str} : okey (.str x) = some (.text x) := by
  unfold okey D.key
  rfl
theorem key_pair {x : Str} {i : Int} : D.key (.tup [.str x, .int i]) = some (.tup [.text x, .num i]) := by
  simp [D.key, D.keys]
theorem okey_pair {x : Str} {i : Int} : okey (.tup [.str x, .int i]) = some (.tup [.text x, .num i]) := by
  unfold okey
  rw [key_pair]
  rfl

/-! ### versions as lists of pairs -/
abbrev Vl := List (Str × Int)
def pr (p : Str × Int) : D := .tup [.str p.1, .int p.2]
def vt (l : Vl) : List D := l.map pr
def kv (l : Vl) : List (D × D) := l.map fun p => (.str p.1, .int p.2)
theorem pd_pr (p : Str × Int) : (pr p).pd = some (.tuple [.str p.1, .int p.2]) := by
  simp [pr, D.pd, D.pds]
theorem pdd_pr (p : Str × Int) : (pr p).pdd = .tuple [.str p.1, .int p.2] := by
  unfold D.pdd
  rw [pd_pr]
  rfl
theorem pds_cons {d : D} {p : PyData} (h : d.pd = some p) {ds : List D} {ps : List PyData} (g : D.pds ds = some ps) : D.pds (d :: ds) = some (p :: ps) := by
  unfold D.pds
  rw [h, g]
theorem pds_vt : ∀ l : Vl, D.pds (vt l) = some (l.map fun p => .tuple [.str p.1, .int p.2])
  | [] => by unfold vt; unfold D.pds; rfl
  | p :: l => pds_cons (pd_pr p) (pds_vt l)
theorem pds_str : ∀ l : List Str, D.pds (l.map .str) = some (l.map .str)
  | [] => by unfold D.pds; rfl
  | p :: l => pds_cons (by unfold D.pd; rfl) (pds_str l)
theorem depth_le {k : Nat} : ∀ {ps : List PyData}, (∀ p ∈ ps, p.depth ≤ k) → PyData.depthAll ps ≤ k
  | [], _ => by unfold PyData.depthAll; exact Nat.zero_le _
  | p :: ps, h => by
    unfold PyData.depthAll
    exact Nat.max_le.mpr ⟨h p List.mem_cons_self, depth_le fun q m => h q (List.mem_cons_of_mem _ m)⟩
theorem sort_of {m xs : List D} (hp : m.Perm xs) (hs : m.Pairwise fun a b => leD b a = false) : xs.mergeSort leD = m := by
  have hp2 : (xs.mergeSort leD).Perm m := (List.mergeSort_perm xs leD).trans hp.symm
  have p1 : (xs.mergeSort leD).Pairwise fun a b => leD a b = true := PySem.W.sort_pairwise leD_total _
  generalize xs.mergeSort leD = l at hp2 p1
  clear hp
  induction m generalizing l with
  | nil => exact hp2.eq_nil
  | cons x m ih =>
    cases l with
    | nil => exact absurd hp2.symm.eq_nil (by simp)
    | cons y l =>
      rw [List.pairwise_cons] at p1 hs
      have e : y = x := by
        have m1 : y ∈ x :: m := hp2.mem_iff.mp List.mem_cons_self
        have m2 : x ∈ y :: l := hp2.mem_iff.mpr List.mem_cons_self
        rcases List.mem_cons.mp m1 with e | m1
        · exact e
        · rcases List.mem_cons.mp m2 with e | m2
          · exact e.symm
          · have a := p1.1 x m2
            have b := hs.1 y m1
            rw [a] at b
            cases b
      subst e
      exact congrArg _ (ih hs.2 _ (List.Perm.cons_inv hp2) p1.2)
theorem strictB_of : ∀ {l : List D}, (l.Pairwise fun a b => leD b a = false) → strictB l = true
  | [], _ => rfl
  | x :: l, h => by
    rw [List.pairwise_cons] at h
    unfold strictB
    rw [Bool.and_eq_true]
    refine ⟨List.all_eq_true.mpr fun y m => ?_, strictB_of h.2⟩
    rw [Bool.not_eq_true']
    exact h.1 y m
/-- one hand ahead of another -/
def hlt (a b : Str) : Prop := leD (.str b) (.str a) = false
theorem hlt_irr {a : Str} (h : hlt a a) : False := by
  have := leD_total.total (.str a) (.str a)
  unfold hlt at h
  rw [h] at this
  simp at this
theorem hlt_ne {a b : Str} (h : hlt a b) : a ≠ b := fun e => by subst e; exact hlt_irr h
theorem pr_lt {p q : Str × Int} (h : hlt p.1 q.1) : leD (pr q) (pr p) = false := by
  have hn := hlt_ne h
  unfold hlt at h
  unfold leD PySem.W.dataLe PySem.W.sortLe at *
  simp only [cond_false, Bool.not_eq_false'] at *
  rw [pdd_pr, pdd_pr]
  have e1 : (D.str p.1).pdd = .str p.1 := by unfold D.pdd D.pd; rfl
  have e2 : (D.str q.1).pdd = .str q.1 := by unfold D.pdd D.pd; rfl
  rw [e1, e2] at h
  simp only [PySem.W.keyToks, PySem.W.keyToksAll] at *
  show PyProof.Rows.lexLt PyProof.Rows.itemOrd ([.inl 1] ++ (.inr p.1.cps.toList :: ([] ++ PySem.W.keyToksAll [.int p.2]))) ([.inl 1] ++ (.inr q.1.cps.toList :: ([] ++ PySem.W.keyToksAll [.int q.2]))) = true
  rw [PySem.W.lex_pre, PySem.W.lex_atom]
  · exact h
  · intro e
    apply hn
    injection e with e
    rcases p with ⟨⟨⟨a⟩⟩, x⟩
    rcases q with ⟨⟨⟨b⟩⟩, y⟩
    simp at e
    subst e
    rfl
theorem sortD_str {l m : List Str} (hl : l.length < 64) (hp : m.Perm l) (hs : m.Pairwise hlt) : sortD (l.map .str) = some (m.map .str) := by
  unfold sortD
  rw [pds_str]
  dsimp only
  rw [if_pos]
  · congr 1
    refine sort_of (hp.map _) ?_
    rw [List.pairwise_map]
    exact hs
  · rw [Bool.and_eq_true, Bool.and_eq_true, Bool.and_eq_true]
    refine ⟨⟨⟨?_, ?_⟩, ?_⟩, ?_⟩
    · unfold alikeB
      simp [PySem.W.alike]
    · unfold sortableB
      simp [noTupB]
    · refine decide_eq_true (Nat.le_trans (depth_le (k := 0) ?_) (by omega))
      intro p m
      obtain ⟨x, _, rfl⟩ := List.mem_map.mp m
      simp [PyData.depth]
    · simpa using hl
theorem sortDS_vt {l : Vl} (hl : l.length < 64) (hs : l.Pairwise fun p q => hlt p.1 q.1) : sortDS (vt l) = some (vt l) := by
  have hp : (vt l).Pairwise fun a b => leD b a = false := by
    unfold vt
    rw [List.pairwise_map]
    exact hs.imp fun h => pr_lt h
  have e : sortD (vt l) = some (vt l) := by
    unfold sortD
    rw [pds_vt]
    dsimp only
    rw [if_pos]
    · congr 1
      exact sort_of (List.Perm.refl _) hp
    · rw [Bool.and_eq_true, Bool.and_eq_true, Bool.and_eq_true]
      refine ⟨⟨⟨?_, ?_⟩, ?_⟩, ?_⟩
      · unfold alikeB
        simp [PySem.W.alike, PySem.W.alikeAll]
      · unfold sortableB
        simp [isTupB]
      · refine decide_eq_true (Nat.le_trans (depth_le (k := 1) ?_) (by omega))
        intro p m
        obtain ⟨x, _, rfl⟩ := List.mem_map.mp m
        simp [PyData.depth, PyData.depthAll]
      · simpa [vt] using hl
  unfold sortDS
  rw [e]
  dsimp only
  rw [if_pos (strictB_of hp)]
theorem sAdd_of : ∀ {xs acc : List D}, (∀ d ∈ xs, ∃ k, okey d = some k) → (acc ++ xs).Pairwise (fun a b => okey a ≠ okey b) → sAdd acc xs = some (acc ++ xs)
  | [], acc, _, _ => by unfold sAdd; rw [List.append_nil]
  | x :: xs, acc, hk, hp => by
    obtain ⟨k, e⟩ := hk x List.mem_cons_self
    unfold sAdd
    rw [e]
    dsimp only
    rw [if_neg]
    · rw [sAdd_of (fun d m => hk d (List.mem_cons_of_mem _ m)) (by rw [List.append_assoc]; exact hp), List.append_assoc]
      rfl
    · rw [List.any_eq_true]
      rintro ⟨y, m, h⟩
      rw [List.pairwise_append] at hp
      refine hp.2.2 y m x List.mem_cons_self ?_
      rw [e]
      exact of_decide_eq_true h
end Qc
end
section
set_option Elab.async false
set_option linter.all false
set_option maxRecDepth 100000
set_option maxHeartbeats 4000000
/-! The functions that k12 asks of versions. -/
namespace K12
open PySem Qc
def GH : List Str := ["a", "ab", "b", "c", "d", "e", "zz"]
theorem GH_ok : ∀ h ∈ GH, PyData.strOk h = true := by decide +kernel
theorem hand_ok {wf n : Nat} {S : Sto} : ∀ {h : Str}, h ∈ GH → callF pg wf (n + 1) 1 [.str h] S = .ok (.v (.bl true)) S := by
  intro h m
  unfold GH at m
  simp only [List.mem_cons, List.mem_nil_iff, or_false] at m
  rcases m with rfl | rfl | rfl | rfl | rfl | rfl | rfl <;> kernel_rfl
theorem whole_ok {wf n : Nat} {S : Sto} {i : Int} : callF pg wf (n + 1) 0 [.int i] S = .ok (.v (.bl true)) S := by kernel_rfl
theorem same {wf n f : Nat} {ds : List D} {S : Sto} {r : U} (h : Wp (callF pg wf n f ds) S (fun u S' => u = r ∧ S' = S) fun _ _ => False) : callF pg wf n f ds S = .ok r S := by
  obtain ⟨a, S', e, rfl, rfl⟩ := wp_run h
  exact e
structure Vr (l : Vl) : Prop where
  len : l.length ≤ 20
  ok : ∀ p ∈ l, p.1 ∈ GH ∧ 1 ≤ p.2
  srt : l.Pairwise fun p q => hlt p.1 q.1
theorem lineBig {n : Nat} (h : n ≤ 1000) : n < line := by unfold line sizeLine; omega
theorem name_ok {wf n : Nat} {S : Sto} {p : Str × Int} (m : p.1 ∈ GH) (hc : 1 ≤ p.2) : callF pg wf (n + 2) 2 [pr p] S = .ok (.v (.bl true)) S := by
  refine same (wp_call (F := f_is_name) rfl rfl rfl ?_)
  rw [show startE f_is_name [pr p] = [some (pr p)] from rfl, show f_is_name.body = b_is_name from rfl]
  simp [b_is_name, pr, L2.atI, L2.ixN]
  refine wp_ok (hand_ok m) ?_
  simp [pr, L2.atI, L2.ixN]
  refine wp_ok whole_ok ?_
  simp [pr, L2.atI, L2.ixN, hc]
theorem shaped_vt {l : Vl} (h : ∀ p ∈ l, p.1 ∈ GH) (w : List PyData → PyData) (hw : w = .list ∨ w = .tuple) : PySem.SeqAt.shaped (w (l.map fun p => .tuple [.str p.1, .int p.2])) = true := by
  have h1 : PyData.canLayAll0 (l.map fun p => PyData.tuple [.str p.1, .int p.2]) = true := by
    induction l with
    | nil => rfl
    | cons p l ih =>
      rw [List.map_cons]
      unfold PyData.canLayAll0
      rw [ih fun q m => h q (List.mem_cons_of_mem _ m)]
      simp [PyData.canLay0, PyData.canLayAll0, GH_ok _ (h p List.mem_cons_self)]
  have h2 : PyData.depthAll (l.map fun p => PyData.tuple [.str p.1, .int p.2]) ≤ 1 := depth_le fun q m => by
    obtain ⟨x, _, rfl⟩ := List.mem_map.mp m
    simp [PyData.depth, PyData.depthAll]
  unfold PySem.SeqAt.shaped
  rcases hw with rfl | rfl <;> simp [PyData.canLay0, PyData.depth, h1] <;> omega
theorem pw_pair {l : Vl} (h : l.Pairwise fun p q => hlt p.1 q.1) : (vt l).Pairwise fun a b => okey a ≠ okey b := by
  unfold vt
  rw [List.pairwise_map]
  refine h.imp fun {p q} h => ?_
  unfold pr
  rw [okey_pair, okey_pair]
  intro e
  injection e with e
  injection e with e
  injection e with e _
  injection e with e
  exact hlt_ne h e
theorem pw_str {l : Vl} (h : l.Pairwise fun p q => hlt p.1 q.1) : (l.map fun p => D.str p.1).Pairwise fun a b => okey a ≠ okey b := by
  rw [List.pairwise_map]
  refine h.imp fun {p q} h => ?_
  rw [okey_str, okey_str]
  intro e
  injection e with e
  injection e with e
  exact hlt_ne h e
theorem set_vt {l : Vl} (h : Vr l) : semB1 .set (.v (.tup (vt l))) = pur (.s (vt l)) := by
  show bnd (guard _) _ = _
  have h1 : ((vt l).length < 63) := by have := h.len; unfold vt; rw [List.length_map]; omega
  rw [show (decide ((vt l).length < 63) && ((vt l).all isTupD || (vt l).all isFlatK)) = true by simp [h1]; left; intro x m; unfold vt at m; obtain ⟨p, _, rfl⟩ := List.mem_map.mp m; rfl]
  show bnd (opt (sAdd [] (vt l))) _ = _
  rw [sAdd_of (acc := []) (xs := vt l) (fun d m => by unfold vt at m; obtain ⟨p, _, rfl⟩ := List.mem_map.mp m; exact ⟨_, okey_pair⟩) (pw_pair h.srt)]
  rfl
theorem set_hands {l : Vl} (h : Vr l) : semB1 .set (.l (l.map fun p => D.str p.1)) = pur (.s (l.map fun p => D.str p.1)) := by
  show bnd (guard _) _ = _
  have h1 : ((l.map fun p => D.str p.1).length < 63) := by have := h.len; rw [List.length_map]; omega
  rw [show (decide ((l.map fun p => D.str p.1).length < 63) && ((l.map fun p => D.str p.1).all isTupD || (l.map fun p => D.str p.1).all isFlatK)) = true by rw [Bool.and_eq_true, Bool.or_eq_true]; exact ⟨decide_eq_true h1, .inr (List.all_eq_true.mpr fun x m => by obtain ⟨p, _, rfl⟩ := List.mem_map.mp m; rfl)⟩]
  show bnd (opt (sAdd [] (l.map fun p => D.str p.1))) _ = _
  rw [sAdd_of (acc := []) (fun d m => by obtain ⟨p, _, rfl⟩ := List.mem_map.mp m; exact ⟨_, okey_str⟩) (pw_str h.srt)]
  rfl
theorem sorted_vt {l : Vl} (h : Vr l) : semB1 .sorted (.s (vt l)) = pur (.l (vt l)) := by
  show bnd (guard _) _ = _
  rw [show (vt l).all isTupD = true from List.all_eq_true.mpr fun x m => by unfold vt at m; obtain ⟨p, _, rfl⟩ := List.mem_map.mp m; rfl]
  show bnd (opt (sortDS (vt l))) _ = _
  rw [sortDS_vt (by have := h.len; omega) h.srt]
  rfl
theorem names_ok {wf n : Nat} {S : Sto} {l : Vl} (h : Vr l) : callF pg wf (n + 3) 3 [.tup (vt l)] S = .ok (.v (.bl true)) S := by
  refine same (wp_call (F := f_are_names) rfl rfl rfl ?_)
  rw [show startE f_are_names [.tup (vt l)] = [some (.tup (vt l)), none] from rfl, show f_are_names.body = b_are_names from rfl]
  simp [b_are_names, ev_lc, lcK, srcOf]
  refine lcGo_pure (f := fun _ => some (.bl true)) ?_ ?_ ?_
  · have := h.len; have := @lineBig 20 (by omega); unfold vt; rw [List.length_map]; omega
  · intro x m
    unfold vt at m
    obtain ⟨p, mp, rfl⟩ := List.mem_map.mp m
    simp [turnL, setV]
    refine wp_ok (name_ok (h.ok p mp).1 (h.ok p mp).2) ?_
    simp
  · rw [show List.filterMap (fun _ => some (D.bl true)) (vt l) = (vt l).map fun x => D.bl ((fun _ => true) x) from by induction vt l with
      | nil => rfl
      | cons x xs ih => simp [ih]]
    rw [all_bls]
    simp [set_vt h, sorted_vt h]
    refine wp_same (p := .list (l.map fun p => .tuple [.str p.1, .int p.2])) ?_ ?_ (shaped_vt (fun p m => (h.ok p m).1) _ (.inl rfl)) ?_
    · rw [upd_l (pds_vt l)]; rfl
    · rw [upd_l (pds_vt l)]; rfl
    · simp
theorem version_ok {wf n : Nat} {S : Sto} {l : Vl} (h : Vr l) : callF pg wf (n + 4) 4 [.tup (vt l)] S = .ok (.v (.bl true)) S := by
  refine same (wp_call (F := f_is_version) rfl rfl rfl ?_)
  rw [show startE f_is_version [.tup (vt l)] = [some (.tup (vt l)), none, none] from rfl, show f_is_version.body = b_is_version from rfl]
  simp [b_is_version]
  refine wp_ok (names_ok h) ?_
  simp [ev_lc, lcK, srcOf]
  refine lcGo_pure (f := fun d => match d with
    | .tup (a :: _) => some a
    | _ => none) ?_ ?_ ?_
  · have := h.len; have := @lineBig 20 (by omega); unfold vt; rw [List.length_map]; omega
  · intro x m
    unfold vt at m
    obtain ⟨p, mp, rfl⟩ := List.mem_map.mp m
    simp [turnL, setV, pr]
  · have e : List.filterMap (fun d => match d with
        | D.tup (a :: _) => some a
        | _ => none) (vt l) = l.map fun p => D.str p.1 := by
      clear h
      unfold vt
      induction l with
      | nil => rfl
      | cons p l ih => rw [List.map_cons, List.map_cons, List.filterMap_cons]; dsimp only [pr]; rw [ih]
    rw [e, set_hands h]
    simp [vt]
theorem need_ok {wf n : Nat} {S : Sto} {l : Vl} (h : Vr l) : callF pg wf (n + 5) 5 [.tup (vt l)] S = .ok (.v .non) S := by
  refine same (wp_call (F := f_need_version) rfl rfl rfl ?_)
  rw [show startE f_need_version [.tup (vt l)] = [some (.tup (vt l))] from rfl, show f_need_version.body = b_need_version from rfl]
  simp [b_need_version]
  refine wp_ok (version_ok h) ?_
  simp
end K12
end
section
set_option Elab.async false
set_option linter.all false
set_option maxRecDepth 100000
set_option maxHeartbeats 4000000
/-! count_in, within, joined, common, version_of. -/
namespace K12
open PySem Qc
theorem lcGo_map {α : Type} {step : D → M (Option D)} {S : Sto} {E : Nat → Sto → Prop} {l : List α} {g : α → D} {f : α → Option D} {Q : List D → Sto → Prop} (hl : l.length ≤ 1000) (hs : ∀ x ∈ l, Wp (step (g x)) S (fun r S' => r = f x ∧ S' = S) E) (q : Q (l.filterMap f) S) : Wp (lcGo step [] (l.map g)) S Q E := by
  refine wp_lcGo (I := fun acc r S' => S' = S ∧ ∃ a b, l = a ++ b ∧ r = b.map g ∧ acc = a.filterMap f) ?_ ⟨rfl, [], l, rfl, rfl, rfl⟩ ?_
  · rintro acc x r S' ⟨rfl, a, b, e, e2, rfl⟩
    cases b with
    | nil => cases e2
    | cons y b =>
      rw [List.map_cons] at e2
      injection e2 with e2 e3
      subst e2
      refine wp_mono (hs y (by rw [e]; simp)) ?_ fun _ _ h => h
      rintro r' S'' ⟨rfl, rfl⟩
      refine ⟨?_, rfl, a ++ [y], b, by rw [e]; simp, e3, by rw [List.filterMap_append]; cases hf : f y <;> simp [hf]⟩
      have h1 := List.length_filterMap_le f a
      have h2 : a.length < l.length := by rw [e]; simp
      have := @lineBig 1000 (by omega)
      omega
  · rintro acc S' ⟨rfl, a, b, e, e2, rfl⟩
    cases b with
    | nil => rw [List.append_nil] at e; subst e; exact q
    | cons y b => cases e2
theorem fm_some {α β : Type} {f : α → β} (l : List α) : l.filterMap (fun x => some (f x)) = l.map f := by
  induction l with
  | nil => rfl
  | cons x l ih => simp
/-- how many a version tells of a hand -/
def cnt (l : Vl) (h : Str) : Int := ((l.find? fun p => decide (p.1 = h)).map (·.2)).getD 0
def vput (m : Vl) (h : Str) (c : Int) : Vl := if (m.any fun p => decide (p.1 = h)) = true then m.map fun p => if p.1 = h then (p.1, c) else p else m ++ [(h, c)]
theorem key_str {h x : Str} : keyIs (.text h) (.str x) = decide (x = h) := by
  unfold keyIs
  rw [okey_str]
  simp
theorem dLook_kv (l : Vl) (h : Str) : dLook (kv l) (.text h) = (l.find? fun p => decide (p.1 = h)).map fun p => .int p.2 := by
  unfold dLook kv
  rw [List.find?_map]
  simp only [Option.map_map]
  rw [show ((fun p : D × D => keyIs (.text h) p.1) ∘ fun p : Str × Int => (D.str p.1, D.int p.2)) = fun p => decide (p.1 = h) from funext fun p => key_str]
  rfl
theorem get_kv (l : Vl) (h : Str) : (dLook (kv l) (.text h)).getD (.int 0) = .int (cnt l h) := by
  rw [dLook_kv]
  unfold cnt
  cases l.find? fun p => decide (p.1 = h) <;> rfl
theorem dHas_kv (l : Vl) (h : Str) : dHas (kv l) (.text h) = l.any fun p => decide (p.1 = h) := by
  unfold dHas kv
  rw [List.any_map]
  congr 1
  exact funext fun p => key_str
theorem dPut_kv (l : Vl) (h : Str) (c : Int) : dPut (kv l) (.str h) (.text h) (.int c) = kv (vput l h c) := by
  unfold dPut vput
  rw [dHas_kv]
  split
  · unfold kv
    rw [List.map_map, List.map_map]
    refine List.map_congr_left fun p _ => ?_
    simp only [Function.comp]
    rw [key_str]
    by_cases e : p.1 = h <;> simp [e]
  · unfold kv
    rw [List.map_append]
    rfl
theorem dPairs_vt : ∀ {b a : Vl}, (a ++ b).Pairwise (fun p q => p.1 ≠ q.1) → dPairs (kv a) (vt b) = some (kv (a ++ b))
  | [], a, _ => by unfold vt dPairs; rw [List.append_nil]; rfl
  | p :: b, a, h => by
    have e : a.any (fun q => decide (q.1 = p.1)) = false := by
      rw [List.any_eq_false]
      intro q m
      rw [List.pairwise_append] at h
      simp only [decide_eq_true_eq]
      exact h.2.2 q m p List.mem_cons_self
    show dPairs (kv a) (.tup [.str p.1, .int p.2] :: vt b) = _
    unfold dPairs
    rw [okey_str]
    show dPairs (dPut (kv a) (.str p.1) (.text p.1) (.int p.2)) (vt b) = _
    rw [dPut_kv]
    unfold vput
    rw [if_neg (by rw [e]; simp)]
    rw [dPairs_vt (a := a ++ [(p.1, p.2)]) (by rw [List.append_assoc]; exact h), List.append_assoc]
    rfl
theorem dict_vt {l : Vl} {S : Sto} (h : l.length ≤ 1000) (hd : l.Pairwise fun p q => p.1 ≠ q.1) : semB1 .dict (.v (.tup (vt l))) = pur (.d (kv l)) := by
  have hl : (vt l).length < line := lineBig (by unfold vt; rw [List.length_map]; exact h)
  rw [dict_tup, show decide ((vt l).length < line) = true from decide_eq_true hl]
  show bnd (opt (dPairs (kv []) (vt l))) _ = _
  rw [dPairs_vt (a := []) hd]
  rfl
theorem dict_vl {l : Vl} (h : l.length ≤ 1000) (hd : l.Pairwise fun p q => p.1 ≠ q.1) : semB1 .dict (.l (vt l)) = pur (.d (kv l)) := by
  have hl : (vt l).length < line := lineBig (by unfold vt; rw [List.length_map]; exact h)
  rw [dict_l, show decide ((vt l).length < line) = true from decide_eq_true hl]
  show bnd (opt (dPairs (kv []) (vt l))) _ = _
  rw [dPairs_vt (a := []) hd]
  rfl
theorem Vr.ne {l : Vl} (h : Vr l) : l.Pairwise fun p q => p.1 ≠ q.1 := h.srt.imp fun h => hlt_ne h
theorem count_ok {wf n : Nat} {S : Sto} {l : Vl} {x : Str} (h : Vr l) : callF pg wf (n + 6) 7 [.tup (vt l), .str x] S = .ok (.v (.int (cnt l x))) S := by
  refine same (wp_call (F := f_count_in) rfl rfl rfl ?_)
  rw [show startE f_count_in [.tup (vt l), .str x] = [some (.tup (vt l)), some (.str x)] from rfl, show f_count_in.body = b_count_in from rfl]
  simp [b_count_in, -dict_tup]
  refine wp_ok (need_ok h) ?_
  try simp [-dict_tup]
  rw [dict_vt (S := S) (by have := h.len; omega) h.ne]
  simp [okey_str, get_kv]
theorem more {wf n f : Nat} {ds : List D} {S : Sto} {r : U} (h : Wp (callF pg wf n f ds) S (fun u S' => u = r ∧ Ext S S') fun _ _ => False) : ∃ S', callF pg wf n f ds S = .ok r S' ∧ Ext S S' := by
  obtain ⟨a, S', e, e2, h2⟩ := wp_run h
  subst e2
  exact ⟨S', e, h2⟩
theorem last_at (S : Sto) (o : O) : (S ++ [o])[S.length]? = some o := by simp
theorem within_ok {wf n : Nat} {S : Sto} {l m : Vl} (h : Vr l) (g : Vr m) : ∃ S', callF pg wf (n + 6) 8 [.tup (vt l), .tup (vt m)] S = .ok (.v (.bl (l.all fun p => decide (p.2 ≤ cnt m p.1)))) S' ∧ Ext S S' := by
  refine more (wp_call (F := f_within) rfl rfl rfl ?_)
  rw [show startE f_within [.tup (vt l), .tup (vt m)] = [some (.tup (vt l)), some (.tup (vt m)), none, none, none] from rfl, show f_within.body = b_within from rfl]
  simp [b_within, -dict_tup]
  refine wp_ok (need_ok h) ?_
  try simp [-dict_tup]
  refine wp_ok (need_ok g) ?_
  try simp [-dict_tup]
  rw [dict_vt (S := S) (by have := g.len; omega) g.ne]
  simp [setV, ev_lc, lcK, srcOf]
  refine lcGo_map (f := fun p => some (.bl (decide (p.2 ≤ cnt m p.1)))) (by have := h.len; omega) ?_ ?_
  · intro p mp
    simp [turnL, setV, pr, okey_str]
    refine wp_dcL (last_at _ _) ?_
    refine wp_dcL (last_at _ _) ?_
    rw [get_kv]
    simp
  · rw [fm_some, all_bls]
    exact ⟨rfl, Ext.app _ _⟩
/-- the version that tells f h of each of the hands hs -/
def ver (hs : List Str) (f : Str → Int) : Vl := hs.filterMap fun h => if 0 < f h then some (h, f h) else none
structure Hs (hs : List Str) : Prop where
  len : hs.length ≤ 20
  ok : ∀ h ∈ hs, h ∈ GH
  srt : hs.Pairwise hlt
structure Ok (hs : List Str) (f : Str → Int) : Prop where
  pos : ∀ h, 0 ≤ f h
  out : ∀ h, h ∉ hs → f h = 0
theorem mem_ver {hs : List Str} {f : Str → Int} {p : Str × Int} : p ∈ ver hs f ↔ p.1 ∈ hs ∧ p.2 = f p.1 ∧ 0 < p.2 := by
  unfold ver
  rw [List.mem_filterMap]
  constructor
  · rintro ⟨h, m, e⟩
    split at e
    · cases e
      exact ⟨m, rfl, by assumption⟩
    · cases e
  · rintro ⟨m, e, q⟩
    refine ⟨p.1, m, ?_⟩
    rw [if_pos (by rw [← e]; exact q), ← e]
theorem ver_vr {hs : List Str} {f : Str → Int} (h : Hs hs) : Vr (ver hs f) where
  len := Nat.le_trans (List.length_filterMap_le _ _) h.len
  ok p m := by
    have := mem_ver.mp m
    exact ⟨h.ok _ this.1, this.2.2⟩
  srt := by
    unfold ver
    rw [List.pairwise_filterMap]
    refine h.srt.imp fun {a b} q x e y e' => ?_
    split at e
    · split at e'
      · cases e; cases e'; exact q
      · cases e'
    · cases e
theorem cnt_mem {l : Vl} (h : l.Pairwise fun p q => p.1 ≠ q.1) {p : Str × Int} (m : p ∈ l) : cnt l p.1 = p.2 := by
  induction l with
  | nil => cases m
  | cons q l ih =>
    rw [List.pairwise_cons] at h
    unfold cnt
    rw [List.find?_cons]
    rcases List.mem_cons.mp m with rfl | m
    · simp
    · have := h.1 p m
      simp only [this, decide_false]
      exact ih h.2 m
theorem cnt_not {l : Vl} {x : Str} (h : x ∉ l.map (·.1)) : cnt l x = 0 := by
  unfold cnt
  rw [List.find?_eq_none.mpr]
  · rfl
  · intro p m
    simp only [decide_eq_true_eq]
    intro e
    exact h (List.mem_map.mpr ⟨p, m, e⟩)
theorem cnt_ver {hs : List Str} {f : Str → Int} (h : Hs hs) (o : Ok hs f) (x : Str) : cnt (ver hs f) x = f x := by
  by_cases m : x ∈ hs ∧ 0 < f x
  · exact cnt_mem (p := (x, f x)) (ver_vr h).ne (mem_ver.mpr ⟨m.1, rfl, m.2⟩)
  · rw [cnt_not]
    · by_cases m1 : x ∈ hs
      · have := o.pos x
        have : ¬ 0 < f x := fun z => m ⟨m1, z⟩
        omega
      · exact (o.out x m1).symm
    · intro z
      obtain ⟨p, mp, rfl⟩ := List.mem_map.mp z
      have := mem_ver.mp mp
      exact m ⟨this.1, by rw [← this.2.1]; exact this.2.2⟩
theorem kv_keys (m : Vl) : (kv m).map (·.1) = (m.map (·.1)).map D.str := by
  unfold kv
  rw [List.map_map, List.map_map]
  rfl
theorem hs_nodup {hs : List Str} (h : hs.Pairwise hlt) : hs.Nodup := h.imp fun h => hlt_ne h
theorem version_of_ok {wf n a : Nat} {S : Sto} {hs : List Str} {m : Vl} (h : Hs hs) (hS : S[a]? = some (.dct (kv m))) (hn : (m.map (·.1)).Nodup) (hk : ∀ x ∈ m.map (·.1), x ∈ hs) : callF pg wf (n + 1) 6 [.obj a] S = .ok (.v (.tup (vt (ver hs (cnt m))))) S := by
  have hperm : (hs.filter fun x => decide (x ∈ m.map (·.1))).Perm (m.map (·.1)) := by
    rw [List.perm_ext_iff_of_nodup ((hs_nodup h.srt).filter _) hn]
    intro x
    rw [List.mem_filter]
    simp only [decide_eq_true_eq]
    exact ⟨fun z => z.2, fun z => ⟨hk x z, z⟩⟩
  have hlen : (m.map (·.1)).length < 64 := by
    rw [← hperm.length_eq]
    have := List.length_filter_le (fun x => decide (x ∈ m.map (·.1))) hs
    have := h.len
    omega
  refine same (wp_call (F := f_version_of) rfl rfl rfl ?_)
  rw [show startE f_version_of [.obj a] = [some (.obj a), none] from rfl, show f_version_of.body = b_version_of from rfl]
  simp [b_version_of, ev_lc]
  show Wp (bnd (look a) _) S _ _
  rw [wp_bnd, wp_look hS]
  dsimp only
  rw [kv_keys, sortD_str hlen hperm (h.srt.filter _)]
  simp [srcOf, lcK]
  refine lcGo_map (f := fun x => if 0 < cnt m x then some (pr (x, cnt m x)) else none) (by have := List.length_filter_le (fun x => decide (x ∈ m.map (·.1))) hs; have := h.len; simp at *; omega) ?_ ?_
  · intro x mx
    have mx := (List.mem_filter.mp mx).2
    simp only [decide_eq_true_eq] at mx
    have e : dLook (kv m) (.text x) = some (.int (cnt m x)) := by
      rw [dLook_kv]
      unfold cnt
      obtain ⟨p, mp, rfl⟩ := List.mem_map.mp mx
      cases q : m.find? fun p' => decide (p'.1 = p.1) with
      | none =>
        rw [List.find?_eq_none] at q
        have := q p mp
        simp at this
      | some p' => rfl
    simp [turnL, setV]
    refine ixK_obj hS okey_str e ?_
    simp
    split
    · refine ixK_obj hS okey_str e ?_
      simp [pr, *]
    · trace_state
      omega
  · have e : ∀ {α : Type} (F : Str → Option α) (hs : List Str), (∀ x ∈ hs, x ∉ m.map (·.1) → F x = none) → (hs.filter fun x => decide (x ∈ m.map (·.1))).filterMap F = hs.filterMap F := by
      intro α F hs
      induction hs with
      | nil => intro _; rfl
      | cons x hs ih =>
        intro q
        by_cases z : x ∈ m.map (·.1)
        · rw [List.filter_cons_of_pos (by simpa using z), List.filterMap_cons, List.filterMap_cons, ih fun y my => q y (List.mem_cons_of_mem _ my)]
        · rw [List.filter_cons_of_neg (by simpa using z), List.filterMap_cons, q x List.mem_cons_self z, ih fun y my => q y (List.mem_cons_of_mem _ my)]
    have e2 := e (fun x => if 0 < cnt m x then some (pr (x, cnt m x)) else none) hs (fun x _ z => by rw [cnt_not z]; rfl)
    simp only [List.mem_map] at e2 ⊢
    simp at e2 ⊢
    rw [e2]
    unfold vt ver
    rw [List.map_filterMap]
    congr 1
    funext x
    split <;> rfl
end K12
end
section
set_option Elab.async false
set_option linter.all false
set_option maxRecDepth 100000
set_option maxHeartbeats 4000000
/-! joined, common. -/
namespace K12
open PySem Qc
theorem find_map {m : Vl} {h x : Str} {c : Int} : ((m.map fun p => if p.1 = h then (p.1, c) else p).find? fun p => decide (p.1 = x)) = (m.find? fun p => decide (p.1 = x)).map fun p => if p.1 = h then (p.1, c) else p := by
  rw [List.find?_map]
  congr 2
  funext p
  simp only [Function.comp]
  split <;> rfl
theorem cnt_vput {m : Vl} {h x : Str} {c : Int} : cnt (vput m h c) x = if x = h then c else cnt m x := by
  unfold vput
  split
  · rename_i q
    rw [List.any_eq_true] at q
    obtain ⟨p, mp, e⟩ := q
    simp only [decide_eq_true_eq] at e
    unfold cnt
    rw [find_map]
    by_cases e2 : x = h
    · subst e2
      rw [if_pos rfl]
      cases q : m.find? fun p => decide (p.1 = x) with
      | none =>
        rw [List.find?_eq_none] at q
        have := q p mp
        simp [e] at this
      | some p' =>
        have := List.find?_some q
        simp only [decide_eq_true_eq] at this
        simp [this]
    · rw [if_neg e2]
      cases q : m.find? fun p => decide (p.1 = x) with
      | none => rfl
      | some p' =>
        have := List.find?_some q
        simp only [decide_eq_true_eq] at this
        simp [this, e2]
  · rename_i q
    rw [List.any_eq_true] at q
    unfold cnt
    rw [List.find?_append]
    by_cases e2 : x = h
    · subst e2
      rw [if_pos rfl, List.find?_eq_none.mpr (fun p mp e => q ⟨p, mp, e⟩)]
      simp
    · rw [if_neg e2]
      cases q : m.find? fun p => decide (p.1 = x) with
      | none =>
        have : ¬ h = x := fun e => e2 e.symm
        simp [this]
      | some p' => rfl
theorem keys_vput {m : Vl} {h : Str} {c : Int} : (vput m h c).map (·.1) = if h ∈ m.map (·.1) then m.map (·.1) else m.map (·.1) ++ [h] := by
  unfold vput
  by_cases z : h ∈ m.map (·.1)
  · rw [if_pos z, if_pos]
    · rw [List.map_map]
      refine List.map_congr_left fun p _ => ?_
      simp only [Function.comp]
      split <;> rfl
    · obtain ⟨p, mp, e⟩ := List.mem_map.mp z
      exact List.any_eq_true.mpr ⟨p, mp, decide_eq_true e⟩
  · rw [if_neg z, if_neg]
    · rw [List.map_append]
      rfl
    · intro q
      obtain ⟨p, mp, e⟩ := List.any_eq_true.mp q
      exact z (List.mem_map.mpr ⟨p, mp, of_decide_eq_true e⟩)
theorem len_vput {m : Vl} {h : Str} {c : Int} : (vput m h c).length ≤ m.length + 1 := by
  unfold vput
  split <;> simp
theorem cnt_app {a b : Vl} {x : Str} : cnt (a ++ b) x = if x ∈ a.map (·.1) then cnt a x else cnt b x := by
  unfold cnt
  rw [List.find?_append]
  cases q : a.find? fun p => decide (p.1 = x) with
  | none =>
    rw [if_neg]
    · rfl
    · intro z
      obtain ⟨p, mp, e⟩ := List.mem_map.mp z
      rw [List.find?_eq_none] at q
      exact q p mp (decide_eq_true e)
  | some p =>
    rw [if_pos]
    · rfl
    · exact List.mem_map.mpr ⟨p, List.mem_of_find?_eq_some q, by have := List.find?_some q; simpa using this⟩
theorem ver_congr {hs : List Str} {f g : Str → Int} (h : ∀ x ∈ hs, f x = g x) : ver hs f = ver hs g := by
  unfold ver
  induction hs with
  | nil => rfl
  | cons x hs ih => rw [List.filterMap_cons, List.filterMap_cons, h x List.mem_cons_self, ih fun y m => h y (List.mem_cons_of_mem _ m)]
theorem keys_ver {hs : List Str} {f : Str → Int} : ∀ x ∈ (ver hs f).map (·.1), x ∈ hs := by
  intro x m
  obtain ⟨p, mp, rfl⟩ := List.mem_map.mp m
  exact (mem_ver.mp mp).1
theorem nodup_of {l : Vl} (h : l.Pairwise fun p q => p.1 ≠ q.1) : (l.map (·.1)).Nodup := by
  unfold List.Nodup
  rw [List.pairwise_map]
  exact h
structure JI (S : Sto) (hs : List Str) (f : Str → Int) (l dn : Vl) (m : Vl) (S' : Sto) : Prop where
  ext : Ext S S'
  at_ : S'[S.length]? = some (.dct (kv m))
  nd : (m.map (·.1)).Nodup
  sub : ∀ x ∈ m.map (·.1), x ∈ hs
  len : m.length ≤ l.length + dn.length
  val : ∀ x, cnt m x = max (f x) (cnt dn x)
def JInv (S : Sto) (hs : List Str) (f : Str → Int) (l k : Vl) (xs : List D) (ρ : Qc.Env) (S' : Sto) : Prop := ∃ dn rest m x y, k = dn ++ rest ∧ xs = vt rest ∧ ρ = [some (.tup (vt l)), some (.tup (vt k)), some (.obj S.length), x, y] ∧ JI S hs f l dn m S'
theorem joined_ok {wf n : Nat} {S : Sto} {hs : List Str} {f g : Str → Int} (h : Hs hs) (of : Ok hs f) (og : Ok hs g) : ∃ S', callF pg wf (n + 6) 9 [.tup (vt (ver hs f)), .tup (vt (ver hs g))] S = .ok (.v (.tup (vt (ver hs fun x => max (f x) (g x))))) S' ∧ Ext S S' := by
  have vf : Vr (ver hs f) := ver_vr h
  have vg : Vr (ver hs g) := ver_vr h
  have cg := cnt_ver h og
  have cf := cnt_ver h of
  have kg : ∀ x ∈ (ver hs g).map (·.1), x ∈ hs := keys_ver
  have kf : ∀ x ∈ (ver hs f).map (·.1), x ∈ hs := keys_ver
  generalize ver hs f = l at *
  generalize ver hs g = k at *
  refine more (wp_call (F := f_joined) rfl rfl rfl ?_)
  rw [show startE f_joined [.tup (vt l), .tup (vt k)] = [some (.tup (vt l)), some (.tup (vt k)), none, none, none] from rfl, show f_joined.body = b_joined from rfl]
  simp [b_joined, -dict_tup]
  refine wp_ok (need_ok vf) ?_
  try simp [-dict_tup]
  refine wp_ok (need_ok vg) ?_
  try simp [-dict_tup]
  rw [dict_vt (S := S) (by have := vf.len; omega) vf.ne]
  simp [setV, ex_for, srcOf, forK]
  refine wx_forGo (I := JInv S hs f l k) ?_ ?_ ⟨[], k, l, none, none, rfl, rfl, rfl, Ext.app _ _, last_at _ _, nodup_of vf.ne, kf, by omega, fun x => ?_⟩
  · rintro d xs ρ S' ⟨dn, rest, m, x, y, e1, e2, rfl, J⟩
    cases rest with
    | nil => cases e2
    | cons p rest =>
      unfold vt at e2
      rw [List.map_cons] at e2
      injection e2 with e2 e3
      subst e2
      have hp : p ∈ k := by rw [e1]; simp
      have hpn : p.1 ∉ dn.map (·.1) := by
        intro z
        obtain ⟨q, mq, e⟩ := List.mem_map.mp z
        have := vg.ne
        rw [e1, List.pairwise_append] at this
        exact this.2.2 q mq p List.mem_cons_self e
      have hps := kg _ (List.mem_map.mpr ⟨p, hp, rfl⟩)
      simp [turnX, pr, setV, okey_str]
      refine wp_dcL J.at_ ?_
      refine wp_dcL J.at_ ?_
      rw [get_kv]
      simp
      unfold seti
      rw [wp_bnd, wp_look J.at_]
      unfold setiO
      simp [okey_str]
      have h1 : m.length < line := by
        have := J.len
        have := vf.len
        have h3 := vg.len
        rw [e1, List.length_append] at h3
        exact lineBig (by omega)
      refine ⟨by unfold kv; rw [List.length_map]; exact h1, ?_⟩
      rw [dPut_kv]
      refine ⟨dn ++ [p], rest, vput m p.1 (if cnt m p.1 < p.2 then p.2 else cnt m p.1), _, _, by rw [e1]; simp, e3, rfl, J.ext.set _ (Nat.le_refl _), ?_, ?_, ?_, ?_, ?_⟩
      · have := (List.getElem?_eq_some_iff.mp J.at_).1
        rw [List.getElem?_set_self this]
      · rw [keys_vput]
        split
        · exact J.nd
        · rename_i z
          rw [List.nodup_append]
          refine ⟨J.nd, by simp, fun a ma b mb => ?_⟩
          simp only [List.mem_singleton] at mb
          subst mb
          exact fun e => z (e ▸ ma)
      · rw [keys_vput]
        intro x mx
        split at mx
        · exact J.sub x mx
        · rcases List.mem_append.mp mx with mx | mx
          · exact J.sub x mx
          · simp only [List.mem_singleton] at mx
            subst mx
            exact hps
      · have := @len_vput m p.1 (if cnt m p.1 < p.2 then p.2 else cnt m p.1)
        have := J.len
        rw [List.length_append]
        simp
        omega
      · intro x
        rw [cnt_vput, cnt_app]
        have hv := J.val
        have h0 := cnt_not hpn
        by_cases e : x = p.1
        · subst e
          rw [if_pos rfl, if_neg hpn, hv, h0]
          have := of.pos p.1
          rw [show cnt [p] p.1 = p.2 from cnt_mem (l := [p]) (by simp) (by simp)]
          split <;> omega
        · rw [if_neg e, hv]
          split
          · rfl
          · rename_i z
            rw [cnt_not z, cnt_not (l := [p]) (by simpa using e)]
  · rintro ρ S' ⟨dn, rest, m, x, y, e1, e2, rfl, J⟩
    cases rest with
    | cons p rest => cases e2
    | nil =>
      rw [List.append_nil] at e1
      subst e1
      simp
      refine wp_ok (version_of_ok h J.at_ J.nd J.sub) ?_
      refine ⟨?_, J.ext⟩
      rw [ver_congr fun x _ => (J.val x).trans (by rw [cg])]
  · rw [show cnt [] x = 0 from rfl, cf]
    have := of.pos x
    omega
theorem common_ok {wf n : Nat} {S : Sto} {hs : List Str} {f g : Str → Int} (h : Hs hs) (of : Ok hs f) (og : Ok hs g) : ∃ S', callF pg wf (n + 6) 10 [.tup (vt (ver hs f)), .tup (vt (ver hs g))] S = .ok (.v (.tup (vt (ver hs fun x => min (f x) (g x))))) S' ∧ Ext S S' := by
  have vf : Vr (ver hs f) := ver_vr h
  have vg : Vr (ver hs g) := ver_vr h
  have cg := cnt_ver h og
  have cf := cnt_ver h of
  have kf : ∀ x ∈ (ver hs f).map (·.1), x ∈ hs := keys_ver
  generalize ver hs f = l at *
  generalize ver hs g = k at *
  refine more (wp_call (F := f_common) rfl rfl rfl ?_)
  rw [show startE f_common [.tup (vt l), .tup (vt k)] = [some (.tup (vt l)), some (.tup (vt k)), none, none, none] from rfl, show f_common.body = b_common from rfl]
  simp [b_common, -dict_tup, -dict_l]
  refine wp_ok (need_ok vf) ?_
  try simp [-dict_tup, -dict_l]
  refine wp_ok (need_ok vg) ?_
  try simp [-dict_tup, -dict_l]
  rw [dict_vt (S := S) (by have := vg.len; omega) vg.ne]
  simp [setV, ev_lc, lcK, srcOf, -dict_l]
  refine lcGo_map (f := fun p => some (pr (p.1, min p.2 (g p.1)))) (by have := vf.len; omega) ?_ ?_
  · intro p mp
    simp [turnL, setV, pr, okey_str]
    refine wp_dcL (last_at _ _) ?_
    refine wp_dcL (last_at _ _) ?_
    rw [get_kv, cg]
    simp
    split <;> omega
  · rw [fm_some]
    have e : (l.map fun p => pr (p.1, min p.2 (g p.1))) = vt (l.map fun p => (p.1, min p.2 (g p.1))) := by
      unfold vt
      rw [List.map_map]
      rfl
    have hk : (l.map fun p => (p.1, min p.2 (g p.1))).map (·.1) = l.map (·.1) := by
      rw [List.map_map]
      rfl
    have hne : (l.map fun p => (p.1, min p.2 (g p.1))).Pairwise fun p q => p.1 ≠ q.1 := by
      rw [List.pairwise_map]
      exact vf.ne
    have hv : ∀ x, cnt (l.map fun p => (p.1, min p.2 (g p.1))) x = min (f x) (g x) := by
      intro x
      by_cases z : x ∈ l.map (·.1)
      · obtain ⟨p, mp, rfl⟩ := List.mem_map.mp z
        rw [cnt_mem (p := (p.1, min p.2 (g p.1))) hne (List.mem_map.mpr ⟨p, mp, rfl⟩), ← cf p.1, cnt_mem vf.ne mp]
      · rw [cnt_not (by rw [hk]; exact z), ← cf x, cnt_not z]
        have := og.pos x
        omega
    have hl : (l.map fun p => (p.1, min p.2 (g p.1))).length ≤ 20 := by rw [List.length_map]; exact vf.len
    rw [e]
    generalize (l.map fun p => (p.1, min p.2 (g p.1))) = m at *
    rw [dict_vl (by omega) hne]
    simp
    refine wp_ok (version_of_ok (hs := hs) h (m := m) ?_ (nodup_of hne) (by rw [hk]; exact kf)) ?_
    · simp
    · refine ⟨?_, fun n o q => Ext.app _ _ n o q⟩
      rw [ver_congr fun x _ => hv x]
end K12
end
section
set_option Elab.async false
set_option linter.all false
set_option maxRecDepth 100000
set_option maxHeartbeats 4000000
/-! What k12 draws; what is refused. -/
namespace K12
open PySem Qc
theorem wp_lookm {n : Nat} {S : Sto} {E : Nat → Sto → Prop} {Q : O → Sto → Prop} : Wp (look n) S Q E = (match S[n]? with
    | some o => Q o S
    | none => False) := by
  unfold Wp look
  cases S[n]? <;> rfl
theorem at_app {S l : Sto} {k : Nat} : (S ++ l)[S.length + k]? = l[k]? := by
  rw [List.getElem?_append_right (by omega)]
  congr 1
  omega
theorem at_app0 {S l : Sto} : (S ++ l)[S.length]? = l[0]? := at_app (k := 0)
@[simp] theorem bop_add {i j : Int} : bop .add (.v (.int i)) (.v (.int j)) = pur (.v (.int (i + j))) := rfl
@[simp] theorem bop_sub {i j : Int} : bop .sub (.v (.int i)) (.v (.int j)) = pur (.v (.int (i - j))) := rfl
@[simp] theorem bop_mul {i j : Int} : bop .mul (.v (.int i)) (.v (.int j)) = bnd (guard (mulOk i j)) fun _ => pur (.v (.int (i * j))) := rfl
@[simp] theorem bop_mod {i j : Int} : bop .mod (.v (.int i)) (.v (.int j)) = bnd (guard (decide (0 < j))) fun _ => pur (.v (.int (i % j))) := rfl
@[simp] theorem bop_fdiv {i j : Int} : bop .fdiv (.v (.int i)) (.v (.int j)) = bnd (guard (decide (0 < j) && decide (j < 1073741824))) fun _ => pur (.v (.int (i / j))) := rfl
@[simp] theorem bop_pow {i j : Int} : bop .pow (.v (.int i)) (.v (.int j)) = bnd (guard (decide (0 ≤ j) && decide (j ≤ 1000000) && decide (i.natAbs < 2 ^ 64))) fun _ => pur (.v (.int (i ^ j.toNat))) := rfl
theorem draw_ok {wf n a : Nat} {S : Sto} {i m : Int} (h : S[a]? = some (.lst [.int i])) (h0 : 0 < m) (h1 : m < 1073741824) : callF pg wf (n + 1) 11 [.obj a, .int m] S = .ok (.v (.int (i % m))) (S.set a (.lst [.int (i / m)])) := by
  suffices z : Wp (callF pg wf (n + 1) 11 [.obj a, .int m]) S (fun u S' => u = .v (.int (i % m)) ∧ S' = S.set a (.lst [.int (i / m)])) fun _ _ => False by
    obtain ⟨x, S', e, e1, e2⟩ := wp_run z
    rw [e, e1, e2]
  refine wp_call (F := f__law_draw) rfl rfl rfl ?_
  rw [show startE f__law_draw [.obj a, .int m] = [some (.obj a), some (.int m), none] from rfl, show f__law_draw.body = b__law_draw from rfl]
  simp [b__law_draw]
  refine ixN_obj h (d := .int i) rfl ?_
  simp [h0, setV]
  refine ixN_obj h (d := .int i) rfl ?_
  simp [h0, h1]
  unfold seti
  rw [wp_bnd, wp_look h]
  simp [setiO, L2.ixN]
/-- what stood stands, but for one object -/
def ExtA (a : Nat) (S S' : Sto) : Prop := ∀ (n : Nat) (o : O), n ≠ a → S[n]? = some o → S'[n]? = some o
theorem ExtA.refl (a : Nat) (S : Sto) : ExtA a S S := fun _ _ _ h => h
theorem ExtA.trans {a : Nat} {S S' T : Sto} (h : ExtA a S S') (g : ExtA a S' T) : ExtA a S T := fun n o e q => g n o e (h n o e q)
theorem ExtA.of {a : Nat} {S S' : Sto} (h : Ext S S') : ExtA a S S' := fun n o _ q => h n o q
theorem ExtA.set {a : Nat} {S S' : Sto} (h : ExtA a S S') (o : O) : ExtA a S (S'.set a o) := fun n o' e q => by
  rw [List.getElem?_set_ne (fun z => e z.symm)]
  exact h n o' e q
theorem set_at {a : Nat} {S : Sto} {o o' : O} (h : S[a]? = some o) : (S.set a o')[a]? = some o' := by
  have := (List.getElem?_eq_some_iff.mp h).1
  rw [List.getElem?_set_self this]
theorem set_ne {a b : Nat} {S : Sto} {o' : O} (h : a ≠ b) : (S.set a o')[b]? = S[b]? := List.getElem?_set_ne h
structure VI (a b : Nat) (S : Sto) (hs : List Str) (dn : List Str) (f : Str → Int) (S' : Sto) : Prop where
  ok : Ok dn f
  ext : ExtA a S S'
  fnd : S'[S.length]? = some (.lst (vt (ver dn f)))
  st : ∃ i, S'[a]? = some (.lst [.int i])
def VInv (a b : Nat) (S : Sto) (hs : List Str) (i : Nat) (ρ : Qc.Env) (S' : Sto) : Prop := ∃ f x y, ρ = [some (.obj a), some (.obj b), some (.obj S.length), x, y] ∧ VI a b S hs (hs.take i) f S'
theorem count_at {d k : Int} (h0 : 0 ≤ k) (h1 : k < 6) (d0 : 0 ≤ d) (d1 : d < 3) : ∃ c, L2.atI [D.int 0, .int 0, .int 1, .int 2, .int 3, .int (1000000000000000000 - d)] k = some (.int c) ∧ 0 ≤ c := by
  have : k = 0 ∨ k = 1 ∨ k = 2 ∨ k = 3 ∨ k = 4 ∨ k = 5 := by omega
  rcases this with rfl | rfl | rfl | rfl | rfl | rfl
  · exact ⟨_, rfl, by omega⟩
  · exact ⟨_, rfl, by omega⟩
  · exact ⟨_, rfl, by omega⟩
  · exact ⟨_, rfl, by omega⟩
  · exact ⟨_, rfl, by omega⟩
  · exact ⟨_, rfl, by omega⟩
theorem ver_snoc {dn : List Str} {f : Str → Int} {h : Str} {c : Int} (hn : h ∉ dn) : ver (dn ++ [h]) (fun x => if x = h then c else f x) = ver dn f ++ (if 0 < c then [(h, c)] else []) := by
  unfold ver
  rw [List.filterMap_append]
  congr 1
  · have : ∀ l : List Str, h ∉ l → l.filterMap (fun x => if 0 < (if x = h then c else f x) then some (x, if x = h then c else f x) else none) = l.filterMap fun x => if 0 < f x then some (x, f x) else none := by
      intro l
      induction l with
      | nil => intro _; rfl
      | cons x l ih =>
        intro q
        rw [List.filterMap_cons, List.filterMap_cons, ih fun z => q (List.mem_cons_of_mem _ z)]
        have : ¬ x = h := fun z => q (z ▸ List.mem_cons_self)
        simp [this]
    exact this dn hn
  · by_cases q : 0 < c <;> simp [q]
theorem version_drawn {wf n a b : Nat} {S : Sto} {hs : List Str} {i : Int} (h : Hs hs) (hw : 30 ≤ wf) (hab : a ≠ b) (ha : S[a]? = some (.lst [.int i])) (hb : S[b]? = some (.lst (hs.map .str))) : ∃ f S' i', callF pg wf (n + 2) 14 [.obj a, .obj b] S = .ok (.v (.tup (vt (ver hs f)))) S' ∧ Ok hs f ∧ ExtA a S S' ∧ S'[a]? = some (.lst [.int i']) := by
  suffices z : Wp (callF pg wf (n + 2) 14 [.obj a, .obj b]) S (fun u S' => ∃ f, u = .v (.tup (vt (ver hs f))) ∧ Ok hs f ∧ ExtA a S S' ∧ ∃ i', S'[a]? = some (.lst [.int i'])) fun _ _ => False by
    obtain ⟨x, S', e, f, e1, e2, e3, i', e4⟩ := wp_run z
    subst e1
    exact ⟨f, S', i', e, e2, e3, e4⟩
  refine wp_call (F := f__law_version) rfl rfl rfl ?_
  rw [show startE f__law_version [.obj a, .obj b] = [some (.obj a), some (.obj b), none, none, none] from rfl, show f__law_version.body = b__law_version from rfl]
  have lb := (List.getElem?_eq_some_iff.mp hb).1
  have la := (List.getElem?_eq_some_iff.mp ha).1
  simp [b__law_version, setV, ex_for]
  show Wp (bnd (look b) _) _ _ _
  rw [wp_bnd, wp_look (Ext.app _ _ _ _ hb)]
  simp [forK]
  refine wx_forLive (ys := hs.map .str) (I := VInv a b S hs) ?_ ?_ ?_ (Nat.zero_le _) ?_ ?_
  · rintro i ρ S' ⟨f, x, y, rfl, V⟩
    exact V.ext _ _ (fun e => hab e.symm) hb
  · rintro i d ρ S' hi ⟨f, x, y, rfl, V⟩
    obtain ⟨j, hj⟩ := V.st
    rw [List.getElem?_map] at hi
    cases hx : hs[i]? with
    | none => rw [hx] at hi; cases hi
    | some h' =>
      rw [hx] at hi
      cases hi
      have tk : hs.take (i + 1) = hs.take i ++ [h'] := by
        rw [List.take_add_one, hx]
        rfl
      have nin : h' ∉ hs.take i := by
        have nd := hs_nodup h.srt
        rw [← List.take_append_drop (i + 1) hs, List.nodup_append] at nd
        have nd := nd.1
        rw [tk, List.nodup_append] at nd
        intro m
        exact nd.2.2 _ m _ (by simp) rfl
      obtain ⟨c, hc, c0⟩ := count_at (d := j % 3) (k := (j / 3) % 6) (Int.emod_nonneg _ (by omega)) (Int.emod_lt_of_pos _ (by omega)) (Int.emod_nonneg _ (by omega)) (Int.emod_lt_of_pos _ (by omega))
      simp [turnX, setV]
      refine wp_ok (draw_ok hj (by omega) (by omega)) ?_
      simp
      refine wp_ok (draw_ok (set_at hj) (by omega) (by omega)) ?_
      simp
      rw [hc]
      simp
      have E2 : ExtA a S (S'.set a (.lst [.int (j / 3 / 6)])) := V.ext.set _
      have F2 : (S'.set a (.lst [.int (j / 3 / 6)]))[S.length]? = some (.lst (vt (ver (hs.take i) f))) := by
        rw [set_ne (by omega)]
        exact V.fnd
      have A2 := set_at (o' := .lst [.int (j / 3 / 6)]) hj
      have O2 : Ok (hs.take (i + 1)) (fun x => if x = h' then c else f x) := by
        refine ⟨fun x => ?_, fun x mx => ?_⟩
        · split
          · exact c0
          · exact V.ok.pos x
        · rw [tk, List.mem_append] at mx
          rw [if_neg fun e => mx (.inr (by simp [e]))]
          exact V.ok.out x fun z => mx (.inl z)
      split
      · rename_i cp
        try simp
        refine wp_sqL F2 ?_
        try simp
        show Wp (bnd (look _) _) _ _ _
        rw [wp_bnd, wp_look F2]
        simp
        have hl : (vt (ver (hs.take i) f)).length < line := by
          unfold vt ver
          rw [List.length_map]
          have := List.length_filterMap_le (fun h => if 0 < f h then some (h, f h) else none) (hs.take i)
          have : (hs.take i).length ≤ hs.length := by rw [List.length_take]; omega
          have := h.len
          exact lineBig (by omega)
        refine ⟨hl, _, _, _, rfl, O2, ?_, ?_, j / 3 / 6, ?_⟩
        · intro n o ne q
          have := (List.getElem?_eq_some_iff.mp q).1
          rw [set_ne (by omega)]
          exact E2 n o ne q
        · rw [tk, ver_snoc nin, if_pos cp, set_at F2]
          unfold vt
          rw [List.map_append]
          rfl
        · rw [set_ne (by omega)]
          exact A2
      · rename_i cp
        try simp
        refine ⟨_, _, _, rfl, O2, E2, ?_, _, A2⟩
        rw [tk, ver_snoc nin, if_neg cp, List.append_nil]
        exact F2
  · rintro i ρ S' hi ⟨f, x, y, rfl, V⟩
    simp
    refine wp_sq V.fnd ?_
    have : hs.take i = hs := by
      rw [List.getElem?_eq_none_iff, List.length_map] at hi
      exact List.take_of_length_le hi
    rw [this] at V ⊢
    try simp
    exact ⟨f, rfl, V.ok, V.ext, V.st⟩
  · have := h.len
    rw [List.length_map]
    omega
  · exact ⟨fun _ => 0, none, none, rfl, ⟨fun _ => by simp, fun _ _ => rfl⟩, ExtA.of (Ext.app _ _), by simp [vt, ver], i, Ext.app _ _ _ _ ha⟩
theorem at_intD {ns : List Int} {k : Nat} (h : k < ns.length) : L2.atI (intD ns) (k : Int) = some (.int ns[k]) := by
  unfold L2.atI L2.ixN
  have : (k : Int) < ((intD ns).length : Int) := by unfold intD; rw [List.length_map]; omega
  rw [if_pos (by omega), if_pos this]
  show (intD ns)[(k : Int).toNat]? = _
  unfold intD
  rw [List.getElem?_map, Int.toNat_natCast, List.getElem?_eq_getElem h]
  rfl
theorem mul_r (i j : Int) (h0 : 0 ≤ j) (h1 : j < 4294967296) : mulOk i j = true := by
  unfold mulOk big64
  simp
  right
  omega
theorem mul_l (i j : Int) (h0 : 0 ≤ j) (h1 : j < 4294967296) : mulOk j i = true := by
  unfold mulOk big64
  simp
  left
  omega
theorem md_lt (i : Int) {m k : Int} (h : 0 < m) (g : m ≤ k) : i % m < k := Int.lt_of_lt_of_le (Int.emod_lt_of_pos _ h) g
theorem small_pow (i : Int) {k : Nat} (hk : k ≤ 100) : (i % 65521 + 7 * (k : Int)).natAbs < 18446744073709551616 := by
  have := Int.emod_nonneg i (b := 65521) (by omega)
  have := Int.emod_lt_of_pos i (b := 65521) (by omega)
  omega
theorem asg_step {K : Cfg} {i : Nat} {e : E} {ρ : Qc.Env} {S S' : Sto} {d : D} {s : St} {ss : Sts} {Q : Fl → Sto → Prop} {F : Nat → Qc.Env → Sto → Prop} (h : ev K e ρ S = .ok (.v d) S') (g : Wx (exs K (.cons s ss) (ρ.set i (some d))) S' Q F) : Wx (exs K (.cons (.asg [i] true e) (.cons s ss)) ρ) S Q F := by
  rw [exs_cons, wx_seq, ex_asg, wx_lift]
  refine wp_ok h ?_
  simpa [setV] using g
theorem ret_step {K : Cfg} {e : E} {ρ : Qc.Env} {S S' : Sto} {u : U} {Q : Fl → Sto → Prop} {F : Nat → Qc.Env → Sto → Prop} (h : ev K e ρ S = .ok u S') (g : Q (.rt u) S') : Wx (exs K (.cons (.ret e) .nil) ρ) S Q F := by
  rw [exs_one, ex_ret, wx_lift]
  exact wp_ok h g
theorem evsame {α : Type} {m : M α} {S S' : Sto} {r : α} (h : Wp m S (fun u T => u = r ∧ T = S') fun _ _ => False) : m S = .ok r S' := by
  obtain ⟨a, S', e, rfl, rfl⟩ := wp_run h
  exact e
theorem number_ok {wf n : Nat} {S : Sto} {ns : List Int} {k : Nat} (hk : k ≤ 100) : ∃ i : Int, callF pg wf (n + 1) 12 [.fl (intD ns), .int k] S = .ok (.v (.int i)) S := by
  suffices z : Wp (callF pg wf (n + 1) 12 [.fl (intD ns), .int k]) S (fun u S' => (∃ i : Int, u = .v (.int i)) ∧ S' = S) fun _ _ => False by
    obtain ⟨x, S', e, ⟨i, rfl⟩, rfl⟩ := wp_run z
    exact ⟨i, e⟩
  refine wp_call (F := f__law_number) rfl rfl rfl ?_
  rw [show startE f__law_number [.fl (intD ns), .int k] = [some (.fl (intD ns)), some (.int k), none, none, none] from rfl, show f__law_number.body = b__law_number from rfl]
  have lenD : ((intD ns).length : Int) = (ns.length : Int) := by unfold intD; rw [List.length_map]
  have c0 : ∀ c : Int, 0 ≤ c % 2147483647 := fun c => Int.emod_nonneg _ (by omega)
  have c1 : ∀ c : Int, c % 2147483647 < 4294967296 := fun c => md_lt _ (by omega) (by omega)
  have d0 : ∀ c : Int, 0 ≤ c % 2147483629 := fun c => Int.emod_nonneg _ (by omega)
  have d1 : ∀ c : Int, c % 2147483629 < 4294967296 := fun c => md_lt _ (by omega) (by omega)
  have l1 : ∀ c, mulOk c 48271 = true := fun c => mul_r _ _ (by decide) (by decide)
  have l1' : ∀ c, mulOk c 69621 = true := fun c => mul_r _ _ (by decide) (by decide)
  have l1'' : ∀ c, mulOk c 2147483629 = true := fun c => mul_r _ _ (by decide) (by decide)
  have l2 : mulOk 104729 (k : Int) = true := mul_l _ _ (by decide) (by decide)
  have l4 : ∀ d, mulOk 2147483647 d = true := fun d => mul_l _ _ (by decide) (by decide)
  have l5 : mulOk 7 (k : Int) = true := mul_l _ _ (by decide) (by decide)
  obtain ⟨c, hc⟩ : ∃ c : Int, ev ⟨pg, wf, callF pg wf n⟩ (.ife (.of (.cmp .lt (.var 1) (.b1 .len (.var 0)))) (.ix (.var 0) (.var 1)) (.var 1)) [some (.fl (intD ns)), some (.int k), none, none, none] S = .ok (.v (.int c)) S := by
    by_cases h : k < ns.length
    · refine ⟨ns[k], evsame ?_⟩
      simp [lenD, h, at_intD h]
    · refine ⟨k, evsame ?_⟩
      simp [lenD, h]
  refine asg_step hc ?_
  rw [exs_cons, wx_seq, ex_ite, wx_lift]
  suffices rest : Wx (exs ⟨pg, wf, callF pg wf n⟩ (match b__law_number with
      | .cons _ (.cons _ ss) => ss
      | _ => .nil) [some (.fl (intD ns)), some (.int k), some (.int c), none, none]) S (Rt fun u S' => (∃ i : Int, u = .v (.int i)) ∧ S' = S) fun _ _ _ => False by
    have : ∃ b : Bool, evT ⟨pg, wf, callF pg wf n⟩ (.and (.cons (.of (.cmp .eq (.bin .mod (.b1 .len (.var 0)) (.lit (.int 2))) (.lit (.int 0)))) (.cons (.of (.cmp .ge (.var 2) (.bin .pow (.lit (.int 2)) (.lit (.int 64))))) .nil))) [some (.fl (intD ns)), some (.int k), some (.int c), none, none] S = .ok b S := by
      refine ⟨if (ns.length : Int) % 2 = 0 then decide (18446744073709551616 ≤ c) else false, evsame ?_⟩
      simp [lenD]
      split
      · intro _; assumption
      · intro h; exact absurd h (by assumption)
    obtain ⟨b, hb⟩ := this
    refine wp_ok hb ?_
    cases b with
    | true => simp
    | false => rw [if_neg (by decide), exs_nil, wx_go]; exact rest
  show Wx (exs _ (.cons (.asg _ _ _) (.cons _ _)) _) S _ _
  refine asg_step (S' := S) (d := .int ((c * 48271 + 104729 * k + 11) % 2147483647)) (evsame (by simp [l1, l2])) ?_
  have m0 := c0 (c * 48271 + 104729 * k + 11)
  have m1 := c1 (c * 48271 + 104729 * k + 11)
  generalize (c * 48271 + 104729 * k + 11) % 2147483647 = m at *
  refine asg_step (S' := S) (d := .int ((m * (m + k + 1)) % 2147483629)) (evsame (by simp [mul_l _ _ m0 m1])) ?_
  have n0 := d0 (m * (m + k + 1))
  have n1 := d1 (m * (m + k + 1))
  generalize (m * (m + k + 1)) % 2147483629 = q at *
  refine asg_step (S' := S) (d := .int ((m * m) % 2147483629 * 69621 % 2147483647 + 2147483647 * q)) (evsame (by simp [mul_l _ _ m0 m1, l1', l4])) ?_
  generalize (m * m) % 2147483629 * 69621 % 2147483647 + 2147483647 * q = r at *
  refine ret_step (S' := S) (u := .v (.int (r * 2147483629 + (r % 65521 + 7 * k) ^ 4))) (evsame (by simp [l1'', l5, small_pow r hk])) ?_
  simp
end K12
end
section
set_option Elab.async false
set_option linter.all false
set_option maxRecDepth 100000
set_option maxHeartbeats 4000000
/-! What is refused. -/
namespace K12
open PySem Qc
theorem wp_exc {α : Type} {m : M α} {S S' : Sto} {c : Nat} {Q : α → Sto → Prop} {E : Nat → Sto → Prop} (h : m S = .exc c S') (q : E c S') : Wp m S Q E := by
  unfold Wp
  rw [h]
  exact q
theorem excs {α : Type} {m : M α} {S : Sto} {c : Nat} (h : Wp m S (fun _ _ => False) fun c' S' => c' = c ∧ S' = S) : m S = .exc c S := by
  obtain ⟨S', e, rfl⟩ := wp_runE h
  exact e
@[simp] theorem at0 {S l : Sto} : (S ++ l)[S.length]? = l[0]? := at_app0
@[simp] theorem at1 {S l : Sto} : (S ++ l)[S.length + 1]? = l[1]? := at_app
@[simp] theorem at11 {S l : Sto} : (S ++ l)[S.length + 1 + 1]? = l[2]? := at_app (k := 2)
@[simp] theorem at111 {S l : Sto} : (S ++ l)[S.length + 1 + 1 + 1]? = l[3]? := at_app (k := 3)
theorem get_app {S l : Sto} {k : Nat} (h : S.length + k < (S ++ l).length) : (S ++ l)[S.length + k]'h = l[k]'(by rw [List.length_append] at h; omega) := by
  rw [List.getElem_append_right (by omega)]
  congr 1
  omega
@[simp] theorem get11 {S l : Sto} (h : S.length + 1 + 1 < (S ++ l).length) : (S ++ l)[S.length + 1 + 1]'h = l[2]'(by rw [List.length_append] at h; omega) := get_app (k := 2) h
@[simp] theorem get111 {S l : Sto} (h : S.length + 1 + 1 + 1 < (S ++ l).length) : (S ++ l)[S.length + 1 + 1 + 1]'h = l[3]'(by rw [List.length_append] at h; omega) := get_app (k := 3) h
@[simp] theorem get3 {S l : Sto} (h : S.length + 3 < (S ++ l).length) : (S ++ l)[S.length + 3]'h = l[3]'(by rw [List.length_append] at h; omega) := get_app (k := 3) h
@[simp] theorem at2 {S l : Sto} : (S ++ l)[S.length + 2]? = l[2]? := at_app
@[simp] theorem at3 {S l : Sto} : (S ++ l)[S.length + 3]? = l[3]? := at_app
theorem word_ok {wf n : Nat} {S : Sto} : ∃ S', callF pg wf (n + 1) 13 [.exn 3] S = .ok (.v (.str "NoVersion")) S' ∧ Ext S S' := by
  refine more (wp_call (F := f__law_word_of) rfl rfl rfl ?_)
  rw [show startE f__law_word_of [.exn 3] = [some (.exn 3), none, none] from rfl, show f__law_word_of.body = b__law_word_of from rfl]
  have ty : ∀ k, tyE pg (.exc k) 3 = some (isExn pg 3 k) := fun k => rfl
  have tv : tyE pg .valueError 3 = some true := rfl
  have i1 : isExn pg 3 1 = false := rfl
  have i2 : isExn pg 3 2 = false := rfl
  have i3 : isExn pg 3 3 = true := rfl
  have i4 : isExn pg 3 4 = false := rfl
  have i5 : isExn pg 3 5 = false := rfl
  have i6 : isExn pg 3 6 = false := rfl
  have i7 : isExn pg 3 7 = false := rfl
  have i8 : isExn pg 3 8 = false := rfl
  have i0 : isExn pg 3 0 = true := rfl
  have bop_obj : ∀ (k : Nat) (b : U), bop .add (.v (.obj k)) b = bnd (lsO (.v (.obj k))) fun xs => bnd (lsO b) fun ys => bnd (guard (okLen (xs.length + ys.length))) fun _ => pur (.l (xs ++ ys)) := fun k b => rfl
  have lsO_obj : ∀ k, lsO (.v (.obj k)) = bnd (look k) fun o => match o with
    | .lst xs => pur xs
    | _ => stk := fun k => rfl
  have lsO_l : ∀ xs, lsO (.l xs) = pur xs := fun k => rfl
  have sqL_obj : ∀ k, sqL (.v (.obj k)) = bnd (look k) fun o => match o with
    | .lst xs => pur xs
    | _ => stk := fun k => rfl
  have sq_obj : ∀ k, sq (.v (.obj k)) = bnd (look k) fun o => match o with
    | .lst xs => pur xs
    | _ => stk := fun k => rfl
  have cnt_obj : ∀ k c, semM1 .count (.v (.obj k)) (.v (.bl c)) = bnd (sqL (.v (.obj k))) fun xs => bnd (opt (blsOf xs)) fun bs => pur (.v (.int ((bs.filter fun b => b == c).length : Nat))) := fun k c => rfl
  have ix_obj : ∀ k c, semM1 .index (.v (.obj k)) (.v (.bl c)) = bnd (sqL (.v (.obj k))) fun xs => bnd (opt (blsOf xs)) fun bs => (if bs.contains c = true then pur (.v (.int ((bs.findIdx fun b => b == c) : Nat))) else stk) := fun k c => rfl
  have b8 : ∀ a b c d e f g h, blsOf [.bl a, .bl b, .bl c, .bl d, .bl e, .bl f, .bl g, .bl h] = some [a, b, c, d, e, f, g, h] := fun _ _ _ _ _ _ _ _ => rfl
  have ixA_obj : ∀ k n, ixA (.v (.obj k)) (.v (.int n)) = bnd (look k) fun o => (match o with
    | .dct kvs => ixK kvs (.v (.int n))
    | _ => bnd (sq (.v (.obj k))) fun xs => opt ((L2.atI xs n).map U.v)) := fun k n => rfl
  simp [b__law_word_of, ty, tv, i1, i2, i3, i4, i5, i6, i7, i8, i0, setV, wp_lookm, bop_obj, lsO_obj, lsO_l, sqL_obj, sq_obj, cnt_obj, ix_obj, b8, ixA_obj, L2.atI, L2.ixN]
  exact ⟨rfl, Ext.app _ _⟩
/-- what is no version is refused -/
def Odd (S : Sto) (d : D) : Prop := ∀ S', Ext S S' → ∀ wf n, callF pg wf (n + 5) 5 [d] S' = .exc 3 S'
theorem odd_of {S : Sto} {d : D} (h : ∀ S', Ext S S' → ∀ wf n, callF pg wf (n + 4) 4 [d] S' = .ok (.v (.bl false)) S') : Odd S d := by
  intro S' e wf n
  refine excs (wp_call (F := f_need_version) rfl rfl rfl ?_)
  rw [show startE f_need_version [d] = [some d] from rfl, show f_need_version.body = b_need_version from rfl]
  simp [b_need_version]
  refine wp_ok (h S' e wf n) ?_
  simp
theorem odd_names {S : Sto} {d : D} (h : ∀ S', Ext S S' → ∀ wf n, callF pg wf (n + 3) 3 [d] S' = .ok (.v (.bl false)) S') : Odd S d := by
  refine odd_of fun S' e wf n => same (wp_call (F := f_is_version) rfl rfl rfl ?_)
  rw [show startE f_is_version [d] = [some d, none, none] from rfl, show f_is_version.body = b_is_version from rfl]
  simp [b_is_version]
  refine wp_ok (h S' e wf n) ?_
  simp
theorem odd_obj {S : Sto} {a : Nat} {o : O} (h : S[a]? = some o) (ho : tyO .tuple o = pur false) : Odd S (.obj a) := by
  refine odd_names fun S' e wf n => same (wp_call (F := f_are_names) rfl rfl rfl ?_)
  rw [show startE f_are_names [.obj a] = [some (.obj a), none] from rfl, show f_are_names.body = b_are_names from rfl]
  simp [b_are_names, wp_look (e _ _ h), ho]
theorem odd_tobj {S : Sto} {a : Nat} {o : O} (h : S[a]? = some o) (ho : tyO .tuple o = pur false) : Odd S (.tup [.obj a]) := by
  refine odd_names fun S' e wf n => same (wp_call (F := f_are_names) rfl rfl rfl ?_)
  rw [show startE f_are_names [.tup [.obj a]] = [some (.tup [.obj a]), none] from rfl, show f_are_names.body = b_are_names from rfl]
  have nm : callF pg wf (n + 2) 2 [.obj a] S' = .ok (.v (.bl false)) S' := by
    refine same (wp_call (F := f_is_name) rfl rfl rfl ?_)
    rw [show startE f_is_name [.obj a] = [some (.obj a)] from rfl, show f_is_name.body = b_is_name from rfl]
    simp [b_is_name, wp_look (e _ _ h), ho]
  simp [b_are_names, ev_lc, lcK, srcOf]
  refine lcGo_map (l := [D.obj a]) (g := id) (f := fun _ => some (.bl false)) (by simp) ?_ ?_
  · intro x m
    simp only [List.mem_singleton] at m
    subst m
    simp [turnL, setV]
    refine wp_ok nm ?_
    simp
  · rw [show List.filterMap (fun _ => some (D.bl false)) [D.obj a] = [D.obj a].map fun x => D.bl ((fun _ => false) x) from rfl, all_bls]
    simp
theorem odd_non {S : Sto} : Odd S .non := fun S' _ wf n => by kernel_rfl
theorem odd_int {S : Sto} : Odd S (.int 5) := fun S' _ wf n => by kernel_rfl
theorem odd_str {S : Sto} : Odd S (.str "a") := fun S' _ wf n => by kernel_rfl
theorem odd_zero {S : Sto} : Odd S (.tup [.tup [.str "a", .int 0]]) := fun S' _ wf n => by kernel_rfl
theorem odd_pair {S : Sto} : Odd S (.tup [.str "a", .int 1]) := fun S' _ wf n => by kernel_rfl
theorem odd_A {S : Sto} : Odd S (.tup [.tup [.str "A", .int 1]]) := fun S' _ wf n => by kernel_rfl
theorem odd_T {S : Sto} : Odd S (.tup [.tup [.str "a", .bl true]]) := fun S' _ wf n => by kernel_rfl
theorem odd_3 {S : Sto} : Odd S (.tup [.tup [.str "a", .int 1, .int 1]]) := fun S' _ wf n => by kernel_rfl
theorem all_names {S : Sto} {wf n : Nat} {l : Vl} (hl : l.length ≤ 1000) (h : ∀ p ∈ l, p.1 ∈ GH ∧ 1 ≤ p.2) {Q : List D → Sto → Prop} {E : Nat → Sto → Prop} (q : Q ((vt l).map fun x => D.bl ((fun _ => true) x)) S) : Wp (lcGo (turnL ⟨pg, wf, callF pg wf (n + 2)⟩ [1] true (.call 2 (.cons (.var 1) .nil)) .nil [some (.tup (vt l)), none]) [] (vt l)) S Q E := by
  refine lcGo_map (f := fun _ => some (.bl true)) hl ?_ ?_
  · intro p mp
    simp [turnL, setV]
    refine wp_ok (name_ok (h p mp).1 (h p mp).2) ?_
    simp
  · rw [fm_some]
    unfold vt at q
    rw [List.map_map] at q
    exact q
theorem upd_vl {l : Vl} {S : Sto} : upd (.l (vt l)) S = .ok (.list (l.map fun p => .tuple [.str p.1, .int p.2])) S := by
  rw [upd_l (pds_vt l)]
  rfl
theorem set_2 (p q : Str × Int) (h : (D.tup [.str p.1, .int p.2]).key ≠ (D.tup [.str q.1, .int q.2]).key) : semB1 .set (.v (.tup (vt [p, q]))) = pur (.s (vt [p, q])) := by
  show bnd (opt (sAdd [] (vt [p, q]))) _ = _
  rw [sAdd_of (acc := []) (xs := vt [p, q]) (fun d m => by unfold vt at m; obtain ⟨p, _, rfl⟩ := List.mem_map.mp m; exact ⟨_, okey_pair⟩) ?_]
  · rfl
  · simp [vt, pr, okey_pair]
    intro e1 e2
    apply h
    rw [key_pair, key_pair, e1, e2]
theorem sortDS_2 (p q : Str × Int) (h : leD (pr q) (pr p) = false) : sortDS (vt [q, p]) = some (vt [p, q]) ∧ sortDS (vt [p, q]) = some (vt [p, q]) := by
  have hp : (vt [p, q]).Pairwise fun a b => leD b a = false := by simpa [vt] using h
  have e : ∀ l : Vl, l.length < 10 → (vt [p, q]).Perm (vt l) → sortD (vt l) = some (vt [p, q]) := by
    intro l hl hperm
    unfold sortD
    rw [pds_vt]
    dsimp only
    rw [if_pos]
    · congr 1
      exact sort_of hperm hp
    · rw [Bool.and_eq_true, Bool.and_eq_true, Bool.and_eq_true]
      refine ⟨⟨⟨?_, ?_⟩, ?_⟩, ?_⟩
      · unfold alikeB
        simp [PySem.W.alike, PySem.W.alikeAll]
      · unfold sortableB
        simp [isTupB]
      · refine decide_eq_true (Nat.le_trans (depth_le (k := 1) ?_) (by omega))
        intro p m
        obtain ⟨x, _, rfl⟩ := List.mem_map.mp m
        simp [PyData.depth, PyData.depthAll]
      · simp [vt]
        omega
  unfold sortDS
  rw [e [q, p] (by simp) (List.Perm.swap _ _ _), e [p, q] (by simp) (List.Perm.refl _)]
  dsimp only
  rw [if_pos (strictB_of hp)]
  exact ⟨rfl, rfl⟩
theorem sorted_s {xs ys : List D} (h : xs.all isTupD = true) (e : sortDS xs = some ys) : semB1 .sorted (.s xs) = pur (.l ys) := by
  show bnd (guard (xs.all isTupD)) _ = _
  rw [h]
  show bnd (opt (sortDS xs)) _ = _
  rw [e]
  rfl
theorem odd_ba {S : Sto} : Odd S (.tup [.tup [.str "b", .int 1], .tup [.str "a", .int 1]]) := by
  refine odd_names fun S' e wf n => same (wp_call (F := f_are_names) rfl rfl rfl ?_)
  rw [show startE f_are_names [.tup [.tup [.str "b", .int 1], .tup [.str "a", .int 1]]] = [some (.tup (vt [("b", 1), ("a", 1)])), none] from rfl, show f_are_names.body = b_are_names from rfl]
  simp [b_are_names, ev_lc, lcK, srcOf]
  refine all_names (by simp) (by decide +kernel) ?_
  rw [all_bls]
  have s2 := sortDS_2 ("a", 1) ("b", 1) (by decide +kernel)
  simp [set_2 ("b", 1) ("a", 1) (by decide +kernel), sorted_s rfl s2.1]
  rw [cop_eq, wp_bnd]
  refine wp_ok upd_vl ?_
  rw [wp_bnd]
  refine wp_ok upd_vl ?_
  rw [wp_bnd, wp_guard]
  exact ⟨by decide +kernel, by decide +kernel, rfl⟩
theorem odd_aa {S : Sto} : Odd S (.tup [.tup [.str "a", .int 1], .tup [.str "a", .int 2]]) := by
  refine odd_of fun S' e wf n => ?_
  have nm : callF pg wf (n + 3) 3 [.tup (vt [("a", 1), ("a", 2)])] S' = .ok (.v (.bl true)) S' := by
    refine same (wp_call (F := f_are_names) rfl rfl rfl ?_)
    rw [show startE f_are_names [.tup (vt [("a", 1), ("a", 2)])] = [some (.tup (vt [("a", 1), ("a", 2)])), none] from rfl, show f_are_names.body = b_are_names from rfl]
    simp [b_are_names, ev_lc, lcK, srcOf]
    refine all_names (by simp) (by decide +kernel) ?_
    rw [all_bls]
    have s2 := sortDS_2 ("a", 1) ("a", 2) (by decide +kernel)
    simp [set_2 ("a", 1) ("a", 2) (by decide +kernel), sorted_s rfl s2.2]
    refine wp_same upd_vl upd_vl (by decide +kernel) ?_
    simp
  refine same (wp_call (F := f_is_version) rfl rfl rfl ?_)
  rw [show startE f_is_version [.tup [.tup [.str "a", .int 1], .tup [.str "a", .int 2]]] = [some (.tup (vt [("a", 1), ("a", 2)])), none, none] from rfl, show f_is_version.body = b_is_version from rfl]
  simp [b_is_version]
  refine wp_ok nm ?_
  simp [ev_lc, lcK, srcOf]
  refine lcGo_map (f := fun p : Str × Int => some (.str p.1)) (by simp) ?_ ?_
  · intro p mp
    simp [turnL, setV, pr]
  · rw [fm_some]
    have : semB1 .set (.l ([(("a" : Str), (1 : Int)), ("a", 2)].map fun p => D.str p.1)) = pur (.s [.str "a"]) := by
      kernel_rfl
    rw [this]
    simp [vt]
end K12
end
section
set_option Elab.async false
set_option linter.all false
set_option maxRecDepth 100000
set_option maxHeartbeats 4000000
/-! _law_refused, _law_right. -/
namespace K12
open PySem Qc
section
variable {wf n : Nat} {S : Sto} {d x : D} {l : Vl}
theorem exc1_w (o : Odd S d) : callF pg wf (n + 6) 8 [d, x] S = .exc 3 S := by
  refine excs (wp_call (F := f_within) rfl rfl rfl ?_)
  rw [show startE f_within [d, x] = [some d, some x, none, none, none] from rfl, show f_within.body = b_within from rfl]
  simp [b_within, -dict_tup]
  exact wp_exc (o S (Ext.refl S) wf n) ⟨rfl, rfl⟩
theorem exc1_j (o : Odd S d) : callF pg wf (n + 6) 9 [d, x] S = .exc 3 S := by
  refine excs (wp_call (F := f_joined) rfl rfl rfl ?_)
  rw [show startE f_joined [d, x] = [some d, some x, none, none, none] from rfl, show f_joined.body = b_joined from rfl]
  simp [b_joined, -dict_tup]
  exact wp_exc (o S (Ext.refl S) wf n) ⟨rfl, rfl⟩
theorem exc1_c (o : Odd S d) : callF pg wf (n + 6) 10 [d, x] S = .exc 3 S := by
  refine excs (wp_call (F := f_common) rfl rfl rfl ?_)
  rw [show startE f_common [d, x] = [some d, some x, none, none, none] from rfl, show f_common.body = b_common from rfl]
  simp [b_common, -dict_tup]
  exact wp_exc (o S (Ext.refl S) wf n) ⟨rfl, rfl⟩
theorem exc1_n (o : Odd S d) : callF pg wf (n + 6) 7 [d, x] S = .exc 3 S := by
  refine excs (wp_call (F := f_count_in) rfl rfl rfl ?_)
  rw [show startE f_count_in [d, x] = [some d, some x] from rfl, show f_count_in.body = b_count_in from rfl]
  simp [b_count_in, -dict_tup]
  exact wp_exc (o S (Ext.refl S) wf n) ⟨rfl, rfl⟩
theorem exc2_w (h : Vr l) (o : Odd S d) : callF pg wf (n + 6) 8 [.tup (vt l), d] S = .exc 3 S := by
  refine excs (wp_call (F := f_within) rfl rfl rfl ?_)
  rw [show startE f_within [.tup (vt l), d] = [some (.tup (vt l)), some d, none, none, none] from rfl, show f_within.body = b_within from rfl]
  simp [b_within, -dict_tup]
  refine wp_ok (need_ok h) ?_
  try simp [-dict_tup]
  exact wp_exc (o S (Ext.refl S) wf n) ⟨rfl, rfl⟩
theorem exc2_j (h : Vr l) (o : Odd S d) : callF pg wf (n + 6) 9 [.tup (vt l), d] S = .exc 3 S := by
  refine excs (wp_call (F := f_joined) rfl rfl rfl ?_)
  rw [show startE f_joined [.tup (vt l), d] = [some (.tup (vt l)), some d, none, none, none] from rfl, show f_joined.body = b_joined from rfl]
  simp [b_joined, -dict_tup]
  refine wp_ok (need_ok h) ?_
  try simp [-dict_tup]
  exact wp_exc (o S (Ext.refl S) wf n) ⟨rfl, rfl⟩
theorem exc2_c (h : Vr l) (o : Odd S d) : callF pg wf (n + 6) 10 [.tup (vt l), d] S = .exc 3 S := by
  refine excs (wp_call (F := f_common) rfl rfl rfl ?_)
  rw [show startE f_common [.tup (vt l), d] = [some (.tup (vt l)), some d, none, none, none] from rfl, show f_common.body = b_common from rfl]
  simp [b_common, -dict_tup]
  refine wp_ok (need_ok h) ?_
  try simp [-dict_tup]
  exact wp_exc (o S (Ext.refl S) wf n) ⟨rfl, rfl⟩
/-- one way raises -/
theorem refused_of {w : Int} {a b : D} (hw : 0 ≤ w ∧ w ≤ 3) (h0 : w = 0 → callF pg wf (n + 6) 8 [a, b] S = .exc 3 S) (h1 : w = 1 → callF pg wf (n + 6) 9 [a, b] S = .exc 3 S) (h2 : w = 2 → callF pg wf (n + 6) 10 [a, b] S = .exc 3 S) (h3 : w = 3 → callF pg wf (n + 6) 7 [a, .str "a"] S = .exc 3 S) :
    ∃ S', callF pg wf (n + 7) 15 [.int w, a, b] S = .ok (.v (.str "NoVersion")) S' ∧ Ext S S' := by
  refine more (wp_call (F := f__law_refused) rfl rfl rfl ?_)
  rw [show startE f__law_refused [.int w, a, b] = [some (.int w), some a, some b, none, none] from rfl, show f__law_refused.body = b__law_refused from rfl]
  have i0 : isExn pg 3 0 = true := rfl
  have cs : 3 < pg.sup.length := by decide
  obtain ⟨S', e, hS⟩ := @word_ok wf (n + 5) S
  have : w = 0 ∨ w = 1 ∨ w = 2 ∨ w = 3 := by omega
  rcases this with rfl | rfl | rfl | rfl
  · simp [b__law_refused, setV, wx_try]
    refine wp_exc (h0 rfl) ?_
    simp [Ct, i0, cs, setV]
    refine wp_ok e ?_
    exact ⟨rfl, hS⟩
  · simp [b__law_refused, setV, wx_try]
    refine wp_exc (h1 rfl) ?_
    simp [Ct, i0, cs, setV]
    refine wp_ok e ?_
    exact ⟨rfl, hS⟩
  · simp [b__law_refused, setV, wx_try]
    refine wp_exc (h2 rfl) ?_
    simp [Ct, i0, cs, setV]
    refine wp_ok e ?_
    exact ⟨rfl, hS⟩
  · simp [b__law_refused, setV, wx_try]
    refine wp_exc (h3 rfl) ?_
    simp [Ct, i0, cs, setV]
    refine wp_ok e ?_
    exact ⟨rfl, hS⟩
theorem refused_1 {w : Int} (hw : 0 ≤ w ∧ w ≤ 3) (o : Odd S d) : ∃ S', callF pg wf (n + 7) 15 [.int w, d, x] S = .ok (.v (.str "NoVersion")) S' ∧ Ext S S' :=
  refused_of hw (fun _ => exc1_w o) (fun _ => exc1_j o) (fun _ => exc1_c o) (fun _ => exc1_n o)
theorem refused_2 {w : Int} (hw : 0 ≤ w ∧ w < 3) (h : Vr l) (o : Odd S d) : ∃ S', callF pg wf (n + 7) 15 [.int w, .tup (vt l), d] S = .ok (.v (.str "NoVersion")) S' ∧ Ext S S' :=
  refused_of (by omega) (fun _ => exc2_w h o) (fun _ => exc2_j h o) (fun _ => exc2_c h o) (fun e => by omega)
end
end K12
end
section
set_option Elab.async false
set_option linter.all false
set_option maxRecDepth 100000
set_option maxHeartbeats 4000000
/-! _law_right. -/
namespace K12
open PySem Qc
theorem wx_asg {K : Cfg} {i : Nat} {e : E} {ρ : Qc.Env} {S : Sto} {s : St} {ss : Sts} {Q : Fl → Sto → Prop} {F : Nat → Qc.Env → Sto → Prop} : Wx (exs K (.cons (.asg [i] true e) (.cons s ss)) ρ) S Q F = Wp (ev K e ρ) S (fun u S1 => Wp (Qc.settle u) S1 (fun d S2 => Wx (exs K (.cons s ss) (ρ.set i (some d))) S2 Q F) (fun c S' => F c ρ S')) (fun c S' => F c ρ S') := by
  rw [exs_cons, wx_seq, ex_asg, wx_lift]
  congr 1
  funext u S1
  rw [wx_lift]
  rfl
theorem wx_turn {step : D → Qc.Env → X} {x : D} {xs : List D} {ρ : Qc.Env} {S : Sto} {Q : Fl → Sto → Prop} {F : Nat → Qc.Env → Sto → Prop} : Wx (forGo step (x :: xs) ρ) S Q F = Wx (step x ρ) S (Tn (fun ρ' S' => Wx (forGo step xs ρ') S' Q F) Q) F := by
  unfold Wx
  rw [show forGo step (x :: xs) ρ S = (match step x ρ S with
      | .go (.nx ρ') S' => forGo step xs ρ' S'
      | .go (.ct ρ') S' => forGo step xs ρ' S'
      | .go (.bk ρ') S' => .go (.nx ρ') S'
      | r => r) from rfl]
  cases step x ρ S with
  | go f S' => cases f <;> rfl
  | exc c r S' => rfl
  | stuck => rfl
theorem wx_end {step : D → Qc.Env → X} {ρ : Qc.Env} {S : Sto} {Q : Fl → Sto → Prop} {F : Nat → Qc.Env → Sto → Prop} : Wx (forGo step [] ρ) S Q F = Q (.nx ρ) S := rfl
theorem lcLive_pure {step : D → M (Option D)} {wf n : Nat} {S : Sto} {E : Nat → Sto → Prop} {ys : List D} {f : D → Option D} {Q : List D → Sto → Prop} (h : S[n]? = some (.lst ys)) (hl : ys.length ≤ 1000) (hw : ys.length < wf) (hs : ∀ x ∈ ys, Wp (step x) S (fun r S' => r = f x ∧ S' = S) E) (q : Q (ys.filterMap f) S) : Wp (lcLive step n wf 0 []) S Q E := by
  refine wp_lcLive (ys := ys) (I := fun acc i S' => S' = S ∧ acc = (ys.take i).filterMap f) ?_ ?_ (Nat.zero_le _) (by omega) ⟨rfl, rfl⟩ ?_
  · rintro acc i S' ⟨rfl, _⟩
    exact h
  · rintro acc i x S' hx ⟨rfl, rfl⟩
    have lt := (List.getElem?_eq_some_iff.mp hx).1
    refine wp_mono (hs x (List.mem_of_getElem? hx)) ?_ fun _ _ h => h
    rintro r S'' ⟨rfl, rfl⟩
    refine ⟨?_, rfl, ?_⟩
    · have := List.length_filterMap_le f (ys.take i)
      have : (ys.take i).length ≤ ys.length := by rw [List.length_take]; omega
      exact lineBig (by omega)
    · rw [List.take_add_one, hx, List.filterMap_append]
      cases hf : f x <;> simp [hf]
  · rintro acc i S' hx ⟨rfl, rfl⟩
    rw [List.getElem?_eq_none_iff] at hx
    rw [List.take_of_length_le hx]
    exact q
def zz : List Str := ["zzz"]
structure RI (S : Sto) (l k : Vl) (F G : Str → Int) (dn dm : List Str) (S' : Sto) : Prop where
  ext : Ext S S'
  e0 : S'[S.length]? = some (.dct (kv l))
  e1 : S'[S.length + 1]? = some (.dct (kv k))
  e2 : S'[S.length + 2]? = some (.lst [.obj S.length, .obj (S.length + 1)])
  e3 : S'[S.length + 3]? = some (.lst (vt (ver dn F)))
  e4 : S'[S.length + 4]? = some (.lst (vt (ver dm G)))
  e5 : S'[S.length + 5]? = some (.lst [.obj (S.length + 3), .obj (S.length + 4)])
theorem RI.app {S : Sto} {l k : Vl} {F G : Str → Int} {dn dm : List Str} {S' S2 : Sto} (R : RI S l k F G dn dm S') (e : Ext S' S2) : RI S l k F G dn dm S2 := ⟨R.ext.trans e, e _ _ R.e0, e _ _ R.e1, e _ _ R.e2, e _ _ R.e3, e _ _ R.e4, e _ _ R.e5⟩
theorem ver_add {dn : List Str} {F : Str → Int} {h : Str} : ver (dn ++ [h]) F = ver dn F ++ (if 0 < F h then [(h, F h)] else []) := by
  unfold ver
  rw [List.filterMap_append]
  congr 1
  by_cases q : 0 < F h <;> simp [q]
theorem RI.put3 {S : Sto} {l k : Vl} {F G : Str → Int} {dn dm dn' : List Str} {S' : Sto} (R : RI S l k F G dn dm S') {o : O} (ho : o = .lst (vt (ver dn' F))) : RI S l k F G dn' dm (S'.set (S.length + 3) o) := by
  subst ho
  exact ⟨R.ext.set _ (by omega), by rw [set_ne (by omega)]; exact R.e0, by rw [set_ne (by omega)]; exact R.e1, by rw [set_ne (by omega)]; exact R.e2, set_at R.e3, by rw [set_ne (by omega)]; exact R.e4, by rw [set_ne (by omega)]; exact R.e5⟩
theorem RI.put4 {S : Sto} {l k : Vl} {F G : Str → Int} {dn dm dm' : List Str} {S' : Sto} (R : RI S l k F G dn dm S') {o : O} (ho : o = .lst (vt (ver dm' G))) : RI S l k F G dn dm' (S'.set (S.length + 4) o) := by
  subst ho
  exact ⟨R.ext.set _ (by omega), by rw [set_ne (by omega)]; exact R.e0, by rw [set_ne (by omega)]; exact R.e1, by rw [set_ne (by omega)]; exact R.e2, by rw [set_ne (by omega)]; exact R.e3, set_at R.e4, by rw [set_ne (by omega)]; exact R.e5⟩
theorem vt_add {dn : List Str} {F : Str → Int} {h : Str} (q : 0 < F h) : vt (ver dn F) ++ [.tup [.str h, .int (F h)]] = vt (ver (dn ++ [h]) F) := by
  rw [ver_add, if_pos q]
  unfold vt
  rw [List.map_append]
  rfl
theorem vt_same {dn : List Str} {F : Str → Int} {h : Str} (q : ¬ 0 < F h) : ver (dn ++ [h]) F = ver dn F := by
  rw [ver_add, if_neg q, List.append_nil]
theorem ver_len {dn : List Str} {F : Str → Int} : (vt (ver dn F)).length ≤ dn.length := by
  unfold vt ver
  rw [List.length_map]
  exact List.length_filterMap_le _ _
theorem append_ok {n : Nat} {xs : List D} {d : D} {S : Sto} {Q : U → Sto → Prop} {E : Nat → Sto → Prop} (h : S[n]? = some (.lst xs)) (hl : xs.length ≤ 1000) (q : Q (.v .non) (S.set n (.lst (xs ++ [d])))) : Wp (semM1 .append (.v (.obj n)) (.v d)) S Q E := by
  show Wp (bnd (look n) _) S Q E
  rw [wp_bnd, wp_look h]
  dsimp only
  rw [wp_bnd, wp_guard]
  exact ⟨decide_eq_true (lineBig hl), q⟩
def RInv (wf b : Nat) (S : Sto) (l k : Vl) (F G : Str → Int) (ys : List Str) (xs : List D) (ρ : Qc.Env) (S' : Sto) : Prop := ∃ dn rest x5 x6 x7 x8, ys = dn ++ rest ∧ xs = rest.map .str ∧ ρ = [some (.tup (vt l)), some (.tup (vt k)), some (.obj b), some (.obj (S.length + 2)), some (.obj (S.length + 5)), x5, x6, x7, x8, none, none, none, none] ∧ RI S l k F G dn dn S'
theorem turn_ok {wf n b : Nat} {S S' : Sto} {hs : List Str} {f g : Str → Int} {dn rest : List Str} {h : Str} {x5 x6 x7 x8 : Option D} {Q : Fl → Sto → Prop} {ys : List Str} {l k : Vl} (hw : 30 ≤ wf) (vf : Vr l) (vg : Vr k) (cf : ∀ x, cnt l x = f x) (cg : ∀ x, cnt k x = g x) (hlen : ys.length ≤ 100) (hy : ys = dn ++ h :: rest) (R : RI S l k (fun x => max (f x) (g x)) (fun x => min (f x) (g x)) dn dn S') :
    Wx (turnX ⟨pg, wf, callF pg wf (n + 6)⟩ [5] true (match b__law_right with
      | .cons _ (.cons _ (.cons (.for_ _ _ _ ss) _)) => ss
      | _ => .nil) (.str h) [some (.tup (vt l)), some (.tup (vt k)), some (.obj b), some (.obj (S.length + 2)), some (.obj (S.length + 5)), x5, x6, x7, x8, none, none, none, none]) S' (Tn (RInv wf b S l k (fun x => max (f x) (g x)) (fun x => min (f x) (g x)) ys (rest.map .str)) Q) fun _ _ _ => False := by
  unfold turnX b__law_right
  dsimp only
  rw [wx_lift, target_one, wp_pur]
  rw [wx_asg]
  refine wp_mono (Q := fun u S1 => u = .l [.int (f h), .int (g h)] ∧ S1 = S') (E := fun _ _ => False) ?_ ?_ fun _ _ h => h
  · rw [ev_lc]
    simp [setV]
    show Wp (bnd (look _) _) _ _ _
    rw [wp_bnd, wp_look R.e2]
    simp [lcK]
    refine lcLive_pure (f := fun d => match d with
      | .obj j => if j = S.length then some (.int (f h)) else some (.int (g h))
      | _ => none) R.e2 (by simp) (by simp; omega) ?_ ?_
    · intro x mx
      simp only [List.mem_cons, List.mem_nil_iff, or_false] at mx
      rcases mx with rfl | rfl
      · simp [turnL, setV, okey_str]
        refine wp_dcL R.e0 ?_
        refine wp_dcL R.e0 ?_
        rw [get_kv, cf]
        simp
      · simp [turnL, setV, okey_str]
        refine wp_dcL R.e1 ?_
        refine wp_dcL R.e1 ?_
        rw [get_kv, cg]
        simp
    · simp
  · rintro u S1 ⟨rfl, rfl⟩
    simp only [settle_l, wp_alloc]
    have R2 := R.app (Ext.app S1 [.lst [.int (f h), .int (g h)]])
    have eb := last_at S1 (.lst [.int (f h), .int (g h)])
    have nb : S.length + 5 < S1.length := (List.getElem?_eq_some_iff.mp R.e5).1
    generalize S1 ++ [.lst [.int (f h), .int (g h)]] = S2 at *
    generalize S1.length = B at *
    clear R
    simp only [setV, List.set_cons_succ, List.set_cons_zero]
    rw [exs_cons, wx_seq, ex_ite, wx_lift]
    refine wp_mono (Q := fun u S1 => u = false ∧ S1 = S2) (E := fun _ _ => False) ?_ ?_ fun _ _ h => h
    · simp
      refine wp_ok (count_ok vf) ?_
      simp
      refine wp_ok (count_ok vg) ?_
      simp [cf, cg]
      refine wp_nsame (p := .list [.int (f h), .int (g h)]) ?_ ?_ ?_ ?_
      · rw [upd_l (ps := [.int (f h), .int (g h)]) (by simp [D.pds, D.pd])]; rfl
      · show bnd (look B) _ S2 = _
        unfold bnd look
        rw [eb]
        simp [D.pds, D.pd, opt]
      · simp [PySem.SeqAt.shaped, PyData.canLay0, PyData.canLayAll0, PyData.depth, PyData.depthAll]
      · simp
    · rintro u S1 ⟨rfl, rfl⟩
      rw [if_neg (by decide), exs_nil, wx_go, nx_nx, exs_one, ex_for, wx_lift]
      refine wp_mono (Q := fun u S3 => u = .items [.int 0, .int 1] ∧ S3 = S1) (E := fun _ _ => False) ?_ ?_ fun _ _ h => h
      · simp [small62]
        rfl
      · rintro u S3 ⟨rfl, rfl⟩
        have mxm : ∀ i : Nat, i < 2 → ∀ c, (if i = 0 then max (f h) (g h) else min (f h) (g h)) = c → ∀ ρ : Qc.Env, ρ[6]?.bind id = some (.obj B) → ρ[8]?.bind id = some (.int i) → ∀ S3 : Sto, S3[B]? = some (.lst [.int (f h), .int (g h)]) → ev ⟨pg, wf, callF pg wf (n + 6)⟩ (.ix (.lst (.cons (.b1 .max (.var 6)) (.cons (.b1 .min (.var 6)) .nil))) (.var 8)) ρ S3 = .ok (.v (.int c)) S3 := by
          intro i hi c hc ρ h6 h8 S3 hb
          subst hc
          have hmx : ∀ {Q : U → Sto → Prop} {E : Nat → Sto → Prop}, Q (.v (.int (max (f h) (g h)))) S3 → Wp (semB1 .max (.v (.obj B))) S3 Q E := by
            intro Q E q
            show Wp (bnd (sqL _) _) _ _ _
            rw [wp_bnd]
            refine wp_sqL hb ?_
            exact q
          have hmn : ∀ {Q : U → Sto → Prop} {E : Nat → Sto → Prop}, Q (.v (.int (min (f h) (g h)))) S3 → Wp (semB1 .min (.v (.obj B))) S3 Q E := by
            intro Q E q
            show Wp (bnd (sqL _) _) _ _ _
            rw [wp_bnd]
            refine wp_sqL hb ?_
            exact q
          refine evsame ?_
          simp only [ev_ix, ev_lst, evs_cons, evs_nil, ev_b1, ev_var, wp_bnd, h6, h8, Option.map_some, wp_some]
          refine hmx ?_
          simp
          refine hmn ?_
          have : i = 0 ∨ i = 1 := by omega
          rcases this with rfl | rfl <;> simp [L2.atI, L2.ixN]
        generalize (E.lst (.cons (.b1 .max (.var 6)) (.cons (.b1 .min (.var 6)) .nil))).ix (.var 8) = X at *
        have hdn : dn.length ≤ 100 := by rw [hy] at hlen; simp at hlen; omega
        unfold forK
        dsimp only
        rw [wx_turn]
        refine wx_mono (Q := fun u S1 => ∃ ρ, u = .nx ρ ∧ ρ = [some (.tup (vt l)), some (.tup (vt k)), some (.obj b), some (.obj (S.length + 2)), some (.obj (S.length + 5)), some (.str h), some (.obj B), x7, some (.int 0), none, none, none, none] ∧ RI S l k (fun x => max (f x) (g x)) (fun x => min (f x) (g x)) (dn ++ [h]) dn S1 ∧ S1[B]? = some (.lst [.int (f h), .int (g h)])) (E := fun _ _ _ => False) ?_ ?_ fun _ _ _ h => h
        · unfold turnX
          rw [wx_lift, target_one, wp_pur]
          simp only [setV, List.set_cons_succ, List.set_cons_zero]
          rw [exs_one, ex_ite, wx_lift, evT_of, wp_bnd, ev_cmp, wp_bnd]
          refine wp_ok (mxm 0 (by omega) _ rfl _ rfl rfl _ eb) ?_
          simp
          split
          · rename_i q
            have q : 0 < max (f h) (g h) := by (try simp at q); omega
            refine ixN_obj R2.e5 (d := .obj (S.length + 3)) rfl ?_
            simp
            refine wp_sqL R2.e3 ?_
            refine wp_ok (mxm 0 (by omega) _ rfl _ rfl rfl _ eb) ?_
            simp
            refine append_ok R2.e3 (Nat.le_trans ver_len (by omega)) ?_
            try simp
            refine ⟨R2.put3 (by rw [← vt_add (F := fun x => max (f x) (g x)) q]), ?_⟩
            rw [set_ne (by omega)]
            exact eb
          · rename_i q
            have q : ¬ 0 < max (f h) (g h) := by (try simp at q); omega
            try simp
            refine ⟨⟨R2.ext, R2.e0, R2.e1, R2.e2, ?_, R2.e4, R2.e5⟩, eb⟩
            rw [vt_same (F := fun x => max (f x) (g x)) q]
            exact R2.e3
        · rintro u S3 ⟨ρ, rfl, rfl, R3, eb3⟩
          rw [tn_nx, wx_turn]
          refine wx_mono (Q := fun u S1 => ∃ ρ, u = .nx ρ ∧ ρ = [some (.tup (vt l)), some (.tup (vt k)), some (.obj b), some (.obj (S.length + 2)), some (.obj (S.length + 5)), some (.str h), some (.obj B), x7, some (.int 1), none, none, none, none] ∧ RI S l k (fun x => max (f x) (g x)) (fun x => min (f x) (g x)) (dn ++ [h]) (dn ++ [h]) S1) (E := fun _ _ _ => False) ?_ ?_ fun _ _ _ h => h
          · unfold turnX
            rw [wx_lift, target_one, wp_pur]
            simp only [setV, List.set_cons_succ, List.set_cons_zero]
            rw [exs_one, ex_ite, wx_lift, evT_of, wp_bnd, ev_cmp, wp_bnd]
            refine wp_ok (mxm 1 (by omega) _ rfl _ rfl rfl _ eb3) ?_
            simp
            split
            · rename_i q
              have q : 0 < min (f h) (g h) := by (try simp at q); omega
              refine ixN_obj R3.e5 (d := .obj (S.length + 4)) rfl ?_
              simp
              refine wp_sqL R3.e4 ?_
              refine wp_ok (mxm 1 (by omega) _ rfl _ rfl rfl _ eb3) ?_
              simp
              refine append_ok R3.e4 (Nat.le_trans ver_len (by omega)) ?_
              try simp
              exact R3.put4 (by rw [← vt_add (F := fun x => min (f x) (g x)) q])
            · rename_i q
              have q : ¬ 0 < min (f h) (g h) := by (try simp at q); omega
              try simp
              refine ⟨R3.ext, R3.e0, R3.e1, R3.e2, R3.e3, ?_, R3.e5⟩
              rw [vt_same (F := fun x => min (f x) (g x)) q]
              exact R3.e4
          · rintro u S4 ⟨ρ, rfl, rfl, R4⟩
            rw [tn_nx, wx_end, tn_nx]
            exact ⟨dn ++ [h], rest, _, _, _, _, by rw [hy]; simp, rfl, rfl, R4⟩
end K12
end
section
set_option Elab.async false
set_option linter.all false
set_option maxRecDepth 100000
set_option maxHeartbeats 4000000
/-! _law_right, whole. -/
namespace K12
open PySem Qc
theorem at_app' {S l : Sto} {k : Nat} {o : O} (h : l[k]? = some o) : (S ++ l)[S.length + k]? = some o := by
  rw [at_app]
  exact h
theorem wp_upd {n : Nat} {xs : List D} {ps : List PyData} {S : Sto} (h : S[n]? = some (.lst xs)) (hp : D.pds xs = some ps) : upd (.v (.obj n)) S = .ok (.list ps) S := by
  show bnd (look n) _ S = _
  unfold bnd look
  rw [h]
  dsimp only
  rw [hp]
  rfl
theorem sub_all {hs : List Str} {f g : Str → Int} (og : Ok hs g) : ((ver hs f).all fun p => decide (p.2 ≤ g p.1)) = (hs.filter fun h => decide (g h < f h)).isEmpty := by
  rw [Bool.eq_iff_iff, List.all_eq_true, List.isEmpty_iff, List.filter_eq_nil_iff]
  constructor
  · intro a x m
    simp only [decide_eq_true_eq]
    intro q
    have := a (x, f x) (mem_ver.mpr ⟨m, rfl, by have := og.pos x; show 0 < f x; omega⟩)
    simp only [decide_eq_true_eq] at this
    omega
  · intro a p m
    obtain ⟨m1, m2, m3⟩ := mem_ver.mp m
    have := a p.1 m1
    simp only [decide_eq_true_eq] at this ⊢
    omega
theorem eq_emp {xs : List Str} {S : Sto} {Q : Bool → Sto → Prop} {E : Nat → Sto → Prop} (hx : ∀ x ∈ xs, PyData.strOk x = true) (q : Q xs.isEmpty S) : Wp (cop .eq (.l (xs.map .str)) (.l [])) S Q E := by
  rw [cop_eq, upd_l (pds_str xs), upd_l (ps := []) (by unfold D.pds; rfl)]
  simp only [bnd_pur]
  rw [wp_bnd, wp_guard]
  have c : PyData.canLayAll0 (xs.map .str) = true := by
    clear q
    induction xs with
    | nil => rfl
    | cons x xs ih =>
      rw [List.map_cons]
      unfold PyData.canLayAll0
      rw [ih fun y m => hx y (List.mem_cons_of_mem _ m)]
      simp [PyData.canLay0, hx x List.mem_cons_self]
  have d : PyData.depthAll (xs.map .str) ≤ 0 := depth_le fun q m => by
    obtain ⟨x, _, rfl⟩ := List.mem_map.mp m
    simp [PyData.depth]
  refine ⟨?_, ?_⟩
  · rw [Bool.and_eq_true]
    refine ⟨?_, rfl⟩
    unfold PySem.SeqAt.shaped
    simp [PyData.canLay0, PyData.depth, c]
    omega
  · show Q (PyData.eqv (.list (xs.map .str)) (.list [])) S
    have : PyData.eqv (.list (xs.map .str)) (.list []) = xs.isEmpty := by
      cases xs <;> simp [PyData.eqv, PyData.eqvAll]
    rw [this]
    exact q
theorem fm_filter {hs : List Str} {p : Str → Bool} : (hs.map D.str).filterMap (fun d : D => match d with
    | .str x => if p x = true then some (D.str x) else none
    | _ => none) = (hs.filter p).map D.str := by
  induction hs with
  | nil => rfl
  | cons x hs ih =>
    rw [List.map_cons, List.filterMap_cons]
    dsimp only
    by_cases q : p x = true
    · rw [if_pos q, List.filter_cons_of_pos q, ih]
      rfl
    · rw [if_neg q, List.filter_cons_of_neg q, ih]
/-- what is told of the hands that have more in one -/
theorem less_ok {wf n b i j : Nat} {S : Sto} {hs : List Str} {f g : Str → Int} {ρ : Qc.Env} {m0 m1 : Vl} {ci cj : Int} {cc : Nat} (hl : hs.length ≤ 20) (hw : 30 ≤ wf) (hG : ∀ x ∈ hs, x ∈ GH) (h2 : ρ[2]?.bind id = some (.obj b)) (h3 : ∀ d, (setV ρ 5 d)[3]?.bind id = some (.obj cc)) (h5 : ∀ d, (setV ρ 5 d)[5]?.bind id = some d) (hb : S[b]? = some (.lst (hs.map .str))) (hc : S[cc]? = some (.lst [.obj i, .obj j]))
    (x0 x1 : Nat) (e0 : L2.atI [D.obj i, .obj j] ci = some (.obj x0)) (e1 : L2.atI [D.obj i, .obj j] cj = some (.obj x1)) (k0 : S[x0]? = some (.dct (kv m0))) (k1 : S[x1]? = some (.dct (kv m1))) (cf : ∀ x, cnt m0 x = f x) (cg : ∀ x, cnt m1 x = g x) :
    ev ⟨pg, wf, callF pg wf n⟩ (.cmp .eq (.lc (.var 5) [5] true (.of (.var 2)) (.cons (.of (.cmp .gt (.m2 .get (.ix (.var 3) (.lit (.int ci))) (.var 5) (.lit (.int 0))) (.m2 .get (.ix (.var 3) (.lit (.int cj))) (.var 5) (.lit (.int 0))))) .nil)) (.lst .nil)) ρ S = .ok (.v (.bl (hs.filter fun h => decide (g h < f h)).isEmpty)) S := by
  refine evsame ?_
  rw [ev_cmp, wp_bnd, ev_lc, wp_bnd, evI_of, wp_bnd, ev_var, h2]
  simp only [Option.map_some, wp_some]
  show Wp (bnd (look b) _) _ _ _
  rw [wp_bnd, wp_look hb]
  simp only [wp_pur, wp_bnd, lcK]
  refine lcLive_pure (f := fun d => match d with
    | .str x => if decide (g x < f x) = true then some (.str x) else none
    | _ => none) hb (by rw [List.length_map]; omega) (by rw [List.length_map]; show hs.length < wf; omega) ?_ ?_
  · intro x mx
    obtain ⟨h, mh, rfl⟩ := List.mem_map.mp mx
    unfold turnL
    rw [wp_noexc, wp_bnd, target_one, wp_pur]
    simp only [evIfs_one, evT_of, ev_cmp, ev_m2, ev_ix, ev_var, h3, h5, Option.map_some, wp_some, wp_bnd, ev_lit, wp_pur]
    refine ixN_obj hc e0 ?_
    rw [kindM2_obj, wp_bnd]
    refine wp_dcL k0 ?_
    simp only [wp_pur, wp_bnd, get_obj, okey_str, wp_some]
    refine wp_dcL k0 ?_
    rw [get_kv, cf]
    refine ixN_obj hc e1 ?_
    rw [kindM2_obj, wp_bnd]
    refine wp_dcL k1 ?_
    simp only [wp_pur, wp_bnd, get_obj, okey_str, wp_some]
    refine wp_dcL k1 ?_
    rw [get_kv, cg]
    by_cases q : g h < f h
    · simp [h5, q]
    · simp [h5, q]
  · rw [fm_filter]
    simp
    refine eq_emp (fun x m => GH_ok x (hG x (List.mem_filter.mp m).1)) ?_
    exact ⟨rfl, rfl⟩
theorem right_ok {wf n b : Nat} {S : Sto} {hs : List Str} {f g : Str → Int} (hw : 30 ≤ wf) (h : Hs hs) (of : Ok hs f) (og : Ok hs g) (hb : S[b]? = some (.lst (hs.map .str))) : ∃ S', callF pg wf (n + 7) 16 [.tup (vt (ver hs f)), .tup (vt (ver hs g)), .obj b] S = .ok (.v (.bl true)) S' ∧ Ext S S' := by
  have vf : Vr (ver hs f) := ver_vr h
  have vg : Vr (ver hs g) := ver_vr h
  have cg := cnt_ver h og
  have cf := cnt_ver h of
  have oF : Ok hs fun x => max (f x) (g x) := ⟨fun x => by have := of.pos x; show 0 ≤ max (f x) (g x); omega, fun x m => by show max (f x) (g x) = 0; rw [of.out x m, og.out x m]; rfl⟩
  have oG : Ok hs fun x => min (f x) (g x) := ⟨fun x => by have := of.pos x; have := og.pos x; show 0 ≤ min (f x) (g x); omega, fun x m => by show min (f x) (g x) = 0; rw [of.out x m, og.out x m]; rfl⟩
  have zn : ("zzz" : Str) ∉ hs := fun m => absurd (h.ok _ m) (by decide +kernel)
  refine more (wp_call (F := f__law_right) rfl rfl rfl ?_)
  rw [show startE f__law_right [.tup (vt (ver hs f)), .tup (vt (ver hs g)), .obj b] = [some (.tup (vt (ver hs f))), some (.tup (vt (ver hs g))), some (.obj b), none, none, none, none, none, none, none, none, none, none] from rfl, show f__law_right.body = b__law_right from rfl]
  unfold b__law_right
  rw [wx_asg]
  refine wp_mono (Q := fun u S1 => u = .l [.obj S.length, .obj (S.length + 1)] ∧ S1 = S ++ [.dct (kv (ver hs f)), .dct (kv (ver hs g))]) (E := fun _ _ => False) ?_ ?_ fun _ _ h => h
  · simp [-dict_tup]
    rw [dict_vt (S := S) (by have := vf.len; omega) vf.ne]
    simp [-dict_tup]
    rw [dict_vt (S := S) (by have := vg.len; omega) vg.ne]
    simp
  rintro u S1 ⟨rfl, rfl⟩
  rw [settle_l, wp_alloc, wx_asg]
  simp only [List.set_cons_succ, List.set_cons_zero]
  refine wp_mono (Q := fun u S1 => u = .l [.obj (S.length + 3), .obj (S.length + 4)] ∧ S1 = S ++ [.dct (kv (ver hs f)), .dct (kv (ver hs g)), .lst [.obj S.length, .obj (S.length + 1)], .lst [], .lst []]) (E := fun _ _ => False) ?_ ?_ fun _ _ h => h
  · simp
  rintro u S1 ⟨rfl, rfl⟩
  rw [settle_l, wp_alloc]
  simp only [List.set_cons_succ, List.set_cons_zero, List.length_append, List.length_cons, List.length_nil, Nat.zero_add, List.append_assoc, List.cons_append, List.nil_append]
  have R0 : RI S (ver hs f) (ver hs g) (fun x => max (f x) (g x)) (fun x => min (f x) (g x)) [] [] (S ++ [.dct (kv (ver hs f)), .dct (kv (ver hs g)), .lst [.obj S.length, .obj (S.length + 1)], .lst [], .lst [], .lst [.obj (S.length + 3), .obj (S.length + 4)]]) := ⟨Ext.app _ _, at_app' (k := 0) rfl, at_app' rfl, at_app' rfl, at_app' rfl, at_app' rfl, at_app' rfl⟩
  rw [show S.length + (1 + 1) = S.length + 2 from rfl, show S.length + (1 + 1 + 1 + 1 + 1) = S.length + 5 from rfl] 
  generalize S ++ [.dct (kv (ver hs f)), .dct (kv (ver hs g)), .lst [.obj S.length, .obj (S.length + 1)], .lst [], .lst [], .lst [.obj (S.length + 3), .obj (S.length + 4)]] = S2 at *
  rw [exs_cons, wx_seq, ex_for, wx_lift]
  refine wp_mono (Q := fun u S1 => u = .items ((hs ++ [("zzz" : Str)]).map .str) ∧ S1 = S2) (E := fun _ _ => False) ?_ ?_ fun _ _ h => h
  · have hl := h.len
    simp
    show Wp (bop .add (.v (.obj b)) _) _ _ _
    show Wp (bnd (bnd (look b) _) _) _ _ _
    rw [wp_bnd, wp_bnd, wp_look (R0.ext _ _ hb)]
    simp [lsO]
    refine ⟨okLen_lit (by omega), rfl, rfl⟩
  rintro u S3 ⟨rfl, rfl⟩
  unfold forK
  dsimp only
  refine wx_forGo (I := RInv wf b S (ver hs f) (ver hs g) (fun x => max (f x) (g x)) (fun x => min (f x) (g x)) (hs ++ [("zzz" : Str)])) ?_ ?_ ⟨[], hs ++ [("zzz" : Str)], _, _, _, _, rfl, rfl, rfl, R0⟩
  · rintro x xs ρ S4 ⟨dn, rest, x5, x6, x7, x8, e1, e2, rfl, R⟩
    cases rest with
    | nil => cases e2
    | cons y rest =>
      rw [List.map_cons] at e2
      injection e2 with e2 e3
      subst e2
      subst e3
      exact turn_ok (hs := hs) hw vf vg cf cg (by rw [List.length_append]; have := h.len; simp; omega) e1 R
  · rintro ρ S4 ⟨dn, rest, x5, x6, x7, x8, e1, e2, rfl, R⟩
    cases rest with
    | cons y rest => cases e2
    | nil =>
      rw [List.append_nil] at e1
      subst e1
      have vF : ver (hs ++ [("zzz" : Str)]) (fun x => max (f x) (g x)) = ver hs fun x => max (f x) (g x) := vt_same (by rw [of.out _ zn, og.out _ zn]; decide)
      have vG : ver (hs ++ [("zzz" : Str)]) (fun x => min (f x) (g x)) = ver hs fun x => min (f x) (g x) := vt_same (by rw [of.out _ zn, og.out _ zn]; decide)
      have r3 := R.e3
      have r4 := R.e4
      rw [vF] at r3
      rw [vG] at r4
      rw [nx_nx, wx_asg]
      have cF := cnt_ver h oF
      have W : ∀ (p q : Str → Int) (S : Sto), Ok hs p → Ok hs q → ∃ S', callF pg wf (n + 6) 8 [.tup (vt (ver hs p)), .tup (vt (ver hs q))] S = .ok (.v (.bl (hs.filter fun x => decide (q x < p x)).isEmpty)) S' ∧ Ext S S' := by
        intro p q S op oq
        have := @within_ok wf n S (ver hs p) (ver hs q) (ver_vr h) (ver_vr h)
        rw [← sub_all oq]
        simpa [cnt_ver h oq] using this
      have emp : ∀ (p q : Str → Int), (∀ x, p x ≤ q x) → (hs.filter fun x => decide (q x < p x)).isEmpty = true := by
        intro p q a
        rw [List.isEmpty_iff, List.filter_eq_nil_iff]
        intro x _
        have := a x
        simp
        omega
      refine wp_mono (Q := fun u S1 => u = .l [.tup (vt (ver hs fun x => max (f x) (g x))), .tup (vt (ver hs fun x => min (f x) (g x)))] ∧ Ext S4 S1) (E := fun _ _ => False) ?_ ?_ fun _ _ h => h
      · obtain ⟨S5, e5, x5⟩ := @joined_ok wf n S4 hs f g h of og
        obtain ⟨S6, e6, x6⟩ := @common_ok wf n S5 hs f g h of og
        simp
        refine wp_ok e5 ?_
        simp
        refine wp_ok e6 ?_
        simp
        exact x5.trans x6
      rintro u S5 ⟨rfl, X5⟩
      rw [settle_l, wp_alloc]
      have R6 := (R.app X5).app (Ext.app S5 [.lst [.tup (vt (ver hs fun x => max (f x) (g x))), .tup (vt (ver hs fun x => min (f x) (g x)))]])
      have r3 := Ext.app S5 [.lst [.tup (vt (ver hs fun x => max (f x) (g x))), .tup (vt (ver hs fun x => min (f x) (g x)))]] _ _ (X5 _ _ r3)
      have r4 := Ext.app S5 [.lst [.tup (vt (ver hs fun x => max (f x) (g x))), .tup (vt (ver hs fun x => min (f x) (g x)))]] _ _ (X5 _ _ r4)
      have ef := last_at S5 (.lst [.tup (vt (ver hs fun x => max (f x) (g x))), .tup (vt (ver hs fun x => min (f x) (g x)))])
      generalize S5 ++ [.lst [.tup (vt (ver hs fun x => max (f x) (g x))), .tup (vt (ver hs fun x => min (f x) (g x)))]] = S6 at *
      generalize S5.length = J at *
      simp only [List.set_cons_succ, List.set_cons_zero]
      rw [exs_cons, wx_seq, ex_ite, wx_lift]
      refine wp_mono (Q := fun u S1 => u = false ∧ S1 = S6) (E := fun _ _ => False) ?_ ?_ fun _ _ h => h
      · simp
        refine ixN_obj R6.e5 (d := .obj (S.length + 3)) rfl ?_
        simp
        refine wp_sq r3 ?_
        try simp
        refine ixN_obj R6.e5 (d := .obj (S.length + 4)) rfl ?_
        simp
        refine wp_sq r4 ?_
        try simp
        have pt : ∀ l : Vl, (D.tup (vt l)).pd = some (.tuple (l.map fun p => .tuple [.str p.1, .int p.2])) := fun l => by unfold D.pd; rw [pds_vt]; rfl
        have hp : D.pds [.tup (vt (ver hs fun x => max (f x) (g x))), .tup (vt (ver hs fun x => min (f x) (g x)))] = some [.tuple ((ver hs fun x => max (f x) (g x)).map fun p => .tuple [.str p.1, .int p.2]), .tuple ((ver hs fun x => min (f x) (g x)).map fun p => .tuple [.str p.1, .int p.2])] := pds_cons (pt _) (pds_cons (pt _) (by unfold D.pds; rfl))
        refine wp_nsame (wp_upd ef hp) (by rw [upd_l hp]; rfl) ?_ ?_
        · have s1 := shaped_vt (l := ver hs fun x => max (f x) (g x)) (fun p m => ((ver_vr h).ok p m).1) .tuple (.inr rfl)
          have s2 := shaped_vt (l := ver hs fun x => min (f x) (g x)) (fun p m => ((ver_vr h).ok p m).1) .tuple (.inr rfl)
          have d1 : ∀ l : Vl, PyData.depthAll (l.map fun p => PyData.tuple [.str p.1, .int p.2]) ≤ 1 := fun l => depth_le fun q m => by
            obtain ⟨x, _, rfl⟩ := List.mem_map.mp m
            simp [PyData.depth, PyData.depthAll]
          have a1 := d1 (ver hs fun x => max (f x) (g x))
          have a2 := d1 (ver hs fun x => min (f x) (g x))
          unfold PySem.SeqAt.shaped at *
          simp [PyData.canLay0, PyData.canLayAll0, PyData.depth, PyData.depthAll] at s1 s2 ⊢
          refine ⟨⟨s1.1, s2.1⟩, by omega⟩
        · simp
      rintro u S7 ⟨rfl, rfl⟩
      rw [if_neg (by decide), exs_nil, wx_go, nx_nx, wx_asg]
      refine wp_mono (Q := fun u S1 => u = .l [.bl (hs.filter fun x => decide (g x < f x)).isEmpty, .bl (hs.filter fun x => decide (f x < g x)).isEmpty, .bl true, .bl true] ∧ Ext S7 S1) (E := fun _ _ => False) ?_ ?_ fun _ _ h => h
      · obtain ⟨T1, w1, y1⟩ := W f g S7 of og
        obtain ⟨T2, w2, y2⟩ := W g f T1 og of
        obtain ⟨T3, w3, y3⟩ := W f (fun x => max (f x) (g x)) T2 of oF
        obtain ⟨T4, w4, y4⟩ := W (fun x => min (f x) (g x)) g T3 oG og
        rw [emp _ _ (fun x => by show f x ≤ max (f x) (g x); omega)] at w3
        rw [emp _ _ (fun x => by show min (f x) (g x) ≤ g x; omega)] at w4
        simp
        refine wp_ok w1 ?_
        simp
        refine wp_ok w2 ?_
        simp
        refine ixN_obj (y2 _ _ (y1 _ _ ef)) (d := .tup (vt (ver hs fun x => max (f x) (g x)))) rfl ?_
        simp
        refine wp_ok w3 ?_
        simp
        refine ixN_obj (y3 _ _ (y2 _ _ (y1 _ _ ef))) (d := .tup (vt (ver hs fun x => min (f x) (g x)))) rfl ?_
        simp
        refine wp_ok w4 ?_
        simp
        exact ((y1.trans y2).trans y3).trans y4
      rintro u S8 ⟨rfl, X8⟩
      rw [settle_l, wp_alloc]
      have R9 := (R6.app X8).app (Ext.app S8 [.lst [.bl (hs.filter fun x => decide (g x < f x)).isEmpty, .bl (hs.filter fun x => decide (f x < g x)).isEmpty, .bl true, .bl true]])
      have eh := last_at S8 (.lst [.bl (hs.filter fun x => decide (g x < f x)).isEmpty, .bl (hs.filter fun x => decide (f x < g x)).isEmpty, .bl true, .bl true])
      generalize S8 ++ [.lst [.bl (hs.filter fun x => decide (g x < f x)).isEmpty, .bl (hs.filter fun x => decide (f x < g x)).isEmpty, .bl true, .bl true]] = S9 at *
      generalize S8.length = J2 at *
      simp only [List.set_cons_succ, List.set_cons_zero]
      have hb9 := R9.ext _ _ hb
      rw [wx_asg]
      refine wp_ok (less_ok (hs := hs) (f := f) (g := g) h.len hw h.ok rfl (fun d => rfl) (fun d => rfl) hb9 R9.e2 S.length (S.length + 1) rfl rfl R9.e0 R9.e1 cf cg) ?_
      rw [settle_v, wp_pur, wx_asg]
      simp only [List.set_cons_succ, List.set_cons_zero]
      refine wp_ok (less_ok (hs := hs) (f := g) (g := f) h.len hw h.ok rfl (fun d => rfl) (fun d => rfl) hb9 R9.e2 (S.length + 1) S.length rfl rfl R9.e1 R9.e0 cg cf) ?_
      rw [settle_v, wp_pur]
      try simp only [List.set_cons_succ, List.set_cons_zero]
      generalize (hs.filter fun x => decide (g x < f x)).isEmpty = b1 at *
      generalize (hs.filter fun x => decide (f x < g x)).isEmpty = b2 at *
      have p4 : ∀ b1 b2 b3 b4 : Bool, D.pds [.bl b1, .bl b2, .bl b3, .bl b4] = some [.bool b1, .bool b2, .bool b3, .bool b4] := fun _ _ _ _ => by simp [D.pds, D.pd]
      have s4 : ∀ b1 b2 b3 b4 : Bool, PySem.SeqAt.shaped (.list [.bool b1, .bool b2, .bool b3, .bool b4]) = true := fun _ _ _ _ => by simp [PySem.SeqAt.shaped, PyData.canLay0, PyData.canLayAll0, PyData.depth, PyData.depthAll]
      rw [exs_one, ex_ret, wx_lift, ev_and, evAnd_cons, wp_bnd, ev_cmp, wp_bnd]
      simp only [ev_var, ev_lst, evs_cons, evs_nil, ev_lit, wp_bnd, wp_pur, List.getElem?_cons_succ, List.getElem?_cons_zero, Option.bind_some, id, Option.map_some, wp_some, settle_v, wp_guard]
      refine ⟨okLen_lit (by simp), wp_same (wp_upd eh (p4 b1 b2 true true)) (by rw [upd_l (p4 b1 b2 true true)]; rfl) (s4 _ _ _ _) ?_⟩
      rw [tru_bl, wp_pur, if_pos rfl, evAnd_one, ev_cmp, wp_bnd, ev_lc, wp_bnd, evI_of, wp_bnd, ev_var]
      simp only [List.getElem?_cons_succ, List.getElem?_cons_zero, Option.bind_some, id, Option.map_some, wp_some]
      show Wp (bnd (look J2) _) _ _ _
      rw [wp_bnd, wp_look eh]
      simp only [wp_pur, wp_bnd, lcK]
      refine lcLive_pure (f := fun _ => some (.bl true)) eh (by simp) (by simp; omega) ?_ ?_
      · intro x mx
        have : ∃ c, x = D.bl c := by
          simp only [List.mem_cons, List.mem_nil_iff, or_false] at mx
          rcases mx with rfl | rfl | rfl | rfl
          · exact ⟨_, rfl⟩
          · exact ⟨_, rfl⟩
          · exact ⟨_, rfl⟩
          · exact ⟨_, rfl⟩
        obtain ⟨c, rfl⟩ := this
        simp [turnL, setV]
      · simp
        have : bop .mul (.l [.bl true]) (.v (.int 4)) = bnd (guard (decide ((0 : Int) ≤ 4) && decide ((4 : Int) < 1000000) && okLen (1 * 4))) fun _ => pur (.l [.bl true, .bl true, .bl true, .bl true]) := rfl
        rw [this]
        simp
        refine wp_same (by rw [upd_l (p4 true true true true)]; rfl) (by rw [upd_l (p4 true true true true)]; rfl) (s4 _ _ _ _) ?_
        exact ⟨rfl, R9.ext⟩
end K12
end
section
set_option Elab.async false
set_option linter.all false
set_option maxRecDepth 100000
set_option maxHeartbeats 4000000
/-! The law k12. -/
namespace K12
open PySem Qc
def hs0 : List Str := ["a", "ab", "b", "c", "zz"]
def hs1 : List Str := ["a", "b", "c", "d", "e"]
theorem hs0_ok : Hs hs0 := ⟨by decide, by decide +kernel, by unfold hlt; decide +kernel⟩
theorem hs1_ok : Hs hs1 := ⟨by decide, by decide +kernel, by unfold hlt; decide +kernel⟩
theorem Odd.mono {S S' : Sto} {d : D} (o : Odd S d) (e : Ext S S') : Odd S' d := fun S2 e2 => o S2 (e.trans e2)
theorem odd_at {S : Sto} {a1 a2 a3 a4 : Nat} {xs ys zs : List D} {ks : List (D × D)} (h1 : S[a1]? = some (.lst xs)) (h2 : S[a2]? = some (.lst ys)) (h3 : S[a3]? = some (.dct ks)) (h4 : S[a4]? = some (.lst zs)) {k : Int} (k0 : 0 ≤ k) (k1 : k < 14) : ∃ d, L2.atI [D.non, .int 5, .str "a", .obj a1, .obj a2, .tup [.tup [.str "a", .int 0]], .tup [.tup [.str "b", .int 1], .tup [.str "a", .int 1]], .tup [.tup [.str "a", .int 1], .tup [.str "a", .int 2]], .tup [.str "a", .int 1], .obj a3, .tup [.tup [.str "A", .int 1]], .tup [.tup [.str "a", .bl true]], .tup [.tup [.str "a", .int 1, .int 1]], .tup [.obj a4]] k = some d ∧ Odd S d := by
  have : k = 0 ∨ k = 1 ∨ k = 2 ∨ k = 3 ∨ k = 4 ∨ k = 5 ∨ k = 6 ∨ k = 7 ∨ k = 8 ∨ k = 9 ∨ k = 10 ∨ k = 11 ∨ k = 12 ∨ k = 13 := by omega
  rcases this with rfl | rfl | rfl | rfl | rfl | rfl | rfl | rfl | rfl | rfl | rfl | rfl | rfl | rfl
  · exact ⟨_, rfl, odd_non⟩
  · exact ⟨_, rfl, odd_int⟩
  · exact ⟨_, rfl, odd_str⟩
  · exact ⟨_, rfl, odd_obj h1 rfl⟩
  · exact ⟨_, rfl, odd_obj h2 rfl⟩
  · exact ⟨_, rfl, odd_zero⟩
  · exact ⟨_, rfl, odd_ba⟩
  · exact ⟨_, rfl, odd_aa⟩
  · exact ⟨_, rfl, odd_pair⟩
  · exact ⟨_, rfl, odd_obj h3 rfl⟩
  · exact ⟨_, rfl, odd_A⟩
  · exact ⟨_, rfl, odd_T⟩
  · exact ⟨_, rfl, odd_3⟩
  · exact ⟨_, rfl, odd_tobj h4 rfl⟩
theorem ne_nv {S : Sto} {Q : Bool → Sto → Prop} {E : Nat → Sto → Prop} (q : Q false S) : Wp (cop .ne (.v (.str "NoVersion")) (.v (.str "NoVersion"))) S Q E := by
  have e : upd (.v (.str "NoVersion")) = pur (.str "NoVersion") := upd_v (by unfold D.pd; rfl)
  exact wp_nsame (p := .str "NoVersion") (by rw [e]; rfl) (by rw [e]; rfl) (by decide +kernel) q
def LInv (ns : List Int) (b : Nat) (hs : List Str) (xs : List D) (ρ : Qc.Env) (S : Sto) : Prop := ∃ (rest : List Int) (x2 x3 x4 x5 x6 x7 x8 : Option D), xs = rest.map .int ∧ (∀ k ∈ rest, 0 ≤ k ∧ k ≤ 100) ∧ ρ = [some (.fl (intD ns)), some (.obj b), x2, x3, x4, x5, x6, x7, x8] ∧ S[b]? = some (.lst (hs.map .str))
def WInv (ρ0 : Qc.Env) (S0 : Sto) (xs : List D) (ρ : Qc.Env) (S : Sto) : Prop := ∃ (rest : List Int) (x8 : Option D), xs = rest.map .int ∧ (∀ k ∈ rest, 0 ≤ k ∧ k ≤ 3) ∧ ρ = ρ0.set 8 x8 ∧ Ext S0 S
theorem turn_law {wf n b : Nat} {S : Sto} {ns : List Int} {hs : List Str} {k : Int} {rest : List Int} {x2 x3 x4 x5 x6 x7 x8 : Option D} {Q : Fl → Sto → Prop} (hw : 30 ≤ wf) (h : Hs hs) (k0 : 0 ≤ k) (k1 : k ≤ 100) (hr : ∀ k ∈ rest, 0 ≤ k ∧ k ≤ 100) (hb : S[b]? = some (.lst (hs.map .str))) :
    Wx (turnX ⟨pg, wf, callF pg wf (n + 7)⟩ [2] true (match b_law with
      | .cons _ (.cons (.for_ _ _ _ ss) _) => ss
      | _ => .nil) (.int k) [some (.fl (intD ns)), some (.obj b), x2, x3, x4, x5, x6, x7, x8]) S (Tn (LInv ns b hs (rest.map .int)) Q) fun _ _ _ => False := by
  unfold turnX b_law
  dsimp only
  rw [wx_lift, target_one, wp_pur]
  simp only [setV, List.set_cons_succ, List.set_cons_zero]
  have num : ∀ S, ∃ i : Int, callF pg wf (n + 7) 12 [.fl (intD ns), .int k] S = .ok (.v (.int i)) S := by
    intro S
    have := @number_ok wf (n + 6) S ns k.toNat (by omega)
    rwa [show ((k.toNat : Nat) : Int) = k by omega] at this
  have lb := (List.getElem?_eq_some_iff.mp hb).1
  obtain ⟨i, hi⟩ := num S
  rw [wx_asg]
  refine wp_mono (Q := fun u S1 => u = .l [.int i] ∧ S1 = S) (E := fun _ _ => False) ?_ ?_ fun _ _ h => h
  · simp
    refine wp_ok hi ?_
    simp
  rintro u S1 ⟨rfl, rfl⟩
  rw [settle_l, wp_alloc]
  have ha := last_at S1 (.lst [.int i])
  have hb1 := Ext.app S1 [.lst [.int i]] _ _ hb
  have nab : S1.length ≠ b := by omega
  generalize S1 ++ [.lst [.int i]] = S2 at *
  generalize S1.length = a at *
  clear hb lb
  simp only [List.set_cons_succ, List.set_cons_zero]
  rw [wx_asg]
  obtain ⟨f, S3, i3, ef, of, X3, ha3⟩ := @version_drawn wf (n + 5) a b S2 hs i h hw nab ha hb1
  have hb3 := X3 _ _ (fun e => nab e.symm) hb1
  refine wp_mono (Q := fun u S1 => u = .v (.tup (vt (ver hs f))) ∧ S1 = S3) (E := fun _ _ => False) ?_ ?_ fun _ _ h => h
  · simp
    refine wp_ok ef ?_
    simp
  rintro u S4 ⟨rfl, rfl⟩
  rw [settle_v, wp_pur, wx_asg]
  simp only [List.set_cons_succ, List.set_cons_zero]
  obtain ⟨g, S5, i5, eg, og, X5, ha5⟩ := @version_drawn wf (n + 5) a b S4 hs i3 h hw nab ha3 hb3
  have hb5 := X5 _ _ (fun e => nab e.symm) hb3
  refine wp_mono (Q := fun u S1 => u = .v (.tup (vt (ver hs g))) ∧ S1 = S5) (E := fun _ _ => False) ?_ ?_ fun _ _ h => h
  · simp
    refine wp_ok eg ?_
    simp
  rintro u S6 ⟨rfl, rfl⟩
  rw [settle_v, wp_pur, exs_cons, wx_seq, ex_ite, wx_lift]
  try simp only [List.set_cons_succ, List.set_cons_zero]
  obtain ⟨S7, e7, X7⟩ := @right_ok wf n b S6 hs f g hw h of og hb5
  obtain ⟨S8, e8, X8⟩ := @right_ok wf n b S7 hs f f hw h of of (X7 _ _ hb5)
  have hb8 := X8 _ _ (X7 _ _ hb5)
  refine wp_mono (Q := fun u S1 => u = false ∧ S1 = S8) (E := fun _ _ => False) ?_ ?_ fun _ _ h => h
  · simp
    refine wp_ok e7 ?_
    simp
    refine wp_ok e8 ?_
    simp
  rintro u S9 ⟨rfl, rfl⟩
  rw [if_neg (by decide), exs_nil, wx_go, nx_nx, wx_asg]
  clear e7 e8 X7 X8 hb5 X5 eg ef X3 ha ha3 ha5 hb3 hb1
  refine wp_mono (Q := fun u S1 => u = .l [.non, .int 5, .str "a", .obj S9.length, .obj (S9.length + 1), .tup [.tup [.str "a", .int 0]], .tup [.tup [.str "b", .int 1], .tup [.str "a", .int 1]], .tup [.tup [.str "a", .int 1], .tup [.str "a", .int 2]], .tup [.str "a", .int 1], .obj (S9.length + 2)] ∧ S1 = S9 ++ [.lst [], .lst [.tup [.str "a", .int 1]], .dct []]) (E := fun _ _ => False) ?_ ?_ fun _ _ h => h
  · simp
  rintro u S10 ⟨rfl, rfl⟩
  rw [settle_l, wp_alloc]
  simp only [List.set_cons_succ, List.set_cons_zero]
  have q1 : (S9 ++ [.lst [], .lst [.tup [.str "a", .int 1]], .dct []])[S9.length]? = some (.lst []) := at_app' (k := 0) rfl
  have q2 : (S9 ++ [.lst [], .lst [.tup [.str "a", .int 1]], .dct []])[S9.length + 1]? = some (.lst [.tup [.str "a", .int 1]]) := at_app' rfl
  have q3 : (S9 ++ [.lst [], .lst [.tup [.str "a", .int 1]], .dct []])[S9.length + 2]? = some (.dct []) := at_app' rfl
  have hb9 := Ext.app S9 [.lst [], .lst [.tup [.str "a", .int 1]], .dct []] _ _ hb8
  generalize S9 ++ [.lst [], .lst [.tup [.str "a", .int 1]], .dct []] = S10 at *
  generalize S9.length = N at *
  clear hb8
  have q4 := last_at S10 (.lst [.non, .int 5, .str "a", .obj N, .obj (N + 1), .tup [.tup [.str "a", .int 0]], .tup [.tup [.str "b", .int 1], .tup [.str "a", .int 1]], .tup [.tup [.str "a", .int 1], .tup [.str "a", .int 2]], .tup [.str "a", .int 1], .obj (N + 2)])
  have X := Ext.app S10 [.lst [.non, .int 5, .str "a", .obj N, .obj (N + 1), .tup [.tup [.str "a", .int 0]], .tup [.tup [.str "b", .int 1], .tup [.str "a", .int 1]], .tup [.tup [.str "a", .int 1], .tup [.str "a", .int 2]], .tup [.str "a", .int 1], .obj (N + 2)]]
  replace q1 := X _ _ q1
  replace q2 := X _ _ q2
  replace q3 := X _ _ q3
  replace hb9 := X _ _ hb9
  generalize S10 ++ [.lst [.non, .int 5, .str "a", .obj N, .obj (N + 1), .tup [.tup [.str "a", .int 0]], .tup [.tup [.str "b", .int 1], .tup [.str "a", .int 1]], .tup [.tup [.str "a", .int 1], .tup [.str "a", .int 2]], .tup [.str "a", .int 1], .obj (N + 2)]] = S11 at *
  generalize S10.length = M at *
  clear X
  rw [wx_asg]
  refine wp_mono (Q := fun u S1 => u = .l [.non, .int 5, .str "a", .obj N, .obj (N + 1), .tup [.tup [.str "a", .int 0]], .tup [.tup [.str "b", .int 1], .tup [.str "a", .int 1]], .tup [.tup [.str "a", .int 1], .tup [.str "a", .int 2]], .tup [.str "a", .int 1], .obj (N + 2), .tup [.tup [.str "A", .int 1]], .tup [.tup [.str "a", .bl true]], .tup [.tup [.str "a", .int 1, .int 1]], .tup [.obj S11.length]] ∧ S1 = S11 ++ [.lst [.str "a", .int 1]]) (E := fun _ _ => False) ?_ ?_ fun _ _ h => h
  · simp
    show Wp (bnd (bnd (look M) _) _) _ _ _
    rw [wp_bnd, wp_bnd, wp_look (Ext.app _ _ _ _ q4)]
    simp [lsO]
  rintro u S12 ⟨rfl, rfl⟩
  rw [settle_l, wp_alloc]
  simp only [List.set_cons_succ, List.set_cons_zero]
  have q5 := last_at S11 (.lst [.str "a", .int 1])
  have X := Ext.app S11 [.lst [.str "a", .int 1]]
  replace q1 := X _ _ q1
  replace q2 := X _ _ q2
  replace q3 := X _ _ q3
  replace hb9 := X _ _ hb9
  clear q4 X
  generalize S11 ++ [.lst [.str "a", .int 1]] = S12 at *
  generalize S11.length = M2 at *
  generalize hos : [D.non, .int 5, .str "a", .obj N, .obj (N + 1), .tup [.tup [.str "a", .int 0]], .tup [.tup [.str "b", .int 1], .tup [.str "a", .int 1]], .tup [.tup [.str "a", .int 1], .tup [.str "a", .int 2]], .tup [.str "a", .int 1], .obj (N + 2), .tup [.tup [.str "A", .int 1]], .tup [.tup [.str "a", .bl true]], .tup [.tup [.str "a", .int 1, .int 1]], .tup [.obj M2]] = os at *
  have q6 := last_at S12 (.lst os)
  have X := Ext.app S12 [.lst os]
  replace q1 := X _ _ q1
  replace q2 := X _ _ q2
  replace q3 := X _ _ q3
  replace q5 := X _ _ q5
  replace hb9 := X _ _ hb9
  clear X
  generalize S12 ++ [.lst os] = S13 at *
  generalize S12.length = M3 at *
  obtain ⟨j, hj⟩ := num S13
  obtain ⟨d, hd, od⟩ := odd_at q1 q2 q3 q5 (k := (j / 3 + k) % 14) (Int.emod_nonneg _ (by omega)) (Int.emod_lt_of_pos _ (by omega))
  rw [hos] at hd
  rw [wx_asg]
  refine wp_mono (Q := fun u S1 => u = .v d ∧ S1 = S13) (E := fun _ _ => False) ?_ ?_ fun _ _ h => h
  · simp
    refine wp_ok hj ?_
    simp
    refine ixN_obj q6 hd ?_
    simp
  rintro u S14 ⟨rfl, rfl⟩
  rw [settle_v, wp_pur, exs_one, ex_for, wx_lift]
  simp only [List.set_cons_succ, List.set_cons_zero]
  refine wp_mono (Q := fun u S1 => u = .items ([0, 1, 2, 3].map .int) ∧ S1 = S14) (E := fun _ _ => False) ?_ ?_ fun _ _ h => h
  · simp [small62]
    rfl
  rintro u S15 ⟨rfl, rfl⟩
  unfold forK
  dsimp only
  refine wx_forGo (I := WInv [some (.fl (intD ns)), some (.obj b), some (.int k), some (.obj a), some (.tup (vt (ver hs f))), some (.tup (vt (ver hs g))), some (.obj M3), some d, x8] S15) ?_ ?_ ⟨[0, 1, 2, 3], x8, rfl, by decide, rfl, Ext.refl _⟩
  · rintro x xs ρ S4 ⟨rest, x8, e1, e2, rfl, X⟩
    cases rest with
    | nil => cases e1
    | cons w rest =>
      rw [List.map_cons] at e1
      injection e1 with e1 e3
      subst e1
      subst e3
      have ew := e2 w List.mem_cons_self
      unfold turnX
      rw [wx_lift, target_one, wp_pur]
      simp only [setV, List.set_cons_succ, List.set_cons_zero]
      obtain ⟨S5, e5, X5⟩ := @refused_1 wf n S4 d (.tup (vt (ver hs f))) w ew (od.mono X)
      rw [exs_cons, wx_seq, ex_ite, wx_lift]
      refine wp_mono (Q := fun u S1 => u = false ∧ S1 = S5) (E := fun _ _ => False) ?_ ?_ fun _ _ h => h
      · simp
        refine wp_ok e5 ?_
        refine ne_nv ?_
        simp
      rintro u S6 ⟨rfl, rfl⟩
      rw [if_neg (by decide), exs_nil, wx_go, nx_nx, exs_one, ex_ite, wx_lift]
      have X6 := X.trans X5
      refine wp_mono (Q := fun u S1 => u = false ∧ Ext S15 S1) (E := fun _ _ => False) ?_ ?_ fun _ _ h => h
      · by_cases w3 : w < 3
        · obtain ⟨S7, e7, X7⟩ := @refused_2 wf n S6 d (ver hs f) w ⟨ew.1, w3⟩ (ver_vr h) (od.mono X6)
          simp [w3]
          refine wp_ok e7 ?_
          refine ne_nv ?_
          simp
          exact X6.trans X7
        · simp [w3]
          exact X6
      rintro u S7 ⟨rfl, X7⟩
      rw [if_neg (by decide), exs_nil, wx_go, tn_nx]
      exact ⟨rest, _, rfl, fun k m => e2 k (List.mem_cons_of_mem _ m), rfl, X7⟩
  · rintro ρ S4 ⟨rest', x8, e1, e2, rfl, X⟩
    rw [tn_nx]
    exact ⟨rest, _, _, _, _, _, _, _, rfl, hr, rfl, X _ _ hb9⟩
end K12
end
section
set_option Elab.async false
set_option linter.all false
set_option maxRecDepth 100000
set_option maxHeartbeats 4000000
/-! The law k12, whole. -/
namespace K12
open PySem Qc
theorem intsFrom_mem : ∀ {n : Nat} {a : Int}, Qc.intsFrom a n = (List.range n).map fun i : Nat => D.int (a + (i : Int))
  | 0, a => rfl
  | n + 1, a => by
    unfold Qc.intsFrom
    rw [intsFrom_mem, List.range_succ_eq_map, List.map_cons, List.map_map]
    congr 1
    · simp
    · refine List.map_congr_left fun i _ => ?_
      simp only [Function.comp]
      congr 1
      push_cast
      omega
theorem law_ok {wf : Nat} (hw : 30 ≤ wf) (ns : List Int) (hl : ns.length ≤ 63) : ∃ S', callF pg wf 24 17 [.fl (intD ns)] [] = .ok (.v (.bl true)) S' := by
  suffices z : Wp (callF pg wf 24 17 [.fl (intD ns)]) [] (fun u _ => u = .v (.bl true)) fun _ _ => False by
    obtain ⟨x, S', e, rfl⟩ := wp_run z
    exact ⟨S', e⟩
  refine wp_call (F := f_law) rfl rfl rfl ?_
  rw [show startE f_law [.fl (intD ns)] = [some (.fl (intD ns)), none, none, none, none, none, none, none, none] from rfl, show f_law.body = b_law from rfl]
  unfold b_law
  have lenD : ((intD ns).length : Int) = (ns.length : Int) := by unfold intD; rw [List.length_map]
  have fin : ∀ (S : Sto) (ρ : Qc.Env), Wx (exs ⟨pg, wf, callF pg wf 23⟩ (.cons (.ret (.and (.cons (.cmp .eq (.call 9 (.cons (.tup .nil) (.cons (.tup .nil) .nil))) (.tup .nil)) (.cons (.cmp .is_ (.call 8 (.cons (.tup .nil) (.cons (.tup .nil) .nil))) (.lit (.bl true))) .nil)))) .nil) ρ) S (Rt fun u _ => u = .v (.bl true)) fun _ _ _ => False := by
    intro S ρ
    have h0 : Hs [] := ⟨by decide, by simp, .nil⟩
    have o0 : Ok [] fun _ => 0 := ⟨fun _ => by simp, fun _ _ => rfl⟩
    obtain ⟨S1, e1, X1⟩ := @joined_ok wf 17 S [] (fun _ => 0) (fun _ => 0) h0 o0 o0
    obtain ⟨S2, e2, X2⟩ := @within_ok wf 17 S1 [] [] (ver_vr (f := fun _ => 0) h0) (ver_vr (f := fun _ => 0) h0)
    have u0 : upd (.v (.tup [])) = pur (.tuple []) := upd_v (by unfold D.pd D.pds; rfl)
    simp
    refine wp_ok e1 ?_
    simp
    refine wp_same (p := .tuple []) (by rw [show vt (ver [] fun _ => 0) = [] from rfl, u0]; rfl) (by rw [u0]; rfl) (by decide +kernel) ?_
    simp
    refine wp_ok e2 ?_
    simp
  have main : ∀ (S : Sto) (b : Nat) (hs : List Str) (x2 x3 x4 x5 x6 x7 x8 : Option D), Hs hs → S[b]? = some (.lst (hs.map .str)) → Wx (exs ⟨pg, wf, callF pg wf 23⟩ (match b_law with
      | .cons _ ss => ss
      | _ => .nil) [some (.fl (intD ns)), some (.obj b), x2, x3, x4, x5, x6, x7, x8]) S (Rt fun u _ => u = .v (.bl true)) fun _ _ _ => False := by
    intro S b hs x2 x3 x4 x5 x6 x7 x8 h hb
    unfold b_law
    dsimp only
    rw [exs_cons, wx_seq, ex_for, wx_lift]
    refine wp_mono (Q := fun u S1 => u = .items (((List.range (ns.length + 2)).map fun i : Nat => (i : Int)).map .int) ∧ S1 = S) (E := fun _ _ => False) ?_ ?_ fun _ _ h => h
    · simp only [evI_rng, ev_bin, ev_b2, ev_lit, ev_b1, ev_var, wp_bnd, wp_pur, List.getElem?_cons_zero, Option.bind_some, id, Option.map_some, wp_some, len_fl, min2_int, bop_add, rngK_int, wp_guard, lenD]
      rw [show (if (ns.length : Int) < 63 then (ns.length : Int) else 63) = ns.length by split <;> omega]
      refine ⟨?_, ?_, trivial⟩
      · simp [small62]
        omega
      · rw [intsFrom_mem, show ((ns.length : Int) + 2).toNat = ns.length + 2 by omega, List.map_map]
        congr 1
        refine List.map_congr_left fun i _ => ?_
        simp
    rintro u S1 ⟨rfl, rfl⟩
    unfold forK
    dsimp only
    refine wx_forGo (I := LInv ns b hs) ?_ ?_ ⟨_, x2, x3, x4, x5, x6, x7, x8, rfl, ?_, rfl, hb⟩
    · rintro x xs ρ S4 ⟨rest, x2, x3, x4, x5, x6, x7, x8, e1, e2, rfl, hb⟩
      cases rest with
      | nil => cases e1
      | cons w rest =>
        rw [List.map_cons] at e1
        injection e1 with e1 e3
        subst e1
        subst e3
        have ew := e2 w List.mem_cons_self
        exact turn_law hw h ew.1 ew.2 (fun k m => e2 k (List.mem_cons_of_mem _ m)) hb
    · rintro ρ S4 _
      rw [nx_nx]
      exact fin S4 ρ
    · intro k m
      obtain ⟨i, mi, rfl⟩ := List.mem_map.mp m
      have := List.mem_range.mp mi
      omega
  rw [wx_asg]
  refine wp_mono (Q := fun u S1 => ∃ b hs, Hs hs ∧ u = .v (.obj b) ∧ S1[b]? = some (.lst (hs.map .str))) (E := fun _ _ => False) ?_ ?_ fun _ _ h => h
  · have m2 : (ns.length : Int) % 2 = 0 ∨ (ns.length : Int) % 2 = 1 := by omega
    rcases m2 with m2 | m2
    · simp [lenD, m2, L2.atI, L2.ixN]
      exact ⟨_, hs0, hs0_ok, rfl, rfl⟩
    · simp [lenD, m2, L2.atI, L2.ixN]
      exact ⟨_, hs1, hs1_ok, rfl, rfl⟩
  · rintro u S1 ⟨b, hs, h, rfl, hb⟩
    rw [settle_v, wp_pur]
    exact main S1 b hs _ _ _ _ _ _ _ h hb
theorem proved : PySem.Challenge.rw_manyquill_k12_whole_versions.Holds := holds_of (wf := 100) fun ns hl _ => law_ok (by omega) ns hl
end K12
end
theorem PySem.Challenge.cw_manyquill_k12_whole_versions_holds : PySem.Challenge.rw_manyquill_k12_whole_versions.Holds :=
  K12.proved
