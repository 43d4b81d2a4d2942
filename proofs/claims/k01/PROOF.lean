import PyProof.Rows.All
import Wide.All
import OpenK.AllK
import Wide.FinOn
import PySem.Syntax
import PyProof.ReprReads
import KE.LtData
import HandS.ForMost
import HandS.Text
import HandS.ForExc
import HandS.TryOnly
import HandS.Defaults
import KE.DataEq
import HandS.Lambda
import HandS.TupAny
import HandS.TupLe
import HandS.IsInst
import HandS.TupMul
import HandS.Walk
import HandS.ExcOwn
import HandS.ExcIs
import HandS.Small
import HandS.SetFor
import HandS.EndTab
import HandS.HeadWalk
import HandS.HeadHook4
import HandS.Head2
import HandS.Star
import HandS.More
import KE.GoesMore
import HandS.Style
import HandS.Dict
import HandS.Zip
import HandS.DictComp
import KE.SortData
import HandS.Conv
import HandS.Strs
import KE.KExcSuper
import HandS.ExcInit
import HandS.ExcField
import PyProof.StrOps2
import HandS.ExcValue
import Lean
import PySem.Challenge.RW_tradedtails_k01_errors_by_hand
set_option Elab.async false
set_option linter.all false
set_option maxRecDepth 100000
set_option maxHeartbeats 4000000
namespace Z
open PySem
noncomputable section
/-- a number that the kernel does not look into (it would count down to it) -/
theorem ex_big (n : Int) : ∃ x : Int, x = n := ⟨n, rfl⟩
def big (n : Int) : Int := Classical.choose (ex_big n)
theorem big_eq (n : Int) : big n = n := Classical.choose_spec (ex_big n)

inductive D where
  | non
  | bl (b : Bool)
  | int (i : Int)
  | str (x : Str)
  | tup (xs : List D)
  | lst (xs : List D)
  | dic (t : Bool) (kvs : List (D × D))
  | ins (c : Str) (fs : List (Str × D))
  | exc (c : Str) (fs : List (Str × D))
  | drw
  | fn (f : Str)
  | scr (ns : List Int)
  deriving Inhabited

mutual
/-- nothing in it can be changed -/
def D.imm : D → Bool
  | .non => true
  | .bl _ => true
  | .int _ => true
  | .str _ => true
  | .tup xs => D.immL xs
  | .lst _ => false
  | .dic _ _ => false
  | .ins _ fs => D.immF fs
  | .exc _ _ => false
  | .drw => true
  | .fn _ => true
  | .scr _ => false
def D.immL : List D → Bool
  | [] => true
  | x :: xs => D.imm x && D.immL xs
def D.immF : List (Str × D) → Bool
  | [] => true
  | (_, x) :: xs => D.imm x && D.immF xs
end
def immV : List (D × D) → Bool
  | [] => true
  | (k, v) :: r => k.imm && v.imm && immV r
/-- nothing below its top can be changed -/
def D.kids : D → Bool
  | .lst xs => D.immL xs
  | .dic _ kvs => immV kvs
  | d => d.imm

mutual
/-- as the library's data -/
def D.py : D → Option PyData
  | .non => some .none
  | .bl b => some (.bool b)
  | .int i => some (.int i)
  | .str x => some (.str x)
  | .tup xs => (D.pyL xs).map .tuple
  | .lst xs => (D.pyL xs).map .list
  | _ => none
def D.pyL : List D → Option (List PyData)
  | [] => some []
  | x :: xs => match D.py x, D.pyL xs with
    | some y, some ys => some (y :: ys)
    | _, _ => none
end

/-- what the draws stand at -/
structure Dr where
  on : Bool
  wide : List Int
  cells : List Int
  rest : Int
  turn : Int

inductive Out (α : Type) where
  | ok (a : α) (W : Dr)
  | ex (x : D) (W : Dr)
  | stk

def Out.bind {α β : Type} (o : Out α) (f : α → Dr → Out β) : Out β :=
  match o with
  | .ok a W => f a W
  | .ex x W => .ex x W
  | .stk => .stk

/-- a def's worth: its arguments, the draws; whether its value is new, its value -/
abbrev G := List D → Dr → Out (Bool × D)

/-- where a value is from: anywhere, a new object of its own, the own object of a name -/
inductive Sc where
  | pl
  | fr
  | me (i : Nat)
  deriving DecidableEq
/-- an expression's value: the datum, where it is from, the names whose own objects it may hold -/
structure Vl where
  d : D
  k : Sc := .pl
  t : List Nat := []

def vl (d : D) (t : List Nat) : Vl := ⟨d, .pl, if d.imm then [] else t⟩
def vf (d : D) (t : List Nat) : Vl := ⟨d, .fr, if d.kids then [] else t⟩
def vo (r : Bool × D) (t : List Nat) : Vl := if r.1 then vf r.2 t else vl r.2 t
/-- the names that are no more alone with their objects when the value is kept -/
def Vl.all (v : Vl) : List Nat := match v.k with
  | .me i => i :: v.t
  | _ => v.t
def Vl.isFr (v : Vl) : Bool := match v.k with
  | .fr => true
  | _ => false

/-- a name's place: nothing, a value, an object of its own -/
inductive Sl where
  | un
  | val (d : D)
  | own (d : D)
  | slf (p : Nat) (n : Str) (fs : List (Str × D))
  deriving Inhabited
def Sl.noSlf : Sl → Bool
  | .slf _ _ _ => false
  | _ => true
abbrev En := List Sl

def frz (ρ : En) (t : List Nat) : En := ρ.mapIdx fun i s => match s with
  | .own d => if t.contains i then .val d else .own d
  | s => s
def put (ρ : En) (i : Nat) (v : Vl) : En := (frz ρ v.all).set i (if v.isFr then .own v.d else .val v.d)
def wip (ρ : En) : List Nat → En
  | [] => ρ
  | v :: vs => (wip ρ vs).set v .un

inductive Bi where
  | len | list | tuple | min | max | sum | all | any | sorted | abs | int | repr | str | dict | set
inductive Ty where
  | int | bool | str | list | tuple | dict
  | cls (c : Str) (below : List Str)
inductive Bm where
  | get | index | count | join | split | values | keys

inductive Pat where
  | nm (i : Nat)
  | tp (is : List Nat)

inductive E where
  | var (i : Nat)
  | cst (d : D)
  | gl (d : D)
  | bin (op : Operator) (a b : E)
  | neg (a : E)
  | not (a : E)
  | cmp (op : CmpOp) (a b : E)
  | chn (o1 o2 : CmpOp) (a b c : E)
  | and (a b : E)
  | or (a b : E)
  | ite (c a b : E)
  | tup (xs : E)
  | lst (xs : E)
  | nil
  | cons (h t : E)
  | star (h t : E)
  | ix (a b : E)
  | sl (a lo hi : E)
  | no
  | rev (a : E)
  | bi (f : Bi) (args : E)
  | isi (a : E) (tys : List Ty)
  | call (g : G) (args : E)
  | callk (g : G) (m : Nat) (is : List Nat) (args : E)
  | attr (a : E) (f : Str)
  | bm (m : Bm) (a args : E)
  | mth (m cl : Str) (g : G) (a args : E)
  | op (ck : D → Bool) (g : G) (a args : E)
  | lc (elt : E) (pt : Pat) (src ts : E) (own : List Nat)
  | dc (kx vx : E) (pt : Pat) (src ts : E) (own : List Nat)
  | tv (a : E)
  | pt (a : E)
  | wk (a : E)
  | rng (args : E)
  | enu (a : E)
  | zip (a b : E)
  | items (a : E)
  | drg (k : Bool) (a : E)
  | drc (a : E)
  | drn (a : E)
  | drp (a : E)
  | caught (a : E)
  | hand (h : Out Vl → Out Vl) (a : E)
  | no_

def ixOf (n : Nat) (i : Int) : Option Nat := L2.ixN n i
def atD {α : Type} (xs : List α) (i : Int) : Option α := L2.atI xs i
def cutD {α : Type} (xs : List α) (lo hi : Option Int) : List α := (xs.drop (HT.sIx xs.length 0 lo)).take (HT.sIx xs.length xs.length hi - HT.sIx xs.length 0 lo)

def binD (op : Operator) (x y : D) : Option (Bool × D) :=
  match op, x, y with
  | .Add, .int i, .int j => some (false, .int (i + j))
  | .Sub, .int i, .int j => some (false, .int (i - j))
  | .Mult, .int i, .int j => if (-(big (2 ^ 64)) < i ∧ i < big (2 ^ 64)) ∨ (-(big (2 ^ 64)) < j ∧ j < big (2 ^ 64)) then some (false, .int (i * j)) else none
  | .FloorDiv, .int i, .int j => if 0 < j ∧ j < big 1073741824 then some (false, .int (i / j)) else none
  | .Mod, .int i, .int j => if 0 < j then some (false, .int (i % j)) else none
  | .Pow, .int i, .int j => if 0 ≤ j ∧ j ≤ big 1000000 ∧ i.natAbs < 2 ^ 64 then some (false, .int (i ^ j.toNat)) else none
  | .Add, .str a, .str b => if a.length + b.length ≤ 16777216 then some (false, .str (a ++ b)) else none
  | .Add, .tup a, .tup b => if a.length + b.length ≤ 16777216 then some (false, .tup (a ++ b)) else none
  | .Add, .lst a, .lst b => if a.length + b.length ≤ 16777216 then some (true, .lst (a ++ b)) else none
  | .Mult, .lst a, .int k => if -(big (2 ^ 63)) ≤ k ∧ k < big (2 ^ 63) ∧ a.length * k.toNat ≤ 16777216 then some (true, .lst (List.replicate k.toNat a).flatten) else none
  | .Mult, .tup a, .int k => if a ≠ [] ∧ 2 ≤ k ∧ k ≤ 1000 ∧ a.length ≤ 1000 then some (false, .tup (List.replicate k.toNat a).flatten) else none
  | _, _, _ => none

mutual
def D.pyN : Nat → D → Option PyData
  | _, .non => some .none
  | _, .bl b => some (.bool b)
  | _, .int i => some (.int i)
  | _, .str x => some (.str x)
  | n + 1, .tup xs => (D.pyNL n xs).map .tuple
  | n + 1, .lst xs => (D.pyNL n xs).map .list
  | _, _ => none
def D.pyNL : Nat → List D → Option (List PyData)
  | _, [] => some []
  | n, x :: xs => match D.pyN n x, D.pyNL n xs with
    | some y, some ys => some (y :: ys)
    | _, _ => none
end
abbrev D.pd (d : D) : Option PyData := D.pyN 12 d

def D.eq (x y : D) : Option Bool := match x.pd, y.pd with
  | some a, some b => some (PyData.eqv a b)
  | _, _ => none
def D.lt (x y : D) : Option Bool := match x.pd, y.pd with
  | some a, some b => if PySem.W.alike a b = true then (match a with | .none => none | _ => some (PySem.W.dataLt a b)) else none
  | _, _ => none

def D.key1 : D → Bool
  | .int _ => true
  | .str _ => true
  | _ => false
def D.keyOk (t : Bool) (d : D) : Bool := if t then (match d with
  | .tup xs => xs.all D.key1
  | _ => false) else d.key1
section
open Classical
def dGet (kvs : List (D × D)) (k : D) : Option D := (kvs.find? fun p => decide (p.1 = k)).map (·.2)
def dPut (kvs : List (D × D)) (k v : D) : List (D × D) := if (kvs.any fun p => decide (p.1 = k)) = true then kvs.map (fun p => if p.1 = k then (p.1, v) else p) else kvs ++ [(k, v)]
end

def cap : Nat := 16777216

def cmpD (op : CmpOp) (x y : D) : Option Bool :=
  match op with
  | .Eq => x.eq y
  | .NotEq => (x.eq y).map (!·)
  | .Lt => (match x, y with | .int i, .int j => some (decide (i < j)) | _, _ => x.lt y)
  | .LtE => (match x, y with | .int i, .int j => some (decide (i ≤ j)) | _, _ => none)
  | .Gt => (match x, y with | .int i, .int j => some (decide (j < i)) | _, _ => none)
  | .GtE => (match x, y with | .int i, .int j => some (decide (j ≤ i)) | _, _ => none)
  | .Is => (match x, y with
    | x, .non => some (match x with | .non => true | _ => false)
    | .bl a, .bl b => some (a == b)
    | _, _ => none)
  | .IsNot => (match x, y with
    | x, .non => some (match x with | .non => false | _ => true)
    | .bl a, .bl b => some (a != b)
    | _, _ => none)
  | .In => inD x y
  | .NotIn => (inD x y).map (!·)
where
  inD (x y : D) : Option Bool := match x, y with
    | .str a, .str b => some (!(Builtin.Str.occurrences b a 0 b.length 1).isEmpty)
    | x, .lst ys => anyEq x ys
    | x, .tup ys => anyEq x ys
    | _, _ => none
  anyEq (x : D) (ys : List D) : Option Bool := match x.pd, D.pyNL 12 ys with
    | some a, some bs => some (bs.any fun b => PyData.eqv b a)
    | _, _ => none

def D.items : D → Option (List D)
  | .lst xs => some xs
  | .scr ns => some (ns.map .int)
  | .tup xs => some xs
  | .str x => some (x.cps.toList.map fun c => .str ⟨#[c]⟩)
  | _ => none
def zipK : D → D → Option (List D × List D)
  | .lst xs, .lst ys => some (xs, ys)
  | .tup xs, .tup ys => some (xs, ys)
  | _, _ => none
def D.seq : D → Option (List D)
  | .lst xs => some xs
  | .tup xs => some xs
  | _ => none
def D.ints : List D → Option (List Int)
  | [] => some []
  | .int i :: r => (D.ints r).map (i :: ·)
  | _ => none
def D.bls : List D → Option (List Bool)
  | [] => some []
  | .bl b :: r => (D.bls r).map (b :: ·)
  | _ => none
def D.pds : List D → Option (List PyData)
  | [] => some []
  | x :: xs => match x.pd, D.pds xs with
    | some y, some ys => some (y :: ys)
    | _, _ => none

def lenD : List D → Option (Bool × D)
  | [.lst xs] => some (false, .int xs.length)
  | [.tup xs] => some (false, .int xs.length)
  | [.scr ns] => some (false, .int ns.length)
  | [.str x] => if x.length ≤ cap then some (false, .int x.length) else none
  | _ => none
def listD : List D → Option (Bool × D)
  | [.lst xs] => some (true, .lst xs)
  | [.tup xs] => some (true, .lst xs)
  | _ => none
def tupleD : List D → Option (Bool × D)
  | [.lst xs] => some (false, .tup xs)
  | [.tup xs] => some (false, .tup xs)
  | _ => none
def minD2 : List D → Option (Bool × D)
  | [.int i, .int j] => some (false, .int (if j < i then j else i))
  | _ => none
def maxD2 : List D → Option (Bool × D)
  | [.int i, .int j] => some (false, .int (if j > i then j else i))
  | _ => none
def sumD : List D → Option (Bool × D)
  | [.lst xs] => (D.ints xs).map fun ns => (false, .int ns.sum)
  | _ => none
def allD : List D → Option (Bool × D)
  | [.lst xs] => (D.bls xs).map fun bs => (false, .bl (bs.all id))
  | _ => none
def anyD : List D → Option (Bool × D)
  | [.lst xs] => (D.bls xs).map fun bs => (false, .bl (bs.any id))
  | _ => none
def absD : List D → Option (Bool × D)
  | [.int i] => some (false, .int (if i < 0 then -i else i))
  | _ => none
def intD : List D → Option (Bool × D)
  | [.int i] => some (false, .int i)
  | [.bl b] => some (false, .int (if b then 1 else 0))
  | _ => none
def biD (f : Bi) (xs : List D) : Option (Bool × D) :=
  match f with
  | .len => lenD xs
  | .list => listD xs
  | .tuple => tupleD xs
  | .min => minD2 xs
  | .max => maxD2 xs
  | .sum => sumD xs
  | .all => allD xs
  | .any => anyD xs
  | .abs => absD xs
  | .int => intD xs
  | _ => none

def ixD (x y : D) : Option D :=
  match x, y with
  | .lst xs, .int i => atD xs i
  | .tup xs, .int i => atD xs i
  | .str x, .int i => if x.length ≤ cap then (atD x.cps.toList i).map fun c => .str ⟨#[c]⟩ else none
  | _, _ => none
def slD (x : D) (lo hi : Option Int) : Option (Bool × D) :=
  match x with
  | .lst xs => some (true, .lst (cutD xs lo hi))
  | .tup xs => some (false, .tup (cutD xs lo hi))
  | .str x => if x.length ≤ cap then some (false, .str (L2.cutS x lo hi)) else none
  | _ => none
def revD (x : D) : Option (Bool × D) :=
  match x with
  | .lst xs => some (true, .lst xs.reverse)
  | .tup xs => some (false, .tup xs.reverse)
  | _ => none
def D.typed : D → Bool
  | .drw => false
  | .fn _ => false
  | .scr _ => false
  | .dic true _ => false
  | _ => true
def isD1 (x : D) : Ty → Bool
  | .int => match x with | .int _ => true | .bl _ => true | _ => false
  | .bool => match x with | .bl _ => true | _ => false
  | .str => match x with | .str _ => true | _ => false
  | .list => match x with | .lst _ => true | _ => false
  | .tuple => match x with | .tup _ => true | _ => false
  | .dict => match x with | .dic _ _ => true | .drw => true | _ => false
  | .cls c below => match x with
    | .ins c' _ => c' == c || below.contains c'
    | .exc c' _ => c' == c || below.contains c'
    | _ => false
def attrD (x : D) (f : Str) : Option D :=
  match x with
  | .ins _ fs => fs.lookup f
  | _ => none
def bmD (m : Bm) (x : D) (xs : List D) : Option (Bool × D) :=
  match m, x, xs with
  | .count, .lst xs, [.bl b] => (D.bls xs).map fun bs => (false, .int (bs.count b : Nat))
  | .index, .lst xs, [.bl b] => (D.bls xs).bind fun bs => if b ∈ bs then some (false, .int (bs.idxOf b : Nat)) else none
  | _, _, _ => none

def rngD : List D → Option (List D)
  | [.int n] => if -(big (2 ^ 62)) ≤ n ∧ n < big (2 ^ 62) then some ((List.range n.toNat).map fun k : Nat => .int (k : Int)) else none
  | [.int a, .int b] => if -(big (2 ^ 62)) ≤ a ∧ a < big (2 ^ 62) ∧ -(big (2 ^ 62)) ≤ b ∧ b < big (2 ^ 62) then some ((List.range (b - a).toNat).map fun k : Nat => .int (a + k)) else none
  | _ => none
def zipD : List D → List D → List D
  | x :: xs, y :: ys => .tup [x, y] :: zipD xs ys
  | _, _ => []
def enuD (k : Nat) : List D → List D
  | [] => []
  | x :: xs => .tup [.int k, x] :: enuD (k + 1) xs

def sets (ρ : En) : List Nat → List D → En
  | i :: is, x :: xs => sets (ρ.set i (.val x)) is xs
  | _, _ => ρ
def bindP (pt : Pat) (x : D) (ρ : En) : Option En :=
  match pt with
  | .nm i => some (ρ.set i (.val x))
  | .tp is => match x with
    | .tup xs => if xs.length = is.length then some (sets ρ is xs) else none
    | _ => none

def D.isBl : D → Option Bool
  | .bl b => some b
  | _ => none
def ds (vs : List Vl) : List D := vs.map (·.d)
def ts (vs : List Vl) : List Nat := vs.flatMap (·.all)
def ofO {α β : Type} (o : Option α) (f : α → Out β) : Out β := match o with
  | some a => f a
  | none => .stk

theorem Out.bind_bind {α β γ : Type} (o : Out α) (f : α → Dr → Out β) (g : β → Dr → Out γ) : (o.bind f).bind g = o.bind fun a W => (f a W).bind g := by cases o <;> rfl
theorem ofO_bind {α β γ : Type} (o : Option α) (f : α → Out β) (g : β → Dr → Out γ) : (ofO o f).bind g = ofO o fun a => (f a).bind g := by cases o <;> rfl
theorem Out.ok_bind {α β : Type} (a : α) (W : Dr) (f : α → Dr → Out β) : (Out.ok a W).bind f = f a W := rfl
theorem ite_bind {α β : Type} (b : Bool) (x y : Out α) (f : α → Dr → Out β) : (if b = true then x else y).bind f = if b = true then x.bind f else y.bind f := by cases b <;> rfl

/-- the values at some places -/
def pick {α : Type} (is : List Nat) (xs : List α) : List α := is.filterMap fun i => xs[i]?
/-- a comprehension's loop -/
def lcGo (one : D → Dr → Out (Option Vl)) : List D → List D → List Nat → Dr → Out Vl
  | [], acc, t, W => .ok (vf (.lst acc) t) W
  | x :: xs, acc, t, W => match one x W with
    | .ok none W' => lcGo one xs acc t W'
    | .ok (some v) W' => if acc.length < cap then lcGo one xs (acc ++ [v.d]) (t ++ v.all) W' else .stk
    | _ => .stk
/-- a dict comprehension's loop: values that can't be changed -/
def dcGo (one : D → Dr → Out (Option (D × D))) : List D → List (D × D) → Dr → Out Vl
  | [], acc, W => .ok ⟨.dic false acc, .fr, []⟩ W
  | x :: xs, acc, W => match one x W with
    | .ok none W' => dcGo one xs acc W'
    | .ok (some p) W' => if p.1.keyOk false = true ∧ p.2.imm = true ∧ acc.length < cap then dcGo one xs (dPut acc p.1 p.2) W' else .stk
    | _ => .stk
/-- what is walked: its items, the names whose object it is, those that it may hold -/
structure Wk where
  xs : List D
  me : List Nat
  t : List Nat

mutual
/-- an expression -/
def ev : E → En → Dr → Out Vl
  | .var i, ρ, W => match ρ[i]? with
    | some (.val d) => .ok ⟨d, .pl, []⟩ W
    | some (.own d) => .ok ⟨d, .me i, []⟩ W
    | _ => .stk
  | .cst d, _, W => .ok ⟨d, .pl, []⟩ W
  | .gl d, _, W => .ok ⟨d, .pl, []⟩ W
  | .bin op a b, ρ, W => (ev a ρ W).bind fun x W => (ev b ρ W).bind fun y W => ofO (binD op x.d y.d) fun r => .ok (vo r (x.t ++ y.t)) W
  | .neg a, ρ, W => (ev a ρ W).bind fun x W => match x.d with
    | .int i => .ok ⟨.int (-i), .pl, []⟩ W
    | _ => .stk
  | .not a, ρ, W => (ev a ρ W).bind fun x W => ofO x.d.isBl fun b => .ok ⟨.bl (!b), .pl, []⟩ W
  | .cmp op a b, ρ, W => (ev a ρ W).bind fun x W => (ev b ρ W).bind fun y W => ofO (cmpD op x.d y.d) fun r => .ok ⟨.bl r, .pl, []⟩ W
  | .chn o1 o2 a b c, ρ, W => (ev a ρ W).bind fun x W => (ev b ρ W).bind fun y W => ofO (cmpD o1 x.d y.d) fun r =>
    if r then (ev c ρ W).bind fun z W => ofO (cmpD o2 y.d z.d) fun r => .ok ⟨.bl r, .pl, []⟩ W else .ok ⟨.bl false, .pl, []⟩ W
  | .and a b, ρ, W => (ev a ρ W).bind fun x W => ofO x.d.isBl fun c => if c then ev b ρ W else .ok ⟨.bl false, .pl, []⟩ W
  | .or a b, ρ, W => (ev a ρ W).bind fun x W => ofO x.d.isBl fun c => if c then .ok ⟨.bl true, .pl, []⟩ W else ev b ρ W
  | .ite c a b, ρ, W => (evT c ρ W).bind fun k W => if k then ev a ρ W else ev b ρ W
  | .tup xs, ρ, W => (evL xs ρ W).bind fun vs W => if vs.length ≤ cap then .ok (vl (.tup (ds vs)) (ts vs)) W else .stk
  | .lst xs, ρ, W => (evL xs ρ W).bind fun vs W => if vs.length ≤ cap then .ok (vf (.lst (ds vs)) (ts vs)) W else .stk
  | .ix a b, ρ, W => (ev a ρ W).bind fun x W => (ev b ρ W).bind fun y W => ofO (ixD x.d y.d) fun r => .ok (vl r x.t) W
  | .sl a lo hi, ρ, W => (ev a ρ W).bind fun x W => (evO lo ρ W).bind fun l W => (evO hi ρ W).bind fun h W => ofO (slD x.d l h) fun r => .ok (vo r x.t) W
  | .rev a, ρ, W => (ev a ρ W).bind fun x W => ofO (revD x.d) fun r => .ok (vo r x.t) W
  | .bi f args, ρ, W => (evL args ρ W).bind fun vs W => ofO (biD f (ds vs)) fun r => .ok (vo r (vs.flatMap (·.t))) W
  | .isi a tys, ρ, W => (ev a ρ W).bind fun x W => if x.d.typed then .ok ⟨.bl (tys.any (isD1 x.d)), .pl, []⟩ W else .stk
  | .call g args, ρ, W => (evL args ρ W).bind fun vs W => (g (ds vs) W).bind fun r W => .ok (vo r (ts vs)) W
  | .callk g m is args, ρ, W => (evL args ρ W).bind fun vs W => if vs.length = m then (g (pick is (ds vs)) W).bind fun r W => .ok (vo r (ts vs)) W else .stk
  | .attr a f, ρ, W => (ev a ρ W).bind fun x W => ofO (attrD x.d f) fun r => .ok (vl r x.t) W
  | .bm m a args, ρ, W => (ev a ρ W).bind fun x W => match x.d with
    | .lst xs => (evL args ρ W).bind fun vs W => ofO (bmD m (.lst xs) (ds vs)) fun r => .ok (vo r (x.t ++ ts vs)) W
    | _ => .stk
  | .mth m cl g a args, ρ, W => (ev a ρ W).bind fun x W => match x.d with
    | .ins n fs => if n = cl ∧ fs.lookup m = none then (evL args ρ W).bind fun vs W => (g (x.d :: ds vs) W).bind fun r W => .ok (vo r (ts (x :: vs))) W else .stk
    | _ => .stk
  | .op ck g a args, ρ, W => (ev a ρ W).bind fun x W => if ck x.d = true then (evL args ρ W).bind fun vs W => (g (x.d :: ds vs) W).bind fun r W => .ok (vo r (ts (x :: vs))) W else .stk
  | .drg k a, ρ, W => (ev a ρ W).bind fun x W => match x.d with
    | .drw => .ok ⟨.int (if k then W.turn else W.rest), .pl, []⟩ W
    | _ => .stk
  | .drc a, ρ, W => (ev a ρ W).bind fun x W => match x.d with
    | .drw => .ok ⟨.lst (W.cells.map .int), .pl, []⟩ W
    | _ => .stk
  | .drn a, ρ, W => (ev a ρ W).bind fun x W => match x.d with
    | .drw => .ok ⟨.bl (!W.wide.isEmpty), .pl, []⟩ W
    | _ => .stk
  | .drp a, ρ, W => (ev a ρ W).bind fun x W => match x.d, W.wide with
    | .drw, w :: ws => .ok ⟨.int w, .pl, []⟩ { W with wide := ws }
    | _, _ => .stk
  | .hand h a, ρ, W => h (ev a ρ W)
  | .caught a, ρ, W => match ev a ρ W with
    | .ok _ W' => .ok ⟨.non, .pl, []⟩ W'
    | .ex (.exc n fs) W' => .ok ⟨.exc n fs, .pl, []⟩ W'
    | _ => .stk
  | .lc elt pt src tst own, ρ, W => (evI src ρ W).bind fun p W => match p.t with
    | [] => lcGo (fun x W => ofO (bindP pt x (wip ρ own)) fun ρ' => (evA tst ρ' W).bind fun b W => if b then (ev elt ρ' W).bind fun v W => .ok (some v) W else .ok none W) p.xs [] [] W
    | _ => .stk
  | .dc kx vx pt src tst own, ρ, W => (evI src ρ W).bind fun p W => match p.t with
    | [] => dcGo (fun x W => ofO (bindP pt x (wip ρ own)) fun ρ' => (evA tst ρ' W).bind fun b W => if b then (ev kx ρ' W).bind fun k W => (ev vx ρ' W).bind fun v W => .ok (some (k.d, v.d)) W else .ok none W) p.xs [] W
    | _ => .stk
  | _, _, _ => .stk
/-- a test -/
def evT : E → En → Dr → Out Bool
  | .and a b, ρ, W => (evT a ρ W).bind fun c W => if c then evT b ρ W else .ok false W
  | .or a b, ρ, W => (evT a ρ W).bind fun c W => if c then .ok true W else evT b ρ W
  | .not a, ρ, W => (evT a ρ W).bind fun c W => .ok (!c) W
  | .tv a, ρ, W => (ev a ρ W).bind fun x W => ofO x.d.isBl fun c => .ok c W
  | _, _, _ => .stk
/-- all of some tests -/
def evA : E → En → Dr → Out Bool
  | .nil, _, W => .ok true W
  | .cons h t, ρ, W => (evT h ρ W).bind fun c W => if c then evA t ρ W else .ok false W
  | _, _, _ => .stk
/-- arguments -/
def evL : E → En → Dr → Out (List Vl)
  | .nil, _, W => .ok [] W
  | .cons h t, ρ, W => (ev h ρ W).bind fun x W => (evL t ρ W).bind fun xs W => .ok (x :: xs) W
  | .star h t, ρ, W => (ev h ρ W).bind fun x W => ofO x.d.seq fun ys => (evL t ρ W).bind fun xs W => .ok (ys.map (fun y => vl y x.t) ++ xs) W
  | _, _, _ => .stk
/-- a slice's part -/
def evO : E → En → Dr → Out (Option Int)
  | .no, _, W => .ok none W
  | .pt a, ρ, W => (ev a ρ W).bind fun x W => match x.d with
    | .int i => .ok (some i) W
    | _ => .stk
  | _, _, _ => .stk
/-- what is walked -/
def evI : E → En → Dr → Out Wk
  | .rng args, ρ, W => (evL args ρ W).bind fun vs W => ofO (rngD (ds vs)) fun xs => .ok ⟨xs, [], []⟩ W
  | .enu a, ρ, W => (ev a ρ W).bind fun x W => ofO x.d.seq fun xs => .ok ⟨enuD 0 xs, x.all, x.t⟩ W
  | .zip a b, ρ, W => (ev a ρ W).bind fun x W => (ev b ρ W).bind fun y W => ofO (zipK x.d y.d) fun p => .ok ⟨zipD p.1 p.2, x.all ++ y.all, x.t ++ y.t⟩ W
  | .items a, ρ, W => (ev a ρ W).bind fun x W => match x.d with
    | .dic _ kvs => .ok ⟨kvs.map fun p => .tup [p.1, p.2], x.all, x.t⟩ W
    | _ => .stk
  | .wk a, ρ, W => (ev a ρ W).bind fun x W => ofO x.d.items fun xs => .ok ⟨xs, x.all, x.t⟩ W
  | _, _, _ => .stk
end

inductive S where
  | skip
  | seq (a b : S)
  | asg (i : Nat) (e : E)
  | unp (is : List Nat) (e : E)
  | par (is : List Nat) (e : E)
  | aug (i : Nat) (op : Operator) (e : E)
  | setix (i : Nat) (k e : E)
  | setk (i : Nat) (k e : E)
  | app (i : Nat) (e : E)
  | popa (j i : Nat) (args : E)
  | popp (j i : Nat) (args : E)
  | fld (i : Nat) (f : Str) (e : E)
  | drs (k : Bool) (i : Nat) (e : E)
  | expr (e : E)
  | ret (e : E)
  | retn
  | iff (c : E) (a b : S)
  | for (pt : Pat) (src : E) (b : S)
  | whl (c : E) (b : S)
  | brk
  | cont
  | raise (c : Str) (f : List Str) (args : E)
  | bad
  | kl (is : List Nat) (b : S) (js : List Nat)
  | cpp (i j : Nat) (e : E)
  | cpl (i j : Nat) (e : E)
  | cpa (i j : Nat) (e : E)
  | tapp (e a : E)
  | tclr (e : E)

inductive SOut where
  | nx (ρ : En) (W : Dr)
  | bk (ρ : En) (W : Dr)
  | ct (ρ : En) (W : Dr)
  | rt (v : Vl) (ρ : En) (W : Dr)
  | ex (x : D) (ρ : En) (W : Dr)
  | stk

def Out.st {α : Type} (o : Out α) (ρ : En) (f : α → Dr → SOut) : SOut := match o with
  | .ok a W => f a W
  | .ex x W => .ex x ρ W
  | .stk => .stk
def ofS {α : Type} (o : Option α) (f : α → SOut) : SOut := match o with
  | some a => f a
  | none => .stk
def forGo (f : D → En → Dr → SOut) : List D → En → Dr → SOut
  | [], ρ, W => .nx ρ W
  | x :: xs, ρ, W => match f x ρ W with
    | .nx ρ' W' => forGo f xs ρ' W'
    | .ct ρ' W' => forGo f xs ρ' W'
    | .bk ρ' W' => .nx ρ' W'
    | o => o
def whlGo (c : En → Dr → Out Bool) (f : En → Dr → SOut) : Nat → En → Dr → SOut
  | 0, _, _ => .stk
  | n + 1, ρ, W => (c ρ W).st ρ fun b W => if b then (match f ρ W with
    | .nx ρ' W' => whlGo c f n ρ' W'
    | .ct ρ' W' => whlGo c f n ρ' W'
    | .bk ρ' W' => .nx ρ' W'
    | o => o) else .nx ρ W
def setD (o k d : D) : Option D := match o, k with
  | .lst xs, .int i => (ixOf xs.length i).map fun j => .lst (xs.set j d)
  | .dic t kvs, k => if k.keyOk t = true ∧ kvs.length < cap then some (.dic t (dPut kvs k d)) else none
  | _, _ => none
def popD (xs : List D) : List D → Option (D × List D)
  | [] => match xs[xs.length - 1]? with
    | some y => some (y, xs.dropLast)
    | none => none
  | [.int i] => if -(big (2 ^ 63)) ≤ i ∧ i < big (2 ^ 63) then match ixOf xs.length i with
      | some k => (xs[k]?).map fun y => (y, xs.eraseIdx k)
      | none => none
    else none
  | _ => none
def putAll (ρ : En) : List Nat → List Vl → En
  | i :: is, v :: vs => putAll ((ρ.set i (if v.isFr then .own v.d else .val v.d))) is vs
  | _, _ => ρ

def putFD (f : Str) (v : D) : List (Str × D) → List (Str × D)
  | [] => [(f, v)]
  | (g, x) :: r => if g = f then (g, v) :: r else (g, x) :: putFD f v r
def SOut.wp (js : List Nat) : SOut → SOut
  | .nx ρ W => .nx (wip ρ js) W
  | .bk ρ W => .bk (wip ρ js) W
  | .ct ρ W => .ct (wip ρ js) W
  | .rt v ρ W => .rt v ρ W
  | .ex x ρ W => .ex x ρ W
  | .stk => .stk
def evS (fu : Nat) : S → En → Dr → SOut
  | .skip, ρ, W => .nx ρ W
  | .seq a b, ρ, W => match evS fu a ρ W with
    | .nx ρ' W' => evS fu b ρ' W'
    | o => o
  | .asg i e, ρ, W => (ev e ρ W).st ρ fun v W => .nx (put ρ i v) W
  | .unp is e, ρ, W => (ev e ρ W).st ρ fun v W => match v.d with
    | .tup xs => if xs.length = is.length then .nx (sets (frz ρ v.all) is xs) W else .stk
    | _ => .stk
  | .par is e, ρ, W => (evL e ρ W).st ρ fun vs W => if vs.length = is.length ∧ is.Nodup then .nx (putAll (frz ρ (ts vs)) is vs) W else .stk
  | .aug i op e, ρ, W => match ρ[i]? with
    | some (.val (.int x)) => (ev e ρ W).st ρ fun v W => match v.d with
      | .int y => match binD op (.int x) (.int y) with
        | some (_, .int z) => .nx (ρ.set i (.val (.int z))) W
        | _ => .stk
      | _ => .stk
    | _ => .stk
  | .setix i k e, ρ, W => match ρ[i]? with
    | some (.own (.lst _)) => (ev e ρ W).st ρ fun v W => (ev k ρ W).st ρ fun n W => match (frz ρ (v.all ++ n.all))[i]?, n.d with
      | some (.own (.lst xs)), .int m => ofS (ixOf xs.length m) fun j => .nx ((frz ρ (v.all ++ n.all)).set i (.own (.lst (xs.set j v.d)))) W
      | _, _ => .stk
    | _ => .stk
  | .setk i k e, ρ, W => match ρ[i]? with
    | some (.own (.dic _ _)) => (ev e ρ W).st ρ fun v W => (ev k ρ W).st ρ fun n W => match (frz ρ (v.all ++ n.all))[i]? with
      | some (.own (.dic t kvs)) => if n.d.keyOk t = true ∧ kvs.length < cap then .nx ((frz ρ (v.all ++ n.all)).set i (.own (.dic t (dPut kvs n.d v.d)))) W else .stk
      | _ => .stk
    | _ => .stk
  | .app i e, ρ, W => match ρ[i]? with
    | some (.own (.lst _)) => (ev e ρ W).st ρ fun v W => match (frz ρ v.all)[i]? with
      | some (.own (.lst xs)) => if xs.length < cap then .nx ((frz ρ v.all).set i (.own (.lst (xs ++ [v.d])))) W else .stk
      | _ => .stk
    | _ => .stk
  | .popa j i args, ρ, W => match ρ[i]? with
    | some (.own (.lst xs)) => (evL args ρ W).st ρ fun vs W => ofS (popD xs (ds vs)) fun p => .nx ((ρ.set i (.own (.lst p.2))).set j (.val p.1)) W
    | _ => .stk
  | .popp j i args, ρ, W => match ρ[i]?, ρ[j]? with
    | some (.own (.lst xs)), some (.own (.lst ys)) => (evL args ρ W).st ρ fun vs W => if i = j then .stk else ofS (popD xs (ds vs)) fun p => if ys.length < cap then .nx ((ρ.set i (.own (.lst p.2))).set j (.own (.lst (ys ++ [p.1])))) W else .stk
    | _, _ => .stk
  | .fld i f e, ρ, W => match ρ[i]? with
    | some (.slf _ _ _) => (ev e ρ W).st ρ fun v W => match (frz ρ v.all)[i]? with
      | some (.slf p n fs) => if fs.length < 1000 ∧ (((frz ρ v.all).set i .un).all Sl.noSlf) = true then .nx ((frz ρ v.all).set i (.slf p n (putFD f v.d fs))) W else .stk
      | _ => .stk
    | _ => .stk
  | .drs k i e, ρ, W => (ev e ρ W).st ρ fun v W => match ρ[i]?, v.d with
    | some (.val .drw), .int j => .nx ρ (if k then { W with turn := j } else { W with rest := j })
    | _, _ => .stk
  | .expr e, ρ, W => (ev e ρ W).st ρ fun _ W => .nx ρ W
  | .ret e, ρ, W => (ev e ρ W).st ρ fun v W => .rt v ρ W
  | .retn, ρ, W => .rt ⟨.non, .pl, []⟩ ρ W
  | .iff c a b, ρ, W => (evT c ρ W).st ρ fun k W => if k then evS fu a ρ W else evS fu b ρ W
  | .for pt src b, ρ, W => (evI src ρ W).st ρ fun p W => forGo (fun x ρ W => ofS (bindP pt x ρ) fun ρ' => evS fu b ρ' W) p.xs (frz ρ (p.me ++ p.t)) W
  | .whl c b, ρ, W => whlGo (evT c) (evS fu b) fu ρ W
  | .brk, ρ, W => .bk ρ W
  | .cont, ρ, W => .ct ρ W
  | .bad, _, _ => .stk
  | .kl is b js, ρ, W => (evS fu b (wip ρ is) W).wp js
  | .cpp i j e, ρ, W => match ρ[i]? with
    | some (.own (.lst xs)) => match ev e ρ W with
      | .ok v W' => if v.k = .pl ∧ v.t = [] ∧ xs.length < cap then .nx ((ρ.set i (.own (.lst (xs ++ [v.d])))).set j (.val .non)) W' else .stk
      | .ex (.exc n fs) W' => .nx (ρ.set j (.val (.exc n fs))) W'
      | _ => .stk
    | _ => .stk
  | .cpl i j e, ρ, W => match ρ[i]? with
    | some (.own (.lst xs)) => match ev e ρ W with
      | .ok v W' => if v.k = .pl ∧ v.t = [] ∧ xs.length < cap then .nx ((ρ.set i (.own (.lst (xs ++ [v.d])))).set j (.own (.lst [.non]))) W' else .stk
      | .ex (.exc n fs) W' => .nx (ρ.set j (.own (.lst [.exc n fs]))) W'
      | _ => .stk
    | _ => .stk
  | .cpa i j e, ρ, W => match ρ[i]?, ρ[j]? with
    | some (.own (.lst xs)), some (.own (.lst ys)) => if ys.length < cap ∧ i ≠ j then match ev e ρ W with
      | .ok v W' => if v.k = .pl ∧ v.t = [] ∧ xs.length < cap then .nx ((ρ.set i (.own (.lst (xs ++ [v.d])))).set j (.own (.lst (ys ++ [.non])))) W' else .stk
      | .ex (.exc n fs) W' => .nx (ρ.set j (.own (.lst (ys ++ [.exc n fs])))) W'
      | _ => .stk
      else .stk
    | _, _ => .stk
  | .tapp e a, ρ, W => (ev e ρ W).st ρ fun v W => match v.k, v.d with
    | .fr, .lst xs => if xs.length < cap then (ev a ρ W).st ρ fun _ W => .nx ρ W else .stk
    | _, _ => .stk
  | .tclr e, ρ, W => (ev e ρ W).st ρ fun v W => match v.k, v.d with
    | .fr, .lst _ => .nx ρ W
    | _, _ => .stk
  | .raise c f args, ρ, W => (evL args ρ W).st ρ fun vs W => match f with
    | [] => .ex (.exc c []) ρ W
    | _ => if vs.length = f.length ∧ D.immF (f.zip (ds vs)) = true then .ex (.exc c (f.zip (ds vs))) ρ W else .stk

theorem evS_bad {fu : Nat} {ρ : En} {W : Dr} : evS fu .bad ρ W = .stk := rfl
/-- a def: the number of its names, of its parameters, its body -/
def run (fu N ps : Nat) (b : S) : G := fun xs W =>
  if xs.length = ps then match evS fu b (xs.map .val ++ List.replicate (N - ps) .un) W with
    | .nx _ W' => .ok (false, .non) W'
    | .rt v _ W' => match v.k with
      | .pl => .ok (false, v.d) W'
      | _ => .ok (true, v.d) W'
    | .ex x _ W' => .ex x W'
    | _ => .stk
  else .stk
/-- a class's making: its name, its __init__ -/
def runC (fu N ps p : Nat) (nm : Str) (b : S) : G := fun xs W =>
  if xs.length + 1 = ps then match evS fu b (.slf p nm [] :: (xs.map .val ++ List.replicate (N - ps) .un)) W with
    | .nx ρ W' => match (ρ[(0 : Nat)]? : Option Sl) with
      | some (.slf q n fs) => if q = p then .ok (false, .ins n fs) W' else .stk
      | _ => .stk
    | .ex x _ W' => .ex x W'
    | _ => .stk
  else .stk
end
end Z

namespace Z
open PySem PySem.Spec PyProof.Rows L2
open Classical

/-- fixed through a law: the written part, where the classes stand, where the draws stand -/
structure Pm where
  K : PySem.W.Frag
  ca : Str → Option Addr
  cx : Str → Option Addr
  dl : List Addr
  d2 : Addr
  tb : List (Addr × Str) := []
/-- the addresses whose objects are changed below the evaluator: the draws', the tables of code objects -/
def Pm.mv (c : Pm) : List Addr := c.dl ++ c.tb.map (·.1)

/-- an exception object of the class cls, its own dict d, at a -/
def XO (cls : Value) (d : Option Addr) (a : Addr) : HO := .ext fun h => ∃ (oe : Obj) (vs : Array Value), h.get? a = some oe ∧ Zc cls d oe ∧ oe.data = .fields vs
/-- the script: a list that is not changed -/
def SqS (K : PySem.W.Frag) (F : Hp) (a : Addr) (vs : List V) : Prop := (∃ o, F a = some (.frz o (.lst vs))) ∨ F a = some (.lst vs) ∨ ∀ H, SqL K H a vs
theorem SqS.seq {K : PySem.W.Frag} {F H : Hp} {a : Addr} {vs : List V} (s : Same F H) (h : SqS K F a vs) : SqL K H a vs := by
  rcases h with ⟨o, h⟩ | h | h
  · exact .inl (.inr ⟨o, s _ _ h⟩)
  · exact .inl (.inl (s _ _ h))
  · exact h H
theorem SqS.mono {K : PySem.W.Frag} {F H : Hp} {a : Addr} {vs : List V} (s : Same F H) (h : SqS K F a vs) : SqS K H a vs := by
  rcases h with ⟨o, h⟩ | h | h
  · exact .inl ⟨o, s _ _ h⟩
  · exact .inr (.inl (s _ _ h))
  · exact .inr (.inr h)
/-- no table of a code object -/
def Nt (o : HO) : Prop := ∀ ps, o ≠ .tbl ps
/-- no table, no tuple -/
def Ob (o : HO) : Prop := Nt o ∧ ∀ xs, o ≠ .tup xs
/-- an object stands there, no table, no tuple; nothing stands there, or one of these -/
def Thr (H : Hp) (a : Addr) : Prop := ∃ o, H a = some o ∧ Ob o
abbrev Nil (H : Hp) (a : Addr) : Prop := ¬ Thr H a
theorem Nil.of {H : Hp} {a : Addr} (h : H a = none) : Nil H a := fun ⟨o, e, _⟩ => by rw [h] at e; cases e
theorem Nil.no {H : Hp} {a : Addr} {o : HO} (h : Nil H a) (e : H a = some o) (n : Ob o) : False := h ⟨o, e, n⟩
theorem nt_lst {xs : List V} : Nt (.lst xs) := fun _ h => by cases h
theorem nt_tup {xs : List V} : Nt (.tup xs) := fun _ h => by cases h
theorem nt_ins {C dx : Addr} {fs : List (Str × V)} : Nt (.ins C dx fs) := fun _ h => by cases h
theorem nt_dK {kvs : List (Key × V)} : Nt (.dK kvs) := fun _ h => by cases h
theorem ob_lst {xs : List V} : Ob (.lst xs) := ⟨nt_lst, fun _ h => by cases h⟩
theorem ob_ins {C dx : Addr} {fs : List (Str × V)} : Ob (.ins C dx fs) := ⟨nt_ins, fun _ h => by cases h⟩
theorem ob_dK {kvs : List (Key × V)} : Ob (.dK kvs) := ⟨nt_dK, fun _ h => by cases h⟩
theorem Thr.lst {H : Hp} {a : Addr} {xs : List V} (h : H a = some (.lst xs)) : Thr H a := ⟨_, h, ob_lst⟩
theorem Thr.ins {H : Hp} {a C dx : Addr} {fs : List (Str × V)} (h : H a = some (.ins C dx fs)) : Thr H a := ⟨_, h, ob_ins⟩
theorem Thr.dK {H : Hp} {a : Addr} {kvs : List (Key × V)} (h : H a = some (.dK kvs)) : Thr H a := ⟨_, h, ob_dK⟩
def keyD : Key → D
  | .inl i => .int i
  | .inr x => .str x
mutual
inductive Rep (c : Pm) (F : Hp) : V → D → Prop
  | non : Rep c F .non .non
  | bl (b : Bool) : Rep c F (.bl b) (.bl b)
  | int (i : Int) : Rep c F (.int i) (.int i)
  | str (x : Str) : Rep c F (.str x) (.str x)
  | tup {a : Addr} {vs : List V} {xs : List D} : F a = some (.tup vs) → RepL c F vs xs → Rep c F (.ref a) (.tup xs)
  | lst {a : Addr} {vs : List V} {xs : List D} : F a = some (.lst vs) → RepL c F vs xs → Rep c F (.ref a) (.lst xs)
  | ins {a C dx : Addr} {n : Str} {gs : List (Str × V)} {fs : List (Str × D)} : F a = some (.ins C dx gs) → c.ca n = some C → RepF c F gs fs → Rep c F (.ref a) (.ins n fs)
  | drw {a : Addr} : c.dl.head? = some a → Rep c F (.ref a) .drw
  | scr {a : Addr} {ns : List Int} : SqS c.K F a (ns.map V.int) → Rep c F (.ref a) (.scr ns)
  | dicK {a : Addr} {ks : List (Key × V)} {kvs : List (D × D)} : Rd F a (.dK ks) → kvs.map (·.1) = ks.map (fun q => keyD q.1) → RepL c F (ks.map (·.2)) (kvs.map (·.2)) → Rep c F (.ref a) (.dic false kvs)
  | dicT {a : Addr} {ks : List (List Key × V)} {kvs : List (D × D)} : Rd F a (.dT ks) → kvs.map (·.1) = ks.map (fun q => .tup (q.1.map keyD)) → RepL c F (ks.map (·.2)) (kvs.map (·.2)) → Rep c F (.ref a) (.dic true kvs)
  | exc0 {a C : Addr} {n : Str} : F a = some (XO (.ref C) none a) → c.cx n = some C → Rep c F (.ref a) (.exc n [])
  | exc1 {a C dd : Addr} {n : Str} {gs : List (Str × V)} {fs : List (Str × D)} : F a = some (XO (.ref C) (some dd) a) → c.cx n = some C → F dd = some (.xd gs) → RepF c F gs fs → fs ≠ [] → Rep c F (.ref a) (.exc n fs)
inductive RepL (c : Pm) (F : Hp) : List V → List D → Prop
  | nil : RepL c F [] []
  | cons {v : V} {vs : List V} {x : D} {xs : List D} : Rep c F v x → RepL c F vs xs → RepL c F (v :: vs) (x :: xs)
inductive RepF (c : Pm) (F : Hp) : List (Str × V) → List (Str × D) → Prop
  | nil : RepF c F [] []
  | cons {f : Str} {v : V} {gs : List (Str × V)} {x : D} {fs : List (Str × D)} : Rep c F v x → RepF c F gs fs → RepF c F ((f, v) :: gs) ((f, x) :: fs)
end

theorem Same.sqT {K : PySem.W.Frag} {H H' : Hp} {a : Addr} {xs : List V} (e : Same H H') (h : SqT K H a xs) : SqT K H' a xs := by
  rcases h with (h | ⟨o, h⟩) | h
  · exact .inl (.inl (e _ _ h))
  · exact .inl (.inr ⟨o, e _ _ h⟩)
  · exact .inr h

theorem Rd.mono {F F' : Hp} {a : Addr} {u : HO} (e : Same F F') (h : Rd F a u) : Rd F' a u := h.elim (fun h => .inl (e _ _ h)) fun ⟨o, h⟩ => .inr ⟨o, e _ _ h⟩
section
variable {c : Pm} {F F' : Hp}
mutual
theorem Rep.mono (e : Same F F') : ∀ {v : V} {x : D}, Rep c F v x → Rep c F' v x
  | _, _, .non => .non
  | _, _, .bl b => .bl b
  | _, _, .int b => .int b
  | _, _, .str b => .str b
  | _, _, .tup h r => .tup (e _ _ h) (RepL.mono e r)
  | _, _, .lst h r => .lst (e _ _ h) (RepL.mono e r)
  | _, _, .ins h k r => .ins (e _ _ h) k (RepF.mono e r)
  | _, _, .drw h => .drw h
  | _, _, .scr h => .scr (SqS.mono e h)
  | _, _, .dicK h k r => .dicK (Rd.mono e h) k (RepL.mono e r)
  | _, _, .dicT h k r => .dicT (Rd.mono e h) k (RepL.mono e r)
  | _, _, .exc0 h k => .exc0 (e _ _ h) k
  | _, _, .exc1 h k q r n => .exc1 (e _ _ h) k (e _ _ q) (RepF.mono e r) n
theorem RepL.mono (e : Same F F') : ∀ {v : List V} {x : List D}, RepL c F v x → RepL c F' v x
  | _, _, .nil => .nil
  | _, _, .cons h r => .cons (Rep.mono e h) (RepL.mono e r)
theorem RepF.mono (e : Same F F') : ∀ {v : List (Str × V)} {x : List (Str × D)}, RepF c F v x → RepF c F' v x
  | _, _, .nil => .nil
  | _, _, .cons h r => .cons (Rep.mono e h) (RepF.mono e r)
end
theorem RepL.length : ∀ {vs : List V} {xs : List D}, RepL c F vs xs → vs.length = xs.length
  | _, _, .nil => rfl
  | _, _, .cons _ r => by rw [List.length_cons, List.length_cons, RepL.length r]
theorem RepL.get : ∀ {vs : List V} {xs : List D} {i : Nat} {x : D}, RepL c F vs xs → xs[i]? = some x → ∃ v, vs[i]? = some v ∧ Rep c F v x
  | _, _, i, _, .nil, e => by simp at e
  | _, _, 0, _, .cons h r, e => ⟨_, rfl, by simp at e; subst e; exact h⟩
  | _, _, i + 1, _, .cons h r, e => by simpa using RepL.get (i := i) r (by simpa using e)
theorem RepL.getV : ∀ {vs : List V} {xs : List D} {i : Nat} {v : V}, RepL c F vs xs → vs[i]? = some v → ∃ x, xs[i]? = some x ∧ Rep c F v x
  | _, _, i, _, .nil, e => by simp at e
  | _, _, 0, _, .cons h r, e => ⟨_, rfl, by simp at e; subst e; exact h⟩
  | _, _, i + 1, _, .cons h r, e => by simpa using RepL.getV (i := i) r (by simpa using e)
theorem RepL.append : ∀ {vs ws : List V} {xs ys : List D}, RepL c F vs xs → RepL c F ws ys → RepL c F (vs ++ ws) (xs ++ ys)
  | _, _, _, _, .nil, s => s
  | _, _, _, _, .cons h r, s => .cons h (RepL.append r s)
theorem RepL.take : ∀ {vs : List V} {xs : List D} (n : Nat), RepL c F vs xs → RepL c F (vs.take n) (xs.take n)
  | _, _, 0, _ => .nil
  | _, _, _ + 1, .nil => .nil
  | _, _, n + 1, .cons h r => .cons h (RepL.take n r)
theorem RepL.drop : ∀ {vs : List V} {xs : List D} (n : Nat), RepL c F vs xs → RepL c F (vs.drop n) (xs.drop n)
  | _, _, 0, r => r
  | _, _, _ + 1, .nil => .nil
  | _, _, n + 1, .cons _ r => RepL.drop n r
theorem RepL.set {v : V} {x : D} (h : Rep c F v x) : ∀ {vs : List V} {xs : List D} (i : Nat), RepL c F vs xs → RepL c F (vs.set i v) (xs.set i x)
  | _, _, _, .nil => .nil
  | _, _, 0, .cons _ r => .cons h r
  | _, _, i + 1, .cons k r => .cons k (RepL.set h i r)
theorem RepL.reverse {vs : List V} {xs : List D} (h : RepL c F vs xs) : RepL c F vs.reverse xs.reverse := by
  induction h using RepL.rec (motive_1 := fun _ _ _ => True) (motive_3 := fun _ _ _ => True) with
  | nil => exact .nil
  | cons h r _ ih => rw [List.reverse_cons, List.reverse_cons]; exact RepL.append ih (.cons h .nil)
  | _ => trivial
theorem RepF.look : ∀ {gs : List (Str × V)} {fs : List (Str × D)} {f : Str} {x : D}, RepF c F gs fs → fs.lookup f = some x → ∃ v, gs.lookup f = some v ∧ Rep c F v x
  | _, _, f, x, .nil, e => by simp at e
  | _, _, f, x, .cons (f := g) h r, e => by
    by_cases hg : f == g
    · rw [List.lookup_cons, hg] at e
      have e' := Option.some.inj e
      exact ⟨_, by rw [List.lookup_cons, hg], e' ▸ h⟩
    · have hg' : (f == g) = false := by simpa using hg
      rw [List.lookup_cons, hg'] at e
      obtain ⟨v, h1, h2⟩ := RepF.look r e
      exact ⟨v, by rw [List.lookup_cons, hg']; exact h1, h2⟩
theorem RepF.lookN : ∀ {gs : List (Str × V)} {fs : List (Str × D)} {f : Str}, RepF c F gs fs → fs.lookup f = none → gs.lookup f = none
  | _, _, f, .nil, e => rfl
  | _, _, f, .cons (f := g) h r, e => by
    by_cases hg : f == g
    · rw [List.lookup_cons, hg] at e; cases e
    · have hg' : (f == g) = false := by simpa using hg
      rw [List.lookup_cons, hg'] at e ⊢
      exact RepF.lookN r e

/-- data in which nothing can be changed do not hang on lists and dicts -/
def Soft (F : Hp) (a : Addr) : Prop := F a = none ∨ (∃ xs, F a = some (.lst xs)) ∨ (∃ xs, F a = some (.dK xs)) ∨ (∃ xs, F a = some (.dT xs))
theorem Soft.nt {a : Addr} (h : Soft F a) {o : HO} (e : F a = some o) : Nt o := by
  rcases h with q | ⟨xs, q⟩ | ⟨xs, q⟩ | ⟨xs, q⟩ <;> rw [e] at q <;> cases q <;> exact fun _ h => by cases h
theorem Soft.ob {a : Addr} (h : Soft F a) {o : HO} (e : F a = some o) : Ob o := by
  rcases h with q | ⟨xs, q⟩ | ⟨xs, q⟩ | ⟨xs, q⟩ <;> rw [e] at q <;> cases q <;> exact ⟨fun _ => HO.noConfusion, fun _ => HO.noConfusion⟩
theorem Soft.thr {a : Addr} (h : Soft F a) (e : F a ≠ none) : Thr F a := by
  cases q : F a with
  | none => exact absurd q e
  | some o => exact ⟨o, q, h.ob q⟩
theorem Soft.sqT {A : Addr → Prop} (hA : ∀ a, A a → Soft F a) (hF : ∀ a, ¬ A a → F' a = F a) {a : Addr} {vs : List V} (h : SqT c.K F a vs) : SqT c.K F' a vs := by
  rcases h with (h | ⟨o, h⟩) | h
  · refine .inl (.inl ?_)
    rw [hF a fun z => ?_]; exact h
    rcases hA a z with q | ⟨xs, q⟩ | ⟨xs, q⟩ | ⟨xs, q⟩ <;> rw [h] at q <;> cases q
  · refine .inl (.inr ⟨o, ?_⟩)
    rw [hF a fun z => ?_]; exact h
    rcases hA a z with q | ⟨xs, q⟩ | ⟨xs, q⟩ | ⟨xs, q⟩ <;> rw [h] at q <;> cases q
  · exact .inr h
mutual
theorem Rep.soft {A : Addr → Prop} (hA : ∀ a, A a → Soft F a) (hF : ∀ a, ¬ A a → F' a = F a) : ∀ {v : V} {x : D}, Rep c F v x → x.imm = true → Rep c F' v x
  | _, _, .non, _ => .non
  | _, _, .bl b, _ => .bl b
  | _, _, .int b, _ => .int b
  | _, _, .str b, _ => .str b
  | _, _, .tup (a := a) h r, m => by
    have q : ¬ A a := fun z => by
      rcases hA a z with q | ⟨xs, q⟩ | ⟨xs, q⟩ | ⟨xs, q⟩ <;> rw [h] at q <;> cases q
    exact .tup ((hF a q).trans h) (RepL.soft hA hF r (by simpa only [D.imm] using m))
  | _, _, .lst h r, m => by simp [D.imm] at m
  | _, _, .ins (a := a) h k r, m => by
    have q : ¬ A a := fun z => by
      rcases hA a z with q | ⟨xs, q⟩ | ⟨xs, q⟩ | ⟨xs, q⟩ <;> rw [h] at q <;> cases q
    exact .ins ((hF a q).trans h) k (RepF.soft hA hF r (by simpa only [D.imm] using m))
  | _, _, .drw h, _ => .drw h
  | _, _, .scr h, m => by simp [D.imm] at m
  | _, _, .dicK h k r, m => by simp [D.imm] at m
  | _, _, .dicT h k r, m => by simp [D.imm] at m
  | _, _, .exc0 h k, m => by simp [D.imm] at m
  | _, _, .exc1 h k q r n, m => by simp [D.imm] at m
theorem RepL.soft {A : Addr → Prop} (hA : ∀ a, A a → Soft F a) (hF : ∀ a, ¬ A a → F' a = F a) : ∀ {v : List V} {x : List D}, RepL c F v x → D.immL x = true → RepL c F' v x
  | _, _, .nil, _ => .nil
  | _, _, .cons h r, m => by
    simp only [D.immL, Bool.and_eq_true] at m
    exact .cons (Rep.soft hA hF h m.1) (RepL.soft hA hF r m.2)
theorem RepF.soft {A : Addr → Prop} (hA : ∀ a, A a → Soft F a) (hF : ∀ a, ¬ A a → F' a = F a) : ∀ {v : List (Str × V)} {x : List (Str × D)}, RepF c F v x → D.immF x = true → RepF c F' v x
  | _, _, .nil, _ => .nil
  | _, _, .cons h r, m => by
    simp only [D.immF, Bool.and_eq_true] at m
    exact .cons (Rep.soft hA hF h m.1) (RepF.soft hA hF r m.2)
end
end

/-- the object at p is the datum, its parts stand in F -/
def OwnAt (c : Pm) (F H : Hp) (p : Addr) (x : D) : Prop := match x with
  | .lst xs => ∃ vs, H p = some (.lst vs) ∧ RepL c F vs xs
  | .dic false kvs => ∃ ks : List (Key × V), H p = some (.dK ks) ∧ kvs.map (·.1) = ks.map (fun q => keyD q.1) ∧ RepL c F (ks.map (·.2)) (kvs.map (·.2))
  | .dic true kvs => ∃ ks : List (List Key × V), H p = some (.dT ks) ∧ kvs.map (·.1) = ks.map (fun q => .tup (q.1.map keyD)) ∧ RepL c F (ks.map (·.2)) (kvs.map (·.2))
  | _ => False
/-- the object as it stands -/
theorem OwnAt.obj {c : Pm} {F H : Hp} {p : Addr} {x : D} (h : OwnAt c F H p x) : (∃ vs, H p = some (.lst vs)) ∨ (∃ ks, H p = some (.dK ks)) ∨ ∃ ks, H p = some (.dT ks) := by
  cases x <;> try exact h.elim
  · obtain ⟨vs, h1, h2⟩ := h
    exact .inl ⟨_, h1⟩
  · rename_i t kvs
    cases t
    · obtain ⟨vs, h1, h2⟩ := h
      exact .inr (.inl ⟨_, h1⟩)
    · obtain ⟨vs, h1, h2⟩ := h
      exact .inr (.inr ⟨_, h1⟩)
theorem OwnAt.mono {c : Pm} {F F' H H' : Hp} {p : Addr} {x : D} (h : OwnAt c F H p x) (e : Same F F') (eh : ∀ o, H p = some o → H' p = some o) : OwnAt c F' H' p x := by
  cases x <;> try exact h
  · obtain ⟨vs, h1, h2⟩ := h
    exact ⟨vs, eh _ h1, h2.mono e⟩
  · rename_i t kvs
    cases t
    · obtain ⟨vs, h1, h2, h3⟩ := h
      exact ⟨vs, eh _ h1, h2, h3.mono e⟩
    · obtain ⟨vs, h1, h2, h3⟩ := h
      exact ⟨vs, eh _ h1, h2, h3.mono e⟩
theorem nt_dT {kvs : List (List Key × V)} : Nt (.dT kvs) := fun _ h => by cases h
theorem ob_dT {kvs : List (List Key × V)} : Ob (.dT kvs) := ⟨nt_dT, fun _ h => by cases h⟩
theorem OwnAt.thr {c : Pm} {F H : Hp} {p : Addr} {x : D} (h : OwnAt c F H p x) : Thr H p := by
  rcases h.obj with ⟨_, q⟩ | ⟨_, q⟩ | ⟨_, q⟩
  · exact .lst q
  · exact .dK q
  · exact ⟨_, q, ob_dT⟩
theorem OwnAt.ntl {c : Pm} {F H : Hp} {p : Addr} {x : D} (h : OwnAt c F H p x) {o : HO} (e : H p = .some o) : Nt o := by
  obtain ⟨o', e', n⟩ := h.thr
  rw [e] at e'
  cases e'
  exact n.1
theorem OwnAt.some {c : Pm} {F H : Hp} {p : Addr} {x : D} (h : OwnAt c F H p x) : H p ≠ none := fun z => Nil.of z h.thr
theorem OwnAt.softH {c : Pm} {F H : Hp} {p : Addr} {x : D} (h : OwnAt c F H p x) : Soft H p := by
  rcases h.obj with q | q | q
  · exact .inr (.inl q)
  · exact .inr (.inr (.inl q))
  · exact .inr (.inr (.inr q))
/-- an own object becomes one of the others -/
theorem OwnAt.rep {c : Pm} {F F' H : Hp} {p : Addr} {x : D} (h : OwnAt c F H p x) (e : Same F F') (hp : F' p = H p) : Rep c F' (.ref p) x := by
  cases x <;> try exact h.elim
  · obtain ⟨vs, h1, h2⟩ := h
    exact .lst (hp.trans h1) (h2.mono e)
  · rename_i t kvs
    cases t
    · obtain ⟨vs, h1, h2, h3⟩ := h
      exact .dicK (.inl (hp.trans h1)) h2 (h3.mono e)
    · obtain ⟨vs, h1, h2, h3⟩ := h
      exact .dicT (.inl (hp.trans h1)) h2 (h3.mono e)
theorem immV_snd : ∀ {kvs : List (D × D)}, immV kvs = true → D.immL (kvs.map (·.2)) = true
  | [], _ => rfl
  | (k, v) :: r, h => by
    simp only [immV, Bool.and_eq_true] at h
    simp only [List.map_cons, D.immL, Bool.and_eq_true]
    exact ⟨h.1.2, immV_snd h.2⟩
theorem OwnAt.soft {c : Pm} {F F' H : Hp} {p : Addr} {x : D} {A : Addr → Prop} (hA : ∀ a, A a → Soft F a) (hF : ∀ a, ¬ A a → F' a = F a) (h : OwnAt c F H p x) (m : x.kids = true) : OwnAt c F' H p x := by
  cases x <;> try exact h.elim
  · obtain ⟨vs, h1, h2⟩ := h
    exact ⟨vs, h1, h2.soft hA hF (by simpa only [D.kids] using m)⟩
  · rename_i t kvs
    simp only [D.kids] at m
    cases t
    · obtain ⟨vs, h1, h2, h3⟩ := h
      exact ⟨vs, h1, h2, h3.soft hA hF (immV_snd m)⟩
    · obtain ⟨vs, h1, h2, h3⟩ := h
      exact ⟨vs, h1, h2, h3.soft hA hF (immV_snd m)⟩

/-- the draws -/
def drK (W : Dr) (a1 a2 : Addr) : List (Key × V) := [(Sum.inr "wide", .ref a1), (Sum.inr "cells", .ref a2), (Sum.inr "rest", .int W.rest), (Sum.inr "turn", .int W.turn)]
def DrawAt (c : Pm) (W : Dr) (H : Hp) : Prop := c.dl = [] ∨ ∃ a0 a1, c.dl = [a0, a1] ∧ a0 ≠ a1 ∧ H a0 = some (.dK (drK W a1 c.d2)) ∧ H a1 = some (.lst (W.wide.map .int))
theorem DrawAt.nt {c : Pm} {W : Dr} {H : Hp} (h : DrawAt c W H) {a : Addr} (ha : a ∈ c.dl) {o : HO} (e : H a = .some o) : Nt o := by
  rcases h with h | ⟨a0, a1, h, _, e0, e1⟩
  · rw [h] at ha; simp at ha
  · rw [h] at ha
    simp only [List.mem_cons, List.not_mem_nil, or_false] at ha
    rcases ha with rfl | rfl
    · rw [e0] at e; cases e; exact nt_dK
    · rw [e1] at e; cases e; exact nt_lst
theorem DrawAt.some {c : Pm} {W : Dr} {H : Hp} (h : DrawAt c W H) {a : Addr} (ha : a ∈ c.dl) : H a ≠ none := by
  rcases h with h | ⟨a0, a1, h, _, e0, e1⟩
  · rw [h] at ha; simp at ha
  · rw [h] at ha
    simp only [List.mem_cons, List.not_mem_nil, or_false] at ha
    rcases ha with rfl | rfl
    · rw [e0]; simp
    · rw [e1]; simp

/-- from F, H to F', H': what stood stands (but the draws), nothing old comes into F' -/
structure Stp (c : Pm) (W : Dr) (F H F' H' : Hp) : Prop where
  f : Same F F'
  sub : Same F' H'
  h : ∀ a o, H a = some o → a ∉ c.mv → Nt o → H' a = some o
  new : ∀ a, F a = none → Thr H a → F' a = none
  nt : ∀ a o, F' a = some o → Nt o
  av : ∀ a ∈ c.mv, F' a = none
  dr : DrawAt c W H'
  cl : c.dl ≠ [] → F' c.d2 = some (.lst (W.cells.map .int))
  tabs : LamX.Tabs c.tb H'
section
variable {c : Pm} {W W' W1 : Dr} {F H F' H' F1 H1 : Hp}
theorem Stp.sm (s : Stp c W F H F' H') {a : Addr} (ha : a ∈ c.mv) : H' a ≠ none := by
  unfold Pm.mv at ha
  rcases List.mem_append.mp ha with h | h
  · exact s.dr.some h
  · obtain ⟨p, h1, h2⟩ := List.mem_map.mp h
    obtain ⟨ps, e, _⟩ := s.tabs p h1
    rw [← h2, e]
    exact fun z => nomatch z
theorem Stp.there (s : Stp c W F H F' H') {a : Addr} (m : a ∉ c.mv) (e : Thr H a) : Thr H' a := by
  obtain ⟨o, e, n⟩ := e
  exact ⟨o, s.h a o e m n.1, n⟩
theorem Stp.keepN (s : Stp c W F H F' H') {a : Addr} (m : a ∉ c.mv) (e : Nil H' a) : Nil H a := fun z => e (s.there m z)
theorem Stp.fresh (s : Stp c W F H F' H') {a : Addr} (e : H' a = none) : a ∉ c.mv := fun z => s.sm z e
theorem Stp.trans (a : Stp c W F H F1 H1) (b : Stp c W' F1 H1 F' H') : Stp c W' F H F' H' :=
  ⟨fun x o e => b.f x o (a.f x o e), b.sub, fun x o e n k => b.h x o (a.h x o e n k) n k, fun x e n => if m : x ∈ c.mv then b.av x m else b.new x (a.new x e n) (a.there m n), b.nt, b.av, b.dr, b.cl, b.tabs⟩
theorem Stp.refl (s : Stp c W F H F' H') : Stp c W F' H' F' H' := ⟨Same.refl _, s.sub, fun _ _ e _ _ => e, fun _ e _ => e, s.nt, s.av, s.dr, s.cl, s.tabs⟩
end

/-- an instance that is being made -/
def SlfAt (c : Pm) (H0 F H : Hp) (p : Addr) (n : Str) (fs : List (Str × D)) : Prop := F p = none ∧ p ∉ c.mv ∧ Nil H0 p ∧ ∃ C dx gs, H p = some (.ins C dx gs) ∧ c.ca n = some C ∧ RepF c F gs fs
/-- a name's place -/
def SlotOk (c : Pm) (H0 F H : Hp) : Sl → Option (Option V) → Prop
  | .un, o => o ≠ none
  | .val x, o => ∃ v, o = some (some v) ∧ Rep c F v x
  | .own x, o => ∃ p, o = some (some (.ref p)) ∧ F p = none ∧ p ∉ c.mv ∧ Nil H0 p ∧ OwnAt c F H p x
  | .slf p n fs, o => o = some (some (.ref p)) ∧ SlfAt c H0 F H p n fs
structure Rel (c : Pm) (F0 H0 : Hp) (ρ : En) (σ : L2.St) (F H : Hp) (W : Dr) : Prop where
  len : ρ.length = σ.length
  stp : Stp c W F0 H0 F H
  slot : ∀ (i : Nat) (s : Sl), ρ[i]? = some s → SlotOk c H0 F H s σ[i]?
  dist : ∀ (i j : Nat) (x y : D) (p : Addr), ρ[i]? = some (.own x) → ρ[j]? = some (.own y) → σ[i]? = some (some (.ref p)) → σ[j]? = some (some (.ref p)) → i = j

/-- F and the own objects of some names -/
def AtS (σ : L2.St) (t : List Nat) (a : Addr) : Prop := ∃ i, i ∈ t ∧ σ[i]? = some (some (.ref a))
noncomputable def Fz (F H : Hp) (σ : L2.St) (t : List Nat) : Hp := fun a => if AtS σ t a then H a else F a
theorem Fz_nil {F H : Hp} {σ : L2.St} : Fz F H σ [] = F := by
  funext a; unfold Fz; rw [if_neg]; rintro ⟨i, h, _⟩; simp at h
theorem Fz_in {F H : Hp} {σ : L2.St} {t : List Nat} {a : Addr} (h : AtS σ t a) : Fz F H σ t a = H a := if_pos h
theorem Fz_out {F H : Hp} {σ : L2.St} {t : List Nat} {a : Addr} (h : ¬ AtS σ t a) : Fz F H σ t a = F a := if_neg h
theorem Fz_up {F H : Hp} {σ : L2.St} {t : List Nat} (s : Same F H) : Same F (Fz F H σ t) := fun a o e => by
  by_cases h : AtS σ t a
  · rw [Fz_in h]; exact s a o e
  · rw [Fz_out h]; exact e
theorem Fz_dn {F H : Hp} {σ : L2.St} {t : List Nat} (s : Same F H) : Same (Fz F H σ t) H := fun a o e => by
  by_cases h : AtS σ t a
  · rw [Fz_in h] at e; exact e
  · rw [Fz_out h] at e; exact s a o e
theorem Fz_mono {F H : Hp} {σ : L2.St} {t t' : List Nat} (s : Same F H) (ht : ∀ i ∈ t, i ∈ t') : Same (Fz F H σ t) (Fz F H σ t') := fun a o e => by
  by_cases h' : AtS σ t' a
  · rw [Fz_in h']; exact Fz_dn s a o e
  · have h : ¬ AtS σ t a := fun ⟨i, h1, h2⟩ => h' ⟨i, ht i h1, h2⟩
    rw [Fz_out h']; rw [Fz_out h] at e; exact e

/-- an error that flies -/
def ExOk (c : Pm) (F : Hp) (x : D) (cls : Value) (dd : Option Addr) : Prop := match x with
  | .exc n fs => ∃ C, c.cx n = some C ∧ cls = .ref C ∧ match fs with
    | [] => dd = none
    | fs => D.immF fs = true ∧ ∃ a gs, dd = some a ∧ F a = some (.xd gs) ∧ RepF c F gs fs
  | _ => False

/-- a value of an expression: it began at Hs, now F, H -/
structure ValOk (c : Pm) (ρ : En) (σ : L2.St) (Hs F H : Hp) (u : V) (v : Vl) : Prop where
  own : ∀ i ∈ v.all, ∃ x, ρ[i]? = some (.own x)
  at_ : match v.k with
    | .pl => Rep c (Fz F H σ v.t) u v.d
    | .me i => v.t = [] ∧ ρ[i]? = some (.own v.d) ∧ σ[i]? = some (some u)
    | .fr => ∃ p, u = .ref p ∧ F p = none ∧ p ∉ c.mv ∧ Nil Hs p ∧ OwnAt c (Fz F H σ v.t) H p v.d

/-- the arguments' own new objects -/
def TmpAt : List V → List Vl → Addr → Prop
  | u :: us, v :: vs, a => (v.k = .fr ∧ u = .ref a) ∨ TmpAt us vs a
  | _, _, _ => False
/-- no two are the same -/
def Apart : List V → List Vl → Prop
  | u :: us, v :: vs => (∀ a, v.k = .fr → u = .ref a → ¬ TmpAt us vs a) ∧ Apart us vs
  | _, _ => True

/-- what is wanted behind something that is worth o -/
def Pst (c : Pm) (Wx : WX) (σ : L2.St) (F H : Hp) {α β : Type} (ok : α → β → Hp → Hp → Prop) (Q : β → Hp → Prop) : Out α → Prop
  | .ok a W' => ∀ b F' H', Stp c W' F H F' H' → ok a b F' H' → Q b H'
  | .ex x W' => ∀ cls dd F' H', Stp c W' F H F' H' → ExOk c F' x cls dd → Wx cls dd σ H'
  | .stk => False
end Z

namespace Z
open PySem PySem.Spec PyProof.Rows L2
open Classical
section
variable {c : Pm} {W W' W1 W2 : Dr} {F0 H0 F H F' H' F1 H1 F2 H2 Hs : Hp} {ρ : En} {σ : L2.St} {u w : V} {v : Vl}

theorem Rel.step (R : Rel c F0 H0 ρ σ F H W) (s : Stp c W' F H F' H') : Rel c F0 H0 ρ σ F' H' W' := by
  refine ⟨R.len, R.stp.trans s, fun i x e => ?_, R.dist⟩
  have k := R.slot i x e
  cases x with
  | un => exact k
  | val x => obtain ⟨v, h1, h2⟩ := k; exact ⟨v, h1, h2.mono s.f⟩
  | own x =>
    obtain ⟨p, h1, h2, h3, h4, h5⟩ := k
    exact ⟨p, h1, s.new p h2 h5.thr, h3, h4, h5.mono s.f fun o e => s.h p o e h3 (h5.ntl e)⟩
  | slf p n fs =>
    obtain ⟨h1, h2, h3, h4, C, dx, gs, h5, h6, h7⟩ := k
    exact ⟨h1, s.new p h2 (.ins h5), h3, h4, C, dx, gs, s.h p _ h5 h3 nt_ins, h6, h7.mono s.f⟩
theorem Rel.own (R : Rel c F0 H0 ρ σ F H W) {i : Nat} {x : D} (e : ρ[i]? = some (.own x)) : ∃ p, σ[i]? = some (some (.ref p)) ∧ F p = none ∧ p ∉ c.mv ∧ Nil H0 p ∧ OwnAt c F H p x := R.slot i _ e
theorem Rel.at_ (R : Rel c F0 H0 ρ σ F H W) {t : List Nat} (ht : ∀ i ∈ t, ∃ x, ρ[i]? = some (.own x)) {a : Addr} (h : AtS σ t a) : F a = none ∧ a ∉ c.mv ∧ Soft H a ∧ H a ≠ none := by
  obtain ⟨i, hi, e⟩ := h
  obtain ⟨x, hx⟩ := ht i hi
  obtain ⟨p, h1, h2, h3, h4, h5⟩ := R.own hx
  have q : a = p := by
    rw [e] at h1
    exact V.ref.inj (Option.some.inj (Option.some.inj h1))
  subst q
  exact ⟨h2, h3, h5.softH, h5.some⟩
theorem Fz_step (R : Rel c F0 H0 ρ σ F H W) {t : List Nat} (ht : ∀ i ∈ t, ∃ x, ρ[i]? = some (.own x)) (s : Stp c W' F H F' H') : Same (Fz F H σ t) (Fz F' H' σ t) := fun a o e => by
  by_cases h : AtS σ t a
  · obtain ⟨_, h2, h3, _⟩ := R.at_ ht h
    rw [Fz_in h] at e ⊢
    exact s.h a o e h2 (h3.nt e)
  · rw [Fz_out h] at e ⊢
    exact s.f a o e
/-- what hangs on the own objects of some names does not, where nothing can be changed -/
theorem Fz_soft (R : Rel c F0 H0 ρ σ F H W) {t : List Nat} (ht : ∀ i ∈ t, ∃ x, ρ[i]? = some (.own x)) : (∀ a, AtS σ t a → Soft (Fz F H σ t) a) ∧ ∀ a, ¬ AtS σ t a → F a = Fz F H σ t a :=
  ⟨fun a h => by
    have q := (R.at_ ht h).2.2.1
    unfold Soft at q ⊢
    rw [Fz_in h]; exact q, fun a h => (Fz_out h).symm⟩
theorem ValOk.t_own {v : Vl} (k : ValOk c ρ σ Hs F H u v) : ∀ i ∈ v.t, ∃ x, ρ[i]? = some (.own x) := fun i hi => k.own i (by
  unfold Vl.all; split
  · exact List.mem_cons_of_mem _ hi
  · exact hi)
theorem ValOk.step (R : Rel c F0 H0 ρ σ F H W) (k : ValOk c ρ σ Hs F H u v) (s : Stp c W' F H F' H') : ValOk c ρ σ Hs F' H' u v := by
  refine ⟨k.own, ?_⟩
  have ht := k.t_own
  have a := k.at_
  revert a
  cases v.k with
  | pl => exact fun a => a.mono (Fz_step R ht s)
  | me i => exact fun a => a
  | fr =>
    rintro ⟨p, h1, h2, h3, h4, h5⟩
    exact ⟨p, h1, s.new p h2 h5.thr, h3, h4, h5.mono (Fz_step R ht s) fun o e => s.h p o e h3 (h5.ntl e)⟩
theorem ValOk.start {Hs' : Hp} (k : ValOk c ρ σ Hs F H u v) (h : ∀ a, a ∉ c.mv → Nil Hs a → Nil Hs' a) : ValOk c ρ σ Hs' F H u v := by
  refine ⟨k.own, ?_⟩
  have a := k.at_
  revert a
  cases v.k with
  | pl => exact fun a => a
  | me i => exact fun a => a
  | fr =>
    rintro ⟨p, h1, h2, h3, h4, h5⟩
    exact ⟨p, h1, h2, h3, h _ h3 h4, h5⟩

theorem Rep.intI {i : Int} (r : Rep c F u (.int i)) : u = .int i := by cases r; rfl
theorem Rep.strI {i : Str} (r : Rep c F u (.str i)) : u = .str i := by cases r; rfl
theorem Rep.blI {i : Bool} (r : Rep c F u (.bl i)) : u = .bl i := by cases r; rfl
theorem Rep.nonI (r : Rep c F u .non) : u = .non := by cases r; rfl
theorem Rep.tupI {xs : List D} (r : Rep c F u (.tup xs)) : ∃ a vs, u = .ref a ∧ SqT c.K F a vs ∧ RepL c F vs xs := by cases r with | tup h r => exact ⟨_, _, rfl, .inl (.inl h), r⟩
theorem Rep.tupP {xs : List D} (r : Rep c F u (.tup xs)) : ∃ a vs, u = .ref a ∧ F a = some (.tup vs) ∧ RepL c F vs xs := by cases r with | tup h r => exact ⟨_, _, rfl, h, r⟩
theorem Rep.lstI {xs : List D} (r : Rep c F u (.lst xs)) : ∃ a vs, u = .ref a ∧ F a = some (.lst vs) ∧ RepL c F vs xs := by cases r with | lst h r => exact ⟨_, _, rfl, h, r⟩
theorem Rep.insI {n : Str} {fs : List (Str × D)} (r : Rep c F u (.ins n fs)) : ∃ a C dx gs, u = .ref a ∧ F a = some (.ins C dx gs) ∧ c.ca n = some C ∧ RepF c F gs fs := by cases r with | ins h k r => exact ⟨_, _, _, _, rfl, h, k, r⟩
/-- a value that is no list and no dict of its own stands in Fz -/
theorem ValOk.rep {x : D} (R : Rel c F0 H0 ρ σ F H W) (k : ValOk c ρ σ Hs F H u v) (e : v.d = x) (hx : ∀ F H p, ¬ OwnAt c F H p x) : Rep c (Fz F H σ v.t) u x := by
  subst e
  have a := k.at_
  revert a
  cases v.k with
  | pl => exact fun a => a
  | me i =>
    rintro ⟨h1, h2, h3⟩
    obtain ⟨p, _, _, _, _, h⟩ := R.own h2
    exact (hx _ _ _ h).elim
  | fr =>
    rintro ⟨p, _, _, _, _, h⟩
    exact (hx _ _ _ h).elim
theorem ValOk.int {i : Int} (R : Rel c F0 H0 ρ σ F H W) (k : ValOk c ρ σ Hs F H u v) (e : v.d = .int i) : u = .int i := (k.rep R e fun _ _ _ h => h).intI
theorem ValOk.str {i : Str} (R : Rel c F0 H0 ρ σ F H W) (k : ValOk c ρ σ Hs F H u v) (e : v.d = .str i) : u = .str i := (k.rep R e fun _ _ _ h => h).strI
theorem ValOk.bl {i : Bool} (R : Rel c F0 H0 ρ σ F H W) (k : ValOk c ρ σ Hs F H u v) (e : v.d = .bl i) : u = .bl i := (k.rep R e fun _ _ _ h => h).blI
theorem ValOk.non (R : Rel c F0 H0 ρ σ F H W) (k : ValOk c ρ σ Hs F H u v) (e : v.d = .non) : u = .non := (k.rep R e fun _ _ _ h => h).nonI
theorem ValOk.tup {xs : List D} (R : Rel c F0 H0 ρ σ F H W) (k : ValOk c ρ σ Hs F H u v) (e : v.d = .tup xs) : ∃ a vs, u = .ref a ∧ SqT c.K (Fz F H σ v.t) a vs ∧ RepL c (Fz F H σ v.t) vs xs := (k.rep R e fun _ _ _ h => h).tupI
theorem ValOk.tupP {xs : List D} (R : Rel c F0 H0 ρ σ F H W) (k : ValOk c ρ σ Hs F H u v) (e : v.d = .tup xs) : ∃ a vs, u = .ref a ∧ Fz F H σ v.t a = some (.tup vs) ∧ RepL c (Fz F H σ v.t) vs xs := (k.rep R e fun _ _ _ h => h).tupP
theorem ValOk.lst {xs : List D} (R : Rel c F0 H0 ρ σ F H W) (k : ValOk c ρ σ Hs F H u v) (e : v.d = .lst xs) : ∃ a vs, u = .ref a ∧ H a = some (.lst vs) ∧ RepL c (Fz F H σ v.t) vs xs := by
  have a := k.at_
  rw [e] at a
  revert a
  cases v.k with
  | pl =>
    intro a
    obtain ⟨p, vs, h1, h2, h3⟩ := a.lstI
    exact ⟨p, vs, h1, Fz_dn R.stp.sub _ _ h2, h3⟩
  | me i =>
    rintro ⟨h1, h2, h3⟩
    obtain ⟨p, e1, _, _, _, vs, e2, e3⟩ := R.own h2
    rw [h3] at e1
    refine ⟨p, vs, Option.some.inj (Option.some.inj e1), e2, ?_⟩
    rw [h1, Fz_nil]; exact e3
  | fr =>
    rintro ⟨p, h1, _, _, _, vs, e2, e3⟩
    exact ⟨p, vs, h1, e2, e3⟩

theorem ValOk.dicK {kvs : List (D × D)} (R : Rel c F0 H0 ρ σ F H W) (k : ValOk c ρ σ Hs F H u v) (e : v.d = .dic false kvs) : ∃ a, ∃ ks : List (Key × V), u = .ref a ∧ Rd H a (.dK ks) ∧ kvs.map (·.1) = ks.map (fun q => keyD q.1) ∧ RepL c (Fz F H σ v.t) (ks.map (·.2)) (kvs.map (·.2)) := by
  have a := k.at_
  rw [e] at a
  revert a
  cases v.k with
  | pl =>
    intro a
    cases a with
    | dicK h1 h2 h3 => exact ⟨_, _, rfl, Rd.mono (Fz_dn R.stp.sub) h1, h2, h3⟩
  | me i =>
    rintro ⟨h1, h2, h3⟩
    obtain ⟨p, e1, _, _, _, vs, e2, e3, e4⟩ := R.own h2
    rw [h3] at e1
    refine ⟨p, vs, Option.some.inj (Option.some.inj e1), .inl e2, e3, ?_⟩
    rw [h1, Fz_nil]; exact e4
  | fr =>
    rintro ⟨p, h1, _, _, _, vs, e2, e3, e4⟩
    exact ⟨p, vs, h1, .inl e2, e3, e4⟩

theorem ValOk.dicT {kvs : List (D × D)} (R : Rel c F0 H0 ρ σ F H W) (k : ValOk c ρ σ Hs F H u v) (e : v.d = .dic true kvs) : ∃ a, ∃ ks : List (List Key × V), u = .ref a ∧ Rd H a (.dT ks) ∧ kvs.map (·.1) = ks.map (fun q => .tup (q.1.map keyD)) ∧ RepL c (Fz F H σ v.t) (ks.map (·.2)) (kvs.map (·.2)) := by
  have a := k.at_
  rw [e] at a
  revert a
  cases v.k with
  | pl =>
    intro a
    cases a with
    | dicT h1 h2 h3 => exact ⟨_, _, rfl, Rd.mono (Fz_dn R.stp.sub) h1, h2, h3⟩
  | me i =>
    rintro ⟨h1, h2, h3⟩
    obtain ⟨p, e1, _, _, _, vs, e2, e3, e4⟩ := R.own h2
    rw [h3] at e1
    refine ⟨p, vs, Option.some.inj (Option.some.inj e1), .inl e2, e3, ?_⟩
    rw [h1, Fz_nil]; exact e4
  | fr =>
    rintro ⟨p, h1, _, _, _, vs, e2, e3, e4⟩
    exact ⟨p, vs, h1, .inl e2, e3, e4⟩

theorem ValOk.dic_ref {t : Bool} {kvs : List (D × D)} (R : Rel c F0 H0 ρ σ F H W) (k : ValOk c ρ σ Hs F H u v) (e : v.d = .dic t kvs) : ∃ a, u = .ref a := by
  cases t
  · obtain ⟨a, _, h, _⟩ := k.dicK R e; exact ⟨a, h⟩
  · obtain ⟨a, _, h, _⟩ := k.dicT R e; exact ⟨a, h⟩

theorem ValOk.of_rep (r : Rep c F u v.d) (hk : v.k = .pl) (ht : v.t = []) : ValOk c ρ σ Hs F H u v := by
  refine ⟨fun i hi => ?_, ?_⟩
  · unfold Vl.all at hi; rw [hk, ht] at hi; simp at hi
  · rw [hk, ht, Fz_nil]; exact r
theorem ValOk.of_plain {t : List Nat} {x : D} (R : Rel c F0 H0 ρ σ F H W) (ht : ∀ i ∈ t, ∃ x, ρ[i]? = some (.own x)) (r : Rep c (Fz F H σ t) u x) : ValOk c ρ σ Hs F H u (vl x t) := by
  unfold vl
  by_cases m : x.imm = true
  · rw [if_pos m]
    obtain ⟨a1, a2⟩ := Fz_soft R ht
    exact ValOk.of_rep (Rep.soft a1 a2 r m) rfl rfl
  · rw [if_neg m]
    exact ⟨fun i hi => ht i hi, r⟩
/-- a new object at p -/
theorem Stp.make {o : HO} {p : Addr} (s : Stp c W F H F H) (hp : H p = none) : Stp c W F H F (upd H p o) := by
  have ne : ∀ a, H a ≠ none → a ≠ p := fun a h z => h (by rw [z]; exact hp)
  have k : Same H (upd H p o) := fun a o' e => by rw [upd_ne (ne a (by rw [e]; simp))]; exact e
  refine ⟨Same.refl _, fun a o' e => k _ _ (s.sub _ _ e), fun a o' e _ _ => k _ _ e, fun _ e _ => e, s.nt, s.av, ?_, s.cl, s.tabs.ext k⟩
  rcases s.dr with h | ⟨a0, a1, h, n, e0, e1⟩
  · exact .inl h
  · exact .inr ⟨a0, a1, h, n, k _ _ e0, k _ _ e1⟩
theorem Stp.makeF {o : HO} {p : Addr} (s : Stp c W F H F H) (hp : H p = none) (no : Nt o := by intro _ h; first | cases h | (unfold XO at h; cases h)) : Stp c W F H (upd F p o) (upd H p o) := by
  have ne : ∀ a, H a ≠ none → a ≠ p := fun a h z => h (by rw [z]; exact hp)
  have b := s.make (o := o) hp
  refine ⟨fun a o' e => ?_, fun a o' e => ?_, b.h, fun a e n => ?_, fun a o' e => ?_, fun a ha => ?_, b.dr, fun hd => ?_, b.tabs⟩
  · rw [upd_ne (ne a (by rw [s.sub _ _ e]; simp))]; exact e
  · by_cases q : a = p
    · subst q; rw [upd_same] at e ⊢; exact e
    · rw [upd_ne q] at e; exact b.sub _ _ e
  · rw [upd_ne (ne a fun z => Nil.of z n)]; exact e
  · by_cases q : a = p
    · subst q; rw [upd_same] at e; cases e; exact no
    · rw [upd_ne q] at e; exact s.nt a o' e
  · rw [upd_ne (ne a (s.sm ha))]; exact s.av a ha
  · have e := s.cl hd
    rw [upd_ne (ne _ (by rw [s.sub _ _ e]; simp))]; exact e
theorem Rel.refl (R : Rel c F0 H0 ρ σ F H W) : Stp c W F H F H := R.stp.refl
theorem ValOk.new_lst {p : Addr} {vs : List V} {xs : List D} {t : List Nat} (R : Rel c F0 H0 ρ σ F H W) (ht : ∀ i ∈ t, ∃ x, ρ[i]? = some (.own x)) (hp : H p = none) (hn : Nil Hs p) (r : RepL c (Fz F H σ t) vs xs) :
    ValOk c ρ σ Hs F (upd H p (.lst vs)) (.ref p) (vf (.lst xs) t) := by
  have hF : F p = none := by
    cases q : F p with
    | none => rfl
    | some o => rw [R.stp.sub _ _ q] at hp; cases hp
  have hd : p ∉ c.mv := fun h => R.stp.sm h hp
  have S := R.refl.make (o := .lst vs) hp
  unfold vf
  by_cases m : (D.lst xs).kids = true
  · rw [if_pos m]
    obtain ⟨a1, a2⟩ := Fz_soft R ht
    refine ⟨fun i hi => by simp [Vl.all] at hi, p, rfl, hF, hd, hn, vs, upd_same, ?_⟩
    rw [Fz_nil]
    exact RepL.soft a1 a2 r (by simpa only [D.kids] using m)
  · rw [if_neg m]
    exact ⟨fun i hi => ht i hi, p, rfl, hF, hd, hn, vs, upd_same, r.mono (Fz_step R ht S)⟩
theorem Rep.new_tup {p : Addr} {vs : List V} {xs : List D} {t : List Nat} (R : Rel c F0 H0 ρ σ F H W) (ht : ∀ i ∈ t, ∃ x, ρ[i]? = some (.own x)) (hp : H p = none) (r : RepL c (Fz F H σ t) vs xs) :
    ValOk c ρ σ Hs (upd F p (.tup vs)) (upd H p (.tup vs)) (.ref p) (vl (.tup xs) t) := by
  have S := R.refl.makeF (o := .tup vs) hp
  refine ValOk.of_plain (R.step S) ht ?_
  refine .tup ?_ (r.mono (Fz_step R ht S))
  have : ¬ AtS σ t p := fun h => (R.at_ ht h).2.2.2 hp
  rw [Fz_out this, upd_same]
end

def rdE (c : Pm) (Wx : WX) (e : E) : TE := fun σ H Q => ∃ F0 H0 ρ F W, Rel c F0 H0 ρ σ F H W ∧ Pst c Wx σ F H (fun v u F' H' => ValOk c ρ σ H F' H' u v) Q (ev e ρ W)
def rdT (c : Pm) (Wx : WX) (e : E) : TT := fun σ H Q => ∃ F0 H0 ρ F W, Rel c F0 H0 ρ σ F H W ∧ Pst c Wx σ F H (fun b u _ _ => u = b) Q (evT e ρ W)
def rdA (c : Pm) (Wx : WX) (e : E) : TT := fun σ H Q => ∃ F0 H0 ρ F W, Rel c F0 H0 ρ σ F H W ∧ Pst c Wx σ F H (fun b u _ _ => u = b) Q (evA e ρ W)
def rdO (c : Pm) (Wx : WX) (e : E) : TO := fun σ H Q => ∃ F0 H0 ρ F W, Rel c F0 H0 ρ σ F H W ∧ Pst c Wx σ F H (fun b u _ _ => u = b) Q (evO e ρ W)
def rdL (c : Pm) (Wx : WX) (e : E) : TA := fun σ H Q => ∃ F0 H0 ρ F W, Rel c F0 H0 ρ σ F H W ∧ Pst c Wx σ F H (fun vs us F' H' => Paired (fun u v => ValOk c ρ σ H F' H' u v) us vs ∧ Apart us vs) Q (evL e ρ W)

theorem pe_wk {X : Cx} {e : Expr} {t t' : TE} (h : PE X e t) (k : ∀ σ H Q, t' σ H Q → t σ H Q) : PE X e t' := ⟨fun pins s σ H Q I q => h.run pins s σ H Q I (k _ _ _ q)⟩
theorem pt_wk {X : Cx} {e : Expr} {t t' : TT} (h : PT X e t) (k : ∀ σ H Q, t' σ H Q → t σ H Q) : PT X e t' := ⟨fun pins s σ H Q I q => h.run pins s σ H Q I (k _ _ _ q)⟩
theorem pw_wk {X : Cx} {e : Expr} {t t' : TT} (h : PW X e t) (k : ∀ σ H Q, t' σ H Q → t σ H Q) : PW X e t' := ⟨fun wh pins s σ H Q I q => h.run wh pins s σ H Q I (k _ _ _ q)⟩
theorem pa_wk {X : Cx} {e : List Expr} {t t' : TA} (h : PA X e t) (k : ∀ σ H Q, t' σ H Q → t σ H Q) : PA X e t' := ⟨fun pos pins s σ H Q I q => h.run pos pins s σ H Q I (k _ _ _ q)⟩
theorem po_wk {X : Cx} {e : Option Expr} {t t' : TO} (h : PO X e t) (k : ∀ σ H Q, t' σ H Q → t σ H Q) : PO X e t' := ⟨fun pins s σ H Q I q => h.run pins s σ H Q I (k _ _ _ q)⟩

section
variable {c : Pm} {Wx : WX} {W1 : Dr} {F0 H0 F H F1 H1 : Hp} {ρ : En} {σ : L2.St} {α β : Type} {ok : α → β → Hp → Hp → Prop} {Q : β → Hp → Prop}
theorem rd_gen {α' β' : Type} {ok1 : Hp → α' → β' → Hp → Hp → Prop} {o : Out α'} {g : α' → Dr → Out α} {Q2 : β' → Hp → Prop} (R : Rel c F0 H0 ρ σ F1 H1 W1) (S : Stp c W1 F H F1 H1) (hP : Pst c Wx σ F H ok Q (o.bind g))
    (k : ∀ y W2 u F2 H2, Stp c W2 F H F2 H2 → Stp c W2 F1 H1 F2 H2 → ok1 H1 y u F2 H2 → Rel c F0 H0 ρ σ F2 H2 W2 → Pst c Wx σ F H ok Q (g y W2) → Q2 u H2) : Pst c Wx σ F1 H1 (ok1 H1) Q2 o := by
  cases o with
  | stk => exact hP
  | ex x W2 => exact fun cls dd F2 H2 S2 x => hP cls dd F2 H2 (S.trans S2) x
  | ok y W2 => exact fun u F2 H2 S2 V => k y W2 u F2 H2 (S.trans S2) S2 V (R.step S2) hP
theorem rd_e {e : E} {g : Vl → Dr → Out α} {Q2 : V → Hp → Prop} (R : Rel c F0 H0 ρ σ F1 H1 W1) (S : Stp c W1 F H F1 H1) (hP : Pst c Wx σ F H ok Q ((ev e ρ W1).bind g))
    (k : ∀ y W2 u F2 H2, Stp c W2 F H F2 H2 → Stp c W2 F1 H1 F2 H2 → ValOk c ρ σ H F2 H2 u y → Rel c F0 H0 ρ σ F2 H2 W2 → Pst c Wx σ F H ok Q (g y W2) → Q2 u H2) : rdE c Wx e σ H1 Q2 :=
  ⟨F0, H0, ρ, F1, W1, R, rd_gen (ok1 := fun H1 v u F' H' => ValOk c ρ σ H1 F' H' u v) R S hP fun y W2 u F2 H2 S2 S12 V R2 hP => k y W2 u F2 H2 S2 S12 (V.start fun a m z => S.keepN m z) R2 hP⟩
theorem rd_t {e : E} {g : Bool → Dr → Out α} {Q2 : Bool → Hp → Prop} (R : Rel c F0 H0 ρ σ F1 H1 W1) (S : Stp c W1 F H F1 H1) (hP : Pst c Wx σ F H ok Q ((evT e ρ W1).bind g))
    (k : ∀ b W2 F2 H2, Stp c W2 F H F2 H2 → Stp c W2 F1 H1 F2 H2 → Rel c F0 H0 ρ σ F2 H2 W2 → Pst c Wx σ F H ok Q (g b W2) → Q2 b H2) : rdT c Wx e σ H1 Q2 :=
  ⟨F0, H0, ρ, F1, W1, R, rd_gen (ok1 := fun _ b u _ _ => u = b) R S hP fun y W2 u F2 H2 S2 S12 V R2 hP => by subst V; exact k _ W2 F2 H2 S2 S12 R2 hP⟩
theorem rd_a {e : E} {g : Bool → Dr → Out α} {Q2 : Bool → Hp → Prop} (R : Rel c F0 H0 ρ σ F1 H1 W1) (S : Stp c W1 F H F1 H1) (hP : Pst c Wx σ F H ok Q ((evA e ρ W1).bind g))
    (k : ∀ b W2 F2 H2, Stp c W2 F H F2 H2 → Stp c W2 F1 H1 F2 H2 → Rel c F0 H0 ρ σ F2 H2 W2 → Pst c Wx σ F H ok Q (g b W2) → Q2 b H2) : rdA c Wx e σ H1 Q2 :=
  ⟨F0, H0, ρ, F1, W1, R, rd_gen (ok1 := fun _ b u _ _ => u = b) R S hP fun y W2 u F2 H2 S2 S12 V R2 hP => by subst V; exact k _ W2 F2 H2 S2 S12 R2 hP⟩
theorem rd_o {e : E} {g : Option Int → Dr → Out α} {Q2 : Option Int → Hp → Prop} (R : Rel c F0 H0 ρ σ F1 H1 W1) (S : Stp c W1 F H F1 H1) (hP : Pst c Wx σ F H ok Q ((evO e ρ W1).bind g))
    (k : ∀ b W2 F2 H2, Stp c W2 F H F2 H2 → Stp c W2 F1 H1 F2 H2 → Rel c F0 H0 ρ σ F2 H2 W2 → Pst c Wx σ F H ok Q (g b W2) → Q2 b H2) : rdO c Wx e σ H1 Q2 :=
  ⟨F0, H0, ρ, F1, W1, R, rd_gen (ok1 := fun _ b u _ _ => u = b) R S hP fun y W2 u F2 H2 S2 S12 V R2 hP => by subst V; exact k _ W2 F2 H2 S2 S12 R2 hP⟩
theorem rd_l {e : E} {g : List Vl → Dr → Out α} {Q2 : List V → Hp → Prop} (R : Rel c F0 H0 ρ σ F1 H1 W1) (S : Stp c W1 F H F1 H1) (hP : Pst c Wx σ F H ok Q ((evL e ρ W1).bind g))
    (k : ∀ ys W2 us F2 H2, Stp c W2 F H F2 H2 → Stp c W2 F1 H1 F2 H2 → Paired (fun u v => ValOk c ρ σ H F2 H2 u v) us ys → Rel c F0 H0 ρ σ F2 H2 W2 → Pst c Wx σ F H ok Q (g ys W2) → Q2 us H2) : rdL c Wx e σ H1 Q2 :=
  ⟨F0, H0, ρ, F1, W1, R, rd_gen (ok1 := fun H1 vs us F' H' => Paired (fun u v => ValOk c ρ σ H1 F' H' u v) us vs ∧ Apart us vs) R S hP fun y W2 u F2 H2 S2 S12 V R2 hP => k y W2 u F2 H2 S2 S12 (Paired.mapP V.1 fun _ _ z => z.start fun a m z => S.keepN m z) R2 hP⟩
/-- with what is new in them kept apart, and new since H1 -/
theorem rd_lx {e : E} {g : List Vl → Dr → Out α} {Q2 : List V → Hp → Prop} (R : Rel c F0 H0 ρ σ F1 H1 W1) (S : Stp c W1 F H F1 H1) (hP : Pst c Wx σ F H ok Q ((evL e ρ W1).bind g))
    (k : ∀ ys W2 us F2 H2, Stp c W2 F H F2 H2 → Stp c W2 F1 H1 F2 H2 → Paired (fun u v => ValOk c ρ σ H1 F2 H2 u v) us ys → Apart us ys → Rel c F0 H0 ρ σ F2 H2 W2 → Pst c Wx σ F H ok Q (g ys W2) → Q2 us H2) : rdL c Wx e σ H1 Q2 :=
  ⟨F0, H0, ρ, F1, W1, R, rd_gen (ok1 := fun H1 vs us F' H' => Paired (fun u v => ValOk c ρ σ H1 F' H' u v) us vs ∧ Apart us vs) R S hP fun y W2 u F2 H2 S2 S12 V R2 hP => k y W2 u F2 H2 S2 S12 V.1 V.2 R2 hP⟩
theorem rd_le {e : E} {g : List Vl → Dr → Out α} {Q2 : List V → Hp → Prop} (R : Rel c F0 H0 ρ σ F1 H1 W1) (S : Stp c W1 F H F1 H1) (hP : Pst c Wx σ F H ok Q ((evL e ρ W1).bind g))
    (k : ∀ ys W2 us F2 H2, evL e ρ W1 = .ok ys W2 → Stp c W2 F H F2 H2 → Stp c W2 F1 H1 F2 H2 → Paired (fun u v => ValOk c ρ σ H F2 H2 u v) us ys → Rel c F0 H0 ρ σ F2 H2 W2 → Pst c Wx σ F H ok Q (g ys W2) → Q2 us H2) : rdL c Wx e σ H1 Q2 := by
  refine rd_l (Q := Q) (ok := ok) (g := fun ys W2 => if evL e ρ W1 = .ok ys W2 then g ys W2 else .stk) R S ?_ fun ys W2 us F2 H2 S2 S12 A R2 hP => ?_
  · revert hP
    cases h : evL e ρ W1 with
    | stk => exact fun h => h
    | ex x W => exact fun h => h
    | ok ys W => intro hP; show Pst c Wx σ F H ok Q (if _ then _ else _); rw [if_pos rfl]; exact hP
  · by_cases h : evL e ρ W1 = .ok ys W2
    · rw [if_pos h] at hP
      exact k ys W2 us F2 H2 h S2 S12 A R2 hP
    · rw [if_neg h] at hP; exact hP.elim
theorem pst_ok {o : Out α} (h : Pst c Wx σ F H ok Q o) : Pst c Wx σ F H ok Q (o.bind fun b W => .ok b W) := by cases o <;> exact h
theorem ofO_some {γ : Type} {o : Option γ} {f : γ → Out α} (hP : Pst c Wx σ F H ok Q (ofO o f)) : ∃ a, o = some a ∧ Pst c Wx σ F H ok Q (f a) := by
  cases o with
  | none => exact hP.elim
  | some a => exact ⟨a, rfl, hP⟩
end
end Z

namespace Z
open PySem PySem.Spec PyProof.Rows L2
open Classical

/-- what stands around a piece of code -/
structure Cn (c : Pm) (Wx : WX) (k : Nat) (X : Cx) : Prop where
  hk : X.K = c.K
  calm : X.calm = true
  nd : X.N.Nodup
  tk : Takes X Wx
  room : Room k X.A

section
variable {c : Pm} {Wx : WX} {X : Cx} {n : Nat} {W W' W1 W2 : Dr} {F0 H0 F H F' H' F1 H1 F2 H2 Hs : Hp} {ρ : En} {σ : L2.St} {u w : V} {x y v : Vl} {Q : VK}

/-- what is wanted of a value at the end -/
abbrev Fin_ (c : Pm) (Wx : WX) (ρ : En) (σ : L2.St) (F H : Hp) (Q : VK) (r : Vl) (W : Dr) : Prop := Pst c Wx σ F H (fun v u F' H' => ValOk c ρ σ H F' H' u v) Q (.ok r W)

theorem fin_sc {d : D} {u : V} (R : Rel c F0 H0 ρ σ F2 H2 W2) (S : Stp c W2 F H F2 H2) (hq : Fin_ c Wx ρ σ F H Q ⟨d, .pl, []⟩ W2) (r : Rep c F2 u d) : Q u H2 := hq u F2 H2 S (.of_rep r rfl rfl)
theorem fin_vl {d : D} {t : List Nat} {u : V} (R : Rel c F0 H0 ρ σ F2 H2 W2) (S : Stp c W2 F H F2 H2) (ht : ∀ i ∈ t, ∃ x, ρ[i]? = some (.own x)) (hq : Fin_ c Wx ρ σ F H Q (vl d t) W2) (r : Rep c (Fz F2 H2 σ t) u d) : Q u H2 :=
  hq u F2 H2 S (.of_plain R ht r)
theorem fin_tup {xs : List D} {vs : List V} {t : List Nat} (R : Rel c F0 H0 ρ σ F2 H2 W2) (S : Stp c W2 F H F2 H2) (ht : ∀ i ∈ t, ∃ x, ρ[i]? = some (.own x)) (hq : Fin_ c Wx ρ σ F H Q (vl (.tup xs) t) W2) (r : RepL c (Fz F2 H2 σ t) vs xs) :
    ∀ p, H2 p = none → Q (.ref p) (upd H2 p (.tup vs)) := fun p hp => hq _ _ _ (S.trans (R.refl.makeF hp)) (Rep.new_tup R ht hp r)
theorem fin_lst {xs : List D} {vs : List V} {t : List Nat} (R : Rel c F0 H0 ρ σ F2 H2 W2) (S : Stp c W2 F H F2 H2) (ht : ∀ i ∈ t, ∃ x, ρ[i]? = some (.own x)) (hq : Fin_ c Wx ρ σ F H Q (vf (.lst xs) t) W2) (r : RepL c (Fz F2 H2 σ t) vs xs) :
    ∀ p, H2 p = none → Q (.ref p) (upd H2 p (.lst vs)) := fun p hp => hq _ _ _ (S.trans (R.refl.make hp)) (.new_lst R ht hp (S.keepN (R.stp.fresh hp) (.of hp)) r)

theorem own_app {t t' : List Nat} (h : ∀ i ∈ t, ∃ x, ρ[i]? = some (.own x)) (h' : ∀ i ∈ t', ∃ x, ρ[i]? = some (.own x)) : ∀ i ∈ t ++ t', ∃ x, ρ[i]? = some (.own x) := fun i hi => (List.mem_append.mp hi).elim (h i) (h' i)
theorem Fz_l (S : Same F H) {t t' : List Nat} : Same (Fz F H σ t) (Fz F H σ (t ++ t')) := Fz_mono S fun i h => List.mem_append_left _ h
theorem Fz_r (S : Same F H) {t t' : List Nat} : Same (Fz F H σ t') (Fz F H σ (t ++ t')) := Fz_mono S fun i h => List.mem_append_right _ h
theorem cap_eq : (cap : Nat) = sizeLine := by rw [sizeLine_eq]; rfl
theorem cap_num : (16777216 : Nat) = sizeLine := by rw [sizeLine_eq]

theorem e_var {i : Nat} {z : Str} {pos : Pos} (hN : X.N[i]? = some z) (hv : Vis X.env.scope z) (hd : (z == ("__debug__" : Str)) = false) (hcd : (z == ("__classdict__" : Str)) = false) : PE X (.Name z pos) (rdE c Wx (.var i)) := by
  refine pe_wk (pe_var hN hv hd hcd) fun σ H Q ⟨F0, H0, ρ, F, W, R, hP⟩ => ?_
  simp only [ev] at hP
  cases e : ρ[i]? with
  | none => rw [e] at hP; exact hP.elim
  | some s =>
    rw [e] at hP
    cases s with
    | un => exact hP.elim
    | slf _ _ _ => exact hP.elim
    | val d =>
      obtain ⟨v, h1, h2⟩ := R.slot i _ e
      exact ⟨v, h1, fin_sc R R.refl hP h2⟩
    | own d =>
      obtain ⟨p, h1, h2, h3, h4, h5⟩ := R.own e
      refine ⟨.ref p, h1, hP _ F H R.refl ⟨fun j hj => ?_, rfl, e, h1⟩⟩
      have : j = i := by simpa [Vl.all] using hj
      subst this
      exact ⟨d, e⟩
theorem e_int {i : Int} {j : Nat} {pos : Pos} : PE X (.Constant (.int i) j pos) (rdE c Wx (.cst (.int i))) :=
  pe_wk pe_int fun σ H Q ⟨F0, H0, ρ, F, W, R, hP⟩ => fin_sc R R.refl (by simpa only [ev] using hP) (.int i)
theorem e_bl {i : Bool} {j : Nat} {pos : Pos} : PE X (.Constant (.bool i) j pos) (rdE c Wx (.cst (.bl i))) :=
  pe_wk pe_bl fun σ H Q ⟨F0, H0, ρ, F, W, R, hP⟩ => fin_sc R R.refl (by simpa only [ev] using hP) (.bl i)
theorem e_non {j : Nat} {pos : Pos} : PE X (.Constant .none j pos) (rdE c Wx (.cst .non)) :=
  pe_wk pe_non fun σ H Q ⟨F0, H0, ρ, F, W, R, hP⟩ => fin_sc R R.refl (by simpa only [ev] using hP) .non
theorem e_str {i : Str} {j : Nat} {pos : Pos} : PE X (.Constant (.str i) j pos) (rdE c Wx (.cst (.str i))) :=
  pe_wk pe_str fun σ H Q ⟨F0, H0, ρ, F, W, R, hP⟩ => fin_sc R R.refl (by simpa only [ev] using hP) (.str i)
/-- a module's constant -/
theorem e_gl {z : Str} {v : V} {uu : Value} {d : D} {pos : Pos} (hg : Gl X z) (hm : X.mg z = some uu) (r : RelV v uu) (hr : ∀ F, Rep c F v d) (hd : (z == ("__debug__" : Str)) = false) : PE X (.Name z pos) (rdE c Wx (.gl d)) :=
  pe_wk (pe_glob hg hm r hd) fun σ H Q ⟨F0, H0, ρ, F, W, R, hP⟩ => fin_sc R R.refl (by simpa only [ev] using hP) (hr F)

/-- what a rule by values asks for an operator on data -/
def BinOk (c : Pm) (f : D → D → Option (Bool × D)) (r : R2) : Prop :=
  ∀ {Wx : WX} {W2 : Dr} {F0 H0 F H F2 H2 : Hp} {ρ : En} {σ : L2.St} {u w : V} {x y : Vl} {Q : VK} {z : Bool × D}, Rel c F0 H0 ρ σ F2 H2 W2 → Stp c W2 F H F2 H2 → ValOk c ρ σ H F2 H2 u x → ValOk c ρ σ H F2 H2 w y →
    f x.d y.d = some z → Fin_ c Wx ρ σ F H Q (vo z (x.t ++ y.t)) W2 → r u w H2 Q

theorem e_bin {op : Operator} {a b : Expr} {ea eb : E} {pos : Pos} {r : R2} (ho : OpR X (binaryOp op) r) (k : BinOk c (binD op) r) (ha : PE X a (rdE c Wx ea)) (hb : PE X b (rdE c Wx eb)) : PE X (.BinOp a op b pos) (rdE c Wx (.bin op ea eb)) := by
  refine pe_wk (pe_op ho ha hb) fun σ H Q ⟨F0, H0, ρ, F, W, R, hP⟩ => ?_
  simp only [ev] at hP
  refine rd_e R R.refl hP fun x W1 u F1 H1 S1 _ V1 R1 hP => ?_
  refine rd_e R1 S1 hP fun y W2 w F2 H2 S2 S12 V2 R2 hP => ?_
  obtain ⟨z, hz, hP⟩ := ofO_some hP
  exact k R2 S2 (V1.step R1 S12) V2 hz hP

theorem rI_int {C : Int → Int → Prop} {g : Int → Int → Int} {f : D → D → Option (Bool × D)} (hf : ∀ i j z, f (.int i) (.int j) = some z → z = (false, .int (g i j)) ∧ C i j)
    (R : Rel c F0 H0 ρ σ F2 H2 W2) (S : Stp c W2 F H F2 H2) (V1 : ValOk c ρ σ H F2 H2 u x) (V2 : ValOk c ρ σ H F2 H2 w y) {i j : Int} {z : Bool × D} (e1 : x.d = .int i) (e2 : y.d = .int j) (h : f (.int i) (.int j) = some z)
    (hq : Fin_ c Wx ρ σ F H Q (vo z (x.t ++ y.t)) W2) : u = .int i ∧ w = .int j ∧ C i j ∧ Q (.int (g i j)) H2 := by
  obtain ⟨rfl, hc⟩ := hf _ _ _ h
  exact ⟨V1.int R e1, V2.int R e2, hc, fin_vl R S (own_app V1.t_own V2.t_own) hq (.int _)⟩

def rAddD (K : PySem.W.Frag) : R2 := fun x y H Q => (∃ i j, x = .int i ∧ y = .int j ∧ Q (.int (i + j)) H) ∨ (∃ i j, x = .str i ∧ y = .str j ∧ i.length + j.length ≤ sizeLine ∧ Q (.str (i ++ j)) H) ∨ rCatA K x y H Q ∨ rCat x y H Q
theorem op_addD : OpR X (binaryOp .Add) (rAddD X.K) := op_add.or (op_add_str.or (op_catA.or op_cat))
theorem add_ok : BinOk c (binD .Add) (rAddD c.K) := by
  intro Wx W2 F0 H0 F H F2 H2 ρ σ u w x y Q z R S V1 V2 h hq
  have ht := own_app V1.t_own V2.t_own
  cases e1 : x.d <;> cases e2 : y.d <;> rw [e1, e2] at h <;> simp only [binD, big_eq] at h <;> try (cases h)
  case int.int i j =>
    exact .inl ⟨i, j, V1.int R e1, V2.int R e2, fin_vl R S ht hq (.int _)⟩
  case str.str i j =>
    split at h <;> cases h
    rename_i hz
    exact .inr (.inl ⟨i, j, V1.str R e1, V2.str R e2, by rw [← cap_num]; exact hz, fin_vl R S ht hq (.str _)⟩)
  case tup.tup xs ys =>
    split at h <;> cases h
    rename_i hz
    obtain ⟨a, vs, rfl, h1, r1⟩ := V1.tupP R e1
    obtain ⟨b, ws, rfl, h2, r2⟩ := V2.tupP R e2
    have r1' := r1.mono (Fz_l (t' := y.t) R.stp.sub)
    have r2' := r2.mono (Fz_r (t := x.t) R.stp.sub)
    refine .inr (.inr (.inl ⟨a, b, vs, ws, rfl, rfl, Same.sqT (Fz_dn R.stp.sub) (.inl (.inl h1)), Same.sqT (Fz_dn R.stp.sub) (.inl (.inl h2)), by rw [r1.length, r2.length, ← cap_num]; exact hz, fun e => ?_, fun _ e => ?_, fun _ _ => fin_tup R S ht hq (r1'.append r2')⟩))
    · subst e
      cases r1
      exact fin_vl R S ht hq (.tup (Fz_r R.stp.sub _ _ h2) (by simpa using r2'))
    · subst e
      cases r2
      exact fin_vl R S ht hq (.tup (Fz_l R.stp.sub _ _ h1) (by simpa using r1'))
  case lst.lst xs ys =>
    split at h <;> cases h
    rename_i hz
    obtain ⟨a, vs, rfl, h1, r1⟩ := V1.lst R e1
    obtain ⟨b, ws, rfl, h2, r2⟩ := V2.lst R e2
    exact .inr (.inr (.inr ⟨a, b, vs, ws, rfl, rfl, h1, h2, by rw [r1.length, r2.length, ← cap_num]; exact hz, fin_lst R S ht hq ((r1.mono (Fz_l R.stp.sub)).append (r2.mono (Fz_r R.stp.sub)))⟩))
theorem sub_ok : BinOk c (binD .Sub) (rI0 fun i j => .int (i - j)) := by
  intro Wx W2 F0 H0 F H F2 H2 ρ σ u w x y Q z R S V1 V2 h hq
  cases e1 : x.d <;> cases e2 : y.d <;> rw [e1, e2] at h <;> simp only [binD, big_eq] at h <;> try (cases h)
  exact ⟨_, _, V1.int R e1, V2.int R e2, fin_vl R S (own_app V1.t_own V2.t_own) hq (.int _)⟩
theorem div_ok : BinOk c (binD .FloorDiv) (rI CDiv fun i j => .int (i / j)) := by
  intro Wx W2 F0 H0 F H F2 H2 ρ σ u w x y Q z R S V1 V2 h hq
  cases e1 : x.d <;> cases e2 : y.d <;> rw [e1, e2] at h <;> simp only [binD, big_eq] at h <;> try (cases h)
  split at h <;> cases h
  exact ⟨_, _, V1.int R e1, V2.int R e2, by assumption, fin_vl R S (own_app V1.t_own V2.t_own) hq (.int _)⟩
theorem mod_ok : BinOk c (binD .Mod) (rI (fun _ j => 0 < j) fun i j => .int (i % j)) := by
  intro Wx W2 F0 H0 F H F2 H2 ρ σ u w x y Q z R S V1 V2 h hq
  cases e1 : x.d <;> cases e2 : y.d <;> rw [e1, e2] at h <;> simp only [binD, big_eq] at h <;> try (cases h)
  split at h <;> cases h
  exact ⟨_, _, V1.int R e1, V2.int R e2, by assumption, fin_vl R S (own_app V1.t_own V2.t_own) hq (.int _)⟩
theorem pow_ok : BinOk c (binD .Pow) (rI CPow fun i j => .int (i ^ j.toNat)) := by
  intro Wx W2 F0 H0 F H F2 H2 ρ σ u w x y Q z R S V1 V2 h hq
  cases e1 : x.d <;> cases e2 : y.d <;> rw [e1, e2] at h <;> simp only [binD, big_eq] at h <;> try (cases h)
  split at h <;> cases h
  exact ⟨_, _, V1.int R e1, V2.int R e2, by assumption, fin_vl R S (own_app V1.t_own V2.t_own) hq (.int _)⟩
end
end Z

namespace Z
open PySem PySem.Spec PyProof.Rows L2
open Classical
section
variable {c : Pm} {Wx : WX} {X : Cx} {n : Nat} {W W' W1 W2 W3 : Dr} {F0 H0 F H F' H' F1 H1 F2 H2 F3 H3 Hs : Hp} {ρ : En} {σ : L2.St} {u w : V} {x y v : Vl} {Q : VK} {us : List V} {vs : List Vl}

theorem Paired.at_ {α β : Type} {G : α → β → Prop} : ∀ {l₁ : List α} {l₂ : List β} {i : Nat} {b : β}, Paired G l₁ l₂ → l₂[i]? = some b → ∃ a, l₁[i]? = some a ∧ G a b
  | _, _, i, _, .nil, e => by simp at e
  | _, _, 0, _, .cons r _, e => by simp at e; subst e; exact ⟨_, rfl, r⟩
  | _, _, i + 1, _, .cons _ t, e => by simpa using Paired.at_ (i := i) t (by simpa using e)
theorem Paired.len {α β : Type} {G : α → β → Prop} : ∀ {l₁ : List α} {l₂ : List β}, Paired G l₁ l₂ → l₁.length = l₂.length
  | _, _, .nil => rfl
  | _, _, .cons _ t => by simp [Paired.len t]

noncomputable def Ft (F H : Hp) (us : List V) (vs : List Vl) : Hp := fun a => if TmpAt us vs a then H a else F a
abbrev ArgOk (c : Pm) (ρ : En) (σ : L2.St) (Hs F H : Hp) (us : List V) (vs : List Vl) : Prop := Paired (fun u v => ValOk c ρ σ Hs F H u v) us vs
theorem tmp_at : ∀ {us : List V} {vs : List Vl}, ArgOk c ρ σ Hs F2 H2 us vs → ∀ {a : Addr}, TmpAt us vs a → F2 a = none ∧ a ∉ c.mv ∧ Nil Hs a ∧ Thr H2 a
  | _, _, .nil, a, h => h.elim
  | _, _, .cons (a := u) (b := v) r t, a, h => by
    rcases h with ⟨h1, h2⟩ | h
    · have k := r.at_
      rw [h1] at k
      obtain ⟨p, e1, e2, e3, e4, e5⟩ := k
      rw [h2] at e1
      have q : a = p := V.ref.inj e1
      subst q
      exact ⟨e2, e3, e4, e5.thr⟩
    · exact tmp_at t h
theorem Ft_up (s : Same F H) : Same F (Ft F H us vs) := fun a o e => by
  unfold Ft; by_cases h : TmpAt us vs a
  · rw [if_pos h]; exact s a o e
  · rw [if_neg h]; exact e
theorem Ft_dn (s : Same F H) : Same (Ft F H us vs) H := fun a o e => by
  unfold Ft at e; by_cases h : TmpAt us vs a
  · rw [if_pos h] at e; exact e
  · rw [if_neg h] at e; exact s a o e
theorem Ft_stp (S : Stp c W2 F H F2 H2) (A : ArgOk c ρ σ H F2 H2 us vs) : Stp c W2 F H (Ft F2 H2 us vs) H2 := by
  refine ⟨fun a o e => Ft_up S.sub _ _ (S.f a o e), Ft_dn S.sub, S.h, fun a e nn => ?_, fun a o e => ?_, fun a ha => ?_, S.dr, fun hd => Ft_up S.sub _ _ (S.cl hd), S.tabs⟩
  · have : ¬ TmpAt us vs a := fun h => (tmp_at A h).2.2.1 nn
    unfold Ft; rw [if_neg this]; exact S.new a e nn
  · by_cases h : TmpAt us vs a
    · obtain ⟨o', e', n⟩ := (tmp_at A h).2.2.2
      unfold Ft at e; rw [if_pos h, e'] at e; cases e; exact n.1
    · unfold Ft at e; rw [if_neg h] at e; exact S.nt a o e
  · have : ¬ TmpAt us vs a := fun h => (tmp_at A h).2.1 ha
    unfold Ft; rw [if_neg this]; exact S.av a ha
theorem Ft_rel (R0 : Rel c F0 H0 ρ σ F H W) (R : Rel c F0 H0 ρ σ F2 H2 W2) (S : Stp c W2 F H F2 H2) (A : ArgOk c ρ σ H F2 H2 us vs) : Rel c F0 H0 ρ σ (Ft F2 H2 us vs) H2 W2 := R0.step (Ft_stp S A)
theorem ts_own : ∀ {us : List V} {vs : List Vl}, ArgOk c ρ σ Hs F2 H2 us vs → ∀ i ∈ ts vs, ∃ x, ρ[i]? = some (.own x)
  | _, _, .nil, i, h => by simp [ts] at h
  | _, _, .cons r t, i, h => by
    unfold ts at h
    rw [List.flatMap_cons, List.mem_append] at h
    rcases h with h | h
    · exact r.own i h
    · exact ts_own t i h
theorem val_rep (R : Rel c F0 H0 ρ σ F2 H2 W2) (k : ValOk c ρ σ Hs F2 H2 u v) {FF : Hp} {t : List Nat} (hs : Same F2 FF) (hF : ∀ a, AtS σ t a → FF a = H2 a) (ht : ∀ i ∈ v.all, i ∈ t) (hT : v.k = .fr → ∀ a, u = .ref a → FF a = H2 a) : Rep c FF u v.d := by
  have up : Same (Fz F2 H2 σ v.t) FF := fun a o e => by
    by_cases h : AtS σ v.t a
    · rw [Fz_in h] at e
      rw [hF a]
      · exact e
      · obtain ⟨i, h1, h2⟩ := h
        refine ⟨i, ht i ?_, h2⟩
        unfold Vl.all; split
        · exact List.mem_cons_of_mem _ h1
        · exact h1
    · rw [Fz_out h] at e; exact hs a o e
  have a := k.at_
  have hm := ht
  unfold Vl.all at hm
  revert a hm hT
  cases v.k with
  | pl => exact fun _ a _ => a.mono up
  | me i =>
    rintro - ⟨h1, h2, h3⟩ hm
    obtain ⟨p, e1, _, _, _, e2⟩ := R.own h2
    rw [h3] at e1
    have q := Option.some.inj (Option.some.inj e1)
    subst q
    exact e2.rep hs (hF _ ⟨i, hm i List.mem_cons_self, h3⟩)
  | fr =>
    rintro hT ⟨p, e1, _, _, _, e2⟩ _
    subst e1
    exact e2.rep up (hT rfl _ rfl)
theorem args_rep (R : Rel c F0 H0 ρ σ F2 H2 W2) {FF : Hp} {t : List Nat} (hs : Same F2 FF) (hF : ∀ a, AtS σ t a → FF a = H2 a) : ∀ {us : List V} {vs : List Vl}, ArgOk c ρ σ Hs F2 H2 us vs → (∀ i ∈ ts vs, i ∈ t) → (∀ a, TmpAt us vs a → FF a = H2 a) → RepL c FF us (ds vs)
  | _, _, .nil, _, _ => .nil
  | _, _, .cons r k, ht, hT => by
    refine .cons (val_rep R r hs hF (fun i hi => ht i ?_) fun e a h => hT a (.inl ⟨e, h⟩)) (args_rep R hs hF k (fun i hi => ht i ?_) fun a h => hT a (.inr h))
    · unfold ts; rw [List.flatMap_cons]; exact List.mem_append_left _ hi
    · unfold ts; rw [List.flatMap_cons]; exact List.mem_append_right _ hi
/-- all arguments stand in F with what the names own of them -/
theorem args_all (R0 : Rel c F0 H0 ρ σ F H W) (R : Rel c F0 H0 ρ σ F2 H2 W2) (S : Stp c W2 F H F2 H2) (A : ArgOk c ρ σ H F2 H2 us vs) : RepL c (Fz (Ft F2 H2 us vs) H2 σ (ts vs)) us (ds vs) := by
  refine args_rep (t := ts vs) R (fun a o e => Fz_up (Ft_dn R.stp.sub) _ _ (Ft_up R.stp.sub _ _ e)) (fun a h => Fz_in h) A (fun _ h => h) fun a h => ?_
  by_cases q : AtS σ (ts vs) a
  · exact Fz_in q
  · rw [Fz_out q]; unfold Ft; rw [if_pos h]

theorem l_nil : PA X [] (rdL c Wx .nil) := pa_wk pa_nil fun σ H Q ⟨F0, H0, ρ, F, W, R, hP⟩ => by
  simp only [evL] at hP
  exact hP [] F H R.refl ⟨.nil, trivial⟩
theorem l_cons {e : Expr} {es : List Expr} {a b : E} (ha : PE X e (rdE c Wx a)) (hb : PA X es (rdL c Wx b)) (hs : starEach (e :: es) X.env = (false, eval e X.env) :: starEach es X.env) : PA X (e :: es) (rdL c Wx (.cons a b)) := by
  refine pa_wk (pa_cons ha hb hs) fun σ H Q ⟨F0, H0, ρ, F, W, R, hP⟩ => ?_
  simp only [evL] at hP
  refine rd_e R R.refl hP fun x W1 u F1 H1 S1 _ V1 R1 hP => ?_
  refine rd_lx R1 S1 hP fun ys W2 us F2 H2 S2 S12 V2 A2 R2 hP => ?_
  refine hP _ _ _ S2 ⟨.cons (V1.step R1 S12) (Paired.mapP V2 fun _ _ z => z.start fun a m z => S1.keepN m z), fun a hk hu z => ?_, A2⟩
  have k := V1.at_
  rw [hk] at k
  obtain ⟨p, e1, _, _, _, e5⟩ := k
  rw [hu] at e1
  have q : a = p := V.ref.inj e1
  subst q
  exact (tmp_at V2 z).2.2.1 e5.thr

theorem e_tup {es : List Expr} {a : E} {k : Nat} {pos : Pos} (ha : PA X es (rdL c Wx a)) : PE X (.Tuple es k pos) (rdE c Wx (.tup a)) := by
  refine pe_wk (pe_tup ha) fun σ H Q ⟨F0, H0, ρ, F, W, R, hP⟩ => ?_
  simp only [ev] at hP
  refine rd_l R R.refl hP fun vs W2 us F2 H2 S2 _ A R2 hP => ?_
  by_cases hl : vs.length ≤ cap
  · rw [if_pos hl] at hP
    exact ⟨by rw [Paired.len A, ← cap_eq]; exact hl, fin_tup (Ft_rel R R2 S2 A) (Ft_stp S2 A) (ts_own A) hP (args_all R R2 S2 A)⟩
  · rw [if_neg hl] at hP; exact hP.elim
theorem e_lst {es : List Expr} {a : E} {pos : Pos} (ha : PA X es (rdL c Wx a)) : PE X (.List es pos) (rdE c Wx (.lst a)) := by
  refine pe_wk (pe_lst ha) fun σ H Q ⟨F0, H0, ρ, F, W, R, hP⟩ => ?_
  simp only [ev] at hP
  refine rd_l R R.refl hP fun vs W2 us F2 H2 S2 _ A R2 hP => ?_
  by_cases hl : vs.length ≤ cap
  · rw [if_pos hl] at hP
    exact ⟨by rw [Paired.len A, ← cap_eq]; exact hl, fin_lst (Ft_rel R R2 S2 A) (Ft_stp S2 A) (ts_own A) hP (args_all R R2 S2 A)⟩
  · rw [if_neg hl] at hP; exact hP.elim

/-- a result -/
def ResOk (c : Pm) (Hs F H : Hp) (u : V) (r : Bool × D) : Prop := if r.1 then ∃ p, u = .ref p ∧ F p = none ∧ p ∉ c.mv ∧ Nil Hs p ∧ OwnAt c F H p r.2 else Rep c F u r.2
def PstG (c : Pm) (F H : Hp) (Q : VK) (E : XK) : Out (Bool × D) → Prop
  | .ok r W' => ∀ u F' H', Stp c W' F H F' H' → ResOk c H F' H' u r → Q u H'
  | .ex x W' => ∀ cls dd F' H', Stp c W' F H F' H' → ExOk c F' x cls dd → E cls dd H'
  | .stk => False
def spG (c : Pm) (g : G) : Sp := fun vs H Q E => ∃ F xs W, RepL c F vs xs ∧ Stp c W F H F H ∧ PstG c F H Q E (g xs W)

/-- F without the own objects of some names -/
noncomputable def Fh (F : Hp) (σ : L2.St) (t : List Nat) : Hp := fun a => if AtS σ t a then none else F a
theorem Fh_in {t : List Nat} {a : Addr} (h : AtS σ t a) : Fh F σ t a = none := if_pos h
theorem Fh_out {t : List Nat} {a : Addr} (h : ¬ AtS σ t a) : Fh F σ t a = F a := if_neg h
theorem Fh_stp {t : List Nat} (R0 : Rel c F0 H0 ρ σ F H W) (S : Stp c W2 F H F2 H2) (A : ArgOk c ρ σ H F2 H2 us vs) (ht : ∀ i ∈ t, ∃ x, ρ[i]? = some (.own x)) (T : Stp c W3 (Fz (Ft F2 H2 us vs) H2 σ t) H2 F3 H3) : Stp c W3 F H (Fh F3 σ t) H3 := by
  have S' := Ft_stp S A
  have R' : Rel c F0 H0 ρ σ (Ft F2 H2 us vs) H2 W2 := R0.step S'
  refine ⟨fun a o e => ?_, fun a o e => ?_, fun a o e nn k => T.h a o (S.h a o e nn k) nn k, fun a e nn => ?_, fun a o e => ?_, fun a ha => ?_, T.dr, fun hd => ?_, T.tabs⟩
  · have q : ¬ AtS σ t a := fun h => by
      have := (R0.at_ ht h).1
      rw [e] at this; cases this
    rw [Fh_out q]
    exact T.f a o (by rw [Fz_out q]; exact S'.f a o e)
  · by_cases q : AtS σ t a
    · rw [Fh_in q] at e; cases e
    · rw [Fh_out q] at e; exact T.sub a o e
  · by_cases q : AtS σ t a
    · exact Fh_in q
    · rw [Fh_out q]
      by_cases m : a ∈ c.mv
      · exact T.av a m
      · exact T.new a (by rw [Fz_out q]; exact S'.new a e nn) (S.there m nn)
  · by_cases q : AtS σ t a
    · rw [Fh_in q] at e; cases e
    · rw [Fh_out q] at e; exact T.nt a o e
  · by_cases q : AtS σ t a
    · exact Fh_in q
    · rw [Fh_out q]; exact T.av a ha
  · have e0 := R0.stp.cl hd
    rw [Fh_out fun q => by rw [(R0.at_ ht q).1] at e0; cases e0]
    exact T.cl hd
theorem Fh_soft {t : List Nat} (R' : Rel c F0 H0 ρ σ F2 H2 W2) (ht : ∀ i ∈ t, ∃ x, ρ[i]? = some (.own x)) (T : Stp c W3 (Fz F2 H2 σ t) H2 F3 H3) : (∀ a, AtS σ t a → Soft F3 a) ∧ ∀ a, ¬ AtS σ t a → Fh F3 σ t a = F3 a := by
  refine ⟨fun a h => ?_, fun a h => Fh_out h⟩
  obtain ⟨_, _, h3, h4⟩ := R'.at_ ht h
  cases e : H2 a with
  | none => exact absurd e h4
  | some o =>
    have : F3 a = some o := T.f a o (by rw [Fz_in h]; exact e)
    unfold Soft at h3 ⊢
    rw [e] at h3; rw [this]; exact h3
theorem Fh_up {t : List Nat} (T : Same F3 H3) : Same F3 (Fz (Fh F3 σ t) H3 σ t) := fun a o e => by
  by_cases q : AtS σ t a
  · rw [Fz_in q]; exact T a o e
  · rw [Fz_out q, Fh_out q]; exact e
/-- behind a call -/
theorem call_end {g : G} {t : List Nat} (R0 : Rel c F0 H0 ρ σ F H W) (S : Stp c W2 F H F2 H2) (A : ArgOk c ρ σ H F2 H2 us vs) (ht : ∀ i ∈ t, ∃ x, ρ[i]? = some (.own x)) {o : Out (Bool × D)}
    (hP : Pst c Wx σ F H (fun v u F' H' => ValOk c ρ σ H F' H' u v) Q (o.bind fun r W => .ok (vo r t) W)) :
    PstG c (Fz (Ft F2 H2 us vs) H2 σ t) H2 Q (fun cls dd H' => Wx cls dd σ H') o := by
  have S' := Ft_stp S A
  have R' : Rel c F0 H0 ρ σ (Ft F2 H2 us vs) H2 W2 := R0.step S'
  cases o with
  | stk => exact hP
  | ex x W3 =>
    intro cls dd F3 H3 T hx
    refine hP cls dd _ H3 (Fh_stp R0 S A ht T) ?_
    obtain ⟨a1, a2⟩ := Fh_soft R' ht T
    revert hx
    unfold ExOk
    cases x <;> try exact fun h => h
    rename_i nm fs
    rintro ⟨C, h1, h2, h3⟩
    refine ⟨C, h1, h2, ?_⟩
    revert h3
    split
    · exact fun h => h
    · rintro ⟨m, b, gs, e1, e2, e3⟩
      refine ⟨m, b, gs, e1, ?_, RepF.soft a1 a2 e3 m⟩
      rw [a2]
      · exact e2
      · intro z
        rcases a1 _ z with q | ⟨xs, q⟩ | ⟨xs, q⟩ | ⟨xs, q⟩ <;> rw [e2] at q <;> cases q
  | ok r W3 =>
    intro u F3 H3 T hr
    have S3 := Fh_stp R0 S A ht T
    obtain ⟨a1, a2⟩ := Fh_soft R' ht T
    refine hP u _ H3 S3 ?_
    have R3 := R0.step S3
    unfold ResOk at hr
    unfold vo
    obtain ⟨b, d⟩ := r
    cases b with
    | false =>
      rw [if_neg Bool.false_ne_true] at hr
      simp only [Bool.false_eq_true, if_false]
      unfold vl
      by_cases m : d.imm = true
      · rw [if_pos m]
        exact ValOk.of_rep (Rep.soft a1 a2 hr m) rfl rfl
      · rw [if_neg m]
        exact ⟨fun i hi => ht i hi, hr.mono (Fh_up T.sub)⟩
    | true =>
      rw [if_pos rfl] at hr
      obtain ⟨p, rfl, e1, e2, e3, e4⟩ := hr
      simp only [if_true]
      have hp : Fh F3 σ t p = none := by
        by_cases q : AtS σ t p
        · exact Fh_in q
        · rw [Fh_out q]; exact e1
      unfold vf
      by_cases m : d.kids = true
      · rw [if_pos m]
        refine ⟨fun i hi => by simp [Vl.all] at hi, p, rfl, hp, e2, S.keepN e2 e3, ?_⟩
        rw [Fz_nil]
        exact e4.soft a1 a2 m
      · rw [if_neg m]
        exact ⟨fun i hi => ht i hi, p, rfl, hp, e2, S.keepN e2 e3, e4.mono (Fh_up T.sub) fun _ h => h⟩
end
end Z

namespace Z
open PySem PySem.Spec PyProof.Rows L2
open Classical

mutual
theorem pyN_ok : ∀ (n : Nat) (d : D) (p : PyData), D.pyN n d = some p → p.plain = true ∧ p.depth ≤ n + 1
  | _, .non, _, h => by simp only [D.pyN, Option.some.injEq] at h; subst h; exact ⟨rfl, by simp [PyData.depth]⟩
  | _, .bl b, _, h => by simp only [D.pyN, Option.some.injEq] at h; subst h; exact ⟨rfl, by simp [PyData.depth]⟩
  | _, .int b, _, h => by simp only [D.pyN, Option.some.injEq] at h; subst h; exact ⟨rfl, by simp [PyData.depth]⟩
  | _, .str b, _, h => by simp only [D.pyN, Option.some.injEq] at h; subst h; exact ⟨rfl, by simp [PyData.depth]⟩
  | 0, .tup xs, _, h => by simp [D.pyN] at h
  | 0, .lst xs, _, h => by simp [D.pyN] at h
  | n + 1, .tup xs, p, h => by
    simp only [D.pyN, Option.map_eq_some_iff] at h
    obtain ⟨ps, h1, h2⟩ := h
    subst h2
    obtain ⟨a, b⟩ := pyNL_ok n xs ps h1
    exact ⟨by simpa only [PyData.plain] using a, by simp only [PyData.depth]; omega⟩
  | n + 1, .lst xs, p, h => by
    simp only [D.pyN, Option.map_eq_some_iff] at h
    obtain ⟨ps, h1, h2⟩ := h
    subst h2
    obtain ⟨a, b⟩ := pyNL_ok n xs ps h1
    exact ⟨by simpa only [PyData.plain] using a, by simp only [PyData.depth]; omega⟩
  | n, .dic _ _, _, h => by cases n <;> simp [D.pyN] at h
  | n, .ins _ _, _, h => by cases n <;> simp [D.pyN] at h
  | n, .exc _ _, _, h => by cases n <;> simp [D.pyN] at h
  | n, .drw, _, h => by cases n <;> simp [D.pyN] at h
  | n, .scr _, _, h => by cases n <;> simp [D.pyN] at h
  | n, .fn _, _, h => by cases n <;> simp [D.pyN] at h
theorem pyNL_ok : ∀ (n : Nat) (xs : List D) (ps : List PyData), D.pyNL n xs = some ps → PyData.plainAll ps = true ∧ PyData.depthAll ps ≤ n + 1
  | n, [], ps, h => by simp only [D.pyNL, Option.some.injEq] at h; subst h; exact ⟨rfl, by simp [PyData.depthAll]⟩
  | n, x :: xs, ps, h => by
    simp only [D.pyNL] at h
    split at h
    · rename_i y ys h1 h2
      cases h
      obtain ⟨a1, b1⟩ := pyN_ok n x y h1
      obtain ⟨a2, b2⟩ := pyNL_ok n xs ys h2
      exact ⟨by simp [PyData.plainAll, a1, a2], by simp only [PyData.depthAll]; omega⟩
    · cases h
end
mutual
theorem rep_dp {c : Pm} {F : Hp} : ∀ (n : Nat) (d : D) (p : PyData) (u : V), D.pyN n d = some p → Rep c F u d → Dp c.K F u p
  | _, .non, _, _, h, r => by simp only [D.pyN, Option.some.injEq] at h; subst h; cases r; exact .non
  | _, .bl b, _, _, h, r => by simp only [D.pyN, Option.some.injEq] at h; subst h; cases r; exact .bl _
  | _, .int b, _, _, h, r => by simp only [D.pyN, Option.some.injEq] at h; subst h; cases r; exact .int _
  | _, .str b, _, _, h, r => by simp only [D.pyN, Option.some.injEq] at h; subst h; cases r; exact .str _
  | 0, .tup xs, _, _, h, r => by simp [D.pyN] at h
  | 0, .lst xs, _, _, h, r => by simp [D.pyN] at h
  | n + 1, .tup xs, p, u, h, r => by
    simp only [D.pyN, Option.map_eq_some_iff] at h
    obtain ⟨ps, h1, h2⟩ := h
    subst h2
    obtain ⟨a, vs, rfl, h3, h4⟩ := r.tupI
    exact .tup h3 (repL_dp n xs ps vs h1 h4)
  | n + 1, .lst xs, p, u, h, r => by
    simp only [D.pyN, Option.map_eq_some_iff] at h
    obtain ⟨ps, h1, h2⟩ := h
    subst h2
    obtain ⟨a, vs, rfl, h3, h4⟩ := r.lstI
    exact .lst (.inl (.inl h3)) (repL_dp n xs ps vs h1 h4)
  | n, .dic _ _, _, _, h, _ => by cases n <;> simp [D.pyN] at h
  | n, .ins _ _, _, _, h, _ => by cases n <;> simp [D.pyN] at h
  | n, .exc _ _, _, _, h, _ => by cases n <;> simp [D.pyN] at h
  | n, .drw, _, _, h, _ => by cases n <;> simp [D.pyN] at h
  | n, .scr _, _, _, h, _ => by cases n <;> simp [D.pyN] at h
  | n, .fn _, _, _, h, _ => by cases n <;> simp [D.pyN] at h
theorem repL_dp {c : Pm} {F : Hp} : ∀ (n : Nat) (xs : List D) (ps : List PyData) (us : List V), D.pyNL n xs = some ps → RepL c F us xs → DpAll c.K F us ps
  | n, [], ps, us, h, r => by simp only [D.pyNL, Option.some.injEq] at h; subst h; cases r; exact .nil
  | n, x :: xs, ps, us, h, r => by
    simp only [D.pyNL] at h
    split at h
    · rename_i y ys h1 h2
      cases h
      cases r with
      | cons r1 r2 => exact .cons (rep_dp n x y _ h1 r1) (repL_dp n xs ys _ h2 r2)
    · cases h
end
mutual
theorem dp_mono {K : PySem.W.Frag} {H H' : Hp} (e : Same H H') : ∀ {v : V} {p : PyData}, Dp K H v p → Dp K H' v p
  | _, _, .non => .non
  | _, _, .bl b => .bl b
  | _, _, .int b => .int b
  | _, _, .str b => .str b
  | _, _, .lst h r => .lst (e.seq h) (dpAll_mono e r)
  | _, _, .tup h r => .tup (Same.sqT e h) (dpAll_mono e r)
theorem dpAll_mono {K : PySem.W.Frag} {H H' : Hp} (e : Same H H') : ∀ {v : List V} {p : List PyData}, DpAll K H v p → DpAll K H' v p
  | _, _, .nil => .nil
  | _, _, .cons h r => .cons (dp_mono e h) (dpAll_mono e r)
end

section
variable {c : Pm} {Wx : WX} {X : Cx} {n : Nat} {W W' W1 W2 : Dr} {F0 H0 F H F' H' F1 H1 F2 H2 Hs : Hp} {ρ : En} {σ : L2.St} {u w : V} {x y v : Vl} {Q : VK}
theorem val_dp {p : PyData} (R : Rel c F0 H0 ρ σ F H W) (k : ValOk c ρ σ Hs F H u v) (h : v.d.pd = some p) : Dp c.K H u p := by
  cases e : v.d <;> rw [e] at h
  case lst xs =>
    unfold D.pd at h
    simp only [D.pyN, Option.map_eq_some_iff] at h
    obtain ⟨ps, h1, h2⟩ := h
    subst h2
    obtain ⟨a, vs, rfl, h3, h4⟩ := k.lst R e
    exact .lst (.inl (.inl h3)) (dpAll_mono (Fz_dn R.stp.sub) (repL_dp _ _ _ _ h1 h4))
  case dic t kvs => simp [D.pd, D.pyN] at h
  all_goals exact dp_mono (Fz_dn R.stp.sub) (rep_dp _ _ _ _ h (k.rep R e fun _ _ _ h => h))
/-- == and != of data -/
def rEqP (K : PySem.W.Frag) (neg : Bool) : R2 := fun x y H Q => ∃ d e, Dp K H x d ∧ Dp K H y e ∧ d.plain = true ∧ e.plain = true ∧ d.depth ≤ 60 ∧ Q (.bl (if neg then !PyData.eqv d e else PyData.eqv d e)) H
theorem room_min {A : Around} {d e : PyData} (hu : A.units + 64 < cLine) (h : d.depth ≤ 60) : A.units + min d.depth e.depth < cLine := by
  have : min d.depth e.depth ≤ d.depth := Nat.min_le_left _ _
  omega
theorem op_eqP (hu : X.A.units + 64 < cLine) : OpR X (compareOp .Eq) (rEqP X.K false) := by
  intro pins s σ H x y v u Q I rx ry h
  obtain ⟨d, e, hd, he, sd, se, hz, q⟩ := h
  obtain ⟨as, r1⟩ := Dp.reads I d x v hd rx
  obtain ⟨bs, r2⟩ := Dp.reads I e y u he ry
  exact SeqAt.eq_plain r1 r2 sd se (room_min hu hz) ⟨.bl _, H, I, rfl, q⟩
theorem op_neP (hu : X.A.units + 64 < cLine) : OpR X (compareOp .NotEq) (rEqP X.K true) := by
  intro pins s σ H x y v u Q I rx ry h
  obtain ⟨d, e, hd, he, sd, se, hz, q⟩ := h
  obtain ⟨as, r1⟩ := Dp.reads I d x v hd rx
  obtain ⟨bs, r2⟩ := Dp.reads I e y u he ry
  exact SeqAt.ne_plain r1 r2 sd se (room_min hu hz) ⟨.bl _, H, I, rfl, q⟩
/-- in, not in: a list or a tuple of data -/
def rInP (K : PySem.W.Frag) (neg : Bool) : R2 := fun x y H Q => ∃ d es, Dp K H x d ∧ d.plain = true ∧ d.depth ≤ 60 ∧ (Dp K H y (.list es) ∨ Dp K H y (.tuple es)) ∧ PyData.plainAll es = true ∧
  Q (.bl (if neg then !es.any (fun e => PyData.eqv e d) else es.any fun e => PyData.eqv e d)) H
theorem room_in {A : Around} {d : PyData} {n : Nat} (hu : A.units + 64 < cLine) (h : d.depth ≤ 60) : A.units + 1 + min n d.depth < cLine := by
  have : min n d.depth ≤ d.depth := Nat.min_le_right _ _
  omega
theorem op_inP (hu : X.A.units + 64 < cLine) : OpR X (compareOp .In) (rInP X.K false) := by
  intro pins s σ H x y v u Q I rx ry h
  obtain ⟨d, es, hd, sd, hz, hl, se, q⟩ := h
  obtain ⟨as, r1⟩ := Dp.reads I d x v hd rx
  rcases hl with hl | hl
  · obtain ⟨bs, r2⟩ := Dp.reads I _ y u hl ry
    exact SeqAt.in_list_data r2 r1 se sd (room_in hu hz) ⟨.bl _, H, I, rfl, q⟩
  · obtain ⟨bs, r2⟩ := Dp.reads I _ y u hl ry
    exact SeqAt.in_tuple_data r2 r1 se sd (room_in hu hz) ⟨.bl _, H, I, rfl, q⟩
theorem op_ninP (hu : X.A.units + 64 < cLine) : OpR X (compareOp .NotIn) (rInP X.K true) := by
  intro pins s σ H x y v u Q I rx ry h
  obtain ⟨d, es, hd, sd, hz, hl, se, q⟩ := h
  obtain ⟨as, r1⟩ := Dp.reads I d x v hd rx
  rcases hl with hl | hl
  · obtain ⟨bs, r2⟩ := Dp.reads I _ y u hl ry
    exact SeqAt.notIn_list_data r2 r1 se sd (room_in hu hz) ⟨.bl _, H, I, rfl, q⟩
  · obtain ⟨bs, r2⟩ := Dp.reads I _ y u hl ry
    exact SeqAt.notIn_tuple_data r2 r1 se sd (room_in hu hz) ⟨.bl _, H, I, rfl, q⟩

/-- what a rule by values asks for a comparison of data -/
def CmpOk (c : Pm) (f : D → D → Option Bool) (r : R2) : Prop :=
  ∀ {W2 : Dr} {F0 H0 H F2 H2 : Hp} {ρ : En} {σ : L2.St} {u w : V} {x y : Vl} {Q : VK} {z : Bool}, Rel c F0 H0 ρ σ F2 H2 W2 → ValOk c ρ σ H F2 H2 u x → ValOk c ρ σ H F2 H2 w y → f x.d y.d = some z → Q (.bl z) H2 → r u w H2 Q
theorem e_cmp {op : CmpOp} {a b : Expr} {ea eb : E} {pos : Pos} {r : R2} (ho : OpR X (compareOp op) r) (k : CmpOk c (cmpD op) r) (ha : PE X a (rdE c Wx ea)) (hb : PE X b (rdE c Wx eb)) (hm : behindInMarks op b = false) :
    PE X (.Compare a [op] [b] pos) (rdE c Wx (.cmp op ea eb)) := by
  refine pe_wk (pe_cmpR ho ha hb hm) fun σ H Q ⟨F0, H0, ρ, F, W, R, hP⟩ => ?_
  simp only [ev] at hP
  refine rd_e R R.refl hP fun x W1 u F1 H1 S1 _ V1 R1 hP => ?_
  refine rd_e R1 S1 hP fun y W2 w F2 H2 S2 S12 V2 R2 hP => ?_
  obtain ⟨z, hz, hP⟩ := ofO_some hP
  exact k R2 (V1.step R1 S12) V2 hz (fin_sc R2 S2 hP (.bl z))
theorem t_cmp {op : CmpOp} {a b : Expr} {ea eb : E} {pos : Pos} {r : R2} (ho : OpR X (compareOp op) r) (k : CmpOk c (cmpD op) r) (ha : PE X a (rdE c Wx ea)) (hb : PE X b (rdE c Wx eb)) (hm : behindInMarks op b = false) :
    PT X (.Compare a [op] [b] pos) (rdT c Wx (.tv (.cmp op ea eb))) := by
  refine pt_wk (pt_cmpR ho ha hb hm) fun σ H Q ⟨F0, H0, ρ, F, W, R, hP⟩ => ?_
  simp only [evT, ev, Out.bind_bind, ofO_bind, Out.ok_bind] at hP
  refine rd_e R R.refl hP fun x W1 u F1 H1 S1 _ V1 R1 hP => ?_
  refine rd_e R1 S1 hP fun y W2 w F2 H2 S2 S12 V2 R2 hP => ?_
  obtain ⟨z, hz, hP⟩ := ofO_some hP
  exact k R2 (V1.step R1 S12) V2 hz ⟨z, rfl, hP z F2 H2 S2 rfl⟩
end
end Z

namespace Z
open PySem PySem.Spec PyProof.Rows L2
open Classical
section
variable {c : Pm} {Wx : WX} {X : Cx} {n : Nat} {W W' W1 W2 : Dr} {F0 H0 F H F' H' F1 H1 F2 H2 Hs : Hp} {ρ : En} {σ : L2.St} {u w : V} {x y v : Vl} {Q : VK}

theorem eq_ok : CmpOk c (cmpD .Eq) (rEqP c.K false) := by
  intro W2 F0 H0 H F2 H2 ρ σ u w x y Q z R V1 V2 h q
  simp only [cmpD, D.eq] at h
  split at h
  · rename_i a b h1 h2
    cases h
    obtain ⟨p1, d1⟩ := pyN_ok _ _ _ h1
    exact ⟨a, b, val_dp R V1 h1, val_dp R V2 h2, p1, (pyN_ok _ _ _ h2).1, by omega, q⟩
  · cases h
theorem ne_ok : CmpOk c (cmpD .NotEq) (rEqP c.K true) := by
  intro W2 F0 H0 H F2 H2 ρ σ u w x y Q z R V1 V2 h q
  simp only [cmpD, D.eq, Option.map_eq_some_iff] at h
  obtain ⟨k, h, rfl⟩ := h
  split at h
  · rename_i a b h1 h2
    cases h
    obtain ⟨p1, d1⟩ := pyN_ok _ _ _ h1
    exact ⟨a, b, val_dp R V1 h1, val_dp R V2 h2, p1, (pyN_ok _ _ _ h2).1, by omega, q⟩
  · cases h
theorem le_ok : CmpOk c (cmpD .LtE) (rI0 fun i j => .bl (decide (i ≤ j))) := by
  intro W2 F0 H0 H F2 H2 ρ σ u w x y Q z R V1 V2 h q
  cases e1 : x.d <;> cases e2 : y.d <;> rw [e1, e2] at h <;> simp only [cmpD] at h <;> try (cases h)
  exact ⟨_, _, V1.int R e1, V2.int R e2, q⟩
theorem gt_ok : CmpOk c (cmpD .Gt) (rI0 fun i j => .bl (decide (j < i))) := by
  intro W2 F0 H0 H F2 H2 ρ σ u w x y Q z R V1 V2 h q
  cases e1 : x.d <;> cases e2 : y.d <;> rw [e1, e2] at h <;> simp only [cmpD] at h <;> try (cases h)
  exact ⟨_, _, V1.int R e1, V2.int R e2, q⟩
theorem ge_ok : CmpOk c (cmpD .GtE) (rI0 fun i j => .bl (decide (j ≤ i))) := by
  intro W2 F0 H0 H F2 H2 ρ σ u w x y Q z R V1 V2 h q
  cases e1 : x.d <;> cases e2 : y.d <;> rw [e1, e2] at h <;> simp only [cmpD] at h <;> try (cases h)
  exact ⟨_, _, V1.int R e1, V2.int R e2, q⟩
theorem alike_plain : ∀ {a b : PyData}, a.plain = true → b.plain = true → PySem.W.alike a b = true → True := fun _ _ _ => trivial
/-- < of data that are alike -/
def rLtP (K : PySem.W.Frag) : R2 := fun x y H Q => ∃ d e, Dp K H x d ∧ Dp K H y e ∧ PySem.W.alike d e = true ∧ d ≠ .none ∧ d.depth ≤ 60 ∧ Q (.bl (PySem.W.dataLt d e)) H
theorem op_ltP (hu : X.A.units + 64 < cLine) : OpR X (compareOp .Lt) (rLtP X.K) := by
  intro pins s σ H x y v u Q I rx ry h
  obtain ⟨d, e, hd, he, sd, se, hz, q⟩ := h
  obtain ⟨as, r1⟩ := Dp.reads I d x v hd rx
  obtain ⟨bs, r2⟩ := Dp.reads I e y u he ry
  exact PySem.W.rcLt_alike d e X.A s v u as bs r1 r2 sd se (room_min hu hz) X.prog X.w X.xe _ ⟨.bl _, H, I, rfl, q⟩
def rLtD (K : PySem.W.Frag) : R2 := fun x y H Q => (rI0 fun i j => .bl (decide (i < j))) x y H Q ∨ rLtP K x y H Q
theorem op_ltD (hu : X.A.units + 64 < cLine) : OpR X (compareOp .Lt) (rLtD X.K) := op_lt.or (op_ltP hu)
theorem lt_aux (R : Rel c F0 H0 ρ σ F2 H2 W2) (V1 : ValOk c ρ σ H F2 H2 u x) (V2 : ValOk c ρ σ H F2 H2 w y) {z : Bool} (h : x.d.lt y.d = some z) (q : Q (.bl z) H2) : rLtP c.K u w H2 Q := by
  unfold D.lt at h
  split at h
  · rename_i a b h1 h2
    split at h
    · rename_i ha
      split at h
      · cases h
      · rename_i hn
        cases h
        exact ⟨a, b, val_dp R V1 h1, val_dp R V2 h2, ha, hn, by have := (pyN_ok _ _ _ h1).2; omega, q⟩
    · cases h
  · cases h
theorem lt_ok : CmpOk c (cmpD .Lt) (rLtD c.K) := by
  intro W2 F0 H0 H F2 H2 ρ σ u w x y Q z R V1 V2 h q
  simp only [cmpD] at h
  split at h
  · rename_i i j e1 e2
    cases h
    exact .inl ⟨i, j, V1.int R e1, V2.int R e2, q⟩
  · exact .inr (lt_aux R V1 V2 h q)
/-- is -/
theorem val_non (R : Rel c F0 H0 ρ σ F H W) (k : ValOk c ρ σ Hs F H u v) : (decide (u = .non)) = (match v.d with | .non => true | _ => false) := by
  cases e : v.d
  case lst xs => obtain ⟨a, vs, rfl, _⟩ := k.lst R e; rfl
  case dic t kvs => obtain ⟨a, rfl⟩ := k.dic_ref R e; rfl
  all_goals (have a := k.rep R e fun _ _ _ h => h; cases a <;> rfl)
def rIsD (neg : Bool) : R2 := fun x y H Q => (y = .non ∧ Q (.bl (if neg then !decide (x = .non) else decide (x = .non))) H) ∨ ∃ a b, x = .bl a ∧ y = .bl b ∧ Q (.bl (if neg then !decide (a = b) else decide (a = b))) H
theorem op_isD : OpR X (compareOp .Is) (rIsD false) := op_isN.or op_is_bl
theorem op_isnD : OpR X (compareOp .IsNot) (rIsD true) := op_notN.or op_isnot_bl
theorem is_ok : CmpOk c (cmpD .Is) (rIsD false) := by
  intro W2 F0 H0 H F2 H2 ρ σ u w x y Q z R V1 V2 h q
  simp only [cmpD] at h
  split at h
  · rename_i e2
    cases h
    exact .inl ⟨V2.non R e2, by simp only [Bool.false_eq_true, if_false]; rw [val_non R V1]; exact q⟩
  · rename_i a b e1 e2
    cases h
    refine .inr ⟨a, b, V1.bl R e1, V2.bl R e2, ?_⟩
    simp only [Bool.false_eq_true, if_false]
    have : (a == b) = decide (a = b) := by cases a <;> cases b <;> rfl
    rw [← this]; exact q
  · cases h
theorem isn_ok : CmpOk c (cmpD .IsNot) (rIsD true) := by
  intro W2 F0 H0 H F2 H2 ρ σ u w x y Q z R V1 V2 h q
  simp only [cmpD] at h
  split at h
  · rename_i e2
    cases h
    refine .inl ⟨V2.non R e2, ?_⟩
    simp only [if_true]
    rw [val_non R V1]
    cases e : x.d <;> rw [e] at q <;> exact q
  · rename_i a b e1 e2
    cases h
    refine .inr ⟨a, b, V1.bl R e1, V2.bl R e2, ?_⟩
    simp only [if_true]
    have : (a != b) = !decide (a = b) := by cases a <;> cases b <;> rfl
    rw [← this]; exact q
  · cases h
/-- in -/
def rInD (K : PySem.W.Frag) (neg : Bool) : R2 := fun x y H Q => (∃ i j, x = .str i ∧ y = .str j ∧ Q (.bl (if neg then !(!(Builtin.Str.occurrences j i 0 j.length 1).isEmpty) else !(Builtin.Str.occurrences j i 0 j.length 1).isEmpty)) H) ∨ rInP K neg x y H Q
theorem op_inD (hu : X.A.units + 64 < cLine) : OpR X (compareOp .In) (rInD X.K false) := op_in_str.or (op_inP hu)
theorem op_ninD (hu : X.A.units + 64 < cLine) : OpR X (compareOp .NotIn) (rInD X.K true) := op_notIn_str.or (op_ninP hu)
theorem val_dps_l {ys : List D} {ps : List PyData} (R : Rel c F0 H0 ρ σ F H W) (k : ValOk c ρ σ Hs F H u v) (e : v.d = .lst ys) (h : D.pyNL 12 ys = some ps) : Dp c.K H u (.list ps) := by
  obtain ⟨a, vs, rfl, h3, h4⟩ := k.lst R e
  exact .lst (.inl (.inl h3)) (dpAll_mono (Fz_dn R.stp.sub) (repL_dp _ _ _ _ h h4))
theorem val_dps_t {ys : List D} {ps : List PyData} (R : Rel c F0 H0 ρ σ F H W) (k : ValOk c ρ σ Hs F H u v) (e : v.d = .tup ys) (h : D.pyNL 12 ys = some ps) : Dp c.K H u (.tuple ps) := by
  obtain ⟨a, vs, rfl, h3, h4⟩ := k.tup R e
  exact .tup (Same.sqT (Fz_dn R.stp.sub) h3) (dpAll_mono (Fz_dn R.stp.sub) (repL_dp _ _ _ _ h h4))
theorem in_aux (neg : Bool) (R : Rel c F0 H0 ρ σ F2 H2 W2) (V1 : ValOk c ρ σ H F2 H2 u x) (V2 : ValOk c ρ σ H F2 H2 w y) {z : Bool} (h : cmpD.inD x.d y.d = some z) (q : Q (.bl (if neg then !z else z)) H2) : rInD c.K neg u w H2 Q := by
  unfold cmpD.inD at h
  split at h
  · rename_i a b e1 e2
    cases h
    exact .inl ⟨a, b, V1.str R e1, V2.str R e2, q⟩
  · rename_i ys _ e2
    unfold cmpD.anyEq at h
    split at h
    · rename_i a bs h1 h2
      cases h
      obtain ⟨p1, d1⟩ := pyN_ok _ _ _ h1
      exact .inr ⟨a, bs, val_dp R V1 h1, p1, by omega, .inl (val_dps_l R V2 e2 h2), (pyNL_ok _ _ _ h2).1, q⟩
    · cases h
  · rename_i ys _ e2
    unfold cmpD.anyEq at h
    split at h
    · rename_i a bs h1 h2
      cases h
      obtain ⟨p1, d1⟩ := pyN_ok _ _ _ h1
      exact .inr ⟨a, bs, val_dp R V1 h1, p1, by omega, .inr (val_dps_t R V2 e2 h2), (pyNL_ok _ _ _ h2).1, q⟩
    · cases h
  · cases h
theorem in_ok : CmpOk c (cmpD .In) (rInD c.K false) := by
  intro W2 F0 H0 H F2 H2 ρ σ u w x y Q z R V1 V2 h q
  exact in_aux false R V1 V2 h q
theorem nin_ok : CmpOk c (cmpD .NotIn) (rInD c.K true) := by
  intro W2 F0 H0 H F2 H2 ρ σ u w x y Q z R V1 V2 h q
  simp only [cmpD, Option.map_eq_some_iff] at h
  obtain ⟨k, h, rfl⟩ := h
  exact in_aux true R V1 V2 h q

/-- all comparisons -/
theorem cmp_all (op : CmpOp) (hk : X.K = c.K) (hu : X.A.units + 64 < cLine) : ∃ r, OpR X (compareOp op) r ∧ CmpOk c (cmpD op) r := by
  cases op with
  | Eq => exact ⟨_, hk ▸ op_eqP hu, eq_ok⟩
  | NotEq => exact ⟨_, hk ▸ op_neP hu, ne_ok⟩
  | Lt => exact ⟨_, hk ▸ op_ltD hu, lt_ok⟩
  | LtE => exact ⟨_, op_le, le_ok⟩
  | Gt => exact ⟨_, op_gt, gt_ok⟩
  | GtE => exact ⟨_, op_ge, ge_ok⟩
  | Is => exact ⟨_, op_isD, is_ok⟩
  | IsNot => exact ⟨_, op_isnD, isn_ok⟩
  | In => exact ⟨_, hk ▸ op_inD hu, in_ok⟩
  | NotIn => exact ⟨_, hk ▸ op_ninD hu, nin_ok⟩

/-- a < b < c -/
theorem e_chn {o1 o2 : CmpOp} {a b d : Expr} {ea eb ed : E} {pos : Pos} {r1 r2 : R2} (h1 : OpR X (compareOp o1) r1) (k1 : CmpOk c (cmpD o1) r1) (h2 : OpR X (compareOp o2) r2) (k2 : CmpOk c (cmpD o2) r2)
    (ha : PE X a (rdE c Wx ea)) (hb : PE X b (rdE c Wx eb)) (hd : PE X d (rdE c Wx ed)) (hm : lastMarks [o1, o2] [b, d] = false) : PE X (.Compare a [o1, o2] [b, d] pos) (rdE c Wx (.chn o1 o2 ea eb ed)) := by
  refine pe_wk (pe_chain h1 h2 ha hb hd hm) fun σ H Q ⟨F0, H0, ρ, F, W, R, hP⟩ => ?_
  simp only [ev] at hP
  refine rd_e R R.refl hP fun x W1 u F1 H1 S1 _ V1 R1 hP => ?_
  refine rd_e R1 S1 hP fun y W2 w F2 H2 S2 S12 V2 R2 hP => ?_
  obtain ⟨z, hz, hP⟩ := ofO_some hP
  refine k1 R2 (V1.step R1 S12) V2 hz ⟨z, rfl, ?_⟩
  cases z with
  | false =>
    rw [if_neg Bool.false_ne_true] at hP ⊢
    exact fin_sc R2 S2 hP (.bl false)
  | true =>
    rw [if_pos rfl] at hP ⊢
    refine rd_e R2 S2 hP fun z W3 t F3 H3 S3 S23 V3 R3 hP => ?_
    obtain ⟨z, hz, hP⟩ := ofO_some hP
    exact k2 R3 (V2.step R2 S23) V3 hz (fin_sc R3 S3 hP (.bl z))
/-- .. as a test -/
theorem t_chn {o1 o2 : CmpOp} {a b d : Expr} {ea eb ed : E} {pos : Pos} {r1 r2 : R2} (h1 : OpR X (compareOp o1) r1) (k1 : CmpOk c (cmpD o1) r1) (h2 : OpR X (compareOp o2) r2) (k2 : CmpOk c (cmpD o2) r2)
    (ha : PE X a (rdE c Wx ea)) (hb : PE X b (rdE c Wx eb)) (hd : PE X d (rdE c Wx ed)) (hm : lastMarks [o1, o2] [b, d] = false) : PT X (.Compare a [o1, o2] [b, d] pos) (rdT c Wx (.tv (.chn o1 o2 ea eb ed))) := by
  refine pt_wk (pt_chain h1 h2 ha hb hd hm) fun σ H Q ⟨F0, H0, ρ, F, W, R, hP⟩ => ?_
  simp only [evT, ev, Out.bind_bind, ofO_bind, ite_bind, Out.ok_bind] at hP
  refine rd_e R R.refl hP fun x W1 u F1 H1 S1 _ V1 R1 hP => ?_
  refine rd_e R1 S1 hP fun y W2 w F2 H2 S2 S12 V2 R2 hP => ?_
  obtain ⟨z, hz, hP⟩ := ofO_some hP
  refine k1 R2 (V1.step R1 S12) V2 hz ⟨z, rfl, ?_⟩
  cases z with
  | false =>
    rw [if_neg Bool.false_ne_true] at hP ⊢
    exact ⟨false, rfl, hP false F2 H2 S2 rfl⟩
  | true =>
    rw [if_pos rfl] at hP ⊢
    refine rd_e R2 S2 hP fun z W3 t F3 H3 S3 S23 V3 R3 hP => ?_
    obtain ⟨z, hz, hP⟩ := ofO_some hP
    exact k2 R3 (V2.step R2 S23) V3 hz ⟨z, rfl, hP z F3 H3 S3 rfl⟩

theorem isBl_eq {d : D} {b : Bool} (h : d.isBl = some b) : d = .bl b := by
  cases d <;> simp only [D.isBl] at h <;> cases h
  rfl
theorem t_val {a : Expr} {ea : E} (ha : PE X a (rdE c Wx ea)) (he : ∀ whole, isTrue a X.env whole = (do let v ← whole; standAt a.pos; holding [v] (truthy v))) : PT X a (rdT c Wx (.tv ea)) := by
  refine pt_wk (pt_val ha he) fun σ H Q ⟨F0, H0, ρ, F, W, R, hP⟩ => ?_
  simp only [evT] at hP
  refine rd_e R R.refl hP fun x W1 u F1 H1 S1 _ V1 R1 hP => ?_
  obtain ⟨b, hb, hP⟩ := ofO_some hP
  exact ⟨b, V1.bl R1 (isBl_eq hb), hP b F1 H1 S1 rfl⟩
theorem w_and1 {a : Expr} {ea : E} {pos : Pos} (ha : PT X a (rdT c Wx ea)) : PW X (.BoolOp .And [a] pos) (rdT c Wx ea) := pw_and1 ha
theorem w_or1 {a : Expr} {ea : E} {pos : Pos} (ha : PT X a (rdT c Wx ea)) : PW X (.BoolOp .Or [a] pos) (rdT c Wx ea) := pw_or1 ha
theorem w_and {a b : Expr} {rest : List Expr} {ea eb : E} {pos : Pos} (ha : PT X a (rdT c Wx ea)) (hb : PW X (.BoolOp .And (b :: rest) pos) (rdT c Wx eb)) : PW X (.BoolOp .And (a :: b :: rest) pos) (rdT c Wx (.and ea eb)) := by
  refine pw_wk (pw_and ha hb) fun σ H Q ⟨F0, H0, ρ, F, W, R, hP⟩ => ?_
  simp only [evT] at hP
  refine rd_t R R.refl hP fun b W1 F1 H1 S1 _ R1 hP => ?_
  cases b with
  | false => rw [if_neg Bool.false_ne_true] at hP ⊢; exact hP false F1 H1 S1 rfl
  | true =>
    rw [if_pos rfl] at hP ⊢
    exact rd_t R1 S1 (pst_ok hP) fun b W2 F2 H2 S2 _ _ hP => hP b F2 H2 S2 rfl
theorem w_or {a b : Expr} {rest : List Expr} {ea eb : E} {pos : Pos} (ha : PT X a (rdT c Wx ea)) (hb : PW X (.BoolOp .Or (b :: rest) pos) (rdT c Wx eb)) : PW X (.BoolOp .Or (a :: b :: rest) pos) (rdT c Wx (.or ea eb)) := by
  refine pw_wk (pw_or ha hb) fun σ H Q ⟨F0, H0, ρ, F, W, R, hP⟩ => ?_
  simp only [evT] at hP
  refine rd_t R R.refl hP fun b W1 F1 H1 S1 _ R1 hP => ?_
  cases b with
  | true => rw [if_pos rfl] at hP ⊢; exact hP true F1 H1 S1 rfl
  | false =>
    rw [if_neg Bool.false_ne_true] at hP ⊢
    exact rd_t R1 S1 (pst_ok hP) fun b W2 F2 H2 S2 _ _ hP => hP b F2 H2 S2 rfl
theorem t_not {a : Expr} {ea : E} {pos : Pos} (ha : PT X a (rdT c Wx ea)) : PT X (.UnaryOp .Not a pos) (rdT c Wx (.not ea)) := by
  refine pt_wk (pt_not ha) fun σ H Q ⟨F0, H0, ρ, F, W, R, hP⟩ => ?_
  simp only [evT] at hP
  exact rd_t R R.refl hP fun b W1 F1 H1 S1 _ R1 hP => hP (!b) F1 H1 S1 rfl
theorem a_nil : PTs X [] (rdA c Wx .nil) := ⟨fun pins s σ H Q I ⟨F0, H0, ρ, F, W, R, hP⟩ => pts_nil.run pins s σ H Q I (by
  simp only [evA] at hP
  exact hP true F H R.refl rfl)⟩
theorem a_one {a : Expr} {ea : E} (ha : PT X a (rdT c Wx ea)) : PTs X [a] (rdA c Wx (.cons ea .nil)) := ⟨fun pins s σ H Q I ⟨F0, H0, ρ, F, W, R, hP⟩ => (pts_one ha).run pins s σ H Q I (by
  simp only [evA] at hP
  refine rd_t R R.refl hP fun b W1 F1 H1 S1 _ R1 hP => ?_
  cases b
  · rw [if_neg Bool.false_ne_true] at hP; exact hP false F1 H1 S1 rfl
  · rw [if_pos rfl] at hP; exact hP true F1 H1 S1 rfl)⟩

theorem e_and {a b : Expr} {rest : List Expr} {ea eb : E} {pos : Pos} (ha : PE X a (rdE c Wx ea)) (hb : PE X (.BoolOp .And (b :: rest) pos) (rdE c Wx eb)) : PE X (.BoolOp .And (a :: b :: rest) pos) (rdE c Wx (.and ea eb)) := by
  refine pe_wk (pe_and ha hb) fun σ H Q ⟨F0, H0, ρ, F, W, R, hP⟩ => ?_
  simp only [ev] at hP
  refine rd_e R R.refl hP fun x W1 u F1 H1 S1 _ V1 R1 hP => ?_
  obtain ⟨b, hb, hP⟩ := ofO_some hP
  refine ⟨b, V1.bl R1 (isBl_eq hb), ?_⟩
  cases b with
  | false => rw [if_neg Bool.false_ne_true] at hP ⊢; exact fin_sc R1 S1 hP (.bl false)
  | true =>
    rw [if_pos rfl] at hP ⊢
    exact rd_e R1 S1 (pst_ok hP) fun y W2 w F2 H2 S2 _ V2 _ hP => hP w F2 H2 S2 V2
theorem e_or {a b : Expr} {rest : List Expr} {ea eb : E} {pos : Pos} (ha : PE X a (rdE c Wx ea)) (hb : PE X (.BoolOp .Or (b :: rest) pos) (rdE c Wx eb)) : PE X (.BoolOp .Or (a :: b :: rest) pos) (rdE c Wx (.or ea eb)) := by
  refine pe_wk (pe_or ha hb) fun σ H Q ⟨F0, H0, ρ, F, W, R, hP⟩ => ?_
  simp only [ev] at hP
  refine rd_e R R.refl hP fun x W1 u F1 H1 S1 _ V1 R1 hP => ?_
  obtain ⟨b, hb, hP⟩ := ofO_some hP
  refine ⟨b, V1.bl R1 (isBl_eq hb), ?_⟩
  cases b with
  | true => rw [if_pos rfl] at hP ⊢; exact fin_sc R1 S1 hP (.bl true)
  | false =>
    rw [if_neg Bool.false_ne_true] at hP ⊢
    exact rd_e R1 S1 (pst_ok hP) fun y W2 w F2 H2 S2 _ V2 _ hP => hP w F2 H2 S2 V2
theorem e_not {a : Expr} {ea : E} {pos : Pos} (ha : PE X a (rdE c Wx ea)) : PE X (.UnaryOp .Not a pos) (rdE c Wx (.not ea)) := by
  refine pe_wk (pe_not ha) fun σ H Q ⟨F0, H0, ρ, F, W, R, hP⟩ => ?_
  simp only [ev] at hP
  refine rd_e R R.refl hP fun x W1 u F1 H1 S1 _ V1 R1 hP => ?_
  obtain ⟨b, hb, hP⟩ := ofO_some hP
  exact ⟨b, V1.bl R1 (isBl_eq hb), fin_sc R1 S1 hP (.bl _)⟩
theorem e_neg {a : Expr} {ea : E} {pos : Pos} (ha : PE X a (rdE c Wx ea)) : PE X (.UnaryOp .USub a pos) (rdE c Wx (.neg ea)) := by
  refine pe_wk (pe_un un_neg ha) fun σ H Q ⟨F0, H0, ρ, F, W, R, hP⟩ => ?_
  simp only [ev] at hP
  refine rd_e R R.refl hP fun x W1 u F1 H1 S1 _ V1 R1 hP => ?_
  split at hP
  · rename_i i e
    exact ⟨i, V1.int R1 e, fin_sc R1 S1 hP (.int _)⟩
  · exact hP.elim
theorem e_ite {t a b : Expr} {et ea eb : E} {pos : Pos} (ht : PT X t (rdT c Wx et)) (ha : PE X a (rdE c Wx ea)) (hb : PE X b (rdE c Wx eb)) : PE X (.IfExp t a b pos) (rdE c Wx (.ite et ea eb)) := by
  refine pe_wk (pe_ifExp ht ha hb) fun σ H Q ⟨F0, H0, ρ, F, W, R, hP⟩ => ?_
  simp only [ev] at hP
  refine rd_t R R.refl hP fun b W1 F1 H1 S1 _ R1 hP => ?_
  cases b with
  | true =>
    rw [if_pos rfl] at hP ⊢
    exact rd_e R1 S1 (pst_ok hP) fun y W2 w F2 H2 S2 _ V2 _ hP => hP w F2 H2 S2 V2
  | false =>
    rw [if_neg Bool.false_ne_true] at hP ⊢
    exact rd_e R1 S1 (pst_ok hP) fun y W2 w F2 H2 S2 _ V2 _ hP => hP w F2 H2 S2 V2

theorem atI_rep {vs : List V} {xs : List D} {i : Int} {d : D} (r : RepL c F vs xs) (h : atD xs i = some d) : ∃ v, atI vs i = some v ∧ Rep c F v d := by
  unfold atD atI at h
  unfold atI
  rw [r.length]
  cases e : ixN xs.length i with
  | none => rw [e] at h; cases h
  | some j =>
    rw [e] at h
    obtain ⟨v, h1, h2⟩ := r.get (i := j) (by simpa using h)
    exact ⟨v, by simpa using h1, h2⟩
theorem e_ix {a b : Expr} {ea eb : E} {pos : Pos} (hk : X.K = c.K) (ha : PE X a (rdE c Wx ea)) (hb : PE X b (rdE c Wx eb)) (hs : PlainIx b) : PE X (.Subscript a b pos) (rdE c Wx (.ix ea eb)) := by
  refine pe_wk (pe_ix ix_seq ha hb hs) fun σ H Q ⟨F0, H0, ρ, F, W, R, hP⟩ => ?_
  simp only [ev] at hP
  refine rd_e R R.refl hP fun x W1 u F1 H1 S1 _ V1 R1 hP => ?_
  refine rd_e R1 S1 hP fun y W2 w F2 H2 S2 S12 V2 R2 hP => ?_
  obtain ⟨z, hz, hP⟩ := ofO_some hP
  have V1 := V1.step R1 S12
  unfold ixD at hz
  split at hz
  · rename_i xs i e1 e2
    obtain ⟨p, vs, rfl, h1, h2⟩ := V1.lst R2 e1
    obtain ⟨v, h3, h4⟩ := atI_rep h2 hz
    exact .inl ⟨p, vs, i, v, rfl, V2.int R2 e2, .inl (.inl h1), h3, fin_vl R2 S2 V1.t_own hP h4⟩
  · rename_i xs i e1 e2
    obtain ⟨p, vs, rfl, h1, h2⟩ := V1.tup R2 e1
    obtain ⟨v, h3, h4⟩ := atI_rep h2 hz
    exact .inr (.inl ⟨p, vs, i, v, rfl, V2.int R2 e2, hk ▸ Same.sqT (Fz_dn R2.stp.sub) h1, h3, fin_vl R2 S2 V1.t_own hP h4⟩)
  · rename_i z' i e1 e2
    split at hz
    · rename_i hl
      simp only [Option.map_eq_some_iff] at hz
      obtain ⟨cc, h1, rfl⟩ := hz
      exact .inr (.inr ⟨z', i, cc, V1.str R2 e1, V2.int R2 e2, by rw [← cap_eq]; exact hl, h1, fin_vl R2 S2 V1.t_own hP (.str _)⟩)
    · cases hz
  · cases hz
theorem o_none : PO X none (rdO c Wx .no) := po_wk po_none fun σ H Q ⟨F0, H0, ρ, F, W, R, hP⟩ => by
  simp only [evO] at hP
  exact hP none F H R.refl rfl
theorem o_some {a : Expr} {ea : E} (ha : PE X a (rdE c Wx ea)) : PO X (some a) (rdO c Wx (.pt ea)) := po_wk (po_some ha) fun σ H Q ⟨F0, H0, ρ, F, W, R, hP⟩ => by
  simp only [evO] at hP
  refine rd_e R R.refl hP fun x W1 u F1 H1 S1 _ V1 R1 hP => ?_
  split at hP
  · rename_i i e
    exact ⟨i, V1.int R1 e, hP _ F1 H1 S1 rfl⟩
  · exact hP.elim
def rSlD (K : PySem.W.Frag) : V → Option Int → Option Int → Hp → VK → Prop := fun x lo hi H Q => (rSlA K x lo hi H Q ∨ rSlL K x lo hi H Q) ∨ rSlS x lo hi H Q
theorem sl_D : SlR X (rSlD X.K) := (sl_tupA.or sl_list).or sl_str
theorem e_sl {a : Expr} {lo hi : Option Expr} {ea el eh : E} {pos p2 : Pos} (hk : X.K = c.K) (ha : PE X a (rdE c Wx ea)) (hl : PO X lo (rdO c Wx el)) (hh : PO X hi (rdO c Wx eh)) : PE X (.Subscript a (.Slice lo hi none p2) pos) (rdE c Wx (.sl ea el eh)) := by
  refine pe_wk (pe_slice sl_D ha hl hh) fun σ H Q ⟨F0, H0, ρ, F, W, R, hP⟩ => ?_
  simp only [ev] at hP
  refine rd_e R R.refl hP fun x W1 u F1 H1 S1 _ V1 R1 hP => ?_
  refine rd_o R1 S1 hP fun l W2 F2 H2 S2 S12 R2 hP => ?_
  refine rd_o R2 S2 hP fun h W3 F3 H3 S3 S23 R3 hP => ?_
  obtain ⟨z, hz, hP⟩ := ofO_some hP
  have V1 := (V1.step R1 S12).step R2 S23
  unfold slD at hz
  split at hz
  · rename_i xs e1
    cases hz
    obtain ⟨p, vs, rfl, h1, h2⟩ := V1.lst R3 e1
    refine .inl (.inr ⟨p, vs, rfl, .inl (.inl h1), fin_lst R3 S3 V1.t_own hP ?_⟩)
    unfold cutV cutD
    rw [h2.length]
    exact (h2.drop _).take _
  · rename_i xs e1
    cases hz
    obtain ⟨p, vs, rfl, h1, h2⟩ := V1.tupP R3 e1
    have r : RepL c (Fz F3 H3 σ x.t) (cutV vs l h) (cutD xs l h) := by
      unfold cutV cutD
      rw [h2.length]
      exact (h2.drop _).take _
    refine .inl (.inl ⟨p, vs, rfl, hk ▸ Same.sqT (Fz_dn R3.stp.sub) (.inl (.inl h1)), fun hw => ?_, fun _ => fin_tup R3 S3 V1.t_own hP r⟩)
    have e : cutV vs l h = vs := by
      unfold cutV
      rw [hw.1, hw.2, List.drop_zero, Nat.sub_zero, List.take_length]
    rw [e] at r
    exact fin_vl R3 S3 V1.t_own hP (.tup h1 r)
  · rename_i x e1
    split at hz <;> cases hz
    rename_i hl
    exact .inr ⟨_, V1.str R3 e1, by rw [← cap_eq]; exact hl, fin_vl R3 S3 V1.t_own hP (.str _)⟩
  · cases hz
end
end Z

namespace Z
open PySem PySem.Spec PyProof.Rows L2
open Classical
section
variable {c : Pm} {Wx : WX} {X : Cx} {n : Nat} {W W' W1 W2 : Dr} {F0 H0 F H F' H' F1 H1 F2 H2 Hs : Hp} {ρ : En} {σ : L2.St} {u w : V} {x y v : Vl} {Q : VK}

/-- what a rule by values asks for a built-in function of data -/
def BiOk (c : Pm) (f : List D → Option (Bool × D)) (r : List V → Hp → VK → Prop) : Prop :=
  ∀ {Wx : WX} {W2 : Dr} {F0 H0 F H F2 H2 : Hp} {ρ : En} {σ : L2.St} {us : List V} {vs : List Vl} {Q : VK} {z : Bool × D}, Rel c F0 H0 ρ σ F2 H2 W2 → Stp c W2 F H F2 H2 → ArgOk c ρ σ H F2 H2 us vs →
    f (ds vs) = some z → Fin_ c Wx ρ σ F H Q (vo z (vs.flatMap (·.t))) W2 → r us H2 Q
theorem bi_end {f : Bi} {r : List V → Hp → VK → Prop} {a : E} {t : TA} (k : BiOk c (biD f) r) {σ : L2.St} {H : Hp} {Q : VK} (h : rdE c Wx (.bi f a) σ H Q) : tCB r (rdL c Wx a) σ H Q := by
  obtain ⟨F0, H0, ρ, F, W, R, hP⟩ := h
  simp only [ev] at hP
  refine rd_l R R.refl hP fun vs W2 us F2 H2 S2 _ A R2 hP => ?_
  obtain ⟨z, hz, hP⟩ := ofO_some hP
  exact k R2 S2 A hz hP
theorem e_biB {f : Bi} {r : List V → Hp → VK → Prop} {a : E} {z : Str} {id : String} {e : Expr} {es : List Expr} {p pos : Pos} (k : BiOk c (biD f) r) (hc : CallR X (.builtin id) r) (hg : Gl X z) (hm : X.mg z = none) (hv : bootBuiltins z = some (.builtin id)) (ha : PA X (e :: es) (rdL c Wx a))
    (hn : z ≠ "__name__") (hdb : (z == ("__debug__" : Str)) = false) (he : starEach (e :: es) X.env = (false, eval e X.env) :: starEach es X.env) (hpl : (backTo pos (starEach es X.env)).any (·.1) = false) : PE X (.Call (.Name z p) (e :: es) [] pos) (rdE c Wx (.bi f a)) :=
  pe_wk (pe_callB hc hg hm hv ha hn hdb he hpl) fun _ _ _ h => bi_end (t := rdL c Wx a) k h
theorem e_biT {f : Bi} {r : List V → Hp → VK → Prop} {a : E} {z : Str} {T : String} {e : Expr} {es : List Expr} {p pos : Pos} (k : BiOk c (biD f) r) (hc : CallR X (.type T) r) (hg : Gl X z) (hm : X.mg z = none) (hv : bootBuiltins z = some (.type T)) (ha : PA X (e :: es) (rdL c Wx a))
    (hn : z ≠ "__name__") (hdb : (z == ("__debug__" : Str)) = false) (he : starEach (e :: es) X.env = (false, eval e X.env) :: starEach es X.env) (hpl : (backTo pos (starEach es X.env)).any (·.1) = false) : PE X (.Call (.Name z p) (e :: es) [] pos) (rdE c Wx (.bi f a)) :=
  pe_wk (pe_callTy hc hg hm hv ha hn hdb he hpl) fun _ _ _ h => bi_end (t := rdL c Wx a) k h

theorem args1 {us : List V} {vs : List Vl} {d : D} (A : ArgOk c ρ σ Hs F H us vs) (e : ds vs = [d]) : ∃ u v, us = [u] ∧ vs = [v] ∧ v.d = d ∧ ValOk c ρ σ Hs F H u v := by
  cases A with
  | nil => simp [ds] at e
  | cons r t =>
    cases t with
    | nil => simp [ds] at e; exact ⟨_, _, rfl, rfl, e, r⟩
    | cons _ _ => simp [ds] at e
theorem args2 {us : List V} {vs : List Vl} {d d' : D} (A : ArgOk c ρ σ Hs F H us vs) (e : ds vs = [d, d']) : ∃ u v u' v', us = [u, u'] ∧ vs = [v, v'] ∧ v.d = d ∧ v'.d = d' ∧ ValOk c ρ σ Hs F H u v ∧ ValOk c ρ σ Hs F H u' v' := by
  cases A with
  | nil => simp [ds] at e
  | cons r t =>
    cases t with
    | nil => simp [ds] at e
    | cons r' t =>
      cases t with
      | nil => simp [ds] at e; exact ⟨_, _, _, _, rfl, rfl, e.1, e.2, r, r'⟩
      | cons _ _ => simp [ds] at e
theorem one_t {v : Vl} : [v].flatMap (·.t) = v.t := by simp
theorem two_t {v v' : Vl} : [v, v'].flatMap (·.t) = v.t ++ v'.t := by simp
theorem repL_ints : ∀ {vs : List V} {xs : List D} {ns : List Int}, RepL c F vs xs → D.ints xs = some ns → vs = ns.map V.int
  | _, [], _, r, h => by
    simp only [D.ints, Option.some.injEq] at h
    subst h; cases r; rfl
  | _, x :: xs, _, r, h => by
    cases x <;> simp only [D.ints] at h <;> try (cases h)
    rename_i i
    simp only [Option.map_eq_some_iff] at h
    obtain ⟨ms, h1, rfl⟩ := h
    cases r with
    | cons r1 r2 => rw [r1.intI, repL_ints r2 h1]; rfl
theorem repL_bls : ∀ {vs : List V} {xs : List D} {ns : List Bool}, RepL c F vs xs → D.bls xs = some ns → vs = ns.map V.bl
  | _, [], _, r, h => by
    simp only [D.bls, Option.some.injEq] at h
    subst h; cases r; rfl
  | _, x :: xs, _, r, h => by
    cases x <;> simp only [D.bls] at h <;> try (cases h)
    rename_i i
    simp only [Option.map_eq_some_iff] at h
    obtain ⟨ms, h1, rfl⟩ := h
    cases r with
    | cons r1 r2 => rw [r1.blI, repL_bls r2 h1]; rfl

def rLenD (K : PySem.W.Frag) : List V → Hp → VK → Prop := fun xs H Q => ∃ x n, xs = [x] ∧ LenV K x H n ∧ Q (.int n) H
theorem len_ok : BiOk c lenD (rLenD c.K) := by
  intro Wx W2 F0 H0 F H F2 H2 ρ σ us vs Q z R S A h hq
  unfold lenD at h
  split at h
  · rename_i xs e
    cases h
    obtain ⟨u, v, rfl, rfl, e1, k⟩ := args1 A e
    obtain ⟨a, ws, rfl, h1, h2⟩ := k.lst R e1
    exact ⟨_, xs.length, rfl, .inl ⟨ws, .inl (.inl h1), h2.length.symm⟩, fin_vl R S (by simpa using k.t_own) hq (.int _)⟩
  · rename_i xs e
    cases h
    obtain ⟨u, v, rfl, rfl, e1, k⟩ := args1 A e
    obtain ⟨a, ws, rfl, h1, h2⟩ := k.tup R e1
    exact ⟨_, xs.length, rfl, .inr ⟨ws, Same.sqT (Fz_dn R.stp.sub) h1, h2.length.symm⟩, fin_vl R S (by simpa using k.t_own) hq (.int _)⟩
  · rename_i ns e
    cases h
    obtain ⟨u, v, rfl, rfl, e1, k⟩ := args1 A e
    have a := k.rep R e1 fun _ _ _ h => h
    cases a with
    | scr a => exact ⟨_, ns.length, rfl, .inl ⟨_, a.seq (Fz_dn R.stp.sub), by rw [List.length_map]⟩, fin_vl R S (by simpa using k.t_own) hq (.int _)⟩
  · rename_i x e
    split at h <;> cases h
    rename_i hl
    obtain ⟨u, v, rfl, rfl, e1, k⟩ := args1 A e
    obtain rfl := k.str R e1
    exact ⟨_, x.length, rfl, ⟨by rw [← cap_eq]; exact hl, rfl⟩, fin_vl R S (by simpa using k.t_own) hq (.int _)⟩
  · cases h
def rListD (K : PySem.W.Frag) : List V → Hp → VK → Prop := fun xs H Q => ∃ p ys, xs = [.ref p] ∧ (SqL K H p ys ∨ SqT K H p ys) ∧ ∀ l, H l = none → Q (.ref l) (upd H l (.lst ys))
theorem list_ok : BiOk c listD (rListD c.K) := by
  intro Wx W2 F0 H0 F H F2 H2 ρ σ us vs Q z R S A h hq
  unfold listD at h
  split at h
  · rename_i xs e
    cases h
    obtain ⟨u, v, rfl, rfl, e1, k⟩ := args1 A e
    obtain ⟨a, ws, rfl, h1, h2⟩ := k.lst R e1
    exact ⟨a, ws, rfl, .inl (.inl (.inl h1)), fin_lst R S (by simpa using k.t_own) hq (by simpa using h2)⟩
  · rename_i xs e
    cases h
    obtain ⟨u, v, rfl, rfl, e1, k⟩ := args1 A e
    obtain ⟨a, ws, rfl, h1, h2⟩ := k.tup R e1
    exact ⟨a, ws, rfl, .inr (Same.sqT (Fz_dn R.stp.sub) h1), fin_lst R S (by simpa using k.t_own) hq (by simpa using h2)⟩
  · cases h
def rTupleD (K : PySem.W.Frag) : List V → Hp → VK → Prop := fun xs H Q => ∃ p ys, xs = [.ref p] ∧ ((SqL K H p ys ∧ ∀ l, H l = none → Q (.ref l) (upd H l (.tup ys))) ∨ (SqT K H p ys ∧ Q (.ref p) H))
theorem tuple_ok : BiOk c tupleD (rTupleD c.K) := by
  intro Wx W2 F0 H0 F H F2 H2 ρ σ us vs Q z R S A h hq
  unfold tupleD at h
  split at h
  · rename_i xs e
    cases h
    obtain ⟨u, v, rfl, rfl, e1, k⟩ := args1 A e
    obtain ⟨a, ws, rfl, h1, h2⟩ := k.lst R e1
    exact ⟨a, ws, rfl, .inl ⟨.inl (.inl h1), fin_tup R S (by simpa using k.t_own) hq (by simpa using h2)⟩⟩
  · rename_i xs e
    cases h
    obtain ⟨u, v, rfl, rfl, e1, k⟩ := args1 A e
    obtain ⟨a, ws, rfl, h1, h2⟩ := k.tupP R e1
    exact ⟨a, ws, rfl, .inr ⟨Same.sqT (Fz_dn R.stp.sub) (.inl (.inl h1)), fin_vl R S (by simpa using k.t_own) hq (by simpa using (Rep.tup h1 h2))⟩⟩
  · cases h
theorem min_ok : BiOk c minD2 (fun xs H Q => ∃ i j, xs = [.int i, .int j] ∧ Q (.int (if j < i then j else i)) H) := by
  intro Wx W2 F0 H0 F H F2 H2 ρ σ us vs Q z R S A h hq
  unfold minD2 at h
  split at h
  · rename_i i j e
    cases h
    obtain ⟨u, v, u', v', rfl, rfl, e1, e2, k, k'⟩ := args2 A e
    exact ⟨i, j, by rw [k.int R e1, k'.int R e2], fin_vl R S (by simpa using own_app k.t_own k'.t_own) hq (.int _)⟩
  · cases h
theorem max_ok : BiOk c maxD2 (fun xs H Q => ∃ i j, xs = [.int i, .int j] ∧ Q (.int (if j > i then j else i)) H) := by
  intro Wx W2 F0 H0 F H F2 H2 ρ σ us vs Q z R S A h hq
  unfold maxD2 at h
  split at h
  · rename_i i j e
    cases h
    obtain ⟨u, v, u', v', rfl, rfl, e1, e2, k, k'⟩ := args2 A e
    exact ⟨i, j, by rw [k.int R e1, k'.int R e2], fin_vl R S (by simpa using own_app k.t_own k'.t_own) hq (.int _)⟩
  · cases h
theorem sum_ok : BiOk c sumD (rSum c.K) := by
  intro Wx W2 F0 H0 F H F2 H2 ρ σ us vs Q z R S A h hq
  unfold sumD at h
  split at h
  · rename_i xs e
    simp only [Option.map_eq_some_iff] at h
    obtain ⟨ns, h, rfl⟩ := h
    obtain ⟨u, v, rfl, rfl, e1, k⟩ := args1 A e
    obtain ⟨a, ws, rfl, h1, h2⟩ := k.lst R e1
    rw [repL_ints h2 h] at h1
    exact ⟨a, ns, rfl, .inl (.inl h1), fin_vl R S (by simpa using k.t_own) hq (.int _)⟩
  · cases h
theorem all_ok : BiOk c allD (rAll c.K) := by
  intro Wx W2 F0 H0 F H F2 H2 ρ σ us vs Q z R S A h hq
  unfold allD at h
  split at h
  · rename_i xs e
    simp only [Option.map_eq_some_iff] at h
    obtain ⟨ns, h, rfl⟩ := h
    obtain ⟨u, v, rfl, rfl, e1, k⟩ := args1 A e
    obtain ⟨a, ws, rfl, h1, h2⟩ := k.lst R e1
    rw [repL_bls h2 h] at h1
    exact ⟨a, ns, rfl, .inl (.inl h1), fin_vl R S (by simpa using k.t_own) hq (.bl _)⟩
  · cases h
theorem any_ok : BiOk c anyD (rAny c.K) := by
  intro Wx W2 F0 H0 F H F2 H2 ρ σ us vs Q z R S A h hq
  unfold anyD at h
  split at h
  · rename_i xs e
    simp only [Option.map_eq_some_iff] at h
    obtain ⟨ns, h, rfl⟩ := h
    obtain ⟨u, v, rfl, rfl, e1, k⟩ := args1 A e
    obtain ⟨a, ws, rfl, h1, h2⟩ := k.lst R e1
    rw [repL_bls h2 h] at h1
    exact ⟨a, ns, rfl, .inl (.inl h1), fin_vl R S (by simpa using k.t_own) hq (.bl _)⟩
  · cases h
theorem abs_ok : BiOk c absD (fun xs H Q => ∃ i, xs = [.int i] ∧ Q (.int (if i < 0 then -i else i)) H) := by
  intro Wx W2 F0 H0 F H F2 H2 ρ σ us vs Q z R S A h hq
  unfold absD at h
  split at h
  · rename_i i e
    cases h
    obtain ⟨u, v, rfl, rfl, e1, k⟩ := args1 A e
    exact ⟨i, by rw [k.int R e1], fin_vl R S (by simpa using k.t_own) hq (.int _)⟩
  · cases h
theorem int_ok : BiOk c intD (fun xs H Q => (∃ i, xs = [.int i] ∧ Q (.int i) H) ∨ ∃ k, xs = [.bl k] ∧ Q (.int (if k then 1 else 0)) H) := by
  intro Wx W2 F0 H0 F H F2 H2 ρ σ us vs Q z R S A h hq
  unfold intD at h
  split at h
  · rename_i i e
    cases h
    obtain ⟨u, v, rfl, rfl, e1, k⟩ := args1 A e
    exact .inl ⟨i, by rw [k.int R e1], fin_vl R S (by simpa using k.t_own) hq (.int _)⟩
  · rename_i b e
    cases h
    obtain ⟨u, v, rfl, rfl, e1, k⟩ := args1 A e
    exact .inr ⟨b, by rw [k.bl R e1], fin_vl R S (by simpa using k.t_own) hq (.int _)⟩
  · cases h

end
end Z

namespace Z
open PySem PySem.Spec PyProof.Rows L2
open Classical
section
variable {c : Pm} {Wx : WX} {X : Cx} {n : Nat} {W W' W1 W2 : Dr} {F0 H0 F H F' H' F1 H1 F2 H2 Hs : Hp} {ρ ρ' : En} {σ σ' : L2.St} {u w : V} {x y v : Vl} {Q : VK}

/-- one item as it comes -/
def Item (c : Pm) (B : Hp) (H : Hp) (u : V) (x : D) (H' : Hp) : Prop := (H' = H ∧ Rep c B u x) ∨ ∃ T vs xs, u = .ref T ∧ x = .tup xs ∧ H T = none ∧ H' = upd H T (.tup vs) ∧ RepL c B vs xs
/-- J walks the items while what stands in B stands; they stand in B' -/
structure WkOk (c : Pm) (B B' : Hp) (xs : List D) (J : It) : Prop where
  go : ∀ i x H, xs[i]? = some x → Same B H → J.go i H ∧ ∀ u H', J.yld i H u H' → Item c B' H u x H'
  stop : ∀ H, Same B H → J.stop xs.length H
def rdI (c : Pm) (Wx : WX) (e : E) : TI := fun σ H R => ∃ F0 H0 ρ F W, Rel c F0 H0 ρ σ F H W ∧
  Pst c Wx σ F H (fun (p : Wk) (J : It) F' H' => (∀ i ∈ p.me, ∃ x, ρ[i]? = some (.own x)) ∧ (∀ i ∈ p.t, ∃ x, ρ[i]? = some (.own x)) ∧ WkOk c (Fz F' H' σ p.me) (Fz F' H' σ p.t) p.xs J) R (evI e ρ W)

theorem Item.step (R : Rel c F0 H0 ρ σ F H W) {B : Hp} {d : D} (k : Item c B H u d H') (s : Same B F) : ∃ F', Stp c W F H F' H' ∧ Rep c F' u d := by
  rcases k with ⟨rfl, r⟩ | ⟨T, vs, xs, rfl, rfl, e1, rfl, r⟩
  · exact ⟨F, R.refl, r.mono s⟩
  · have S := R.refl.makeF (o := .tup vs) e1
    exact ⟨_, S, .tup upd_same ((r.mono s).mono S.f)⟩

theorem wk_list {a : Addr} {vs : List V} {xs : List D} {B B' : Hp} (h : ∀ H, Same B H → SqL c.K H a vs) (r : RepL c B' vs xs) : WkOk c B B' xs (Itl c.K a) := by
  refine ⟨fun i x H e s => ?_, fun H s => ?_⟩
  · obtain ⟨v, h1, h2⟩ := r.get e
    refine ⟨⟨vs, v, h H s, h1⟩, fun u H' ⟨e1, e2⟩ => .inl ⟨e1, ?_⟩⟩
    have q := e2 vs (h H s)
    rw [h1] at q
    exact Option.some.inj q ▸ h2
  · exact ⟨vs, h H s, by rw [r.length]; exact Nat.le_refl _⟩
theorem wk_tup {a : Addr} {vs : List V} {xs : List D} {B B' : Hp} (h : ∀ H, Same B H → SqT c.K H a vs) (r : RepL c B' vs xs) : WkOk c B B' xs (Itt c.K a) := by
  refine ⟨fun i x H e s => ?_, fun H s => ?_⟩
  · obtain ⟨v, h1, h2⟩ := r.get e
    refine ⟨⟨vs, v, h H s, h1⟩, fun u H' ⟨e1, e2⟩ => .inl ⟨e1, ?_⟩⟩
    have q := e2 vs (h H s)
    rw [h1] at q
    exact Option.some.inj q ▸ h2
  · exact ⟨vs, h H s, by rw [r.length]; exact Nat.le_refl _⟩
theorem wk_range {lo : Int} {m : Nat} {B B' : Hp} : WkOk c B B' ((List.range m).map fun k : Nat => .int (lo + k)) (Itr lo m) := by
  refine ⟨fun i x H e s => ?_, fun H s => ?_⟩
  · rw [List.getElem?_map, Option.map_eq_some_iff] at e
    obtain ⟨k, e1, rfl⟩ := e
    have hi : i < m := by
      have := (List.getElem?_eq_some_iff.mp e1).1
      simpa using this
    have hk : k = i := by
      rw [List.getElem?_range hi] at e1
      exact (Option.some.inj e1).symm
    subst hk
    refine ⟨hi, fun u H' ⟨e1, e2⟩ => .inl ⟨e1, ?_⟩⟩
    subst e2
    exact .int _
  · show m ≤ _
    simp

/-- a new list, or one of a name, or any other: what is walked stands -/
theorem val_walk (R0 : Rel c F0 H0 ρ σ F H W) (R : Rel c F0 H0 ρ σ F2 H2 W2) (S : Stp c W2 F H F2 H2) (k : ValOk c ρ σ H F2 H2 u v) : ∃ F3, Stp c W2 F H F3 H2 ∧ Same F2 F3 ∧ ((∃ a vs xs, u = .ref a ∧ v.d = .lst xs ∧ H2 a = some (.lst vs) ∧ Fz F3 H2 σ v.all a = some (.lst vs) ∧ RepL c (Fz F3 H2 σ v.t) vs xs) ∨
    (∃ a vs xs, u = .ref a ∧ v.d = .tup xs ∧ SqT c.K (Fz F3 H2 σ v.all) a vs ∧ RepL c (Fz F3 H2 σ v.t) vs xs) ∨ ((∀ xs, v.d ≠ .lst xs) ∧ ∀ xs, v.d ≠ .tup xs)) := by
  have A : ArgOk c ρ σ H F2 H2 [u] [v] := .cons k .nil
  have S3 := Ft_stp S A
  have up := Ft_up (us := [u]) (vs := [v]) R.stp.sub
  have mo : ∀ t : List Nat, Same (Fz F2 H2 σ t) (Fz (Ft F2 H2 [u] [v]) H2 σ t) := fun t a o e => by
    by_cases q : AtS σ t a
    · rw [Fz_in q] at e ⊢; exact e
    · rw [Fz_out q] at e ⊢; exact up _ _ e
  have tl : ∀ i ∈ v.t, i ∈ v.all := fun i hi => by
    unfold Vl.all; split
    · exact List.mem_cons_of_mem _ hi
    · exact hi
  refine ⟨_, S3, up, ?_⟩
  cases e : v.d
  case lst xs =>
    obtain ⟨a, vs, rfl, h1, h2⟩ := k.lst R e
    refine .inl ⟨a, vs, xs, rfl, rfl, h1, ?_, h2.mono (mo _)⟩
    by_cases q : AtS σ v.all a
    · rw [Fz_in q]; exact h1
    · rw [Fz_out q]
      have b := k.at_
      have hq := q
      unfold Vl.all at hq
      revert b hq
      cases hk : v.k with
      | pl =>
        intro b hq
        rw [e] at b
        obtain ⟨a', vs', e1, e2, _⟩ := b.lstI
        cases e1
        rw [Fz_out hq] at e2
        exact up _ _ (by rw [e2, ← h1]; exact (R.stp.sub _ _ e2).symm)
      | me i =>
        rintro ⟨_, _, b3⟩ hq
        exact (hq ⟨i, List.mem_cons_self, b3⟩).elim
      | fr =>
        intro _ _
        unfold Ft
        rw [if_pos (show TmpAt [V.ref a] [v] a from .inl ⟨hk, rfl⟩)]
        exact h1
  case tup xs =>
    obtain ⟨a, vs, rfl, h1, h2⟩ := k.tup R e
    exact .inr (.inl ⟨a, vs, xs, rfl, rfl, Same.sqT (fun b o q => Fz_mono S3.sub tl _ _ (mo _ _ _ q)) h1, h2.mono (mo _)⟩)
  all_goals exact .inr (.inr ⟨fun _ h => D.noConfusion h, fun _ h => D.noConfusion h⟩)

theorem all_own (k : ValOk c ρ σ Hs F H u v) : ∀ i ∈ v.all, ∃ x, ρ[i]? = some (.own x) := k.own

/-- a value that is walked -/
theorem i_wk {tg a : Expr} {ea : E} (hk : X.K = c.K) (ha : PE X a (rdE c Wx ea)) (hs : PI X tg a (iStr (rdE c Wx ea)) := by exact pi_str ha) : PI X tg a (rdI c Wx (.wk ea)) := by
  refine ⟨fun pins s σ H RR I ⟨F0, H0, ρ, F, W, R, hP⟩ => ?_⟩
  simp only [evI] at hP
  cases e : ev ea ρ W with
  | stk => rw [e] at hP; exact hP.elim
  | ex x W1 =>
    rw [e] at hP
    refine (pi_list ha).run pins s σ H RR I ⟨F0, H0, ρ, F, W, R, ?_⟩
    rw [e]
    exact hP
  | ok x W1 =>
    rw [e] at hP
    obtain ⟨xs, hx, hP⟩ := ofO_some hP
    cases ed : x.d
    case lst ys =>
      rw [ed] at hx
      cases hx
      refine (pi_list ha).run pins s σ H RR I ⟨F0, H0, ρ, F, W, R, ?_⟩
      rw [e]
      intro u F1 H1 S1 V1
      have R1 := R.step S1
      obtain ⟨F3, S3, up, q⟩ := val_walk R R1 S1 V1
      rcases q with ⟨b, vs, zs, rfl, e1, e2, e3, e4⟩ | ⟨b, vs, zs, rfl, e1, _⟩ | ⟨q, _⟩
      · rw [ed] at e1
        cases e1
        refine ⟨b, rfl, ⟨vs, hk ▸ .inl (.inl e2)⟩, hP _ F3 H1 S3 ⟨V1.own, V1.t_own, ?_⟩⟩
        rw [hk]
        exact wk_list (fun H s => .inl (.inl (s _ _ e3))) e4
      · rw [ed] at e1; cases e1
      · exact (q _ ed).elim
    case scr ns =>
      rw [ed] at hx
      cases hx
      refine (pi_list ha).run pins s σ H RR I ⟨F0, H0, ρ, F, W, R, ?_⟩
      rw [e]
      intro u F1 H1 S1 V1
      have R1 := R.step S1
      have a := V1.rep R1 ed fun _ _ _ h => h
      cases a with
      | scr a =>
        have go : ∀ l : List Int, RepL c (Fz F1 H1 σ x.t) (l.map V.int) (l.map D.int) := fun l => by
          induction l with
          | nil => exact .nil
          | cons y l ih => exact .cons (.int y) ih
        refine ⟨_, rfl, ⟨_, hk ▸ a.seq (Fz_dn R1.stp.sub)⟩, hP _ F1 H1 S1 ⟨V1.own, V1.t_own, ?_⟩⟩
        rw [hk]
        have tl : ∀ i ∈ x.t, i ∈ x.all := fun i hi => by
          unfold Vl.all; split
          · exact List.mem_cons_of_mem _ hi
          · exact hi
        exact wk_list (fun H s => a.seq fun b o q => s _ _ (Fz_mono R1.stp.sub tl _ _ q)) (go _)
    case tup ys =>
      rw [ed] at hx
      cases hx
      refine (pi_tup ha).run pins s σ H RR I ⟨F0, H0, ρ, F, W, R, ?_⟩
      rw [e]
      intro u F1 H1 S1 V1
      have R1 := R.step S1
      obtain ⟨F3, S3, up, q⟩ := val_walk R R1 S1 V1
      rcases q with ⟨b, vs, zs, rfl, e1, _⟩ | ⟨b, vs, zs, rfl, e1, e3, e4⟩ | ⟨_, q⟩
      · rw [ed] at e1; cases e1
      · rw [ed] at e1
        cases e1
        have s3 : Same (Fz F3 H1 σ x.all) H1 := Fz_dn S3.sub
        refine ⟨b, rfl, ⟨vs, hk ▸ Same.sqT s3 e3⟩, hP _ F3 H1 S3 ⟨V1.own, V1.t_own, ?_⟩⟩
        rw [hk]
        exact wk_tup (fun H s => Same.sqT s e3) e4
      · exact (q _ ed).elim
    case str z =>
      rw [ed] at hx
      cases hx
      refine hs.run pins s σ H RR I ⟨F0, H0, ρ, F, W, R, ?_⟩
      rw [e]
      intro u F1 H1 S1 V1
      have R1 := R.step S1
      refine ⟨z, V1.str R1 ed, hP _ F1 H1 S1 ⟨V1.own, V1.t_own, ⟨fun i d H' ei s => ?_, fun H' s => ?_⟩⟩⟩
      · have wz := walk_str (z := z)
        rw [List.getElem?_map, Option.map_eq_some_iff] at ei
        obtain ⟨cc, e1, rfl⟩ := ei
        have hi : i < z.cps.size := by simpa using (List.getElem?_eq_some_iff.mp e1).1
        refine ⟨wz.goes i H' hi trivial, fun u H'' hy => ?_⟩
        obtain ⟨e3, c', e4, e5⟩ := wz.yields i H' u H'' hi trivial hy
        have : c' = cc := by
          rw [Array.getElem?_toList, e4] at e1
          exact Option.some.inj e1
        subst this e5
        exact .inl ⟨e3, .str _⟩
      · have wz := walk_str (z := z)
        have := wz.stops H' trivial
        simpa using this
    all_goals
      rw [ed] at hx
      cases hx
theorem evL_one {a : E} {ys : List Vl} (h : evL (.cons a .nil) ρ W = .ok ys W1) : ∃ y, ys = [y] := by
  simp only [evL] at h
  cases e : ev a ρ W with
  | stk => rw [e] at h; cases h
  | ex x W => rw [e] at h; cases h
  | ok x W =>
    rw [e] at h
    simp only [Out.bind] at h
    cases h
    exact ⟨_, rfl⟩
theorem evL_two {a b : E} {ys : List Vl} (h : evL (.cons a (.cons b .nil)) ρ W = .ok ys W1) : ∃ y z, ys = [y, z] := by
  simp only [evL] at h
  cases e : ev a ρ W with
  | stk => rw [e] at h; cases h
  | ex x W => rw [e] at h; cases h
  | ok x W =>
    rw [e] at h
    simp only [Out.bind] at h
    cases e2 : ev b ρ W with
    | stk => rw [e2] at h; cases h
    | ex x W => rw [e2] at h; cases h
    | ok x W =>
      rw [e2] at h
      simp only [Out.bind] at h
      cases h
      exact ⟨_, _, rfl⟩
theorem i_rng1 {tg a : Expr} {ea : E} {p pos : Pos} (hg : Gl X "range") (hm : X.mg "range" = none) (ha : PA X [a] (rdL c Wx (.cons ea .nil))) (hs : starEach [a] X.env = [(false, eval a X.env)]) : PI X tg (.Call (.Name "range" p) [a] [] pos) (rdI c Wx (.rng (.cons ea .nil))) := by
  refine ⟨fun pins s σ H RR I ⟨F0, H0, ρ, F, W, R, hP⟩ => (pi_range1 hg hm ha hs).run pins s σ H RR I ?_⟩
  simp only [evI] at hP
  refine rd_le R R.refl hP fun vs W2 us F2 H2 he S2 _ A R2 hP => ?_
  obtain ⟨y, rfl⟩ := evL_one he
  obtain ⟨xs, hx, hP⟩ := ofO_some hP
  obtain ⟨u, v, rfl, e, e1, V1⟩ := args1 A (d := y.d) rfl
  cases e
  simp only [ds, List.map_cons, List.map_nil] at hx
  unfold rngD at hx
  simp only [big_eq] at hx
  split at hx
  · rename_i k e
    have e' := (List.cons.inj e).1
    split at hx <;> cases hx
    rename_i hb
    refine ⟨k, by rw [V1.int R2 e'], hb.1, hb.2, hP _ F2 H2 S2 ⟨fun i h => by simp at h, fun i h => by simp at h, ?_⟩⟩
    have q := wk_range (c := c) (lo := 0) (m := k.toNat) (B := Fz F2 H2 σ []) (B' := Fz F2 H2 σ [])
    simpa only [Int.zero_add] using q
  · rename_i e
    have := (List.cons.inj e).2
    cases this
  · cases hx
theorem i_rng2 {tg a b : Expr} {ea eb : E} {p pos : Pos} (hg : Gl X "range") (hm : X.mg "range" = none) (ha : PA X [a, b] (rdL c Wx (.cons ea (.cons eb .nil)))) (hs : starEach [a, b] X.env = [(false, eval a X.env), (false, eval b X.env)])
    (hs2 : starEach [b] X.env = [(false, eval b X.env)]) : PI X tg (.Call (.Name "range" p) [a, b] [] pos) (rdI c Wx (.rng (.cons ea (.cons eb .nil)))) := by
  refine ⟨fun pins s σ H RR I ⟨F0, H0, ρ, F, W, R, hP⟩ => (pi_range2 hg hm ha hs hs2).run pins s σ H RR I ?_⟩
  simp only [evI] at hP
  refine rd_le R R.refl hP fun vs W2 us F2 H2 he S2 _ A R2 hP => ?_
  obtain ⟨y, z, rfl⟩ := evL_two he
  obtain ⟨xs, hx, hP⟩ := ofO_some hP
  obtain ⟨u, v, u', v', rfl, e, e1, e2, V1, V2⟩ := args2 A (d := y.d) (d' := z.d) rfl
  cases e
  simp only [ds, List.map_cons, List.map_nil] at hx
  unfold rngD at hx
  simp only [big_eq] at hx
  split at hx
  · rename_i e
    have := (List.cons.inj e).2
    cases this
  · rename_i i j e
    have e' := List.cons.inj e
    have e'' := (List.cons.inj e'.2).1
    split at hx <;> cases hx
    rename_i hb
    exact ⟨i, j, by rw [V1.int R2 e'.1, V2.int R2 e''], hb, hP _ F2 H2 S2 ⟨fun i h => by simp at h, fun i h => by simp at h, wk_range⟩⟩
  · cases hx
end
end Z

namespace Z
open PySem PySem.Spec PyProof.Rows L2
open Classical
section
variable {c : Pm} {Wx : WX} {X : Cx} {n : Nat} {W W' W1 W2 : Dr} {F0 H0 F H F' H' F1 H1 F2 H2 Hs : Hp} {ρ ρ' : En} {σ σ' : L2.St} {u w : V} {x y v : Vl} {Q : VK}

theorem Rel.setv {i : Nat} {d : D} (R : Rel c F0 H0 ρ σ F H W) (r : Rep c F u d) : Rel c F0 H0 (ρ.set i (.val d)) (σ.set i (some u)) F H W := by
  refine ⟨by rw [List.length_set, List.length_set]; exact R.len, R.stp, fun j s e => ?_, fun j k d1 d2 p e1 e2 e3 e4 => ?_⟩
  · by_cases h : i = j
    · subst h
      have hl : i < ρ.length := by
        have := (List.getElem?_eq_some_iff.mp e).1
        simpa using this
      rw [List.getElem?_set_self hl] at e
      cases e
      exact ⟨u, by rw [List.getElem?_set_self (R.len ▸ hl)], r⟩
    · rw [List.getElem?_set_ne h] at e
      rw [List.getElem?_set_ne h]
      exact R.slot j s e
  · have a : ∀ {j : Nat} {d' : D}, (ρ.set i (.val d))[j]? = some (.own d') → i ≠ j ∧ ρ[j]? = some (.own d') := fun {j d'} e => by
      by_cases h : i = j
      · subst h
        have hl : i < ρ.length := by
          have := (List.getElem?_eq_some_iff.mp e).1
          simpa using this
        rw [List.getElem?_set_self hl] at e
        cases e
      · rw [List.getElem?_set_ne h] at e
        exact ⟨h, e⟩
    obtain ⟨n1, o1⟩ := a e1
    obtain ⟨n2, o2⟩ := a e2
    rw [List.getElem?_set_ne n1] at e3
    rw [List.getElem?_set_ne n2] at e4
    exact R.dist j k d1 d2 p o1 o2 e3 e4
theorem Rel.wip (R : Rel c F0 H0 ρ σ F H W) : ∀ own : List Nat, Rel c F0 H0 (Z.wip ρ own) (wipe σ own) F H W
  | [] => R
  | i :: own => by
    have q := Rel.wip R own
    unfold Z.wip wipe
    refine ⟨by rw [List.length_set, List.length_set]; exact q.len, q.stp, fun j s e => ?_, fun j k d1 d2 p e1 e2 e3 e4 => ?_⟩
    · by_cases h : i = j
      · subst h
        have hl : i < (Z.wip ρ own).length := by
          have := (List.getElem?_eq_some_iff.mp e).1
          simpa using this
        rw [List.getElem?_set_self hl] at e
        cases e
        rw [List.getElem?_set_self (q.len ▸ hl)]
        exact fun z => nomatch z
      · rw [List.getElem?_set_ne h] at e
        rw [List.getElem?_set_ne h]
        exact q.slot j s e
    · have a : ∀ {j : Nat} {d' : D}, ((Z.wip ρ own).set i .un)[j]? = some (.own d') → i ≠ j ∧ (Z.wip ρ own)[j]? = some (.own d') := fun {j d'} e => by
        by_cases h : i = j
        · subst h
          have hl : i < (Z.wip ρ own).length := by
            have := (List.getElem?_eq_some_iff.mp e).1
            simpa using this
          rw [List.getElem?_set_self hl] at e
          cases e
        · rw [List.getElem?_set_ne h] at e
          exact ⟨h, e⟩
      obtain ⟨n1, o1⟩ := a e1
      obtain ⟨n2, o2⟩ := a e2
      rw [List.getElem?_set_ne n1] at e3
      rw [List.getElem?_set_ne n2] at e4
      exact q.dist j k d1 d2 p o1 o2 e3 e4
theorem wip_get {own : List Nat} {i : Nat} {s : Sl} (h : (Z.wip ρ own)[i]? = some s) : (i ∈ own ∧ s = .un) ∨ (i ∉ own ∧ ρ[i]? = some s) := by
  induction own with
  | nil => exact .inr ⟨by simp, h⟩
  | cons j own ih =>
    unfold Z.wip at h
    by_cases e : j = i
    · subst e
      have hl : j < (Z.wip ρ own).length := by
        have := (List.getElem?_eq_some_iff.mp h).1
        simpa using this
      rw [List.getElem?_set_self hl] at h
      cases h
      exact .inl ⟨List.mem_cons_self, rfl⟩
    · rw [List.getElem?_set_ne e] at h
      rcases ih h with ⟨a, b⟩ | ⟨a, b⟩
      · exact .inl ⟨List.mem_cons_of_mem _ a, b⟩
      · exact .inr ⟨fun z => (List.mem_cons.mp z).elim (fun q => e q.symm) a, b⟩
theorem wipe_off {σ : L2.St} {i : Nat} : ∀ {own : List Nat}, i ∉ own → (wipe σ own)[i]? = σ[i]?
  | [], _ => rfl
  | j :: own, h => by
    unfold wipe
    rw [List.getElem?_set_ne fun e => h (by rw [e]; exact List.mem_cons_self)]
    exact wipe_off fun z => h (List.mem_cons_of_mem _ z)
theorem wipe_on {σ : L2.St} {i : Nat} : ∀ {own : List Nat}, i ∈ own → i < σ.length → (wipe σ own)[i]? = some none
  | j :: own, h, hl => by
    unfold wipe
    by_cases e : j = i
    · subst e; rw [List.getElem?_set_self (by rw [wipe_length]; exact hl)]
    · rw [List.getElem?_set_ne e]
      exact wipe_on ((List.mem_cons.mp h).elim (fun q => absurd q.symm e) id) hl
theorem wipe_eq {σ σ' : L2.St} {own : List Nat} (hl : σ'.length = σ.length) (h : ∀ i, i ∉ own → σ'[i]? = σ[i]?) : wipe σ' own = wipe σ own := by
  refine List.ext_getElem? fun i => ?_
  by_cases hi : i ∈ own
  · by_cases hlt : i < σ.length
    · rw [wipe_on hi hlt, wipe_on hi (hl ▸ hlt)]
    · rw [List.getElem?_eq_none (by rw [wipe_length]; omega), List.getElem?_eq_none (by rw [wipe_length]; omega)]
  · rw [wipe_off hi, wipe_off hi]; exact h i hi
theorem wipe_wipe {σ : L2.St} {own : List Nat} : wipe (wipe σ own) own = wipe σ own := wipe_eq (wipe_length _ _) fun i hi => wipe_off hi

/-- a target of the pattern pt, its names among own -/
def GOk (c : Pm) (pt : Pat) (own : List Nat) (g : TG) : Prop := ∀ {F0 H0 : Hp} {ρ ρ' : En} {σ : L2.St} {F H : Hp} {W : Dr} {u : V} {x : D} {Q : L2.St → Hp → Prop}, Rel c F0 H0 ρ σ F H W → Rep c F u x → bindP pt x ρ = some ρ' →
  (∀ σ', Rel c F0 H0 ρ' σ' F H W → σ'.length = σ.length → (∀ i, i ∉ own → σ'[i]? = σ[i]?) → (∀ (i : Nat) (d : D), ρ'[i]? = some (.own d) → ρ[i]? = some (.own d)) → Q σ' H) → g u σ H Q
theorem set_own {i : Nat} {x : D} {j : Nat} {d : D} (h : (ρ.set i (.val x))[j]? = some (.own d)) : ρ[j]? = some (.own d) := by
  by_cases e : i = j
  · subst e
    have hl : i < ρ.length := by
      have := (List.getElem?_eq_some_iff.mp h).1
      simpa using this
    rw [List.getElem?_set_self hl] at h; cases h
  · rw [List.getElem?_set_ne e] at h; exact h
theorem g_nm {i : Nat} {own : List Nat} (hi : i ∈ own) : GOk c (.nm i) own (gName i) := by
  intro F0 H0 ρ ρ' σ F H W u x Q R r hb k
  cases hb
  refine k _ (R.setv r) (List.length_set) (fun j hj => ?_) (fun j d e => set_own e)
  refine List.getElem?_set_ne fun e => hj ?_
  rw [← e]; exact hi
def gNames : List Nat → TGs
  | [] => gNil
  | i :: is => gCons (gName i) (gNames is)
theorem g_names {own : List Nat} : ∀ (is : List Nat), (∀ i ∈ is, i ∈ own) → ∀ {F0 H0 : Hp} {ρ : En} {σ : L2.St} {F H : Hp} {W : Dr} {us : List V} {xs : List D} {Q : L2.St → Hp → Prop}, Rel c F0 H0 ρ σ F H W → RepL c F us xs → xs.length = is.length →
    (∀ σ', Rel c F0 H0 (sets ρ is xs) σ' F H W → σ'.length = σ.length → (∀ i, i ∉ own → σ'[i]? = σ[i]?) → (∀ (i : Nat) (d : D), (sets ρ is xs)[i]? = some (.own d) → ρ[i]? = some (.own d)) → Q σ' H) → gNames is us σ H Q
  | [], _, F0, H0, ρ, σ, F, H, W, us, xs, Q, R, r, hl, k => by
    cases r with
    | nil => exact ⟨rfl, k σ R rfl (fun _ _ => rfl) fun _ _ h => h⟩
    | cons _ _ => simp at hl
  | i :: is, hi, F0, H0, ρ, σ, F, H, W, us, xs, Q, R, r, hl, k => by
    cases r with
    | nil => simp at hl
    | cons r1 r2 =>
      refine ⟨_, _, rfl, g_names is (fun j hj => hi j (List.mem_cons_of_mem _ hj)) (R.setv r1) r2 (by simpa using hl) fun σ' R' e1 e2 e3 => ?_⟩
      refine k σ' R' (by rw [e1, List.length_set]) (fun j hj => ?_) fun j d h => set_own (e3 j d h)
      rw [e2 j hj]
      refine List.getElem?_set_ne fun e => hj ?_
      rw [← e]; exact hi i List.mem_cons_self
theorem g_tp {is own : List Nat} {m : Nat} (hi : ∀ i ∈ is, i ∈ own) (hm : m = is.length) : GOk c (.tp is) own (gTup c.K m (gNames is)) := by
  intro F0 H0 ρ ρ' σ F H W u x Q R r hb k
  unfold bindP at hb
  cases x <;> try (cases hb; done)
  rename_i xs
  simp only at hb
  split at hb <;> cases hb
  rename_i hl
  obtain ⟨a, vs, rfl, h1, h2⟩ := r.tupI
  refine ⟨a, vs, rfl, Same.sqT R.stp.sub h1, by rw [h2.length, hl, hm], g_names is hi R h2 hl fun σ' R' e1 e2 e3 => ?_⟩
  exact k σ' R' e1 e2 e3

abbrev WXF : WX := fun _ _ _ _ => False
theorem upd_ne' {H : Hp} {a b : Addr} {o : HO} (h : a ≠ b) : upd H b o a = H a := upd_ne h
/-- an object that is no code object is changed -/
theorem tabs_set {T : List (Addr × Str)} {H : Hp} {D : Addr} {o : HO} (t : LamX.Tabs T H) (h : D ∉ T.map (·.1)) (hc : ∀ q, H D ≠ some (LamX.CodeO D q)) : LamX.Tabs T (upd H D o) := fun p hp => by
  obtain ⟨ps, e1, e2, e3⟩ := t p hp
  refine ⟨ps, by rw [upd_ne fun z => h (List.mem_map.mpr ⟨p, hp, z⟩)]; exact e1, e2, fun pos cv hv => ?_⟩
  obtain ⟨cc, k1, k2⟩ := e3 pos cv hv
  exact ⟨cc, k1, by rw [upd_ne fun z => hc p.2 (by rw [← z]; exact k2)]; exact k2⟩
theorem mv_tb {D : Addr} (h : D ∉ c.mv) : D ∉ c.tb.map (·.1) := fun z => h (List.mem_append_right _ z)
theorem mv_dl {D : Addr} (h : D ∉ c.mv) : D ∉ c.dl := fun z => h (List.mem_append_left _ z)
theorem Stp.no {D : Addr} {o : HO} (S : Stp c W F H F1 H1) (h2 : Nil H D) (h3 : D ∉ c.mv) (h5 : ∀ q, H1 D ≠ some (.tup q)) (e : H D = some o) (n : Nt o) : False :=
  h2.no e ⟨n, fun q z => h5 q (z ▸ S.h _ _ e h3 n)⟩
theorem Stp.setD {D : Addr} {o : HO} (S : Stp c W F H F1 H1) (h1 : F1 D = none) (h2 : Nil H D) (h3 : D ∉ c.mv) (h4 : ∀ q, H1 D ≠ some (LamX.CodeO D q)) (h5 : ∀ q, H1 D ≠ some (.tup q)) : Stp c W F H F1 (upd H1 D o) := by
  refine ⟨S.f, fun a o' e => ?_, fun a o' e n k => ?_, S.new, S.nt, S.av, ?_, S.cl, tabs_set S.tabs (mv_tb h3) h4⟩
  · rw [upd_ne fun z => by rw [z, h1] at e; cases e]; exact S.sub _ _ e
  · rw [upd_ne fun z => by rw [z] at e; exact S.no h2 h3 h5 e k]; exact S.h _ _ e n k
  · rcases S.dr with h | ⟨a0, a1, h, n, e0, e1⟩
    · exact .inl h
    · have ne : ∀ a, a ∈ c.dl → a ≠ D := fun a ha z => mv_dl h3 (z ▸ ha)
      rw [h] at ne
      exact .inr ⟨a0, a1, h, n, by rw [upd_ne (ne a0 (by simp))]; exact e0, by rw [upd_ne (ne a1 (by simp))]; exact e1⟩
theorem OwnAt.at {F H H' : Hp} {p : Addr} {x : D} (h : OwnAt c F H p x) (e : H' p = H p) : OwnAt c F H' p x := h.mono (Same.refl _) fun o q => by rw [e]; exact q
theorem Rel.setD {D : Addr} {o : HO} (R0 : Rel c F0 H0 ρ σ F H W) (R : Rel c F0 H0 ρ σ F1 H1 W1) (h1 : F1 D = none) (h2 : Nil H D) (h3 : D ∉ c.mv) (h4 : ∀ q, H1 D ≠ some (LamX.CodeO D q)) (h5 : ∀ q, H1 D ≠ some (.tup q)) : Rel c F0 H0 ρ σ F1 (upd H1 D o) W1 := by
  have h0 : Nil H0 D := R0.stp.keepN h3 h2
  refine ⟨R.len, R.stp.setD h1 h0 h3 h4 h5, fun i x e => ?_, R.dist⟩
  have k := R.slot i x e
  cases x with
  | un => exact k
  | val d => exact k
  | own d =>
    obtain ⟨p, e1, e2, e3, e4, e5⟩ := k
    obtain ⟨p', f1, f2, f3, f4, f5⟩ := R0.own e
    have q : p = p' := by
      rw [e1] at f1
      exact V.ref.inj (Option.some.inj (Option.some.inj f1))
    subst q
    exact ⟨p, e1, e2, e3, e4, e5.at (upd_ne fun z => h2 (by rw [← z]; exact f5.thr))⟩
  | slf p n fs =>
    obtain ⟨e1, e2, e3, e4, C, dx, gs, e5, e6, e7⟩ := k
    obtain ⟨f1, f2, f3, f4, C', dx', gs', f5, _⟩ := R0.slot i _ e
    exact ⟨e1, e2, e3, e4, C, dx, gs, by rw [upd_ne fun z => h2 (by rw [← z]; exact .ins f5)]; exact e5, e6, e7⟩
theorem lc_ok {tg it : Expr} {scope : Scope} {own : List (Str × Nat)} {pt : Pat} {g : TG} {src tst el : E} (hc : X.calm = true) (hN : X.N.Nodup) (hi : PI X tg it (rdI c Wx src)) (ok : BlkOk X.N X.env.scope scope own)
    (gk : GOk c pt (own.map (·.2)) g)
    {σ : L2.St} {H : Hp} {Q : VK} (h : rdE c Wx (.lc el pt src tst (own.map (·.2))) σ H Q) : tLc (rdI c Wx src) g (rdA c WXF tst) (rdE c WXF el) (own.map (·.2)) σ H Q := by
  obtain ⟨F0, H0, ρ, F, W, R, hP⟩ := h
  simp only [ev] at hP
  generalize hO : own.map (·.2) = ow at hP gk ⊢
  refine ⟨F0, H0, ρ, F, W, R, ?_⟩
  refine rd_gen (ok1 := fun _ (p : Wk) (J : It) F' H' => (∀ i ∈ p.me, ∃ x, ρ[i]? = some (.own x)) ∧ (∀ i ∈ p.t, ∃ x, ρ[i]? = some (.own x)) ∧ WkOk c (Fz F' H' σ p.me) (Fz F' H' σ p.t) p.xs J) R R.refl hP fun p W1 J F1 H1 S1 _ ⟨hme, ht, hw⟩ R1 hP => ?_
  intro Dd hD
  obtain ⟨xs, me, t⟩ := p
  cases t with
  | cons _ _ => exact hP.elim
  | nil =>
    simp only at hP hw hme
    rw [Fz_nil] at hw
    have hDF : F1 Dd = none := by
      cases q : F1 Dd with
      | none => rfl
      | some o => rw [R1.stp.sub _ _ q] at hD; cases hD
    have hDdl : Dd ∉ c.mv := fun z => R1.stp.sm z hD
    have hDs : Nil H Dd := S1.keepN hDdl (.of hD)
    -- what stands at each turn
    refine ⟨fun i m Hi => m = xs.length - i ∧ i ≤ xs.length ∧ ∃ Fi Wi acc accD ti, Rel c F0 H0 ρ σ Fi Hi Wi ∧ Stp c Wi F H Fi Hi ∧ Same F1 Fi ∧ Same (Fz F1 H1 σ me) Hi ∧ Fi Dd = none ∧ Hi Dd = some (.lst acc) ∧ RepL c (Fz Fi Hi σ ti) acc accD ∧
      (∀ j ∈ ti, ∃ x, ρ[j]? = some (.own x)) ∧ Pst c Wx σ F H (fun v u F' H' => ValOk c ρ σ H F' H' u v) Q (lcGo (fun x W => ofO (bindP pt x (Z.wip ρ ow)) fun ρ' => (evA tst ρ' W).bind fun b W => if b = true then (ev el ρ' W).bind fun v W => .ok (some v) W else .ok none W) (xs.drop i) accD ti Wi),
      ⟨xs.length, by simp, Nat.zero_le _, F1, W1, [], [], [], ?_, ?_, Same.refl _, ?_, hDF, upd_same, .nil, fun _ z => by simp at z, hP⟩, ?_⟩
    · exact R1.step (R1.refl.make hD)
    · exact S1.trans (R1.refl.make hD)
    · intro a o e
      have e' := Fz_dn R1.stp.sub _ _ e
      rw [upd_ne fun z => by rw [z, hD] at e'; cases e']
      exact e'
    · rintro i m Hi ⟨rfl, hil, Fi, Wi, acc, accD, ti, Ri, Si, sF, sB, hDi, hDo, hacc, hti, hP⟩
      by_cases hlt : i < xs.length
      · -- a turn
        obtain ⟨x, hx⟩ : ∃ x, xs[i]? = some x := ⟨xs[i], List.getElem?_eq_getElem hlt⟩
        obtain ⟨hgo, hy⟩ := hw.go i x Hi hx sB
        have hdrop : xs.drop i = x :: xs.drop (i + 1) := by
          rw [List.drop_eq_getElem_cons hlt]
          congr 1
          exact Option.some.inj ((List.getElem?_eq_getElem hlt).symm.trans hx)
        rw [hdrop] at hP
        simp only [lcGo] at hP
        refine .inr ⟨hgo, fun H' => ∃ m', m' = xs.length - (i + 1) ∧ i + 1 ≤ xs.length ∧ ∃ Fi Wi acc accD ti, Rel c F0 H0 ρ σ Fi H' Wi ∧ Stp c Wi F H Fi H' ∧ Same F1 Fi ∧ Same (Fz F1 H1 σ me) H' ∧ Fi Dd = none ∧ H' Dd = some (.lst acc) ∧ RepL c (Fz Fi H' σ ti) acc accD ∧
          (∀ j ∈ ti, ∃ x, ρ[j]? = some (.own x)) ∧ Pst c Wx σ F H (fun v u F' H' => ValOk c ρ σ H F' H' u v) Q (lcGo (fun x W => ofO (bindP pt x (Z.wip ρ ow)) fun ρ' => (evA tst ρ' W).bind fun b W => if b = true then (ev el ρ' W).bind fun v W => .ok (some v) W else .ok none W) (xs.drop (i + 1)) accD ti Wi),
          fun H' ⟨m', e, q⟩ => ⟨m', by omega, e, q⟩, fun u H2 hyu => ?_⟩
        obtain ⟨F2, S2, r2⟩ := Item.step Ri (hy u H2 hyu) sF
        have R2 := Ri.step S2
        have Rw := R2.wip ow
        cases hb : bindP pt x (Z.wip ρ ow) with
        | none => rw [hb] at hP; exact hP.elim
        | some ρ' =>
          rw [hb] at hP
          simp only [ofO] at hP
          refine gk Rw r2 hb fun σ2 R3 hl3 off own1 => ⟨?_, ?_⟩
          · rw [wipe_eq hl3 off, wipe_wipe]
          · have ownR : ∀ {j : Nat} {d : D}, ρ'[j]? = some (.own d) → ρ[j]? = some (.own d) ∧ σ2[j]? = σ[j]? := fun {j d} e => by
              rcases wip_get (own1 j d e) with ⟨_, z⟩ | ⟨hj, z⟩
              · cases z
              · exact ⟨z, by rw [off j hj, wipe_off hj]⟩
            -- the rest of the turn
            have stay : ∀ {F4 H4 : Hp} {W4 : Dr}, Stp c W4 F2 H2 F4 H4 → Rel c F0 H0 ρ σ F4 H4 W4 ∧ Stp c W4 F H F4 H4 ∧ Same F1 F4 ∧ Same (Fz F1 H1 σ me) H4 ∧ F4 Dd = none ∧ H4 Dd = some (.lst acc) ∧ RepL c (Fz F4 H4 σ ti) acc accD := fun {F4 H4 W4} S4 => by
              have S24 := S2.trans S4
              refine ⟨Ri.step S24, Si.trans S24, fun a o e => S24.f _ _ (sF _ _ e), fun a o e => ?_, S24.new _ hDi (.lst hDo), S24.h _ _ hDo hDdl nt_lst, hacc.mono (Fz_step Ri hti S24)⟩
              have e' := sB _ _ e
              refine S24.h _ _ e' (fun z => ?_) (by
                by_cases qa : AtS σ me a
                · rw [Fz_in qa] at e; exact (R1.at_ hme qa).2.2.1.nt e
                · rw [Fz_out qa] at e; exact R1.stp.nt _ _ e)
              have q : Fz F1 H1 σ me a = none := by
                by_cases qa : AtS σ me a
                · exact absurd z (R1.at_ hme qa).2.1
                · rw [Fz_out qa]; exact R1.stp.av a z
              rw [q] at e; cases e
            refine ⟨F0, H0, ρ', F2, _, R3, ?_⟩
            cases hA : evA tst ρ' Wi with
            | stk => rw [hA] at hP; exact hP.elim
            | ex _ _ => rw [hA] at hP; exact hP.elim
            | ok b W3 =>
              rw [hA] at hP
              simp only [Out.bind] at hP
              rintro b' F3 H3 S3 rfl
              have R33 := R3.step S3
              cases b' with
              | false =>
                simp only [Bool.false_eq_true, if_false] at hP ⊢
                obtain ⟨q1, q2, q3, q4, q5, q6, q7⟩ := stay S3
                exact ⟨_, rfl, hlt, F3, W3, acc, accD, ti, q1, q2, q3, q4, q5, q6, q7, hti, hP⟩
              | true =>
                simp only [if_true] at hP ⊢
                refine ⟨F0, H0, ρ', F3, W3, R33, ?_⟩
                cases hE : ev el ρ' W3 with
                | stk => rw [hE] at hP; exact hP.elim
                | ex _ _ => rw [hE] at hP; exact hP.elim
                | ok vv W4 =>
                  rw [hE] at hP
                  simp only [Out.bind] at hP
                  by_cases hcap : accD.length < cap
                  · rw [if_pos hcap] at hP
                    intro uu F4 H4 S4 V4
                    obtain ⟨q1, q2, q3, q4, q5, q6, q7⟩ := stay (S3.trans S4)
                    -- the element, told by the names around
                    have hall : ∀ j ∈ vv.all, ∃ x, ρ[j]? = some (.own x) := fun j hj => by
                      obtain ⟨d, e⟩ := V4.own j hj
                      exact ⟨d, (ownR e).1⟩
                    have hat : ∀ {t : List Nat} {a : Addr}, (∀ j ∈ t, j ∈ vv.all) → (AtS σ2 t a ↔ AtS σ t a) := fun {t a} htt => by
                      constructor
                      · rintro ⟨j, h1, h2⟩
                        obtain ⟨d, e⟩ := V4.own j (htt j h1)
                        exact ⟨j, h1, by rw [← (ownR e).2]; exact h2⟩
                      · rintro ⟨j, h1, h2⟩
                        obtain ⟨d, e⟩ := V4.own j (htt j h1)
                        exact ⟨j, h1, by rw [(ownR e).2]; exact h2⟩
                    have tl : ∀ j ∈ vv.t, j ∈ vv.all := fun i hi => by
                      unfold Vl.all; split
                      · exact List.mem_cons_of_mem _ hi
                      · exact hi
                    have hfz : Fz F4 H4 σ2 vv.t = Fz F4 H4 σ vv.t := by
                      funext a
                      by_cases qa : AtS σ2 vv.t a
                      · rw [Fz_in qa, Fz_in ((hat tl).mp qa)]
                      · rw [Fz_out qa, Fz_out fun z => qa ((hat tl).mpr z)]
                    have V5 : ValOk c ρ' σ2 H F4 H4 uu vv := V4.start fun a m z => (stay S3).2.1.keepN m z
                    have V : ValOk c ρ σ H F4 H4 uu vv := by
                      refine ⟨hall, ?_⟩
                      have a := V5.at_
                      rw [hfz] at a
                      revert a
                      cases vv.k with
                      | pl => exact fun a => a
                      | me j =>
                        rintro ⟨a1, a2, a3⟩
                        obtain ⟨b1, b2⟩ := ownR a2
                        exact ⟨a1, b1, by rw [← b2]; exact a3⟩
                      | fr => exact fun a => a
                    have A : ArgOk c ρ σ H F4 H4 [uu] [vv] := .cons V .nil
                    have SF := Ft_stp q2 A
                    have RF := R.step SF
                    have A3 : ArgOk c ρ' σ2 H3 F4 H4 [uu] [vv] := .cons V4 .nil
                    have hD5 : Ft F4 H4 [uu] [vv] Dd = none := by
                      unfold Ft
                      rw [if_neg fun z => by
                        exact (tmp_at A3 z).2.2.1 (.lst (stay S3).2.2.2.2.2.1)]
                      exact q5
                    have up := Ft_up (us := [uu]) (vs := [vv]) q1.stp.sub
                    have hne : ∀ {t : List Nat} {a : Addr}, (∀ j ∈ t, ∃ x, ρ[j]? = some (.own x)) → AtS σ t a → a ≠ Dd := fun h z e => by
                      obtain ⟨_, _, h3, h4⟩ := R.at_ h z
                      exact hDs (by rw [← e]; exact h3.thr h4)
                    have hown := own_app hti V.own
                    refine ⟨acc, q6, by rw [hacc.length, ← cap_eq]; exact hcap, _, rfl, hlt, _, W4, acc ++ [uu], accD ++ [vv.d], ti ++ vv.all, R.setD RF hD5 hDs hDdl (fun q z => by rw [q6] at z; cases z) (fun q z => by rw [q6] at z; cases z), SF.setD hD5 hDs hDdl (fun q z => by rw [q6] at z; cases z) (fun q z => by rw [q6] at z; cases z), fun a o e => up _ _ (q3 _ _ e), fun a o e => ?_, hD5, upd_same, ?_, hown, hP⟩
                    · rw [upd_ne fun z => by
                        subst z
                        by_cases qa : AtS σ me a
                        · exact hne hme qa rfl
                        · rw [Fz_out qa, hDF] at e; cases e]
                      exact q4 _ _ e
                    · have eqF : ∀ {t : List Nat} {a : Addr}, (∀ j ∈ t, ∃ x, ρ[j]? = some (.own x)) → AtS σ t a → Fz (Ft F4 H4 [uu] [vv]) (upd H4 Dd (.lst (acc ++ [uu]))) σ t a = H4 a := fun h z => by
                        rw [Fz_in z, upd_ne (hne h z)]
                      refine (q7.mono fun a o e => ?_).append (.cons (val_rep q1 V (t := ti ++ vv.all) (fun a o e => ?_) (fun a z => eqF hown z) (fun i h => List.mem_append_right _ h) fun hk a ha => ?_) .nil)
                      · by_cases qa : AtS σ (ti ++ vv.all) a
                        · rw [eqF hown qa]
                          exact Fz_dn q1.stp.sub _ _ e
                        · have qb : ¬ AtS σ ti a := fun ⟨j, h1, h2⟩ => qa ⟨j, List.mem_append_left _ h1, h2⟩
                          rw [Fz_out qb] at e
                          rw [Fz_out qa]
                          exact up _ _ e
                      · by_cases qa : AtS σ (ti ++ vv.all) a
                        · rw [eqF hown qa]
                          exact q1.stp.sub _ _ e
                        · rw [Fz_out qa]
                          exact up _ _ e
                      · by_cases qa : AtS σ (ti ++ vv.all) a
                        · exact eqF hown qa
                        · rw [Fz_out qa]
                          unfold Ft
                          rw [if_pos (show TmpAt [uu] [vv] a from .inl ⟨hk, ha⟩)]
                  · rw [if_neg hcap] at hP; exact hP.elim
      · have e : i = xs.length := by omega
        subst e
        rw [List.drop_length] at hP
        simp only [lcGo] at hP
        refine .inl ⟨hw.stop Hi sB, hP _ Fi Hi Si ?_⟩
        unfold vf
        by_cases m : (D.lst accD).kids = true
        · rw [if_pos m]
          obtain ⟨a1, a2⟩ := Fz_soft Ri hti
          refine ⟨fun i hi => by simp [Vl.all] at hi, Dd, rfl, hDi, hDdl, hDs, acc, hDo, ?_⟩
          rw [Fz_nil]
          exact RepL.soft a1 a2 hacc (by simpa only [D.kids] using m)
        · rw [if_neg m]
          exact ⟨fun i hi => hti i hi, Dd, rfl, hDi, hDdl, hDs, acc, hDo, hacc⟩
theorem e_lc {tg it elt : Expr} {ifs : List Expr} {scope : Scope} {own : List (Str × Nat)} {pos : Pos} {pt : Pat} {g : TG} {src tst el : E} (hc : X.calm = true) (hN : X.N.Nodup) (hi : PI X tg it (rdI c Wx src)) (ok : BlkOk X.N X.env.scope scope own)
    (gk : GOk c pt (own.map (·.2)) g)
    (hg : ∀ (s : Shared) (H : Hp) (C : Addr) (cl : List (Str × Addr)) (fp : List Addr), PG (X.blk s H scope (compEnvC scope cl C X.env) fp) tg g) (ht : ∀ (s : Shared) (H : Hp) (C : Addr) (cl : List (Str × Addr)) (fp : List Addr), PTs (X.blk s H scope (compEnvC scope cl C X.env) fp) ifs (rdA c WXF tst))
    (he : ∀ (s : Shared) (H : Hp) (C : Addr) (cl : List (Str × Addr)) (fp : List Addr), PE (X.blk s H scope (compEnvC scope cl C X.env) fp) elt (rdE c WXF el)) (hs : ∀ x, foldedSetIterable it X.env x = pure x) :
    PE X (.ListComp elt [⟨tg, it, ifs, 0⟩] scope pos) (rdE c Wx (.lc el pt src tst (own.map (·.2)))) :=
  pe_wk (pe_lc hc hN hi ok hg ht he hs) fun σ H Q h => lc_ok hc hN hi ok gk h
theorem pts_wk {X : Cx} {e : List Expr} {t t' : TT} (h : PTs X e t) (k : ∀ σ H Q, t' σ H Q → t σ H Q) : PTs X e t' := ⟨fun pins s σ H Q I q => h.run pins s σ H Q I (k _ _ _ q)⟩
theorem a_oneT {e : Expr} {a : E} (h : PT X e (rdT c Wx a)) : PTs X [e] (rdA c Wx (.cons a .nil)) := pts_wk (pts_one h) fun σ H Q ⟨F0, H0, ρ, F, W, R, hP⟩ => by
  simp only [evA] at hP
  refine rd_t R R.refl hP fun b W1 F1 H1 S1 _ R1 hP => ?_
  cases b with
  | true => exact hP true F1 H1 S1 rfl
  | false => exact hP false F1 H1 S1 rfl
theorem a_nilT : PTs X [] (rdA c Wx .nil) := pts_wk pts_nil fun σ H Q ⟨F0, H0, ρ, F, W, R, hP⟩ => by
  simp only [evA] at hP
  exact hP true F H R.refl rfl
end
end Z

namespace Z
open PySem PySem.Spec PyProof.Rows L2
open Classical
section
variable {c : Pm} {Wx : WX} {X : Cx} {fu n : Nat} {W W' W1 W2 W3 : Dr} {F0 H0 F H F' H' F1 H1 F2 H2 F3 H3 Hs : Hp} {ρ ρ' : En} {σ σ' : L2.St} {u w : V} {x y v : Vl} {Q : VK} {us : List V} {vs : List Vl}

/-- a new object is no name's own -/
def Nw (ρ : En) (σ : L2.St) (u : V) (v : Vl) : Prop := v.k = .fr → ∀ p, u = .ref p → ∀ (j : Nat) (x : Z.D), ρ[j]? = some (.own x) → σ[j]? ≠ some (some (.ref p))
theorem Nw.of (R : Rel c F0 H0 ρ σ F H W) (k : ValOk c ρ σ H F2 H2 u v) : Nw ρ σ u v := fun hk p hu j x h1 h2 => by
  have a := k.at_
  rw [hk] at a
  obtain ⟨p', e1, _, _, e4, _⟩ := a
  rw [hu] at e1
  cases e1
  obtain ⟨q, q1, _, _, _, q5⟩ := R.own h1
  rw [h2] at q1
  cases q1
  exact e4 q5.thr
/-- what is wanted behind a statement -/
def PstS (c : Pm) (Wx : WX) (F0 H0 F : Hp) (D : Ends) : SOut → Prop
  | .nx ρ W => ∀ σ' F' H', Rel c F0 H0 ρ σ' F' H' W → Same F F' → D.nx σ' H'
  | .bk ρ W => ∀ σ' F' H', Rel c F0 H0 ρ σ' F' H' W → Same F F' → D.bk σ' H'
  | .ct ρ W => ∀ σ' F' H', Rel c F0 H0 ρ σ' F' H' W → Same F F' → D.ct σ' H'
  | .rt v ρ W => ∀ u σ' F' H', Rel c F0 H0 ρ σ' F' H' W → ValOk c ρ σ' H0 F' H' u v → Nw ρ σ' u v → D.rt u H'
  | .ex x ρ W => ∀ cls dd σ' F' H', Rel c F0 H0 ρ σ' F' H' W → ExOk c F' x cls dd → Wx cls dd σ' H'
  | .stk => False
def rdS (c : Pm) (Wx : WX) (fu : Nat) (s : S) : TS := fun D σ H => ∃ F0 H0 ρ F W, Rel c F0 H0 ρ σ F H W ∧ PstS c Wx F0 H0 F D (evS fu s ρ W)
theorem PstS.up {D : Ends} {o : SOut} (h : PstS c Wx F0 H0 F D o) (s : Same F F') : PstS c Wx F0 H0 F' D o := by
  cases o with
  | nx ρ W => exact fun σ' F' H' R e => h σ' F' H' R fun a o q => e _ _ (s _ _ q)
  | bk ρ W => exact fun σ' F' H' R e => h σ' F' H' R fun a o q => e _ _ (s _ _ q)
  | ct ρ W => exact fun σ' F' H' R e => h σ' F' H' R fun a o q => e _ _ (s _ _ q)
  | rt v ρ W => exact h
  | ex x ρ W => exact h
  | stk => exact h
theorem ps_wk {st : Stmt} {t t' : TS} (h : PS X st t) (k : ∀ D σ H, t' D σ H → t D σ H) : PS X st t' := ⟨fun pins s σ H D I q => h.run pins s σ H D I (k _ _ _ q)⟩
theorem pss_wk {st : List Stmt} {t t' : TS} (h : PSs X st t) (k : ∀ D σ H, t' D σ H → t D σ H) : PSs X st t' := ⟨fun pins s σ H D I q => h.run pins s σ H D I (k _ _ _ q)⟩

section
variable {α β : Type} {D : Ends}
theorem st_gen {ok1 : Hp → α → β → Hp → Hp → Prop} {o : Out α} {g : α → Dr → SOut} {Q2 : β → Hp → Prop} (R : Rel c F0 H0 ρ σ F H W) (hP : PstS c Wx F0 H0 F D (o.st ρ g))
    (k : ∀ y W2 u F2 H2, Stp c W2 F H F2 H2 → ok1 H y u F2 H2 → Rel c F0 H0 ρ σ F2 H2 W2 → PstS c Wx F0 H0 F D (g y W2) → Q2 u H2) : Pst c Wx σ F H (ok1 H) Q2 o := by
  cases o with
  | stk => exact hP
  | ex x W2 => exact fun cls dd F2 H2 S2 x => hP cls dd σ F2 H2 (R.step S2) x
  | ok y W2 => exact fun u F2 H2 S2 V => k y W2 u F2 H2 S2 V (R.step S2) hP
theorem st_e {e : E} {g : Vl → Dr → SOut} {Q2 : V → Hp → Prop} (R : Rel c F0 H0 ρ σ F H W) (hP : PstS c Wx F0 H0 F D ((ev e ρ W).st ρ g))
    (k : ∀ y W2 u F2 H2, Stp c W2 F H F2 H2 → ValOk c ρ σ H F2 H2 u y → Rel c F0 H0 ρ σ F2 H2 W2 → PstS c Wx F0 H0 F D (g y W2) → Q2 u H2) : rdE c Wx e σ H Q2 :=
  ⟨F0, H0, ρ, F, W, R, st_gen (ok1 := fun H1 v u F' H' => ValOk c ρ σ H1 F' H' u v) R hP k⟩
theorem st_t {e : E} {g : Bool → Dr → SOut} {Q2 : Bool → Hp → Prop} (R : Rel c F0 H0 ρ σ F H W) (hP : PstS c Wx F0 H0 F D ((evT e ρ W).st ρ g))
    (k : ∀ b W2 F2 H2, Stp c W2 F H F2 H2 → Rel c F0 H0 ρ σ F2 H2 W2 → PstS c Wx F0 H0 F D (g b W2) → Q2 b H2) : rdT c Wx e σ H Q2 :=
  ⟨F0, H0, ρ, F, W, R, st_gen (ok1 := fun _ b u _ _ => u = b) R hP fun y W2 u F2 H2 S V R2 hP => by subst V; exact k _ W2 F2 H2 S R2 hP⟩
theorem st_l {e : E} {g : List Vl → Dr → SOut} {Q2 : List V → Hp → Prop} (R : Rel c F0 H0 ρ σ F H W) (hP : PstS c Wx F0 H0 F D ((evL e ρ W).st ρ g))
    (k : ∀ ys W2 us F2 H2, Stp c W2 F H F2 H2 → ArgOk c ρ σ H F2 H2 us ys → Apart us ys → Rel c F0 H0 ρ σ F2 H2 W2 → PstS c Wx F0 H0 F D (g ys W2) → Q2 us H2) : rdL c Wx e σ H Q2 :=
  ⟨F0, H0, ρ, F, W, R, st_gen (ok1 := fun H1 vs us F' H' => Paired (fun u v => ValOk c ρ σ H1 F' H' u v) us vs ∧ Apart us vs) R hP fun y W2 u F2 H2 S V R2 hP => k y W2 u F2 H2 S V.1 V.2 R2 hP⟩
end

theorem frz_get {t : List Nat} {i : Nat} {s : Sl} (h : (frz ρ t)[i]? = some s) : (ρ[i]? = some s ∧ ∀ d, s = .own d → i ∉ t) ∨ (∃ d, ρ[i]? = some (.own d) ∧ s = .val d ∧ i ∈ t) := by
  unfold frz at h
  rw [List.getElem?_mapIdx, Option.map_eq_some_iff] at h
  obtain ⟨s0, h1, h2⟩ := h
  cases s0 with
  | un =>
    refine .inl ⟨by rw [h1, ← h2], fun d e => ?_⟩
    rw [e] at h2; cases h2
  | val d =>
    refine .inl ⟨by rw [h1, ← h2], fun d e => ?_⟩
    rw [e] at h2; cases h2
  | slf p n fs =>
    refine .inl ⟨by rw [h1, ← h2], fun d e => ?_⟩
    rw [e] at h2; cases h2
  | own d =>
    simp only at h2
    by_cases m : t.contains i = true
    · rw [if_pos m] at h2
      exact .inr ⟨d, h1, h2.symm, by simpa using m⟩
    · rw [if_neg m] at h2
      exact .inl ⟨by rw [h1, h2], fun _ _ z => m (by simpa using z)⟩
theorem Rel.frz {t : List Nat} (R : Rel c F0 H0 ρ σ F H W) (ht : ∀ i ∈ t, ∃ x, ρ[i]? = some (.own x)) : Rel c F0 H0 (Z.frz ρ t) σ (Fz F H σ t) H W := by
  have up : Same F (Fz F H σ t) := Fz_up R.stp.sub
  refine ⟨by unfold Z.frz; rw [List.length_mapIdx]; exact R.len, ⟨fun a o e => up _ _ (R.stp.f _ _ e), Fz_dn R.stp.sub, R.stp.h, fun a e nn => ?_, fun a o e => ?_, fun a ha => ?_, R.stp.dr, fun hd => up _ _ (R.stp.cl hd), R.stp.tabs⟩, fun i s e => ?_, fun i j d1 d2 p e1 e2 e3 e4 => ?_⟩
  · rw [Fz_out]
    · exact R.stp.new a e nn
    · rintro ⟨i, h1, h2⟩
      obtain ⟨d, hd⟩ := ht i h1
      obtain ⟨p, q1, _, _, q4, _⟩ := R.own hd
      rw [h2] at q1
      have q := L2.V.ref.inj (Option.some.inj (Option.some.inj q1))
      subst q
      exact q4 nn
  · by_cases h : AtS σ t a
    · rw [Fz_in h] at e; exact (R.at_ ht h).2.2.1.nt e
    · rw [Fz_out h] at e; exact R.stp.nt a o e
  · rw [Fz_out]
    · exact R.stp.av a ha
    · exact fun z => (R.at_ ht z).2.1 ha
  · rcases frz_get e with ⟨h1, h2⟩ | ⟨d, h1, rfl, h3⟩
    · have k := R.slot i s h1
      cases s with
      | un => exact k
      | val d =>
        obtain ⟨v, k1, k2⟩ := k
        exact ⟨v, k1, k2.mono up⟩
      | slf p n fs =>
        obtain ⟨k1, k2, k3, k4, C, dx, gs, k5, k6, k7⟩ := k
        refine ⟨k1, ?_, k3, k4, C, dx, gs, k5, k6, k7.mono up⟩
        rw [Fz_out]
        · exact k2
        · intro z
          rcases (R.at_ ht z).2.2.1 with q | ⟨xs, q⟩ | ⟨xs, q⟩ | ⟨xs, q⟩ <;> rw [k5] at q <;> cases q
      | own d =>
        obtain ⟨p, k1, k2, k3, k4, k5⟩ := k
        refine ⟨p, k1, ?_, k3, k4, k5.mono up fun _ h => h⟩
        rw [Fz_out]
        · exact k2
        · rintro ⟨j, z1, z2⟩
          obtain ⟨d', hd'⟩ := ht j z1
          have := R.dist i j d d' p h1 hd' k1 z2
          exact h2 d rfl (this ▸ z1)
    · obtain ⟨p, k1, k2, k3, k4, k5⟩ := R.own h1
      exact ⟨_, k1, k5.rep up (Fz_in ⟨i, h3, k1⟩)⟩
  · have a : ∀ {j : Nat} {d : D}, (Z.frz ρ t)[j]? = some (.own d) → ρ[j]? = some (.own d) := fun {j d} e => by
      rcases frz_get e with ⟨h, _⟩ | ⟨_, _, h, _⟩
      · exact h
      · cases h
    exact R.dist i j d1 d2 p (a e1) (a e2) e3 e4
/-- an object of its own comes to a name -/
theorem Rel.seto {i p : Nat} {d : D} (R : Rel c F0 H0 ρ σ F H W) (h1 : F p = none) (h2 : p ∉ c.mv) (h3 : Nil H0 p) (h4 : OwnAt c F H p d) (h5 : ∀ (j : Nat) (x : D), ρ[j]? = some (.own x) → σ[j]? = some (some (.ref p)) → j = i) : Rel c F0 H0 (ρ.set i (.own d)) (σ.set i (some (.ref p))) F H W := by
  have a : ∀ {j : Nat} {s : Sl}, (ρ.set i (.own d))[j]? = some s → (i = j ∧ s = .own d ∧ i < ρ.length) ∨ (i ≠ j ∧ ρ[j]? = some s) := fun {j s} e => by
    by_cases h : i = j
    · subst h
      have hl : i < ρ.length := by
        have := (List.getElem?_eq_some_iff.mp e).1
        simpa using this
      rw [List.getElem?_set_self hl] at e
      exact .inl ⟨rfl, (Option.some.inj e).symm, hl⟩
    · rw [List.getElem?_set_ne h] at e
      exact .inr ⟨h, e⟩
  refine ⟨by rw [List.length_set, List.length_set]; exact R.len, R.stp, fun j s e => ?_, fun j k d1 d2 p' e1 e2 e3 e4 => ?_⟩
  · rcases a e with ⟨rfl, rfl, hl⟩ | ⟨h, e⟩
    · exact ⟨p, by rw [List.getElem?_set_self (R.len ▸ hl)], h1, h2, h3, h4⟩
    · rw [List.getElem?_set_ne h]
      exact R.slot j s e
  · rcases a e1 with ⟨rfl, z1, hl⟩ | ⟨n1, o1⟩ <;> rcases a e2 with ⟨z2, z3, hl2⟩ | ⟨n2, o2⟩
    · exact z2
    · rw [List.getElem?_set_self (R.len ▸ hl)] at e3
      rw [List.getElem?_set_ne n2] at e4
      cases e3
      exact (h5 k _ o2 e4).symm
    · subst z2
      rw [List.getElem?_set_self (R.len ▸ hl2)] at e4
      rw [List.getElem?_set_ne n1] at e3
      cases e4
      exact h5 j _ o1 e3
    · rw [List.getElem?_set_ne n1] at e3
      rw [List.getElem?_set_ne n2] at e4
      exact R.dist j k d1 d2 p' o1 o2 e3 e4
theorem tl_all {v : Vl} : ∀ i ∈ v.t, i ∈ v.all := fun i hi => by
  unfold Vl.all; split
  · exact List.mem_cons_of_mem _ hi
  · exact hi
/-- a value comes to a name -/
theorem Rel.put {i : Nat} (R0 : Rel c F0 H0 ρ σ F H W) (R : Rel c F0 H0 ρ σ F2 H2 W2) (V : ValOk c ρ σ H F2 H2 u v) : Rel c F0 H0 (Z.put ρ i v) (σ.set i (some u)) (Fz F2 H2 σ v.all) H2 W2 := by
  have RF := R.frz V.own
  unfold Z.put
  cases hk : v.k with
  | fr =>
    have hf : v.isFr = true := by unfold Vl.isFr; rw [hk]
    rw [if_pos hf]
    have a := V.at_
    rw [hk] at a
    obtain ⟨p, rfl, e2, e3, e4, e5⟩ := a
    have hall : v.all = v.t := by unfold Vl.all; rw [hk]
    have ne : ∀ (j : Nat) (x : D), ρ[j]? = some (.own x) → σ[j]? ≠ some (some (.ref p)) := fun j x h1 h2 => by
      obtain ⟨p', q1, _, _, _, q5⟩ := R0.own h1
      rw [h2] at q1
      have q := L2.V.ref.inj (Option.some.inj (Option.some.inj q1))
      subst q
      exact e4 q5.thr
    refine RF.seto ?_ e3 (R0.stp.keepN e3 e4) (by rw [hall]; exact e5) fun j x h1 h2 => ?_
    · rw [Fz_out]
      · exact e2
      · rintro ⟨j, z1, z2⟩
        obtain ⟨d, hd⟩ := V.own j z1
        exact ne j d hd z2
    · rcases frz_get h1 with ⟨h, _⟩ | ⟨_, _, h, _⟩
      · exact (ne j x h h2).elim
      · cases h
  | pl =>
    have hf : v.isFr = false := by unfold Vl.isFr; rw [hk]
    rw [if_neg (by rw [hf]; exact Bool.false_ne_true)]
    refine RF.setv ?_
    have a := V.at_
    rw [hk] at a
    have hall : v.all = v.t := by unfold Vl.all; rw [hk]
    rw [hall]; exact a
  | me j =>
    have hf : v.isFr = false := by unfold Vl.isFr; rw [hk]
    rw [if_neg (by rw [hf]; exact Bool.false_ne_true)]
    refine RF.setv ?_
    exact val_rep R V (Fz_up R.stp.sub) (fun a h => Fz_in h) (fun _ h => h) fun z => by rw [hk] at z; cases z
/-- the own object of a name is changed -/
theorem Rel.mut {i : Nat} {p : Addr} {o o' : D} {ob : HO} (R : Rel c F0 H0 ρ σ F H W) (h1 : ρ[i]? = some (.own o)) (h2 : σ[i]? = some (some (.ref p))) (h3 : OwnAt c F (upd H p ob) p o') : Rel c F0 H0 (ρ.set i (.own o')) σ F (upd H p ob) W := by
  obtain ⟨p', q1, q2, q3, q4, q5⟩ := R.own h1
  rw [h2] at q1
  have q := L2.V.ref.inj (Option.some.inj (Option.some.inj q1))
  subst q
  have a : ∀ {j : Nat} {s : Sl}, (ρ.set i (.own o'))[j]? = some s → (i = j ∧ s = .own o') ∨ (i ≠ j ∧ ρ[j]? = some s) := fun {j s} e => by
    by_cases h : i = j
    · subst h
      have hl : i < ρ.length := by
        have := (List.getElem?_eq_some_iff.mp e).1
        simpa using this
      rw [List.getElem?_set_self hl] at e
      exact .inl ⟨rfl, (Option.some.inj e).symm⟩
    · rw [List.getElem?_set_ne h] at e
      exact .inr ⟨h, e⟩
  have b : ∀ {j : Nat} {d : D}, (ρ.set i (.own o'))[j]? = some (.own d) → ∃ d', ρ[j]? = some (.own d') := fun {j d} e => by
    rcases a e with ⟨rfl, _⟩ | ⟨_, e⟩
    · exact ⟨_, h1⟩
    · exact ⟨_, e⟩
  refine ⟨by rw [List.length_set]; exact R.len, R.stp.setD q2 q4 q3 (fun q z => by rcases q5.softH with k | ⟨xs, k⟩ | ⟨xs, k⟩ | ⟨xs, k⟩ <;> rw [z] at k <;> cases k) (fun q z => by rcases q5.softH with k | ⟨xs, k⟩ | ⟨xs, k⟩ | ⟨xs, k⟩ <;> rw [z] at k <;> cases k), fun j s e => ?_, fun j k d1 d2 p' e1 e2 e3 e4 => ?_⟩
  · rcases a e with ⟨rfl, rfl⟩ | ⟨n, e⟩
    · exact ⟨p, h2, q2, q3, q4, h3⟩
    · have k := R.slot j s e
      cases s with
      | un => exact k
      | val d => exact k
      | slf p' n' fs =>
        obtain ⟨k1, k2, k3, k4, C, dx, gs, k5, k6, k7⟩ := k
        refine ⟨k1, k2, k3, k4, C, dx, gs, ?_, k6, k7⟩
        rw [upd_ne fun z => ?_]
        · exact k5
        · rcases q5.softH with q | ⟨xs, q⟩ | ⟨xs, q⟩ | ⟨xs, q⟩ <;> rw [← z, k5] at q <;> cases q
      | own d =>
        obtain ⟨p', k1, k2, k3, k4, k5⟩ := k
        refine ⟨p', k1, k2, k3, k4, k5.at (upd_ne fun z => n ?_)⟩
        subst z
        exact R.dist i j _ _ _ h1 e h2 k1
  · obtain ⟨d1', o1⟩ := b e1
    obtain ⟨d2', o2⟩ := b e2
    exact R.dist j k _ _ _ o1 o2 e3 e4
/-- values are kept: nothing in them is alone -/
theorem keep_all (R0 : Rel c F0 H0 ρ σ F H W) (R : Rel c F0 H0 ρ σ F2 H2 W2) (S : Stp c W2 F H F2 H2) (A : ArgOk c ρ σ H F2 H2 us vs) : Rel c F0 H0 (Z.frz ρ (ts vs)) σ (Fz (Ft F2 H2 us vs) H2 σ (ts vs)) H2 W2 ∧ RepL c (Fz (Ft F2 H2 us vs) H2 σ (ts vs)) us (ds vs) ∧ Same F2 (Fz (Ft F2 H2 us vs) H2 σ (ts vs)) := by
  refine ⟨(Ft_rel R0 R S A).frz (ts_own A), args_all R0 R S A, fun a o e => ?_⟩
  exact Fz_up (Ft_rel R0 R S A).stp.sub _ _ (Ft_up R.stp.sub _ _ e)
end
end Z

namespace Z
open PySem PySem.Spec PyProof.Rows L2
open Classical
section
variable {c : Pm} {Wx : WX} {X : Cx} {fu n : Nat} {W W' W1 W2 W3 : Dr} {F0 H0 F H F' H' F1 H1 F2 H2 F3 H3 Hs : Hp} {ρ ρ' : En} {σ σ' : L2.St} {u w : V} {x y v : Vl} {Q : VK} {us : List V} {vs : List Vl} {pos : Pos}

theorem s_nil : PSs X [] (rdS c Wx fu .skip) := pss_wk pss_nil fun D σ H ⟨F0, H0, ρ, F, W, R, hP⟩ => by
  simp only [evS] at hP
  exact hP σ F H R (Same.refl _)
theorem s_pass : PS X (.Pass pos) (rdS c Wx fu .skip) := ps_wk ps_pass fun D σ H ⟨F0, H0, ρ, F, W, R, hP⟩ => by
  simp only [evS] at hP
  exact hP σ F H R (Same.refl _)
theorem s_brk : PS X (.Break pos) (rdS c Wx fu .brk) := ps_wk ps_break fun D σ H ⟨F0, H0, ρ, F, W, R, hP⟩ => by
  simp only [evS] at hP
  exact hP σ F H R (Same.refl _)
theorem s_cont : PS X (.Continue pos) (rdS c Wx fu .cont) := ps_wk ps_continue fun D σ H ⟨F0, H0, ρ, F, W, R, hP⟩ => by
  simp only [evS] at hP
  exact hP σ F H R (Same.refl _)
theorem s_cons {st : Stmt} {rest : List Stmt} {a b : S} (h1 : PS X st (rdS c Wx fu a)) (h2 : PSs X rest (rdS c Wx fu b)) : PSs X (st :: rest) (rdS c Wx fu (.seq a b)) := by
  refine pss_wk (pss_cons h1 h2) fun D σ H ⟨F0, H0, ρ, F, W, R, hP⟩ => ⟨F0, H0, ρ, F, W, R, ?_⟩
  simp only [evS] at hP
  cases e : evS fu a ρ W with
  | nx ρ1 W1 =>
    rw [e] at hP
    exact fun σ' F' H' R' s => ⟨F0, H0, ρ1, F', W1, R', hP.up s⟩
  | bk ρ1 W1 => rw [e] at hP; exact hP
  | ct ρ1 W1 => rw [e] at hP; exact hP
  | rt v ρ1 W1 => rw [e] at hP; exact hP
  | ex x ρ1 W1 => rw [e] at hP; exact hP
  | stk => rw [e] at hP; exact hP
theorem s_if {c0 : Expr} {p q : List Stmt} {ec : E} {a b : S} (hc : PT X c0 (rdT c Wx ec)) (h1 : PSs X p (rdS c Wx fu a)) (h2 : PSs X q (rdS c Wx fu b)) : PS X (.If c0 p q pos) (rdS c Wx fu (.iff ec a b)) := by
  refine ps_wk (ps_if hc h1 h2) fun D σ H ⟨F0, H0, ρ, F, W, R, hP⟩ => ?_
  simp only [evS] at hP
  refine st_t R hP fun k W1 F1 H1 S1 R1 hP => ?_
  cases k with
  | true => exact ⟨F0, H0, ρ, F1, W1, R1, PstS.up hP S1.f⟩
  | false => exact ⟨F0, H0, ρ, F1, W1, R1, PstS.up hP S1.f⟩
theorem s_set {i : Nat} {z : Str} {e : Expr} {ee : E} {pos' : Pos} (hN : X.N.Nodup) (hi : X.N[i]? = some z) (hx : Loc X.env.scope z) (he : PE X e (rdE c Wx ee)) (hs : swapsWith e (some (.Name z pos')) pos.line X.env = pure false) (hf : X.fn z = true ∨ X.env.scope.names.lookup z = some .local) :
    PS X (.Assign [.Name z pos'] e pos) (rdS c Wx fu (.asg i ee)) := by
  refine ps_wk (ps_set hN hi hx he hs hf) fun D σ H ⟨F0, H0, ρ, F, W, R, hP⟩ => ?_
  simp only [evS] at hP
  exact st_e R hP fun v W1 u F1 H1 S1 V1 R1 hP => hP _ _ _ (R.put R1 V1) fun a o q => Fz_up R1.stp.sub _ _ (S1.f _ _ q)
theorem s_expr {e : Expr} {ee : E} (he : PE X e (rdE c Wx ee)) (hs : swapsWith e none pos.line X.env = pure false) : PS X (.Expr e pos) (rdS c Wx fu (.expr ee)) := by
  refine ps_wk (ps_expr he hs) fun D σ H ⟨F0, H0, ρ, F, W, R, hP⟩ => ?_
  simp only [evS] at hP
  exact st_e R hP fun v W1 u F1 H1 S1 V1 R1 hP => hP _ _ _ R1 S1.f
theorem s_ret {e : Expr} {ee : E} (he : PE X e (rdE c Wx ee)) : PS X (.Return (some e) pos) (rdS c Wx fu (.ret ee)) := by
  refine ps_wk (ps_ret he) fun D σ H ⟨F0, H0, ρ, F, W, R, hP⟩ => ?_
  simp only [evS] at hP
  exact st_e R hP fun v W1 u F1 H1 S1 V1 R1 hP => hP _ _ _ _ R1 (V1.start fun a m z => R.stp.keepN m z) (Nw.of R V1)
theorem s_retn : PS X (.Return none pos) (rdS c Wx fu .retn) := by
  refine ps_wk ps_retN fun D σ H ⟨F0, H0, ρ, F, W, R, hP⟩ => ?_
  simp only [evS] at hP
  exact hP _ _ _ _ R (.of_rep .non rfl rfl) fun z => by cases z
/-- a, b = a tuple -/
theorem s_unp {tg e : Expr} {ee : E} {is : List Nat} {m : Nat} (hk : X.K = c.K) (hm : m = is.length) (he : PE X e (rdE c Wx ee)) (hg : PG X tg (gTup X.K m (gNames is))) (hs : swapsWithSole [tg] e pos.line X.env = pure false) (hw : swappedStores [tg] e X.env = pure none)
    (h1 : (assignEach [tg] X.env).map (·.2) = [assign tg X.env]) : PS X (.Assign [tg] e pos) (rdS c Wx fu (.unp is ee)) := by
  refine ps_wk (ps_asg he hg hs hw h1) fun D σ H ⟨F0, H0, ρ, F, W, R, hP⟩ => ?_
  simp only [evS] at hP
  refine st_e R hP fun v W1 u F1 H1 S1 V1 R1 hP => ?_
  cases e1 : v.d <;> rw [e1] at hP <;> try (exact hP.elim)
  rename_i xs
  simp only at hP
  by_cases hl : xs.length = is.length
  · rw [if_pos hl] at hP
    have RF := R1.frz V1.own
    have up : Same F1 (Fz F1 H1 σ v.all) := Fz_up R1.stp.sub
    have r := V1.rep R1 e1 fun _ _ _ h => h
    have r := r.mono (Fz_mono (t' := v.all) R1.stp.sub tl_all)
    rw [hk]
    refine g_tp (c := c) (own := is) (ρ := Z.frz ρ v.all) (fun _ h => h) hm RF r (by unfold bindP; simp only; rw [if_pos hl]) fun σ' R' _ _ _ => hP σ' _ H1 R' fun a o q => up _ _ (S1.f _ _ q)
  · rw [if_neg hl] at hP; exact hP.elim
/-- a name op= e -/
def IpOk (op : Operator) (ti : TIp) : Prop := ∀ {i j z : Int} {b : Bool} {H : Hp} {Q : VK}, binD op (.int i) (.int j) = some (b, .int z) → Q (.int z) H → ti (.int i) (.int j) H Q
theorem s_aug {i : Nat} {z : Str} {e : Expr} {op : Operator} {ti : TIp} {ee : E} {pos' : Pos} (hN : X.N.Nodup) (hi : X.N[i]? = some z) (hx : Loc X.env.scope z) (he : PE X e (rdE c Wx ee)) (ho : PIp X op ti) (k : IpOk op ti) (hf : X.fn z = true ∨ X.env.scope.names.lookup z = some .local) :
    PS X (.AugAssign (.Name z pos') op e pos) (rdS c Wx fu (.aug i op ee)) := by
  refine ps_wk (ps_aug hN hi hx he ho hf) fun D σ H ⟨F0, H0, ρ, F, W, R, hP⟩ => ?_
  simp only [evS] at hP
  cases e0 : ρ[i]? with
  | none => rw [e0] at hP; exact hP.elim
  | some s =>
    rw [e0] at hP
    cases s with
    | un => exact hP.elim
    | slf _ _ _ => exact hP.elim
    | own d => exact hP.elim
    | val d =>
      cases d <;> try (exact hP.elim)
      rename_i a
      simp only at hP
      obtain ⟨u, h1, h2⟩ := R.slot i _ e0
      cases h2
      refine ⟨.int a, h1, st_e R hP fun v W1 w F1 H1 S1 V1 R1 hP => ?_⟩
      cases e1 : v.d <;> rw [e1] at hP <;> try (exact hP.elim)
      rename_i b
      simp only at hP
      cases V1.int R1 e1
      cases e2 : binD op (.int a) (.int b) with
      | none => rw [e2] at hP; exact hP.elim
      | some p =>
        rw [e2] at hP
        obtain ⟨q, r⟩ := p
        cases r <;> try (exact hP.elim)
        exact k e2 (hP _ _ _ (R1.setv (.int _)) S1.f)
theorem ip_addOk : IpOk .Add (ipI fun i j => i + j) := by
  intro i j z b H Q h q
  simp only [binD, big_eq] at h
  cases h
  exact ⟨i, j, rfl, rfl, q⟩
theorem ip_subOk : IpOk .Sub (ipI fun i j => i - j) := by
  intro i j z b H Q h q
  simp only [binD, big_eq] at h
  cases h
  exact ⟨i, j, rfl, rfl, q⟩

theorem put_own {i : Nat} {r : Sl} {j : Nat} {d : D} (h : (ρ.set i r)[j]? = some (.own d)) : (i = j ∧ r = .own d) ∨ (i ≠ j ∧ ρ[j]? = some (.own d)) := by
  by_cases e : i = j
  · subst e
    have hl : i < ρ.length := by
      have := (List.getElem?_eq_some_iff.mp h).1
      simpa using this
    rw [List.getElem?_set_self hl] at h
    exact .inl ⟨rfl, Option.some.inj h⟩
  · rw [List.getElem?_set_ne e] at h
    exact .inr ⟨e, h⟩
def setAll (σ : L2.St) : List Nat → List V → L2.St
  | i :: is, v :: vs => setAll (σ.set i (some v)) is vs
  | _, _ => σ
/-- names for values, each new object to its name -/
theorem put_many {σ0 : L2.St} (R0 : Rel c F0 H0 ρ σ0 F H W) {FF : Hp} {t : List Nat} {W2 : Dr} (R2 : Rel c F0 H0 ρ σ0 F2 H2 W2) (hup : Same F2 FF) (hsub : Same FF H2)
    (hF : ∀ a, AtS σ0 t a → FF a = H2 a) : ∀ {us : List V} {vs : List Vl} {is : List Nat} {ρ' : En} {σ' : L2.St}, ArgOk c ρ σ0 H F2 H2 us vs → Apart us vs → vs.length = is.length → is.Nodup → (∀ i ∈ ts vs, i ∈ t) →
    (∀ a, TmpAt us vs a → FF a = none) → Rel c F0 H0 ρ' σ' FF H2 W2 → (∀ a, TmpAt us vs a → ∀ (j : Nat) (x : D), ρ'[j]? = some (.own x) → σ'[j]? ≠ some (some (.ref a))) →
    Rel c F0 H0 (putAll ρ' is vs) (setAll σ' is us) FF H2 W2
  | _, _, is, ρ', σ', .nil, _, hl, _, _, _, R', _ => by
    cases is with
    | nil => exact R'
    | cons _ _ => simp at hl
  | _, _, is, ρ', σ', .cons (a := u) (b := v) (l₁ := us) (l₂ := vs) V A, ap, hl, nd, ht, hT, R', hfr => by
    cases is with
    | nil => simp at hl
    | cons i is =>
      have hts : ∀ j ∈ v.all, j ∈ t := fun j hj => ht j (by unfold ts; rw [List.flatMap_cons]; exact List.mem_append_left _ hj)
      have ht' : ∀ j ∈ ts vs, j ∈ t := fun j hj => ht j (by unfold ts; rw [List.flatMap_cons]; exact List.mem_append_right _ hj)
      unfold putAll setAll
      refine put_many R0 R2 hup hsub hF A ap.2 (by simpa using hl) (List.nodup_cons.mp nd).2 ht' (fun a z => hT a (.inr z)) ?_ fun a z j x h1 h2 => ?_
      · cases hk : v.k with
        | fr =>
          have hf : v.isFr = true := by unfold Vl.isFr; rw [hk]
          rw [if_pos hf]
          have a := V.at_
          rw [hk] at a
          obtain ⟨p, rfl, e2, e3, e4, e5⟩ := a
          refine R'.seto (hT p (.inl ⟨hk, rfl⟩)) e3 (R0.stp.keepN e3 e4) (e5.mono (fun b o q => ?_) fun _ h => h) fun j x h1 h2 => (hfr p (.inl ⟨hk, rfl⟩) j x h1 h2).elim
          by_cases qa : AtS σ0 v.t b
          · rw [Fz_in qa] at q
            obtain ⟨j, z1, z2⟩ := qa
            rw [hF b ⟨j, hts j (tl_all j z1), z2⟩]
            exact q
          · rw [Fz_out qa] at q
            exact hup _ _ q
        | pl =>
          have hf : v.isFr = false := by unfold Vl.isFr; rw [hk]
          rw [if_neg (by rw [hf]; exact Bool.false_ne_true)]
          exact R'.setv (val_rep R2 V hup hF hts fun z => by rw [hk] at z; cases z)
        | me j =>
          have hf : v.isFr = false := by unfold Vl.isFr; rw [hk]
          rw [if_neg (by rw [hf]; exact Bool.false_ne_true)]
          exact R'.setv (val_rep R2 V hup hF hts fun z => by rw [hk] at z; cases z)
      · rcases put_own h1 with ⟨rfl, e⟩ | ⟨n, e⟩
        · by_cases hf : v.isFr = true
          · have hk : v.k = .fr := by
              unfold Vl.isFr at hf
              revert hf
              cases v.k <;> simp
            have hlt : i < σ'.length := by
              have := (List.getElem?_eq_some_iff.mp h2).1
              simpa using this
            rw [List.getElem?_set_self hlt] at h2
            cases h2
            exact ap.1 a hk rfl z
          · rw [if_neg hf] at e; cases e
        · rw [List.getElem?_set_ne n] at h2
          exact hfr a (.inr z) j x e h2
end
end Z

namespace Z
open PySem PySem.Spec PyProof.Rows L2
open Classical
section
variable {c : Pm} {Wx : WX} {X : Cx} {fu n : Nat} {W W' W1 W2 W3 : Dr} {F0 H0 F H F' H' F1 H1 F2 H2 F3 H3 Hs : Hp} {ρ ρ' : En} {σ σ' : L2.St} {u w : V} {x y v : Vl} {Q : VK} {us : List V} {vs : List Vl} {pos : Pos}

theorem par_ok {is : List Nat} {D : Ends} (R : Rel c F0 H0 ρ σ F H W) (R1 : Rel c F0 H0 ρ σ F1 H1 W1) (S1 : Stp c W1 F H F1 H1) (A : ArgOk c ρ σ H F1 H1 us vs) (ap : Apart us vs)
    (hP : PstS c Wx F0 H0 F D (if vs.length = is.length ∧ is.Nodup then .nx (putAll (Z.frz ρ (ts vs)) is vs) W1 else .stk)) : D.nx (setAll σ is us) H1 := by
  by_cases h : vs.length = is.length ∧ is.Nodup
  · rw [if_pos h] at hP
    have RF := R1.frz (ts_own A)
    have up : Same F1 (Fz F1 H1 σ (ts vs)) := Fz_up R1.stp.sub
    have ne : ∀ (a : Addr), TmpAt us vs a → ∀ (j : Nat) (x : Z.D), ρ[j]? = some (.own x) → σ[j]? ≠ some (some (.ref a)) := fun a z j x h1 h2 => by
      obtain ⟨p, q1, _, _, _, q5⟩ := R.own h1
      rw [h2] at q1
      have q := L2.V.ref.inj (Option.some.inj (Option.some.inj q1))
      subst q
      exact (tmp_at A z).2.2.1 q5.thr
    refine hP _ _ _ (put_many R R1 up RF.stp.sub (fun a z => Fz_in z) A ap h.1 h.2 (fun _ h => h) (fun a z => ?_) RF fun a z j x h1 h2 => ?_) fun a o q => up _ _ (S1.f _ _ q)
    · rw [Fz_out]
      · exact (tmp_at A z).1
      · rintro ⟨j, h1, h2⟩
        obtain ⟨d, hd⟩ := ts_own A j h1
        exact ne a z j d hd h2
    · rcases frz_get h1 with ⟨h, _⟩ | ⟨_, _, h, _⟩
      · exact ne a z j x h h2
      · cases h
  · rw [if_neg h] at hP; exact hP.elim
theorem s_par {i j : Nat} {z1 z2 : Str} {a b : Expr} {ea : E} {px py pt : Pos} {kt k2 pt2} (hc : X.calm = true) (hN : X.N.Nodup) (hi : X.N[i]? = some z1) (hj : X.N[j]? = some z2) (hij : i ≠ j)
    (hx : X.env.scope.names.lookup z1 = some .local) (hy : X.env.scope.names.lookup z2 = some .local) (ha : PA X [a, b] (rdL c Wx ea))
    (hw : swappedStores [.Tuple [.Name z1 px, .Name z2 py] kt pt] (.Tuple [a, b] k2 pt2) X.env = pure (some [z1, z2]))
    (hs : swapsWithSole [.Tuple [.Name z1 px, .Name z2 py] kt pt] (.Tuple [a, b] k2 pt2) pos.line X.env = pure false) :
    PS X (.Assign [.Tuple [.Name z1 px, .Name z2 py] kt pt] (.Tuple [a, b] k2 pt2) pos) (rdS c Wx fu (.par [i, j] ea)) := by
  refine ps_wk (ps_par hc hN hi hj hij hx hy ha hw hs) fun D σ H ⟨F0, H0, ρ, F, W, R, hP⟩ => ?_
  simp only [evS] at hP
  refine st_l R hP fun vs W1 us F1 H1 S1 A ap R1 hP => ?_
  have q := par_ok R R1 S1 A ap hP
  have hl : vs.length = 2 := by
    by_cases h : vs.length = [i, j].length ∧ [i, j].Nodup
    · exact h.1
    · rw [if_neg h] at hP; exact hP.elim
  rw [← Paired.len A] at hl
  match us, hl with
  | [u, w], _ => exact ⟨u, w, rfl, q⟩

theorem own_lst {i : Nat} {xs : List D} (R : Rel c F0 H0 ρ σ F H W) (h : ρ[i]? = some (.own (.lst xs))) : ∃ p ws, σ[i]? = some (some (.ref p)) ∧ H p = some (.lst ws) ∧ RepL c F ws xs := by
  obtain ⟨p, h1, _, _, _, ws, h2, h3⟩ := R.own h
  exact ⟨p, ws, h1, h2, h3⟩
theorem frz_own {t : List Nat} {i : Nat} {d : D} (h : (Z.frz ρ t)[i]? = some (.own d)) : ρ[i]? = some (.own d) := by
  rcases frz_get h with ⟨h, _⟩ | ⟨_, _, h, _⟩
  · exact h
  · cases h
theorem ts_one {v : Vl} : ts [v] = v.all := by simp [ts]
theorem s_app {i : Nat} {z : Str} {e : Expr} {ee : E} {p2 apos cpos : Pos} (hN : X.N[i]? = some z) (hv : Vis X.env.scope z) (hd : (z == ("__debug__" : Str)) = false) (hcd : (z == ("__classdict__" : Str)) = false) (he : PE X e (rdE c Wx ee))
    (hbase : attributeBase (.Name z p2) "append" X.env (eval (.Name z p2) X.env) = eval (.Name z p2) X.env)
    (hfew : ((backTo cpos (starEach [e] X.env)).all (fun x => !x.1) && (backToKw cpos (keywordEach [] X.env)).all (fun x => x.1.isSome)
      && decide (([e] : List Expr).length + ([] : List Keyword).length + (if ([] : List Keyword).isEmpty then 0 else 1) < 30)) = true)
    (hline : (apos.endLine == cpos.line) = true) (hs : starEach [e] X.env = [(false, eval e X.env)]) (hsw : swapsWith (.Call (.Attribute (.Name z p2) "append" apos) [e] [] cpos) none pos.line X.env = pure false) :
    PS X (.Expr (.Call (.Attribute (.Name z p2) "append" apos) [e] [] cpos) pos) (rdS c Wx fu (.app i ee)) := by
  refine ps_wk (ps_expr (pe_bm F.plainAttrs_list F.slot_list_append (by rfl) mt_append (pe_var hN hv hd hcd) (pa_cons he pa_nil hs) hbase hfew hline hs (by rfl)) hsw) fun D σ H ⟨F0, H0, ρ, F, W, R, hP⟩ => ?_
  simp only [evS] at hP
  cases e0 : ρ[i]? with
  | none => rw [e0] at hP; exact hP.elim
  | some s =>
    rw [e0] at hP
    cases s with
    | un => exact hP.elim
    | slf _ _ _ => exact hP.elim
    | val d => exact hP.elim
    | own d =>
      cases d <;> try (exact hP.elim)
      rename_i xs0
      simp only at hP
      obtain ⟨p, ws0, h1, h2, h3⟩ := own_lst R e0
      refine ⟨.ref p, h1, .inl ⟨rfl, ws0, .inl (.inl h2)⟩, st_e R hP fun v W1 u F1 H1 S1 V1 R1 hP => ?_⟩
      have A : ArgOk c ρ σ H F1 H1 [u] [v] := .cons V1 .nil
      obtain ⟨RF, RA, up⟩ := keep_all R R1 S1 A
      rw [ts_one] at RF RA up
      cases e2 : (Z.frz ρ v.all)[i]? with
      | none => rw [e2] at hP; exact hP.elim
      | some s =>
        rw [e2] at hP
        cases s with
        | un => exact hP.elim
        | slf _ _ _ => exact hP.elim
        | val d => exact hP.elim
        | own d =>
          cases d <;> try (exact hP.elim)
          rename_i xs
          simp only at hP
          by_cases hl : xs.length < cap
          · rw [if_pos hl] at hP
            obtain ⟨p', ws, h4, h5, h6⟩ := own_lst RF e2
            rw [h1] at h4
            have q := L2.V.ref.inj (Option.some.inj (Option.some.inj h4))
            subst q
            refine ⟨p, ws, u, rfl, rfl, h5, by rw [h6.length, ← cap_eq]; exact hl, ?_⟩
            refine hP _ _ _ (RF.mut e2 h1 ⟨_, upd_same, h6.append ?_⟩) fun a o q => up _ _ (S1.f _ _ q)
            cases RA with
            | cons r _ => exact .cons r .nil
          · rw [if_neg hl] at hP; exact hP.elim
theorem RepL.dropLast {vs : List V} {xs : List D} (h : RepL c F vs xs) : RepL c F vs.dropLast xs.dropLast := by
  rw [List.dropLast_eq_take, List.dropLast_eq_take, h.length]
  exact h.take _
theorem RepL.erase : ∀ {vs : List V} {xs : List Z.D} (i : Nat), RepL c F vs xs → RepL c F (vs.eraseIdx i) (xs.eraseIdx i)
  | _, _, _, .nil => .nil
  | _, _, 0, .cons _ r => r
  | _, _, i + 1, .cons k r => .cons k (RepL.erase i r)
/-- o[k] = e, o the name's own list -/
theorem s_setix {i : Nat} {z : Str} {k e : Expr} {ek ee : E} {p2 tpos : Pos} (hN : X.N[i]? = some z) (hv : Vis X.env.scope z) (hd : (z == ("__debug__" : Str)) = false) (hcd : (z == ("__classdict__" : Str)) = false) (hk : PE X k (rdE c Wx ek)) (he : PE X e (rdE c Wx ee))
    (ha : ∀ v, assign (.Subscript (.Name z p2) k tpos) X.env v = (do
      let ov ← holding [v] (eval (.Name z p2) X.env)
      let iv ← holding [v, ov] (eval k X.env)
      standAt tpos
      holding [v, ov, iv] (setItem ov iv v)
      release [v, ov, iv] []))
    (hs : swapsWithSole [.Subscript (.Name z p2) k tpos] e pos.line X.env = pure false) (hw : swappedStores [.Subscript (.Name z p2) k tpos] e X.env = pure none)
    (h1 : (assignEach [.Subscript (.Name z p2) k tpos] X.env).map (·.2) = [assign (.Subscript (.Name z p2) k tpos) X.env]) :
    PS X (.Assign [.Subscript (.Name z p2) k tpos] e pos) (rdS c Wx fu (.setix i ek ee)) := by
  refine ps_wk (ps_asg he (pg_sub (pe_var hN hv hd hcd) hk set_list ha) hs hw h1) fun D σ H ⟨F0, H0, ρ, F, W, R, hP⟩ => ?_
  simp only [evS] at hP
  cases e0 : ρ[i]? with
  | none => rw [e0] at hP; exact hP.elim
  | some s =>
    rw [e0] at hP
    cases s with
    | un => exact hP.elim
    | slf _ _ _ => exact hP.elim
    | val d => exact hP.elim
    | own d =>
      cases d <;> try (exact hP.elim)
      rename_i xs0
      simp only at hP
      obtain ⟨p, ws0, h1, h2, h3⟩ := own_lst R e0
      refine st_e R hP fun v W1 u F1 H1 S1 V1 R1 hP => ?_
      refine ⟨.ref p, h1, st_e R1 (hP.up S1.f) fun y W2 w F2 H2 S2 V2 R2 hP => ?_⟩
      have S12 := S1.trans S2
      have A : ArgOk c ρ σ H F2 H2 [u, w] [v, y] := .cons (V1.step R1 S2) (.cons (V2.start fun a m z => S1.keepN m z) .nil)
      obtain ⟨RF, RA, up⟩ := keep_all R R2 S12 A
      have hts : ts [v, y] = v.all ++ y.all := by simp [ts]
      rw [hts] at RF RA up
      cases e2 : (Z.frz ρ (v.all ++ y.all))[i]? with
      | none => rw [e2] at hP; exact hP.elim
      | some s =>
        rw [e2] at hP
        cases s with
        | un => exact hP.elim
        | slf _ _ _ => exact hP.elim
        | val d => exact hP.elim
        | own d =>
          cases d <;> try (exact hP.elim)
          rename_i xs
          cases e3 : y.d <;> rw [e3] at hP <;> try (exact hP.elim)
          rename_i m
          simp only at hP
          cases e4 : ixOf xs.length m with
          | none => rw [e4] at hP; exact hP.elim
          | some j =>
            rw [e4] at hP
            obtain ⟨p', ws, h4, h5, h6⟩ := own_lst RF e2
            rw [h1] at h4
            have q := L2.V.ref.inj (Option.some.inj (Option.some.inj h4))
            subst q
            refine ⟨p, ws, m, j, rfl, V2.int R2 e3, h5, by rw [h6.length]; exact e4, ?_⟩
            refine hP _ _ _ (RF.mut e2 h1 ⟨_, upd_same, RepL.set ?_ j h6⟩) fun a o q => up _ _ (S2.f _ _ q)
            cases RA with
            | cons r _ => exact r
/-- y = xs.pop(..) -/
theorem popD_ok {ws : List V} {xs : List Z.D} {p : Z.D × List Z.D} {us : List V} {vs : List Z.D} {l : Addr} {H : Hp} {Q : VK} (r : RepL c F ws xs) (ra : RepL c F' us vs) (hl : H l = some (.lst ws)) (h : popD xs vs = some p)
    (k : ∀ y ws', Rep c F y p.1 → RepL c F ws' p.2 → Q y (upd H l (.lst ws'))) : (vs = [] → rPop (.ref l) us H Q) ∧ (vs ≠ [] → rPopAt (.ref l) us H Q) := by
  refine ⟨fun e => ?_, fun e => ?_⟩
  · subst e
    cases ra
    simp only [popD] at h
    cases e : xs[xs.length - 1]? with
    | none => rw [e] at h; cases h
    | some y =>
      rw [e] at h
      cases h
      obtain ⟨w, h1, h2⟩ := r.get e
      exact ⟨l, ws, w, rfl, rfl, hl, by rw [r.length]; exact h1, k _ _ h2 r.dropLast⟩
  · unfold popD at h
    simp only [big_eq] at h
    split at h
    · exact absurd rfl e
    · rename_i i
      split at h
      · rename_i hb
        cases ej : ixOf xs.length i with
        | none => rw [ej] at h; cases h
        | some j =>
          rw [ej] at h
          simp only at h
          rw [Option.map_eq_some_iff] at h
          obtain ⟨y, e1, rfl⟩ := h
          obtain ⟨w, h1, h2⟩ := r.get e1
          cases ra with
          | cons r1 r2 =>
            cases r1
            cases r2
            obtain ⟨s1, s2, s3, s4⟩ := ixN_seq ej
            exact ⟨l, ws, i, j, w, rfl, rfl, hl, hb.1, hb.2, by rw [r.length]; exact s1, h1, k _ _ h2 (r.erase j)⟩
      · cases h
    · cases h
/-- either way of it -/
def rPopE : V → List V → Hp → VK → Prop := fun x vs H Q => (vs = [] → rPop x vs H Q) ∧ (vs ≠ [] → rPopAt x vs H Q)
theorem mt_popE : MtM X "list.pop" rPopE := by
  intro pins s σ H x xs v us Q I rx rv h
  by_cases e : xs = []
  · exact mt_pop pins s σ H x xs v us Q I rx rv (h.1 e)
  · exact mt_popAt pins s σ H x xs v us Q I rx rv (h.2 e)
/-- y = xs.pop(k), y = xs.pop() -/
theorem popa_ok {i j : Nat} {ea : E} {D : Ends} (hk : X.K = c.K) (h : rdS c Wx fu (.popa j i ea) D σ H) : tAsg (tBM X.K "list" rPopE (tVar i) (rdL c Wx ea)) (gName j) D σ H := by
  obtain ⟨F0, H0, ρ, F, W, R, hP⟩ := h
  simp only [evS] at hP
  cases e0 : ρ[i]? with
  | none => rw [e0] at hP; exact hP.elim
  | some s =>
    rw [e0] at hP
    cases s with
    | un => exact hP.elim
    | slf _ _ _ => exact hP.elim
    | val d => exact hP.elim
    | own d =>
      cases d <;> try (exact hP.elim)
      rename_i xs0
      simp only at hP
      obtain ⟨p, ws0, h1, h2, h3⟩ := own_lst R e0
      refine ⟨.ref p, h1, .inl ⟨rfl, ws0, .inl (.inl h2)⟩, st_l R hP fun vs W1 us F1 H1 S1 A ap R1 hP => ?_⟩
      obtain ⟨p', ws, h4, h5, h6⟩ := own_lst R1 e0
      rw [h1] at h4
      have q := L2.V.ref.inj (Option.some.inj (Option.some.inj h4))
      subst q
      cases e4 : popD xs0 (ds vs) with
      | none => rw [e4] at hP; exact hP.elim
      | some q =>
        rw [e4] at hP
        have ra := args_all R R1 S1 A
        have hn : ds vs = [] ↔ us = [] := by
          have := Paired.len A
          unfold ds
          rw [List.map_eq_nil_iff]
          constructor
          · intro z; rw [z] at this; exact List.length_eq_zero_iff.mp this
          · intro z; rw [z] at this; exact List.length_eq_zero_iff.mp this.symm
        simp only [ofS] at hP
        have g : ∀ y ws', Rep c F1 y q.1 → RepL c F1 ws' q.2 → D.nx (σ.set j (some y)) (upd H1 p (.lst ws')) := fun y ws' r1 r2 => hP _ _ _ ((R1.mut (o' := .lst q.2) e0 h1 ⟨_, upd_same, r2⟩).setv r1) S1.f
        obtain ⟨g1, g2⟩ := popD_ok h6 ra h5 e4 (Q := fun y H' => D.nx (σ.set j (some y)) H') g
        exact ⟨fun z => g1 (hn.mpr z), fun z => g2 fun zz => z (hn.mp zz)⟩
theorem s_popa0 {i j : Nat} {z zj : Str} {p2 pj apos cpos : Pos} (hk : X.K = c.K) (hN0 : X.N.Nodup) (hj : X.N[j]? = some zj) (hxj : Loc X.env.scope zj) (hfj : X.fn zj = true ∨ X.env.scope.names.lookup zj = some .local) (hN : X.N[i]? = some z) (hv : Vis X.env.scope z) (hd : (z == ("__debug__" : Str)) = false) (hcd : (z == ("__classdict__" : Str)) = false)
    (hbase : attributeBase (.Name z p2) "pop" X.env (eval (.Name z p2) X.env) = eval (.Name z p2) X.env) (hline : (apos.endLine == cpos.line) = true)
    (hsw : swapsWith (.Call (.Attribute (.Name z p2) "pop" apos) [] [] cpos) (some (.Name zj pj)) pos.line X.env = pure false) :
    PS X (.Assign [.Name zj pj] (.Call (.Attribute (.Name z p2) "pop" apos) [] [] cpos) pos) (rdS c Wx fu (.popa j i .nil)) := by
  refine ps_wk (ps_set hN0 hj hxj (pe_bm0 F.plainAttrs_list F.slot_list_pop (by rfl) mt_popE (pe_var hN hv hd hcd) hbase hline) hsw hfj) fun D σ H h => ?_
  obtain ⟨y, e1, e2, q⟩ := popa_ok hk h
  refine ⟨y, e1, e2, ?_⟩
  obtain ⟨F0, H0, ρ, F, W, R, hP⟩ := q
  simp only [evL] at hP
  exact hP [] F H R.refl ⟨.nil, trivial⟩
theorem s_popa {i j : Nat} {z zj : Str} {a : Expr} {as : List Expr} {ea : E} {p2 pj apos cpos : Pos} (hk : X.K = c.K) (hN0 : X.N.Nodup) (hj : X.N[j]? = some zj) (hxj : Loc X.env.scope zj) (hfj : X.fn zj = true ∨ X.env.scope.names.lookup zj = some .local) (hN : X.N[i]? = some z) (hv : Vis X.env.scope z) (hd : (z == ("__debug__" : Str)) = false) (hcd : (z == ("__classdict__" : Str)) = false)
    (ha : PA X (a :: as) (rdL c Wx ea)) (hbase : attributeBase (.Name z p2) "pop" X.env (eval (.Name z p2) X.env) = eval (.Name z p2) X.env)
    (hfew : ((backTo cpos (starEach (a :: as) X.env)).all (fun x => !x.1) && (backToKw cpos (keywordEach [] X.env)).all (fun x => x.1.isSome)
      && decide ((a :: as).length + ([] : List Keyword).length + (if ([] : List Keyword).isEmpty then 0 else 1) < 30)) = true)
    (hline : (apos.endLine == cpos.line) = true) (hs : starEach (a :: as) X.env = (false, eval a X.env) :: starEach as X.env) (hpl : (backTo cpos (starEach as X.env)).any (·.1) = false)
    (hsw : swapsWith (.Call (.Attribute (.Name z p2) "pop" apos) (a :: as) [] cpos) (some (.Name zj pj)) pos.line X.env = pure false) :
    PS X (.Assign [.Name zj pj] (.Call (.Attribute (.Name z p2) "pop" apos) (a :: as) [] cpos) pos) (rdS c Wx fu (.popa j i ea)) :=
  ps_wk (ps_set hN0 hj hxj (pe_bm F.plainAttrs_list F.slot_list_pop (by rfl) mt_popE (pe_var hN hv hd hcd) ha hbase hfew hline hs hpl) hsw hfj) fun D σ H h => popa_ok hk h
/-- ys.append(xs.pop(k)) -/
theorem s_popp {i j : Nat} {z zj : Str} {a : Expr} {as : List Expr} {ea : E} {p2 pj apos cpos apos2 cpos2 : Pos} (hk : X.K = c.K) (hNj : X.N[j]? = some zj) (hvj : Vis X.env.scope zj) (hdj : (zj == ("__debug__" : Str)) = false) (hcdj : (zj == ("__classdict__" : Str)) = false) (hN : X.N[i]? = some z) (hv : Vis X.env.scope z) (hd : (z == ("__debug__" : Str)) = false) (hcd : (z == ("__classdict__" : Str)) = false)
    (ha : PA X (a :: as) (rdL c Wx ea)) (hbase : attributeBase (.Name z p2) "pop" X.env (eval (.Name z p2) X.env) = eval (.Name z p2) X.env)
    (hfew : ((backTo cpos (starEach (a :: as) X.env)).all (fun x => !x.1) && (backToKw cpos (keywordEach [] X.env)).all (fun x => x.1.isSome)
      && decide ((a :: as).length + ([] : List Keyword).length + (if ([] : List Keyword).isEmpty then 0 else 1) < 30)) = true)
    (hline : (apos.endLine == cpos.line) = true) (hs : starEach (a :: as) X.env = (false, eval a X.env) :: starEach as X.env) (hpl : (backTo cpos (starEach as X.env)).any (·.1) = false)
    (hbase2 : attributeBase (.Name zj pj) "append" X.env (eval (.Name zj pj) X.env) = eval (.Name zj pj) X.env)
    (hfew2 : ((backTo cpos2 (starEach [.Call (.Attribute (.Name z p2) "pop" apos) (a :: as) [] cpos] X.env)).all (fun x => !x.1) && (backToKw cpos2 (keywordEach [] X.env)).all (fun x => x.1.isSome)
      && decide (([.Call (.Attribute (.Name z p2) "pop" apos) (a :: as) [] cpos] : List Expr).length + ([] : List Keyword).length + (if ([] : List Keyword).isEmpty then 0 else 1) < 30)) = true)
    (hline2 : (apos2.endLine == cpos2.line) = true) (hs2 : starEach [.Call (.Attribute (.Name z p2) "pop" apos) (a :: as) [] cpos] X.env = [(false, eval (.Call (.Attribute (.Name z p2) "pop" apos) (a :: as) [] cpos) X.env)])
    (hsw : swapsWith (.Call (.Attribute (.Name zj pj) "append" apos2) [.Call (.Attribute (.Name z p2) "pop" apos) (a :: as) [] cpos] [] cpos2) none pos.line X.env = pure false) :
    PS X (.Expr (.Call (.Attribute (.Name zj pj) "append" apos2) [.Call (.Attribute (.Name z p2) "pop" apos) (a :: as) [] cpos] [] cpos2) pos) (rdS c Wx fu (.popp j i ea)) := by
  refine ps_wk (ps_expr (pe_bm F.plainAttrs_list F.slot_list_append (by rfl) mt_append (pe_var hNj hvj hdj hcdj) (pa_cons (pe_bm F.plainAttrs_list F.slot_list_pop (by rfl) mt_popE (pe_var hN hv hd hcd) ha hbase hfew hline hs hpl) pa_nil hs2) hbase2 hfew2 hline2 hs2 (by rfl)) hsw) fun D σ H ⟨F0, H0, ρ, F, W, R, hP⟩ => ?_
  simp only [evS] at hP
  cases e0 : ρ[i]? with
  | none => rw [e0] at hP; exact hP.elim
  | some s =>
    rw [e0] at hP
    cases s with
    | un => exact hP.elim
    | slf _ _ _ => exact hP.elim
    | val d => exact hP.elim
    | own d =>
      cases d <;> try (exact hP.elim)
      rename_i xs0
      cases e9 : ρ[j]? with
      | none => rw [e9] at hP; exact hP.elim
      | some s =>
        rw [e9] at hP
        cases s with
        | un => exact hP.elim
        | slf _ _ _ => exact hP.elim
        | val d => exact hP.elim
        | own d =>
          cases d <;> try (exact hP.elim)
          rename_i ys0
          simp only at hP
          obtain ⟨p, ws0, h1, h2, h3⟩ := own_lst R e0
          obtain ⟨pj, wj0, j1, j2, j3⟩ := own_lst R e9
          refine ⟨.ref pj, j1, .inl ⟨rfl, wj0, .inl (.inl j2)⟩, .ref p, h1, .inl ⟨rfl, ws0, .inl (.inl h2)⟩, st_l R hP fun vs W1 us F1 H1 S1 A ap R1 hP => ?_⟩
          by_cases hij : i = j
          · rw [if_pos hij] at hP; exact hP.elim
          · rw [if_neg hij] at hP
            cases e4 : popD xs0 (ds vs) with
            | none => rw [e4] at hP; exact hP.elim
            | some q =>
              rw [e4] at hP
              simp only [ofS] at hP
              obtain ⟨p', ws, h4, h5, h6⟩ := own_lst R1 e0
              rw [h1] at h4
              have qq := L2.V.ref.inj (Option.some.inj (Option.some.inj h4))
              subst qq
              have ra := args_all R R1 S1 A
              have hn : ds vs = [] ↔ us = [] := by
                have := Paired.len A
                unfold ds
                rw [List.map_eq_nil_iff]
                constructor
                · intro z; rw [z] at this; exact List.length_eq_zero_iff.mp this
                · intro z; rw [z] at this; exact List.length_eq_zero_iff.mp this.symm
              by_cases hl : ys0.length < cap
              · rw [if_pos hl] at hP
                have g : ∀ y ws', Rep c F1 y q.1 → RepL c F1 ws' q.2 → rAppend (.ref pj) [y] (upd H1 p (.lst ws')) fun _ H' => D.nx σ H' := fun y ws' r1 r2 => by
                  have M := R1.mut (o' := .lst q.2) e0 h1 ⟨_, upd_same, r2⟩
                  have ej : (ρ.set i (.own (.lst q.2)))[j]? = some (.own (.lst ys0)) := by rw [List.getElem?_set_ne hij]; exact e9
                  obtain ⟨p3, w3, k1, k2, k3⟩ := own_lst M ej
                  rw [j1] at k1
                  have qq := L2.V.ref.inj (Option.some.inj (Option.some.inj k1))
                  subst qq
                  exact ⟨pj, w3, y, rfl, rfl, k2, by rw [k3.length, ← cap_eq]; exact hl, hP _ _ _ (M.mut ej j1 ⟨_, upd_same, k3.append (.cons r1 .nil)⟩) S1.f⟩
                obtain ⟨g1, g2⟩ := popD_ok h6 ra h5 e4 (Q := fun y H' => rAppend (.ref pj) [y] H' fun _ H' => D.nx σ H') g
                exact ⟨fun z => g1 (hn.mpr z), fun z => g2 fun zz => z (hn.mp zz)⟩
              · rw [if_neg hl] at hP; exact hP.elim
end
end Z

namespace Z
open PySem PySem.Spec PyProof.Rows L2
open Classical
section
variable {c : Pm} {Wx : WX} {X : Cx} {fu n : Nat} {W W' W1 W2 W3 : Dr} {F0 H0 F H F' H' F1 H1 F2 H2 F3 H3 Hs : Hp} {ρ ρ' : En} {σ σ' : L2.St} {u w : V} {x y v : Vl} {Q : VK} {us : List V} {vs : List Vl} {pos : Pos}

theorem s_while {c0 : Expr} {body : List Stmt} {ec : E} {b : S} (hp : PassesOwn (model X.prog X.w) X.A X.env X.xe) (hc : PT X c0 (rdT c Wx ec)) (hb : PSs X body (rdS c Wx fu b)) : PS X (.While c0 body [] pos) (rdS c Wx fu (.whl ec b)) := by
  refine ps_wk (ps_while hp hc hb) fun D σ H ⟨F0, H0, ρ, F, W, R, hP⟩ => ?_
  simp only [evS] at hP
  refine ⟨fun m σ H => ∃ F0 H0 ρ F W, Rel c F0 H0 ρ σ F H W ∧ PstS c Wx F0 H0 F D (whlGo (evT ec) (evS fu b) m ρ W), ⟨fu, F0, H0, ρ, F, W, R, hP⟩, ?_⟩
  clear hP R
  rintro m σ H ⟨F0, H0, ρ, F, W, R, hP⟩
  cases m with
  | zero => exact hP.elim
  | succ m =>
    simp only [whlGo] at hP
    refine st_t R hP fun k W1 F1 H1 S1 R1 hP => ?_
    cases k with
    | false =>
      simp only [Bool.false_eq_true, if_false] at hP ⊢
      exact hP _ _ _ R1 S1.f
    | true =>
      simp only [if_true] at hP ⊢
      refine ⟨fun σ' H' => ∃ F0 H0 ρ F W, Rel c F0 H0 ρ σ' F H' W ∧ PstS c Wx F0 H0 F D (whlGo (evT ec) (evS fu b) m ρ W), fun σ' H' h => ⟨m, Nat.lt_succ_self m, h⟩, F0, H0, ρ, F1, W1, R1, ?_⟩
      have hP := PstS.up hP S1.f
      cases e : evS fu b ρ W1 with
      | nx ρ1 W1 =>
        rw [e] at hP
        exact fun σ' F' H' R' s => ⟨F0, H0, ρ1, F', W1, R', PstS.up hP s⟩
      | ct ρ1 W1 =>
        rw [e] at hP
        exact fun σ' F' H' R' s => ⟨F0, H0, ρ1, F', W1, R', PstS.up hP s⟩
      | bk ρ1 W1 => rw [e] at hP; exact hP
      | rt v ρ1 W1 => rw [e] at hP; exact hP
      | ex x ρ1 W1 => rw [e] at hP; exact hP
      | stk => rw [e] at hP; exact hP
theorem s_for {tg iter : Expr} {body : List Stmt} {pt : Pat} {src : E} {g : TG} {b : S} {own : List Nat} (hp : PassesOwn (model X.prog X.w) X.A X.env X.xe) (hc : X.calm = true) (hi : PI X tg iter (rdI c Wx src)) (hg : PG X tg g) (gk : GOk c pt own g) (hb : PSs X body (rdS c Wx fu b))
    (hs : ∀ x, foldedSetIterable iter X.env x = pure x) : PS X (.For tg iter body [] pos) (rdS c Wx fu (.for pt src b)) := by
  refine ps_wk (ps_for hp hc hi hg hb hs) fun D σ H ⟨F0, H0, ρ, F, W, R, hP⟩ => ?_
  simp only [evS] at hP
  refine ⟨F0, H0, ρ, F, W, R, st_gen (ok1 := fun _ (p : Wk) (J : It) F' H' => (∀ i ∈ p.me, ∃ x, ρ[i]? = some (.own x)) ∧ (∀ i ∈ p.t, ∃ x, ρ[i]? = some (.own x)) ∧ WkOk c (Fz F' H' σ p.me) (Fz F' H' σ p.t) p.xs J) R hP fun p W1 J F1 H1 S1 ⟨hme, ht, hw⟩ R1 hP => ?_⟩
  obtain ⟨xs, me, t⟩ := p
  simp only at hme ht hw hP
  have hall := own_app hme ht
  have RF := R1.frz hall
  have up : Same F1 (Fz F1 H1 σ (me ++ t)) := Fz_up R1.stp.sub
  have hP := PstS.up hP fun a o q => up _ _ (S1.f _ _ q)
  generalize hFF : Fz F1 H1 σ (me ++ t) = FF at *
  have sB : Same (Fz F1 H1 σ me) FF := hFF ▸ Fz_l R1.stp.sub
  have sB' : Same (Fz F1 H1 σ t) FF := hFF ▸ Fz_r R1.stp.sub
  refine ⟨fun i m σ' H' => m = xs.length - i ∧ i ≤ xs.length ∧ ∃ ρ' F' W', Rel c F0 H0 ρ' σ' F' H' W' ∧ Same FF F' ∧ PstS c Wx F0 H0 F' D (forGo (fun x ρ W => ofS (bindP pt x ρ) fun ρ' => evS fu b ρ' W) (xs.drop i) ρ' W'), ⟨xs.length, by simp, Nat.zero_le _, _, FF, W1, RF, Same.refl _, hP⟩, ?_⟩
  clear hP
  rintro i m σ' H' ⟨rfl, hil, ρ', F', W', R', sF, hP⟩
  have sBH : Same (Fz F1 H1 σ me) H' := fun a o q => R'.stp.sub _ _ (sF _ _ (sB _ _ q))
  by_cases hlt : i < xs.length
  · obtain ⟨x, hx⟩ : ∃ x, xs[i]? = some x := ⟨xs[i], List.getElem?_eq_getElem hlt⟩
    obtain ⟨hgo, hy⟩ := hw.go i x H' hx sBH
    have hdrop : xs.drop i = x :: xs.drop (i + 1) := by
      rw [List.drop_eq_getElem_cons hlt]
      congr 1
      exact Option.some.inj ((List.getElem?_eq_getElem hlt).symm.trans hx)
    rw [hdrop] at hP
    simp only [forGo] at hP
    refine .inr ⟨hgo, fun σ2 H2 => ∃ ρ' F' W', Rel c F0 H0 ρ' σ2 F' H2 W' ∧ Same FF F' ∧ PstS c Wx F0 H0 F' D (forGo (fun x ρ W => ofS (bindP pt x ρ) fun ρ' => evS fu b ρ' W) (xs.drop (i + 1)) ρ' W'), fun σ2 H2 h => ⟨xs.length - (i + 1), by omega, rfl, hlt, h⟩, fun u H2 hyu => ?_⟩
    obtain ⟨F2, S2, r2⟩ := Item.step R' (hy u H2 hyu) fun a o q => sF _ _ (sB' _ _ q)
    have R2 := R'.step S2
    cases hb : bindP pt x ρ' with
    | none => rw [hb] at hP; exact hP.elim
    | some ρ2 =>
      rw [hb] at hP
      simp only [ofS] at hP
      refine gk R2 r2 hb fun σ2 R3 _ _ _ => ⟨F0, H0, ρ2, F2, W', R3, ?_⟩
      have sF2 : Same FF F2 := fun a o q => S2.f _ _ (sF _ _ q)
      cases e : evS fu b ρ2 W' with
      | nx ρ1 W1 =>
        rw [e] at hP
        exact fun σ3 F3 H3 R3 s => ⟨ρ1, F3, W1, R3, fun a o q => s _ _ (sF2 _ _ q), PstS.up hP fun a o q => s _ _ (S2.f _ _ q)⟩
      | ct ρ1 W1 =>
        rw [e] at hP
        exact fun σ3 F3 H3 R3 s => ⟨ρ1, F3, W1, R3, fun a o q => s _ _ (sF2 _ _ q), PstS.up hP fun a o q => s _ _ (S2.f _ _ q)⟩
      | bk ρ1 W1 =>
        rw [e] at hP
        exact fun σ3 F3 H3 R3 s => hP _ _ _ R3 fun a o q => s _ _ (S2.f _ _ q)
      | rt v ρ1 W1 => rw [e] at hP; exact hP
      | ex x ρ1 W1 => rw [e] at hP; exact hP
      | stk => rw [e] at hP; exact hP
  · have e : i = xs.length := by omega
    subst e
    rw [List.drop_length] at hP
    simp only [forGo] at hP
    exact .inl ⟨hw.stop H' sBH, hP _ _ _ R' (Same.refl _)⟩
/-- raise X('..'), X without an __init__ of its own -/
theorem s_raise {C : Addr} {nm : Str} {bmB : List Value} {B newId initId : String} {x m : Str} {j : Nat} {p p2 pos2 : Pos} (hc : X.calm = true) (tk : Takes X Wx) (F : ExcBaseFacts B newId initId bmB) (q : PySem.W.excIn X.K C bmB newId = true) (gC : X.mg x = some (.ref C)) (kC : PySem.W.keepIn X.K (.ref C) = true) (r : Raises X (.ref C)) (hg : Gl X x)
    (hdb : (x == ("__debug__" : Str)) = false) (hn : c.cx nm = some C) : PS X (.Raise (some (.Call (.Name x p) [.Constant (.str m) j p2] [] pos2)) none pos) (rdS c Wx fu (.raise nm [] .nil)) := by
  refine ps_wk (ps_raise hc tk (pmk_own F q gC kC r hg hdb)) fun D σ H ⟨F0, H0, ρ, F, W, R, hP⟩ => ?_
  simp only [evS, evL] at hP
  exact hP _ _ σ F H R ⟨C, hn, rfl, rfl⟩
end
end Z

namespace Z
open PySem PySem.Spec PyProof.Rows L2
open Classical
section
variable {c : Pm} {Wx : WX} {X : Cx} {fu n k : Nat} {W W' W1 W2 W3 : Dr} {F0 H0 F H F' H' F1 H1 F2 H2 F3 H3 Hs : Hp} {ρ ρ' : En} {σ σ' : L2.St} {u w : V} {x y v : Vl} {Q : VK} {us : List V} {vs : List Vl} {pos : Pos}

theorem RepL.at : ∀ {vs : List V} {xs : List D} {i : Nat} {s : Sl} {m : Nat}, RepL c F vs xs → (xs.map Sl.val ++ List.replicate m .un)[i]? = some s → SlotOk c H0 F H s (vs.map some ++ List.replicate m none)[i]?
  | _, _, i, s, m, .nil, e => by
    simp only [List.map_nil, List.nil_append] at e ⊢
    rw [List.getElem?_replicate] at e ⊢
    split at e
    · cases e
      rename_i h
      rw [if_pos h]
      exact fun z => nomatch z
    · cases e
  | _, _, 0, s, m, .cons (v := v) h r, e => by
    simp at e
    subst e
    exact ⟨v, rfl, h⟩
  | _, _, i + 1, s, m, .cons h r, e => by
    simp only [List.map_cons, List.cons_append, List.getElem?_cons_succ] at e ⊢
    exact RepL.at r e
theorem rel_start {N : List Str} {xs : List D} (r : RepL c F us xs) (S : Stp c W F H F H) : Rel c F H (xs.map Sl.val ++ List.replicate (N.length - xs.length) .un) (L2.start N us) F H W := by
  unfold L2.start
  rw [r.length]
  refine ⟨by simp [r.length], S, fun i s e => RepL.at r e, fun i j d1 d2 p e1 e2 _ _ => ?_⟩
  have := RepL.at (H := H) (H0 := H) r e1
  obtain ⟨q, q1, _⟩ := this
  rw [List.getElem?_append] at e1
  split at e1
  · rw [List.getElem?_map, Option.map_eq_some_iff] at e1
    obtain ⟨_, _, z⟩ := e1
    cases z
  · rw [List.getElem?_replicate] at e1
    split at e1 <;> cases e1
theorem body_ok {N : List Str} {b : S} {ps : Nat} {E : XK} (h : spG c (run fu N.length ps b) us H Q E) : us.length = ps ∧ rdS c (fun cls dd _ H' => E cls dd H') fu b { nx := fun _ H' => Q .non H', rt := Q } (L2.start N us) H := by
  obtain ⟨F, xs, W, r, S, hP⟩ := h
  unfold run at hP
  by_cases hl : xs.length = ps
  · rw [if_pos hl] at hP
    refine ⟨by rw [r.length, hl], F, H, _, F, W, rel_start r S, ?_⟩
    rw [hl]
    cases e : evS fu b (xs.map Sl.val ++ List.replicate (N.length - ps) .un) W with
    | nx ρ' W' =>
      rw [e] at hP
      exact fun σ' F' H' R' s => hP .non F' H' R'.stp .non
    | bk ρ' W' => rw [e] at hP; exact hP.elim
    | ct ρ' W' => rw [e] at hP; exact hP.elim
    | stk => rw [e] at hP; exact hP.elim
    | ex x ρ' W' =>
      rw [e] at hP
      exact fun cls dd σ' F' H' R' hx => hP cls dd F' H' R'.stp hx
    | rt v ρ' W' =>
      rw [e] at hP
      simp only at hP
      intro u σ' F' H' R' V N
      have RF := R'.frz V.t_own
      have a := V.at_
      cases hk : v.k with
      | pl =>
        rw [hk] at hP a
        exact hP u _ H' RF.stp a
      | me i =>
        rw [hk] at hP a
        obtain ⟨a1, a2, a3⟩ := a
        obtain ⟨p, q1, q2, q3, q4, q5⟩ := R'.own a2
        rw [a3] at q1
        cases q1
        exact hP _ F' H' R'.stp ⟨p, rfl, q2, q3, q4, q5⟩
      | fr =>
        rw [hk] at hP a
        obtain ⟨p, rfl, e2, e3, e4, e5⟩ := a
        refine hP _ _ H' RF.stp ⟨p, rfl, ?_, e3, e4, e5⟩
        rw [Fz_out]
        · exact e2
        · rintro ⟨j, z1, z2⟩
          obtain ⟨d, hd⟩ := V.t_own j z1
          exact N hk p rfl j d hd z2
  · rw [if_neg hl] at hP; exact hP.elim
theorem spG_len {N : Nat} {b : S} {ps : Nat} {E : XK} (h : spG c (run fu N ps b) us H Q E) : us.length = ps := by
  obtain ⟨F, xs, W, r, S, hP⟩ := h
  unfold run at hP
  by_cases hl : xs.length = ps
  · rw [r.length, hl]
  · rw [if_neg hl] at hP; exact hP.elim
/-- a def of the text that keeps its worth as a promise -/
theorem fn_ok {P : Program} {w : World} {K : PySem.W.Frag} {mg : Str → Option Value} {base : Heap} {x qual : Str} {st : Stmt} {f : Addr} {fd : FuncData} {N ps : List Str} {b : S} (F : Fun K x qual st f fd) (S : FnScope N ps (defScope st))
    (hb : ∀ (cdv : Value) (A : Around) (outer : List Env) (s : Shared) (H : Hp) (E : XK), Room k (A.deeper (envOfC qual (defScope st) s.heap.objs.size f cdv)) →
      Takes (cxOf (L2.CX P w) P w K mg base N qual (defScope st) f cdv A outer s H E) (fun cls dd _ H' => E cls dd H') →
      PSs (cxOf (L2.CX P w) P w K mg base N qual (defScope st) f cdv A outer s H E) (defBody st) (rdS c (fun cls dd _ H' => E cls dd H') fu b)) :
    FnOk P w K mg base (L2.CX P w) (k + 1) f fd ps (spG c (run fu N.length ps.length b)) :=
  F.okX S (fun vs H Q E h => spG_len h) fun cdv A outer s H vs Q E hr h => ⟨_, hb cdv A outer s H E hr (takes_of rfl rfl rfl rfl), (body_ok h).2⟩

/-- a def that can be called by its name -/
structure Cal (c : Pm) (P : Program) (w : World) (K : PySem.W.Frag) (mg : Str → Option Value) (base : Heap) (k : Nat) (x : Str) (ps : List Str) (g : G) : Prop where
  ex : ∃ (f : Addr) (fd : FuncData), mg x = some (.ref f) ∧ PySem.W.keepIn K (.ref f) = true ∧ Binds K fd ps [] ∧ FnOk P w K mg base (L2.CX P w) k f fd ps (spG c g)
theorem Cal.mono {P : Program} {w : World} {K : PySem.W.Frag} {mg : Str → Option Value} {base : Heap} {j : Nat} {x : Str} {ps : List Str} {g : G} (h : Cal c P w K mg base j x ps g) (hk : j ≤ k) : Cal c P w K mg base k x ps g := by
  obtain ⟨f, fd, h1, h2, h3, h4⟩ := h.ex
  exact ⟨f, fd, h1, h2, h3, h4.mono hk⟩
theorem call_ok {g : G} {ea : E} (h : rdE c Wx (.call g ea) σ H Q) : tCallS (spG c g) (WE Wx) (rdL c Wx ea) σ H Q := by
  obtain ⟨F0, H0, ρ, F, W, R, hP⟩ := h
  simp only [ev] at hP
  refine rd_l R R.refl hP fun vs W1 us F1 H1 S1 _ A R1 hP => ?_
  have RF := (Ft_rel R R1 S1 A).frz (ts_own A)
  exact ⟨_, ds vs, W1, args_all R R1 S1 A, RF.stp.refl, call_end (g := g) R S1 A (ts_own A) hP⟩
theorem e_call {x : Str} {ps : List Str} {g : G} {e : Expr} {es : List Expr} {ea : E} {p : Pos} (h : Cal c X.prog X.w X.K X.mg X.base k x ps g) (hr : Room k X.A) (tk : Takes X Wx) (hg : Gl X x) (ha : PA X (e :: es) (rdL c Wx ea)) (hdb : (x == ("__debug__" : Str)) = false)
    (he : starEach (e :: es) X.env = (false, eval e X.env) :: starEach es X.env) (hpl : (backTo pos (starEach es X.env)).any (·.1) = false) : PE X (.Call (.Name x p) (e :: es) [] pos) (rdE c Wx (.call g ea)) := by
  obtain ⟨f, fd, h1, h2, h3, h4⟩ := h.ex
  exact pe_wk (pe_callS h4 hr hg h1 h2 h3 (fun σ => passAt tk σ) ha hdb he hpl) fun σ H Q h => call_ok h
end
end Z

namespace Z
open PySem PySem.Spec PyProof.Rows L2
open Classical
section
variable {c : Pm} {Wx : WX} {X : Cx} {fu n k : Nat} {W W' W1 W2 W3 : Dr} {F0 H0 F H F' H' F1 H1 F2 H2 F3 H3 Hs : Hp} {ρ ρ' : En} {σ σ' : L2.St} {u w : V} {x y v : Vl} {Q : VK} {us : List V} {vs : List Vl} {pos : Pos}

/-- what the written part says of an instance's class -/
structure InsT (K : PySem.W.Frag) (C : Addr) : Prop where
  cl : Cls K C
  ha : PySem.W.findIn K (.ref C) "__class__" = some (some (.builtin "object.__class__"))
  hn : PySem.W.specialIn K (.builtin "object.__class__") "__get__" = some (some (.builtin "getset_descriptor.__get__"))
  ht : PySem.W.takesIn K (.builtin "object.__class__") = some true
  hm : PySem.W.mroIn K C (.type "object") = some true
theorem ValOk.ins {nm : Str} {fs : List (Str × D)} (R : Rel c F0 H0 ρ σ F H W) (k : ValOk c ρ σ Hs F H u v) (e : v.d = .ins nm fs) : ∃ a C dx gs, u = .ref a ∧ Fz F H σ v.t a = some (.ins C dx gs) ∧ c.ca nm = some C ∧ RepF c (Fz F H σ v.t) gs fs := (k.rep R e fun _ _ _ h => h).insI
theorem RepF.look' {gs : List (Str × V)} {fs : List (Str × D)} {f : Str} {d : D} (r : RepF c F gs fs) (h : fs.lookup f = some d) : ∃ v, gs.lookup f = some v ∧ Rep c F v d := r.look h
/-- o.f -/
theorem e_attr {f : Str} {a : Expr} {ea : E} (hk : X.K = c.K) (ha : PE X a (rdE c Wx ea)) (hb : attributeBase a f X.env (eval a X.env) = eval a X.env) (hc : ∀ n C, c.ca n = some C → Cls c.K C ∧ NoAttr c.K C f) : PE X (.Attribute a f pos) (rdE c Wx (.attr ea f)) := by
  refine pe_wk (pe_fld ha hb) fun σ H Q ⟨F0, H0, ρ, F, W, R, hP⟩ => ?_
  simp only [ev] at hP
  refine rd_e R R.refl hP fun x W1 u F1 H1 S1 _ V1 R1 hP => ?_
  obtain ⟨d, hd, hP⟩ := ofO_some hP
  cases e : x.d <;> rw [e] at hd <;> try (cases hd; done)
  · rename_i nm fs
    obtain ⟨p, C, dx, gs, rfl, h1, h2, h3⟩ := V1.ins R1 e
    obtain ⟨w, q1, q2⟩ := h3.look hd
    obtain ⟨c1, c2⟩ := hc _ _ h2
    exact ⟨p, C, dx, gs, w, rfl, Fz_dn R1.stp.sub _ _ h1, hk ▸ c1, hk ▸ c2, q1, fin_vl R1 S1 V1.t_own hP q2⟩

/-- a method of the class nm -/
structure Mth (c : Pm) (P : Program) (w : World) (mg : Str → Option Value) (base : Heap) (k : Nat) (nm m : Str) (ps : List Str) (g : G) : Prop where
  ex : ∃ (C f : Addr) (fd : FuncData), c.ca nm = some C ∧ Cls c.K C ∧ Meth c.K C m f ∧ Binds c.K fd ps [] ∧ FnOk P w c.K mg base (L2.CX P w) k f fd ps (spG c g)
theorem Mth.mono {P : Program} {w : World} {mg : Str → Option Value} {base : Heap} {j : Nat} {nm m : Str} {ps : List Str} {g : G} (h : Mth c P w mg base j nm m ps g) (hk : j ≤ k) : Mth c P w mg base k nm m ps g := by
  obtain ⟨C, f, fd, h1, h2, h3, h4, h5⟩ := h.ex
  exact ⟨C, f, fd, h1, h2, h3, h4, h5.mono hk⟩
def tMth (C : Addr) (m : Str) (sp : Sp) (E : L2.St → XK) (ta : TE) (t : TA) : TE := fun σ H Q => ta σ H fun x H1 => ∃ a dx fs, x = .ref a ∧ H1 a = some (.ins C dx fs) ∧ fs.lookup m = none ∧ t σ H1 fun vs H2 => sp (x :: vs) H2 Q (E σ)
theorem mth_ok {C : Addr} {nm m : Str} {g : G} {ea es : E} (hC : c.ca nm = some C) (h : rdE c Wx (.mth m nm g ea es) σ H Q) : tMth C m (spG c g) (WE Wx) (rdE c Wx ea) (rdL c Wx es) σ H Q := by
  obtain ⟨F0, H0, ρ, F, W, R, hP⟩ := h
  simp only [ev] at hP
  refine rd_e R R.refl hP fun x W1 u F1 H1 S1 _ V1 R1 hQ => ?_
  cases e : x.d <;> rw [e] at hQ <;> try (exact hQ.elim)
  rename_i n' fs
  simp only at hQ
  by_cases hc : n' = nm ∧ fs.lookup m = none
  · rw [if_pos hc] at hQ
    obtain ⟨rfl, hl⟩ := hc
    obtain ⟨p, C', dx, gs, rfl, h1, h2, h3⟩ := V1.ins R1 e
    rw [hC] at h2
    cases h2
    refine ⟨p, dx, gs, rfl, Fz_dn R1.stp.sub _ _ h1, h3.lookN hl, ?_⟩
    refine rd_l R1 S1 hQ fun vs W2 us F2 H2 S2 S12 A R2 hQ => ?_
    have AA : ArgOk c ρ σ H F2 H2 (.ref p :: us) (x :: vs) := .cons (V1.step R1 S12) A
    have RF := (Ft_rel R R2 S2 AA).frz (ts_own AA)
    refine ⟨_, ds (x :: vs), W2, args_all R R2 S2 AA, RF.stp.refl, call_end (g := g) R S2 AA (ts_own AA) ?_⟩
    have : ds (x :: vs) = .ins n' fs :: ds vs := by unfold ds; rw [List.map_cons, e]
    rw [this]
    exact hQ
  · rw [if_neg hc] at hQ; exact hQ.elim
theorem e_mth0 {nm m : Str} {ps : List Str} {g : G} {o : Expr} {ea : E} {apos : Pos} {pl : Sem Bool} (h : Mth c X.prog X.w X.mg X.base k nm m ps g) (hk : X.K = c.K) (hr : Room k X.A) (tk : Takes X Wx) (ho : PE X o (rdE c Wx ea))
    (ht : eval (.Call (.Attribute o m apos) [] [] pos) X.env = (do
      let ov ← eval o X.env
      standAt apos.atName
      let (f, first) ← holding [ov] (getMethod ov m pl)
      callWith pos f first (backTo pos (starEach [] X.env)) (backToKw pos (keywordEach [] X.env)))) : PE X (.Call (.Attribute o m apos) [] [] pos) (rdE c Wx (.mth m nm g ea .nil)) := by
  obtain ⟨C, f, fd, h1, h2, h3, h4, h5⟩ := h.ex
  rw [← hk] at h2 h3 h4 h5
  refine ⟨fun pins s σ H Q I q => ?_⟩
  have q := mth_ok h1 q
  refine PySem.W.methodCall_KW (pl := pl) (thn (ho.run pins s σ H _ I q) fun u s1 ⟨xx, H1, I1, rx, p, dx, fs, ex, ea, l, q⟩ => ?_) ht
  subst ex
  obtain rfl : u = Value.ref p := rx
  refine getmeth_ok I1 ea h2 h3 l ?_
  have q : spG c g [V.ref p] H1 Q (WE Wx σ) := by
    obtain ⟨F0, H0, ρ, F, W, R, hP⟩ := q
    simp only [evL] at hP
    exact hP [] F H1 R.refl ⟨.nil, trivial⟩
  exact PySem.W.callWith_K0 (first := [.ref p]) I1.kIn h3.kp (run_fnS (us := [.ref p]) (vs := [.ref p]) h5 hr h4 (passAt tk σ) I1 (.cons rfl .nil) q)
theorem e_mth {nm m : Str} {ps : List Str} {g : G} {o a : Expr} {as : List Expr} {ea eas : E} {apos : Pos} {pl : Sem Bool} (h : Mth c X.prog X.w X.mg X.base k nm m ps g) (hk : X.K = c.K) (hr : Room k X.A) (tk : Takes X Wx) (ho : PE X o (rdE c Wx ea)) (ha : PA X (a :: as) (rdL c Wx eas))
    (hst : starEach (a :: as) X.env = (false, eval a X.env) :: starEach as X.env) (hpl : (backTo pos (starEach as X.env)).any (·.1) = false)
    (ht : eval (.Call (.Attribute o m apos) (a :: as) [] pos) X.env = (do
      let ov ← eval o X.env
      standAt apos.atName
      let (f, first) ← holding [ov] (getMethod ov m pl)
      callWith pos f first (backTo pos (starEach (a :: as) X.env)) (backToKw pos (keywordEach [] X.env)))) : PE X (.Call (.Attribute o m apos) (a :: as) [] pos) (rdE c Wx (.mth m nm g ea eas)) := by
  obtain ⟨C, f, fd, h1, h2, h3, h4, h5⟩ := h.ex
  rw [← hk] at h2 h3 h4 h5
  refine ⟨fun pins s σ H Q I q => ?_⟩
  have q := mth_ok h1 q
  refine PySem.W.methodCall_KW (pl := pl) (thn (ho.run pins s σ H _ I q) fun u s1 ⟨xx, H1, I1, rx, p, dx, fs, ex, ea, l, q⟩ => ?_) ht
  subst ex
  obtain rfl : u = Value.ref p := rx
  refine getmeth_ok I1 ea h2 h3 l ?_
  refine PySem.W.callWith_K (first := [.ref p]) (h₀ := X.base) I.ok.mod.kin h3.kp (thn (ha.run pos pins s1 σ H1 _ I1 q) fun ws s2 ⟨zs, H2, I2, r, q2⟩ => ⟨I2.kIn, ?_⟩) hst hpl
  exact run_fnS (us := .ref p :: ws) (vs := .ref p :: zs) h5 hr h4 (passAt tk σ) I2 (.cons rfl r) q2
end
end Z

namespace Z
open PySem PySem.Spec PyProof.Rows L2
open Classical
section
open PySem.W
variable {prog : Program} {w : World} {A : Around} {E : Value → Shared → Prop} {s : Shared} {K : Frag} {D x : Addr} {ox : Obj} {od : Option Obj} {Q : Option Value → Shared → Prop}
theorem find_cls (e : ExcC K D) : findObj K D od "__class__" = some (.bind (.builtin "getset_descriptor.__get__") (.builtin "object.__class__")) := by
  have hc : (clsIn K D).isSome = true := by
    obtain ⟨cd, hc, _⟩ := any_some e.hd
    rw [hc] <;> rfl
  cases od with
  | none => exact findObj_dataN hc e.ha e.hn e.ht
  | some o => exact findObj_data hc e.ha e.hn e.ht
theorem exc_cls (e : ExcC K D) (X : K.In s.heap) (I : InstAt s.heap x ox D od) (h : Q (some (.ref D)) { s with toks := s.toks + 1 }) : wpAny (model prog w) A (getAttr? (.ref x) "__class__") Q E s := by
  obtain ⟨hp, g, d, t, os⟩ := s
  have T0 := I.type (M := model prog w)
  have base : Looks (model prog w) hp (isInstance (.ref x) (.type "BaseException")) true := T0.andThen (looks_subIn X e.hs)
  have no : (Value.builtin "BaseException.__getattribute__" == Value.builtin "object.__getattribute__") = false := by decide +kernel
  unfold getAttr? getAttrBy? getAttrBy
  refine wpAny_bind (wpAny_mkText (wpAny_bind (wpAny_attempt (wpAny_holding (wpAny_bind (T0.at (wpAny_bind ((looks_findIn (M := model prog w) X e.hg).at ?_))))))))
  show wpAny _ _ (if (onTheHeap (Value.ref D) && Value.builtin "BaseException.__getattribute__" == Value.builtin "object.__getattribute__") = true then _ else _) _ _ _
  rw [show (onTheHeap (Value.ref D) && Value.builtin "BaseException.__getattribute__" == Value.builtin "object.__getattribute__") = false by rw [no]; rfl, if_neg Bool.false_ne_true]
  unfold getAttrByItsOwn hookBefore
  refine wpAny_bind ?_
  rw [if_pos (show onTheHeap (Value.ref D) = true from rfl)]
  refine (looks_findIn (M := model prog w) X e.hk).at (wpAny_bind (wpAny_attempt (wpAny_holding ?_)))
  unfold callGetattribute
  rw [show (false && onTheHeap (Value.builtin "BaseException.__getattribute__")) = false from rfl, if_neg Bool.false_ne_true]
  unfold boundAndCalled
  rw [PySem.F.excAttr_ValueError.ga.bind (.ref x)]
  refine wpAny_bind (wpAny_pure ?_)
  show wpAny _ _ (call (.builtin "BaseException.__getattribute__") [.ref x, .str "__class__" t]) _ _ _
  refine wpAny_call (codeAny_call_builtin PySem.F.excAttr_ValueError.ga.plain PySem.F.entry_bexc_ga ?_)
  refine @check_slot (model prog w) _ _ ⟨hp, g, d, t + 1, os⟩ "BaseException.__getattribute__" "BaseException" "__getattribute__" (.ref x) [.str "__class__" t] [] _ (by decide +kernel) (by decide +kernel) base (PySem.F.args_bexc_ga (.ref x) (.str "__class__" t)) ?_
  unfold Builtin.«object.__getattribute__»
  refine wpAny_bind (wpAny_of_eq (a := ((Value.ref x : Value), [Value.str "__class__" t])) (by first | rfl | (simp only [slotArgs]; rfl)) ?_)
  refine wpAny_bind (wpAny_pure (wpAny_bind (T0.at (wpAny_bind ((looks_find (M := model prog w) X I (find_cls e)).at ?_)))))
  show wpAny _ _ (holding [Value.builtin "object.__class__"] (call (.builtin "getset_descriptor.__get__") [.builtin "object.__class__", .ref x, .ref D]) >>= ret) _ _ _
  refine wpAny_bind (wpAny_holding (wpAny_call (class_get (s := ⟨hp, g, d, t + 1, os⟩) (ox := ox) (od := od) X I e.hm (wpAny_pure ?_))))
  show wpAny _ _ (handedOut (.ref D)) _ _ _
  rw [handedOut_of (v := .ref D) rfl]
  first
    | exact wpAny_pure (wpAny_pure h)
    | exact wpAny_pure h
    | exact wpAny_pure (wpAny_bind (wpAny_pure (wpAny_pure h)))
theorem kit_exc1 (e : ExcC K D) : KitX K (.ref x) (.ref D) (fun h => ∃ o, InstAt h x ox D (some o)) where
  ty := fun _ _ _ ⟨_, I⟩ => I.type
  it := fun _ _ X _ => by
    obtain ⟨cd, hc, _⟩ := any_some e.hd
    unfold clsIn at hc
    split at hc
    · rename_i ho
      intro A' Q' E' s' k q
      unfold isType loadHead
      exact wpAny_bind (wpAny_loadPart (k _ _ (X _ _ ho)) (wpAny_pure q))
    · cases hc
  ne := fun h tp dd its n sl X ht => by
    obtain ⟨cd, hc, _⟩ := any_some e.hd
    refine Bool.eq_false_iff.mpr fun q => ?_
    obtain rfl : D = tp := Value.ref.inj (beq_iff_eq.mp q)
    unfold clsIn at hc
    split at hc
    · rename_i ho
      cases (X _ _ ho).symm.trans ht
    · cases hc
  ca := fun X ⟨_, I⟩ k => exc_cls e X I k
end
section
variable {c : Pm} {Wx : WX} {X : Cx} {fu n k : Nat} {W W' W1 W2 W3 : Dr} {F0 H0 F H F' H' F1 H1 F2 H2 F3 H3 Hs : Hp} {ρ ρ' : En} {σ σ' : L2.St} {u w : V} {x y v : Vl} {Q : VK} {us : List V} {vs : List Vl} {pos : Pos}

/-- a value's type: as the kit tells it, or an error's class -/
inductive TyZ (K : PySem.W.Frag) (H : Hp) : V → Value → Prop where
  | base {x : V} {t : Value} (h : TyX K H x t) : TyZ K H x t
  | exc {a C : Addr} (h : H a = some (XO (.ref C) none a)) (e : ExcC K C) : TyZ K H (.ref a) (.ref C)
  | exc1 {a C dd : Addr} {gs : List (Str × V)} (h : H a = some (XO (.ref C) (some dd) a)) (h2 : H dd = some (.xd gs)) (e : ExcC K C) : TyZ K H (.ref a) (.ref C)
theorem kit_z {pins : List (Addr × Obj)} {s : Shared} {x : V} {u t : Value} (I : Inv X pins σ H s) (rx : RelV x u) (ty : TyZ X.K H x t) : ∃ P : Heap → Prop, PySem.W.KitX X.K u t P ∧ P s.heap ∧ u ≠ .builtin "__main__.__loader__#opaque" := by
  cases ty with
  | base h => exact kit_of I rx h
  | @exc a C h e =>
    cases (show u = Value.ref a from rx)
    obtain ⟨⟨oe, vs, e1, ⟨h1, h2⟩, h3⟩, _, _⟩ := I.hok a _ h
    obtain ⟨oc, od, oda, osl⟩ := oe
    dsimp only at h1 h2 h3
    subst h1 h2 h3
    exact ⟨_, PySem.W.handS_kitx_exc e.hg e.hk e.hs e.hd e.ha e.hn e.ht e.hm, ⟨e1, rfl, rfl, trivial⟩, fun z => nomatch z⟩
  | @exc1 a C dd gs h hd e =>
    cases (show u = Value.ref a from rx)
    obtain ⟨⟨oe, vs, e1, ⟨h1, h2⟩, h3⟩, _, _⟩ := I.hok a _ h
    obtain ⟨oc, od, oda, osl⟩ := oe
    dsimp only at h1 h2 h3
    subst h1 h2 h3
    obtain ⟨mA, hns, _⟩ := (show ObjOk X.prog X.w H s.heap dd (.xd gs) from I.hok dd _ hd)
    obtain ⟨o, ho, _⟩ := lookIn_ns hns
    exact ⟨_, kit_exc1 e, ⟨o, e1, rfl, rfl, ho⟩, fun z => nomatch z⟩
def rIsZ (K : PySem.W.Frag) : List V → Hp → VK → Prop := fun xs H Q => ∃ (x d : V) (t u : Value) (b : Bool), xs = [x, d] ∧ ClsV d u ∧ TyZ K H x t ∧ PySem.W.kitOne K t u = some b ∧ Q (.bl b) H
def rIsZT (K : PySem.W.Frag) : List V → Hp → VK → Prop := fun xs H Q => ∃ (x : V) (tp : Addr) (cs : List V) (t : Value) (us : List Value) (b : Bool), xs = [x, .ref tp] ∧ H tp = some (.tup cs) ∧ Paired ClsV cs us ∧ TyZ K H x t ∧ PySem.W.kitAny K t us = some b ∧ Q (.bl b) H
theorem call_isZ : CallR X (.builtin "isinstance") (rIsZ X.K) := by
  intro pins s σ H xs us Q I r ⟨x, d, t, u, b, e1, k, ty, e, q⟩
  subst e1
  obtain ⟨u1, u2, rfl, r1, r2⟩ := vals2 r
  cases k.eq r2
  obtain ⟨P, Zk, p, hx⟩ := kit_z I r1 ty
  exact PySem.W.kia_one Zk I.kIn p e hx fun tk => ⟨.bl b, H, I.tok tk, rfl, q⟩
theorem call_isZT : CallR X (.builtin "isinstance") (rIsZT X.K) := by
  intro pins s σ H xs us Q I r ⟨x, tp, cs, t, ws, b, e1, hT, k, ty, e, q⟩
  subst e1
  obtain ⟨u1, u2, rfl, r1, r2⟩ := vals2 r
  cases (show u2 = Value.ref tp from r2)
  obtain ⟨P, Zk, p, hx⟩ := kit_z I r1 ty
  obtain ⟨_, its, rv, o, h1, h2, n, h3⟩ := (show ObjOk X.prog X.w H s.heap tp (.tup cs) from I.hok tp _ hT)
  cases ClsV.all k rv
  obtain ⟨oc, od, dt, sl⟩ := o
  simp only at h2 h3
  subst h2 h3
  exact PySem.W.kia_tup Zk I.kIn p h1 e hx fun tk => ⟨.bl b, H, I.tok tk, rfl, q⟩

def tyD (c : Pm) : D → Option Value
  | .non => some (.type "NoneType")
  | .bl _ => some (.type "bool")
  | .int _ => some (.type "int")
  | .str _ => some (.type "str")
  | .tup _ => some (.type "tuple")
  | .lst _ => some (.type "list")
  | .dic _ _ => some (.type "dict")
  | .ins n _ => (c.ca n).map .ref
  | .exc n _ => (c.cx n).map .ref
  | _ => none
/-- the classes of the law -/
structure Kls (c : Pm) : Prop where
  ins : ∀ n C, c.ca n = some C → InsT c.K C
  exc : ∀ n C, c.cx n = some C → ExcC c.K C
/-- what isinstance answers for one class -/
structure IsF (c : Pm) (tt : Ty) (u : Value) : Prop where
  non : PySem.W.kitOne c.K (.type "NoneType") u = some (isD1 .non tt)
  bl : PySem.W.kitOne c.K (.type "bool") u = some (isD1 (.bl true) tt)
  int : PySem.W.kitOne c.K (.type "int") u = some (isD1 (.int 0) tt)
  str : PySem.W.kitOne c.K (.type "str") u = some (isD1 (.str default) tt)
  tup : PySem.W.kitOne c.K (.type "tuple") u = some (isD1 (.tup []) tt)
  lst : PySem.W.kitOne c.K (.type "list") u = some (isD1 (.lst []) tt)
  dic : PySem.W.kitOne c.K (.type "dict") u = some (isD1 (.dic false []) tt)
  ins : ∀ n C, c.ca n = some C → PySem.W.kitOne c.K (.ref C) u = some (isD1 (.ins n []) tt)
  exc : ∀ n C, c.cx n = some C → PySem.W.kitOne c.K (.ref C) u = some (isD1 (.exc n []) tt)
theorem isD1_eq {c : Pm} {tt : Ty} {u t : Value} {d : D} (f : IsF c tt u) (h : tyD c d = some t) : PySem.W.kitOne c.K t u = some (isD1 d tt) := by
  cases d <;> simp only [tyD] at h
  case non => cases h; exact f.non
  case bl b => cases h; rw [f.bl]; cases tt <;> rfl
  case int i => cases h; rw [f.int]; cases tt <;> rfl
  case str i => cases h; rw [f.str]; cases tt <;> rfl
  case tup i => cases h; rw [f.tup]; cases tt <;> rfl
  case lst i => cases h; rw [f.lst]; cases tt <;> rfl
  case dic t i => cases h; rw [f.dic]; cases tt <;> rfl
  case ins n fs =>
    rw [Option.map_eq_some_iff] at h
    obtain ⟨C, h1, rfl⟩ := h
    rw [f.ins n C h1]; cases tt <;> rfl
  case exc n fs =>
    rw [Option.map_eq_some_iff] at h
    obtain ⟨C, h1, rfl⟩ := h
    rw [f.exc n C h1]; cases tt <;> rfl
  all_goals cases h
theorem val_ty (kl : Kls c) (R : Rel c F0 H0 ρ σ F H W) (V1 : ValOk c ρ σ Hs F H u v) (ht : v.d.typed = true) : ∃ t, tyD c v.d = some t ∧ TyZ c.K H u t := by
  cases e : v.d
  case lst xs =>
    obtain ⟨a, ws, rfl, h1, _⟩ := V1.lst R e
    exact ⟨_, rfl, .base (.base (.lst h1))⟩
  case tup xs =>
    obtain ⟨a, ws, rfl, h1, _⟩ := V1.tup R e
    rcases Same.sqT (Fz_dn R.stp.sub) h1 with (h1 | ⟨o, h1⟩) | ⟨o, its, m, k1, k2, _⟩
    · exact ⟨_, rfl, .base (.base (.tup h1))⟩
    · exact ⟨_, rfl, .base (.fTuple h1)⟩
    · exact ⟨_, rfl, .base (.kTuple k1 k2)⟩
  case non => cases V1.non R e; exact ⟨_, rfl, .base (.base .non)⟩
  case bl b => cases V1.bl R e; exact ⟨_, rfl, .base (.base (.bl b))⟩
  case int b => cases V1.int R e; exact ⟨_, rfl, .base (.base (.int b))⟩
  case str b => cases V1.str R e; exact ⟨_, rfl, .base (.base (.str b))⟩
  case dic t kvs =>
    cases t
    · obtain ⟨a, ws, rfl, h1, _⟩ := V1.dicK R e
      rcases h1 with h1 | ⟨o, h1⟩
      · exact ⟨_, rfl, .base (.base (.dK h1))⟩
      · exact ⟨_, rfl, .base (.fDict h1)⟩
    · rw [e] at ht; cases ht
  case ins nm fs =>
    obtain ⟨p, C, dx, gs, rfl, h1, h2, h3⟩ := V1.ins R e
    have i := kl.ins _ _ h2
    exact ⟨.ref C, by simp [tyD, h2], .base (.base (.ins (Fz_dn R.stp.sub _ _ h1) i.cl i.ha i.hn i.ht i.hm))⟩
  case exc nm fs =>
    have a := V1.rep R e fun _ _ _ h => h
    cases a with
    | exc0 h1 h2 => exact ⟨_, by simp [tyD, h2], .exc (Fz_dn R.stp.sub _ _ h1) (kl.exc _ _ h2)⟩
    | exc1 h1 h2 h3 _ _ => exact ⟨_, by simp [tyD, h2], .exc1 (Fz_dn R.stp.sub _ _ h1) (Fz_dn R.stp.sub _ _ h3) (kl.exc _ _ h2)⟩
  all_goals (rw [e] at ht; cases ht)
theorem e_isi {a T : Expr} {ea : E} {tt : Ty} {d : V} {uu : Value} {p : Pos} (kl : Kls c) (hk : X.K = c.K) (f : IsF c tt uu) (hd : ClsV d uu) (ha : PE X a (rdE c Wx ea)) (hT : PE X T (tC d)) (hg : Gl X "isinstance") (hm : X.mg "isinstance" = none)
    (h1 : starEach [a, T] X.env = (false, eval a X.env) :: starEach [T] X.env) (h2 : starEach [T] X.env = (false, eval T X.env) :: starEach [] X.env) (hpl : (backTo pos (starEach [T] X.env)).any (·.1) = false) :
    PE X (.Call (.Name "isinstance" p) [a, T] [] pos) (rdE c Wx (.isi ea [tt])) := by
  refine pe_wk (pe_callB call_isZ hg hm boot_isinstance (pa_cons ha (pa_cons hT pa_nil h2) h1) (by decide) (by decide) h1 hpl) fun σ H Q ⟨F0, H0, ρ, F, W, R, hP⟩ => ?_
  simp only [ev] at hP
  refine rd_e R R.refl hP fun x W1 u F1 H1 S1 _ V1 R1 hP => ?_
  by_cases ht : x.d.typed = true
  · rw [if_pos ht] at hP
    obtain ⟨t, e1, e2⟩ := val_ty kl R1 V1 ht
    refine ⟨u, d, t, uu, isD1 x.d tt, rfl, hd, hk ▸ e2, hk ▸ isD1_eq f e1, ?_⟩
    have q := fin_sc (u := V.bl (isD1 x.d tt)) (d := .bl ([tt].any (isD1 x.d))) R1 S1 hP
    simp only [List.any_cons, List.any_nil, Bool.or_false] at q
    exact q (.bl _)
  · rw [if_neg ht] at hP; exact hP.elim
theorem e_isi2 {a T1 T2 : Expr} {ea : E} {t1 t2 : Ty} {d1 d2 : V} {u1 u2 : Value} {p tp : Pos} {kk} (kl : Kls c) (hk : X.K = c.K) (f1 : IsF c t1 u1) (hd1 : ClsV d1 u1) (f2 : IsF c t2 u2) (hd2 : ClsV d2 u2) (ha : PE X a (rdE c Wx ea)) (hT1 : PE X T1 (tC d1)) (hT2 : PE X T2 (tC d2)) (hg : Gl X "isinstance") (hm : X.mg "isinstance" = none)
    (h1 : starEach [a, .Tuple [T1, T2] kk tp] X.env = (false, eval a X.env) :: starEach [.Tuple [T1, T2] kk tp] X.env) (h2 : starEach [.Tuple [T1, T2] kk tp] X.env = (false, eval (.Tuple [T1, T2] kk tp) X.env) :: starEach [] X.env) (hpl : (backTo pos (starEach [.Tuple [T1, T2] kk tp] X.env)).any (·.1) = false)
    (h3 : starEach [T1, T2] X.env = (false, eval T1 X.env) :: starEach [T2] X.env) (h4 : starEach [T2] X.env = (false, eval T2 X.env) :: starEach [] X.env) :
    PE X (.Call (.Name "isinstance" p) [a, .Tuple [T1, T2] kk tp] [] pos) (rdE c Wx (.isi ea [t1, t2])) := by
  refine pe_wk (pe_callB call_isZT hg hm boot_isinstance (pa_cons ha (pa_cons (pe_tup (pa_cons hT1 (pa_cons hT2 pa_nil h4) h3)) pa_nil h2) h1) (by decide) (by decide) h1 hpl) fun σ H Q ⟨F0, H0, ρ, F, W, R, hP⟩ => ?_
  simp only [ev] at hP
  refine rd_e R R.refl hP fun x W1 u F1 H1 S1 _ V1 R1 hP => ?_
  by_cases ht : x.d.typed = true
  · rw [if_pos ht] at hP
    refine ⟨by show 2 ≤ sizeLine; rw [sizeLine_eq]; omega, fun q hq => ?_⟩
    have S2 := R1.refl.makeF (o := .tup [d1, d2]) hq
    have R2 := R1.step S2
    obtain ⟨t, e1, e2⟩ := val_ty kl R2 (V1.step R1 S2) ht
    refine ⟨u, q, [d1, d2], t, [u1, u2], [t1, t2].any (isD1 x.d), rfl, upd_same, .cons hd1 (.cons hd2 .nil), hk ▸ e2, ?_, fin_sc R2 (S1.trans S2) hP (.bl _)⟩
    refine kitAny_cons (hk ▸ isD1_eq f1 e1) (fun z => kitAny_cons (hk ▸ isD1_eq f2 e1) (fun z' => ?_) fun z' => ?_) fun z => ?_
    · simp [z, z', PySem.W.kitAny]
    · simp [z']
    · simp [z]
  · rw [if_neg ht] at hP; exact hP.elim
end
end Z

namespace Z
open PySem PySem.Spec PyProof.Rows L2
open Classical
section
variable {c : Pm} {Wx : WX} {X : Cx} {fu n k : Nat} {W W' W1 W2 W3 : Dr} {F0 H0 F H F' H' F1 H1 F2 H2 F3 H3 Hs : Hp} {ρ ρ' : En} {σ σ' : L2.St} {u w : V} {x y v : Vl} {Q : VK} {us : List V} {vs : List Vl} {pos : Pos}

theorem RepF.putF {f : Str} {d : D} (r : Rep c F u d) : ∀ {gs : List (Str × V)} {fs : List (Str × D)}, RepF c F gs fs → RepF c F (putF f u gs) (putFD f d fs)
  | _, _, .nil => .cons r .nil
  | _, _, .cons (f := g) h t => by
    unfold L2.putF putFD
    by_cases e : g = f
    · rw [if_pos e, if_pos e]; exact .cons r t
    · rw [if_neg e, if_neg e]; exact .cons h (RepF.putF r t)
theorem RepF.length : ∀ {gs : List (Str × V)} {fs : List (Str × D)}, RepF c F gs fs → gs.length = fs.length
  | _, _, .nil => rfl
  | _, _, .cons _ t => by rw [List.length_cons, List.length_cons, RepF.length t]
/-- the instance that is being made gets an attribute -/
theorem Rel.mutS {i : Nat} {p C dx : Addr} {nm : Str} {fs fs' : List (Str × D)} {gs gs' : List (Str × V)} (R : Rel c F0 H0 ρ σ F H W) (h1 : ρ[i]? = some (.slf p nm fs)) (h3 : H p = some (.ins C dx gs)) (r : RepF c F gs' fs') (un : ((ρ.set i .un).all Sl.noSlf) = true) : Rel c F0 H0 (ρ.set i (.slf p nm fs')) σ F (upd H p (.ins C dx gs')) W := by
  obtain ⟨q1, q2, q3, q4, C', dx', gs0, q5, q6, q7⟩ := R.slot i _ h1
  rw [h3] at q5
  cases q5
  have a : ∀ {j : Nat} {s : Sl}, (ρ.set i (.slf p nm fs'))[j]? = some s → (i = j ∧ s = .slf p nm fs') ∨ (i ≠ j ∧ ρ[j]? = some s) := fun {j s} e => by
    by_cases h : i = j
    · subst h
      have hl : i < ρ.length := by
        have := (List.getElem?_eq_some_iff.mp e).1
        simpa using this
      rw [List.getElem?_set_self hl] at e
      exact .inl ⟨rfl, (Option.some.inj e).symm⟩
    · rw [List.getElem?_set_ne h] at e
      exact .inr ⟨h, e⟩
  have b : ∀ {j : Nat} {d : D}, (ρ.set i (.slf p nm fs'))[j]? = some (.own d) → ρ[j]? = some (.own d) := fun {j d} e => by
    rcases a e with ⟨_, z⟩ | ⟨_, e⟩
    · cases z
    · exact e
  refine ⟨by rw [List.length_set]; exact R.len, R.stp.setD q2 q4 q3 (fun q z => by rw [h3] at z; cases z) (fun q z => by rw [h3] at z; cases z), fun j s e => ?_, fun j k d1 d2 p' e1 e2 e3 e4 => R.dist j k d1 d2 p' (b e1) (b e2) e3 e4⟩
  rcases a e with ⟨rfl, rfl⟩ | ⟨n, e⟩
  · exact ⟨q1, q2, q3, q4, C, dx, gs', upd_same, q6, r⟩
  · have k := R.slot j s e
    cases s with
    | un => exact k
    | val d => exact k
    | own d =>
      obtain ⟨p', k1, k2, k3, k4, k5⟩ := k
      refine ⟨p', k1, k2, k3, k4, k5.at (upd_ne fun z => ?_)⟩
      rcases k5.softH with q | ⟨xs, q⟩ | ⟨xs, q⟩ | ⟨xs, q⟩ <;> rw [z, h3] at q <;> cases q
    | slf p' n' gg =>
      have hm : Sl.slf p' n' gg ∈ ρ.set i .un := List.mem_of_getElem? (i := j) (by rw [List.getElem?_set_ne n]; exact e)
      have := List.all_eq_true.mp un _ hm
      cases this
/-- self.f = e -/
theorem s_fld {i : Nat} {z f : Str} {e : Expr} {ee : E} {p2 p3 : Pos} (hk : X.K = c.K) (hN : X.N[i]? = some z) (hv : Vis X.env.scope z) (hd : (z == ("__debug__" : Str)) = false) (hcd : (z == ("__classdict__" : Str)) = false) (he : PE X e (rdE c Wx ee)) (hc : ∀ n C, c.ca n = some C → Cls c.K C ∧ NoAttr c.K C f)
    (hs : swapsWith e (some (.Attribute (.Name z p2) f p3)) pos.line X.env = pure false) : PS X (.Assign [.Attribute (.Name z p2) f p3] e pos) (rdS c Wx fu (.fld i f ee)) := by
  refine ps_wk (ps_fld (pe_var hN hv hd hcd) he hs) fun D σ H ⟨F0, H0, ρ, F, W, R, hP⟩ => ?_
  simp only [evS] at hP
  cases e0 : ρ[i]? with
  | none => rw [e0] at hP; exact hP.elim
  | some s =>
    rw [e0] at hP
    cases s with
    | un => exact hP.elim
    | val d => exact hP.elim
    | own d => exact hP.elim
    | slf p0 n0 fs0 =>
      refine st_e R hP fun v W1 u F1 H1 S1 V1 R1 hP => ?_
      have A : ArgOk c ρ σ H F1 H1 [u] [v] := .cons V1 .nil
      obtain ⟨RF, RA, up⟩ := keep_all R R1 S1 A
      rw [ts_one] at RF RA up
      cases e2 : (Z.frz ρ v.all)[i]? with
      | none => rw [e2] at hP; exact hP.elim
      | some s =>
        rw [e2] at hP
        cases s with
        | un => exact hP.elim
        | val d => exact hP.elim
        | own d => exact hP.elim
        | slf p n fs =>
          simp only at hP
          by_cases hl : fs.length < 1000 ∧ (((Z.frz ρ v.all).set i .un).all Sl.noSlf) = true
          · rw [if_pos hl] at hP
            obtain ⟨q1, q2, q3, q4, C, dx, gs, q5, q6, q7⟩ := RF.slot i _ e2
            obtain ⟨c1, c2⟩ := hc _ _ q6
            refine ⟨.ref p, q1, p, C, dx, gs, rfl, q5, hk ▸ c1, hk ▸ c2, by rw [q7.length]; exact hl.1, ?_⟩
            cases RA with
            | cons ra _ => exact hP _ _ _ (RF.mutS e2 q5 (RepF.putF ra q7) hl.2) fun a o q => up _ _ (S1.f _ _ q)
          · rw [if_neg hl] at hP; exact hP.elim

def spI (c : Pm) (nm : Str) (C : Addr) (g : Nat → G) : Sp := fun vs H Q E => ∃ x dx us F Hb xs W, vs = .ref x :: us ∧ Hb x = none ∧ Hb dx = none ∧ dx ≠ x ∧ H = upd (upd Hb dx (.own x)) x (.ins C dx []) ∧ c.ca nm = some C ∧ RepL c F us xs ∧ Stp c W F Hb F Hb ∧
  match g x xs W with
  | .ok r W' => ∀ F' H', Stp c W' F Hb F' H' → ResOk c Hb F' H' (.ref x) r → Q .non H'
  | .ex e W' => ∀ cls dd F' H', Stp c W' F Hb F' H' → ExOk c F' e cls dd → E cls dd H'
  | .stk => False
theorem make_len {fu N ps : Nat} {nm : Str} {b : S} {C : Addr} {E : XK} (h : spI c nm C (fun p => runC fu N ps p nm b) us H Q E) : us.length = ps := by
  obtain ⟨x, dx, ws, F, Hb, xs, W, rfl, _, _, _, _, _, r, _, hP⟩ := h
  simp only [runC] at hP
  by_cases hl : xs.length + 1 = ps
  · rw [List.length_cons, r.length, hl]
  · rw [if_neg hl] at hP; exact hP.elim
theorem make_ok {N : List Str} {ps : Nat} {nm : Str} {b : S} {C : Addr} {E : XK} (h : spI c nm C (fun p => runC fu N.length ps p nm b) us H Q E) : rdS c (fun cls dd _ H' => E cls dd H') fu b { nx := fun _ H' => Q .non H', rt := Q } (L2.start N us) H := by
  obtain ⟨x, dx, ws, F, Hb, xs, W, rfl, hx, hdx, hne, rfl, hC, r, S, hP⟩ := h
  simp only [runC] at hP
  by_cases hl : xs.length + 1 = ps
  · rw [if_pos hl] at hP
    have xd : x ∉ c.mv := fun z => S.sm z hx
    have dd : dx ∉ c.mv := fun z => S.sm z hdx
    have fn : ∀ a, Hb a = none → F a = none := fun a z => by
      cases q : F a with
      | none => rfl
      | some o => rw [S.sub _ _ q] at z; cases z
    have S1 := S.setD (o := .own x) (fn _ hdx) (.of hdx) dd (fun q z => by rw [hdx] at z; cases z) (fun q z => by rw [hdx] at z; cases z)
    have S2 : Stp c W F Hb F (upd (upd Hb dx (.own x)) x (.ins C dx [])) := S1.setD (fn _ hx) (.of hx) xd (fun q z => by rw [upd_ne hne.symm, hx] at z; cases z) (fun q z => by rw [upd_ne hne.symm, hx] at z; cases z)
    have R : Rel c F Hb (.slf x nm [] :: (xs.map Sl.val ++ List.replicate (N.length - ps) .un)) (L2.start N (.ref x :: ws)) F (upd (upd Hb dx (.own x)) x (.ins C dx [])) W := by
      unfold L2.start
      refine ⟨by simp [r.length]; omega, S2, fun i s e => ?_, fun i j d1 d2 p e1 e2 _ _ => ?_⟩
      · cases i with
        | zero =>
          simp only [List.getElem?_cons_zero] at e
          cases e
          exact ⟨rfl, fn _ hx, xd, .of hx, C, dx, [], upd_same, hC, .nil⟩
        | succ i =>
          simp only [List.getElem?_cons_succ] at e
          have := RepL.at (H0 := Hb) (H := upd (upd Hb dx (.own x)) x (.ins C dx [])) r e
          rw [List.length_cons, r.length, List.map_cons, List.cons_append, List.getElem?_cons_succ, hl]
          exact this
      · exfalso
        have no : ∀ {i : Nat} {d : D}, (Sl.slf x nm [] :: (xs.map Sl.val ++ List.replicate (N.length - ps) .un))[i]? = some (.own d) → False := fun {i d} e => by
          have hm := List.mem_of_getElem? e
          simp at hm
        exact no e1
    refine ⟨F, Hb, _, F, W, R, ?_⟩
    cases e : evS fu b (.slf x nm [] :: (xs.map Sl.val ++ List.replicate (N.length - ps) .un)) W with
    | nx ρ' W' =>
      rw [e] at hP
      intro σ' F' H' R' s
      simp only at hP
      cases e0 : (ρ'[(0 : Nat)]? : Option Sl) with
      | none => rw [e0] at hP; exact hP.elim
      | some sl =>
        rw [e0] at hP
        cases sl with
        | un => exact hP.elim
        | val d => exact hP.elim
        | own d => exact hP.elim
        | slf p n fs =>
          simp only at hP
          by_cases hq : p = x
          · rw [if_pos hq] at hP
            subst hq
            obtain ⟨k1, k2, k3, k4, C', dx', gs, k5, k6, k7⟩ := R'.slot 0 _ e0
            have ne : ∀ a o, F' a = some o → a ≠ p := fun a o q z => by rw [z, k2] at q; cases q
            have up : Same F' (upd F' p (.ins C' dx' gs)) := fun a o q => by rw [upd_ne (ne a o q)]; exact q
            refine hP _ H' ⟨fun a o q => up _ _ (R'.stp.f _ _ q), fun a o q => ?_, R'.stp.h, fun a e1 e2 => ?_, fun a o e => ?_, fun a ha => ?_, R'.stp.dr, fun hd => up _ _ (R'.stp.cl hd), R'.stp.tabs⟩ (.ins upd_same k6 (k7.mono up))
            · by_cases z : a = p
              · subst z
                rw [upd_same] at q
                rw [← q]; exact k5
              · rw [upd_ne z] at q
                exact R'.stp.sub _ _ q
            · rw [upd_ne fun z => Nil.of hx (by rw [← z]; exact e2)]
              exact R'.stp.new a e1 e2
            · by_cases z : a = p
              · subst z
                rw [upd_same] at e; cases e; exact nt_ins
              · rw [upd_ne z] at e; exact R'.stp.nt a o e
            · rw [upd_ne fun z => k3 (by rw [← z]; exact ha)]
              exact R'.stp.av a ha
          · rw [if_neg hq] at hP; exact hP.elim
    | bk ρ' W' => rw [e] at hP; exact hP.elim
    | ct ρ' W' => rw [e] at hP; exact hP.elim
    | stk => rw [e] at hP; exact hP.elim
    | ex x ρ' W' =>
      rw [e] at hP
      exact fun cls dd σ' F' H' R' hx => hP cls dd F' H' R'.stp hx
    | rt v ρ' W' => rw [e] at hP; exact hP.elim
  · rw [if_neg hl] at hP; exact hP.elim
/-- the __init__ of the text keeps its promise -/
theorem init_ok {P : Program} {w : World} {K : PySem.W.Frag} {mg : Str → Option Value} {base : Heap} {x qual : Str} {st : Stmt} {f C : Addr} {fd : FuncData} {N ps : List Str} {b : S} {nm : Str} (F : Fun K x qual st f fd) (S : FnScope N ps (defScope st))
    (hb : ∀ (cdv : Value) (A : Around) (outer : List Env) (s : Shared) (H : Hp) (E : XK), Room k (A.deeper (envOfC qual (defScope st) s.heap.objs.size f cdv)) →
      Takes (cxOf (L2.CX P w) P w K mg base N qual (defScope st) f cdv A outer s H E) (fun cls dd _ H' => E cls dd H') →
      PSs (cxOf (L2.CX P w) P w K mg base N qual (defScope st) f cdv A outer s H E) (defBody st) (rdS c (fun cls dd _ H' => E cls dd H') fu b)) :
    FnOk P w K mg base (L2.CX P w) (k + 1) f fd ps (spI c nm C fun p => runC fu N.length ps.length p nm b) :=
  F.okX S (fun vs H Q E h => make_len h) fun cdv A outer s H vs Q E hr h => ⟨_, hb cdv A outer s H E hr (takes_of rfl rfl rfl rfl), make_ok h⟩
/-- a class that can be called by its name -/
structure Mak (c : Pm) (P : Program) (w : World) (mg : Str → Option Value) (base : Heap) (k : Nat) (x : Str) (ps : List Str) (g : G) : Prop where
  ex : ∃ (C f : Addr) (fd : FuncData) (gi : Nat → G), mg x = some (.ref C) ∧ c.ca x = some C ∧ L2.Mk c.K C f ∧ Binds c.K fd ps [] ∧ FnOk P w c.K mg base (L2.CX P w) k f fd ps (spI c x C gi) ∧ ∀ p xs W, gi p xs W = g xs W
theorem Mak.mono {P : Program} {w : World} {mg : Str → Option Value} {base : Heap} {j : Nat} {x : Str} {ps : List Str} {g : G} (h : Mak c P w mg base j x ps g) (hk : j ≤ k) : Mak c P w mg base k x ps g := by
  obtain ⟨C, f, fd, gi, h1, h2, h3, h4, h5, h6⟩ := h.ex
  exact ⟨C, f, fd, gi, h1, h2, h3, h4, h5.mono hk, h6⟩
/-- its call, the wish by the slots -/
theorem run_makeZ {pins : List (Addr × Obj)} {s : Shared} {ws : List Value} {zs : List V} {C f : Addr} {fd : FuncData} {ps : List Str} {sp : Sp} {CX : CXT} {E : XK} (M : L2.Mk X.K C f) (Fn : FnOk X.prog X.w X.K X.mg X.base CX k f fd ps sp) (hr : Room (k + 1) X.A) (hb : Binds X.K fd ps [])
    (hx : ∀ (pins : List (Addr × Obj)) (H : Hp) (s : Shared) (e : Value) (s' : Shared), Inv X pins σ H s → CX X.stack H s E e s' → X.xe e s') (I : Inv X pins σ H s) (r : Vals zs ws)
    (h : ∀ x dx, H x = none → H dx = none → dx ≠ x → sp (.ref x :: zs) (upd (upd H dx (.own x)) x (.ins C dx [])) (fun v H2 => v = .non ∧ Q (.ref x) H2) E) : wpAny (model X.prog X.w) X.A (call (.ref C) ws) (EP X pins σ Q) X.xe s := by
  have q0 := h (s.heap.objs.size + 1) s.heap.objs.size (I.hok.fresh (Nat.le_succ _)) (I.hok.fresh (Nat.le_refl _)) (Nat.ne_of_lt (Nat.lt_succ_self _))
  have J := Inv.made (C := C) I
  have rr : Vals (V.ref (s.heap.objs.size + 1) :: zs) (Value.ref (s.heap.objs.size + 1) :: ws) := .cons rfl r
  have hl : (Value.ref (s.heap.objs.size + 1) :: ws).length = ps.length := rr.length.symm.trans (Fn.len _ _ _ _ q0)
  have b := hb _ (Value.ref (s.heap.objs.size + 1) :: ws) J.kIn (by rw [List.append_nil]; exact hl)
  rw [List.append_nil] at b
  refine wpAny_call (make_map (f := f) I.kIn M.makes M.init (beq_iff_eq.mp M.fn) (codeAny_mono (Fn.run _ X.stack _ _ _ _ _ _ E (hr.make C ws []) (J.env0.make C ws []) b rr q0) fun res s2 hq => ?_))
  match res, hq with
  | .error e, hq => exact hx pins _ _ e s2 J hq
  | .ok (.ret u), hq =>
    obtain ⟨v, H2, J2, rv, ev, q2⟩ := J.after hq
    cases ev
    exact ⟨rv, V.ref (s.heap.objs.size + 1), H2, J2, rfl, q2⟩
def tMakZ (C : Addr) (sp : Sp) (E : L2.St → XK) (t : TA) : TE := fun σ H Q => t σ H fun vs H1 => ∀ x dx, H1 x = none → H1 dx = none → dx ≠ x → sp (.ref x :: vs) (upd (upd H1 dx (.own x)) x (.ins C dx [])) (fun v H2 => v = .non ∧ Q (.ref x) H2) (E σ)
theorem mak_ok {C : Addr} {nm : Str} {g : G} {gi : Nat → G} {ea : E} (hC : c.ca nm = some C) (hg : ∀ p xs W, gi p xs W = g xs W) (h : rdE c Wx (.call g ea) σ H Q) : tMakZ C (spI c nm C gi) (WE Wx) (rdL c Wx ea) σ H Q := by
  obtain ⟨F0, H0, ρ, F, W, R, hP⟩ := h
  simp only [ev] at hP
  refine rd_l R R.refl hP fun vs W1 us F1 H1 S1 _ A R1 hP => ?_
  have RF := (Ft_rel R R1 S1 A).frz (ts_own A)
  intro x dx hx hdx hne
  refine ⟨x, dx, us, Fz (Ft F1 H1 us vs) H1 σ (ts vs), H1, ds vs, W1, rfl, hx, hdx, hne, rfl, hC, args_all R R1 S1 A, RF.stp.refl, ?_⟩
  rw [hg]
  have q := call_end (g := g) R S1 A (ts_own A) hP
  cases e : g (ds vs) W1 with
  | ok r W' => rw [e] at q; exact fun F' H' S' r' => ⟨rfl, q _ F' H' S' r'⟩
  | ex x W' => rw [e] at q; exact q
  | stk => rw [e] at q; exact q
theorem e_make {x : Str} {ps : List Str} {g : G} {e : Expr} {es : List Expr} {ea : E} {p : Pos} (hk : X.K = c.K) (h : Mak c X.prog X.w X.mg X.base k x ps g) (hr : Room (k + 1) X.A) (tk : Takes X Wx) (hgl : Gl X x) (ha : PA X (e :: es) (rdL c Wx ea)) (hdb : (x == ("__debug__" : Str)) = false)
    (he : starEach (e :: es) X.env = (false, eval e X.env) :: starEach es X.env) (hpl : (backTo pos (starEach es X.env)).any (·.1) = false) : PE X (.Call (.Name x p) (e :: es) [] pos) (rdE c Wx (.call g ea)) := by
  obtain ⟨C, f, fd, gi, h1, h2, h3, h4, h5, h6⟩ := h.ex
  rw [← hk] at h3 h4 h5
  refine ⟨fun pins s σ H Q I q => ?_⟩
  have q := mak_ok h2 h6 q
  refine wpAny_Call_Name_kw (ld_glob I hgl h1 ?_ hdb)
  refine PySem.W.callWith_K (h₀ := X.base) I.ok.mod.kin h3.kp (thn (ha.run pos pins s σ H _ I q) fun ws s1 ⟨zs, H1, I1, r, q1⟩ => ⟨I1.kIn, ?_⟩) he hpl
  exact run_makeZ h3 h5 hr h4 (passAt tk σ) I1 r q1
end
end Z

namespace Z
open PySem PySem.Spec PyProof.Rows L2
open Classical
section
variable {c : Pm} {Wx : WX} {X : Cx} {fu n k : Nat} {W W' W1 W2 W3 : Dr} {F0 H0 F H F' H' F1 H1 F2 H2 F3 H3 Hs : Hp} {ρ ρ' : En} {σ σ' : L2.St} {u w : V} {x y v : Vl} {Q : VK} {us : List V} {vs : List Vl} {pos : Pos}

def BinAll (c : Pm) (X : Cx) (op : Operator) : Prop := ∃ r, OpR X (binaryOp op) r ∧ BinOk c (binD op) r
def rMulD (K : PySem.W.Frag) : R2 := fun x y H Q => rI CMul (fun i j => .int (i * j)) x y H Q ∨ rRep x y H Q ∨ rRepT K x y H Q
theorem RepL.times {vs : List V} {xs : List D} (r : RepL c F vs xs) : ∀ k : Nat, RepL c F (List.replicate k vs).flatten (List.replicate k xs).flatten
  | 0 => .nil
  | k + 1 => by
    rw [List.replicate_succ, List.replicate_succ, List.flatten_cons, List.flatten_cons]
    exact r.append (RepL.times r k)
theorem mul_okD : BinOk c (binD .Mult) (rMulD c.K) := by
  intro Wx W2 F0 H0 F H F2 H2 ρ σ u w x y Q z R S V1 V2 h hq
  have ht := own_app V1.t_own V2.t_own
  cases e1 : x.d <;> cases e2 : y.d <;> rw [e1, e2] at h <;> simp only [binD, big_eq] at h <;> try (cases h)
  case int.int i j =>
    split at h <;> cases h
    rename_i hz
    exact .inl ⟨i, j, V1.int R e1, V2.int R e2, hz, fin_vl R S ht hq (.int _)⟩
  case tup.int xs j =>
    split at h <;> cases h
    rename_i hz
    obtain ⟨a, vs, rfl, h1, r1⟩ := V1.tup R e1
    refine .inr (.inr ⟨a, j, vs, rfl, V2.int R e2, Same.sqT (Fz_dn R.stp.sub) h1, ?_, hz.2.1, hz.2.2.1, by rw [r1.length]; exact hz.2.2.2, fin_tup R S ht hq ((r1.mono (Fz_l R.stp.sub)).times _)⟩)
    intro e
    subst e
    cases r1
    exact hz.1 rfl
  case lst.int xs j =>
    split at h <;> cases h
    rename_i hz
    obtain ⟨a, vs, rfl, h1, r1⟩ := V1.lst R e1
    exact .inr (.inl ⟨a, j, vs, rfl, V2.int R e2, h1, hz.1, hz.2.1, by rw [r1.length, ← cap_num]; exact hz.2.2, fin_lst R S ht hq ((r1.mono (Fz_l R.stp.sub)).times _)⟩)
theorem bin_add (hk : X.K = c.K) : BinAll c X .Add := ⟨_, op_addD, hk ▸ add_ok⟩
theorem bin_sub : BinAll c X .Sub := ⟨_, op_sub, sub_ok⟩
theorem bin_mul (hk : X.K = c.K) : BinAll c X .Mult := ⟨rMulD X.K, op_mul.or (op_rep.or op_repT), hk ▸ mul_okD⟩
theorem bin_div : BinAll c X .FloorDiv := ⟨_, op_fdiv, div_ok⟩
theorem bin_mod : BinAll c X .Mod := ⟨_, op_mod, mod_ok⟩
theorem bin_pow : BinAll c X .Pow := ⟨_, op_pow, pow_ok⟩
theorem Cn.hu (n : Cn c Wx k X) : X.A.units + 64 < cLine := n.room.units

theorem x_var (i : Nat) {z : Str} (n : Cn c Wx k X) (hv : Vis X.env.scope z) (hN : X.N[i]? = some z := by rfl) (hd : (z == ("__debug__" : Str)) = false := by decide) (hcd : (z == ("__classdict__" : Str)) = false := by decide) : PE X (.Name z pos) (rdE c Wx (.var i)) := e_var hN hv hd hcd
theorem x_gl {z : Str} {d : D} {v : V} (n : Cn c Wx k X) (h : ∃ uu, X.mg z = some uu ∧ RelV v uu) (hr : ∀ F, Rep c F v d) (hg : Gl X z := by rfl) (hd : (z == ("__debug__" : Str)) = false := by decide) : PE X (.Name z pos) (rdE c Wx (.gl d)) := by
  obtain ⟨uu, h1, h2⟩ := h
  exact e_gl hg h1 h2 hr hd
theorem x_bin {op : Operator} {a b : Expr} {ea eb : E} (h : BinAll c X op) (ha : PE X a (rdE c Wx ea)) (hb : PE X b (rdE c Wx eb)) : PE X (.BinOp a op b pos) (rdE c Wx (.bin op ea eb)) := by
  obtain ⟨r, h1, h2⟩ := h
  exact e_bin h1 h2 ha hb
theorem x_cmp {op : CmpOp} {a b : Expr} {ea eb : E} (n : Cn c Wx k X) (ha : PE X a (rdE c Wx ea)) (hb : PE X b (rdE c Wx eb)) (hm : behindInMarks op b = false := by first | exact nobehind _ (by decide) (by decide) | rfl) : PE X (.Compare a [op] [b] pos) (rdE c Wx (.cmp op ea eb)) := by
  obtain ⟨r, h1, h2⟩ := cmp_all op n.hk n.hu
  exact e_cmp h1 h2 ha hb hm
theorem x_chn {o1 o2 : CmpOp} {a b d : Expr} {ea eb ed : E} (n : Cn c Wx k X) (ha : PE X a (rdE c Wx ea)) (hb : PE X b (rdE c Wx eb)) (hd : PE X d (rdE c Wx ed)) (hm : lastMarks [o1, o2] [b, d] = false := by rfl) : PE X (.Compare a [o1, o2] [b, d] pos) (rdE c Wx (.chn o1 o2 ea eb ed)) := by
  obtain ⟨r, h1, h2⟩ := cmp_all o1 n.hk n.hu
  obtain ⟨r', h1', h2'⟩ := cmp_all o2 n.hk n.hu
  exact e_chn h1 h2 h1' h2' ha hb hd hm
theorem x_one {op : BoolOp} {a : Expr} {ea : E} (ha : PE X a (rdE c Wx ea)) : PE X (.BoolOp op [a] pos) (rdE c Wx ea) := pe_one ha
theorem x_cons {e : Expr} {es : List Expr} {a b : E} (ha : PE X e (rdE c Wx a)) (hb : PA X es (rdL c Wx b)) (hs : starEach (e :: es) X.env = (false, eval e X.env) :: starEach es X.env := by rfl) : PA X (e :: es) (rdL c Wx (.cons a b)) := l_cons ha hb hs
theorem x_ix {a b : Expr} {ea eb : E} (n : Cn c Wx k X) (ha : PE X a (rdE c Wx ea)) (hb : PE X b (rdE c Wx eb)) (hs : PlainIx b := by exact fun _ _ => rfl) : PE X (.Subscript a b pos) (rdE c Wx (.ix ea eb)) := e_ix n.hk ha hb hs
theorem x_sl {a : Expr} {lo hi : Option Expr} {ea el eh : E} {p2 : Pos} (n : Cn c Wx k X) (ha : PE X a (rdE c Wx ea)) (hl : PO X lo (rdO c Wx el)) (hh : PO X hi (rdO c Wx eh)) : PE X (.Subscript a (.Slice lo hi none p2) pos) (rdE c Wx (.sl ea el eh)) := e_sl n.hk ha hl hh
theorem x_call {j : Nat} {x : Str} {ps : List Str} {g : G} {e : Expr} {es : List Expr} {ea : E} {p : Pos} (n : Cn c Wx k X) (h : Cal c X.prog X.w X.K X.mg X.base j x ps g) (ha : PA X (e :: es) (rdL c Wx ea)) (hj : j ≤ k := by decide) (hg : Gl X x := by rfl) (hdb : (x == ("__debug__" : Str)) = false := by decide)
    (he : starEach (e :: es) X.env = (false, eval e X.env) :: starEach es X.env := by rfl) (hpl : (backTo pos (starEach es X.env)).any (·.1) = false := by rfl) : PE X (.Call (.Name x p) (e :: es) [] pos) (rdE c Wx (.call g ea)) := e_call h (n.room.mono hj) n.tk hg ha hdb he hpl
theorem x_make {j : Nat} {x : Str} {ps : List Str} {g : G} {e : Expr} {es : List Expr} {ea : E} {p : Pos} (n : Cn c Wx k X) (h : Mak c X.prog X.w X.mg X.base j x ps g) (ha : PA X (e :: es) (rdL c Wx ea)) (hj : j + 1 ≤ k := by decide) (hg : Gl X x := by rfl) (hdb : (x == ("__debug__" : Str)) = false := by decide)
    (he : starEach (e :: es) X.env = (false, eval e X.env) :: starEach es X.env := by rfl) (hpl : (backTo pos (starEach es X.env)).any (·.1) = false := by rfl) : PE X (.Call (.Name x p) (e :: es) [] pos) (rdE c Wx (.call g ea)) := e_make n.hk h (n.room.mono hj) n.tk hg ha hdb he hpl
theorem x_mth0 {j : Nat} {nm m : Str} {ps : List Str} {g : G} {o : Expr} {ea : E} {apos : Pos} {pl : Sem Bool} (n : Cn c Wx k X) (h : Mth c X.prog X.w X.mg X.base j nm m ps g) (ho : PE X o (rdE c Wx ea)) (hj : j ≤ k := by decide)
    (ht : eval (.Call (.Attribute o m apos) [] [] pos) X.env = (do
      let ov ← eval o X.env
      standAt apos.atName
      let (f, first) ← holding [ov] (getMethod ov m pl)
      callWith pos f first (backTo pos (starEach [] X.env)) (backToKw pos (keywordEach [] X.env))) := by rfl) : PE X (.Call (.Attribute o m apos) [] [] pos) (rdE c Wx (.mth m nm g ea .nil)) := e_mth0 (pl := pl) h n.hk (n.room.mono hj) n.tk ho ht
theorem x_attr {f : Str} {a : Expr} {ea : E} (n : Cn c Wx k X) (hc : ∀ n C, c.ca n = some C → Cls c.K C ∧ NoAttr c.K C f) (ha : PE X a (rdE c Wx ea)) (hb : attributeBase a f X.env (eval a X.env) = eval a X.env := by rfl) : PE X (.Attribute a f pos) (rdE c Wx (.attr ea f)) := e_attr n.hk ha hb hc
theorem x_isi {a T : Expr} {ea : E} {tt : Ty} {d : V} {uu : Value} {p : Pos} (n : Cn c Wx k X) (kl : Kls c) (f : IsF c tt uu) (hd : ClsV d uu) (ha : PE X a (rdE c Wx ea)) (hT : PE X T (tC d)) (hm : X.mg "isinstance" = none) (hg : Gl X "isinstance" := by rfl)
    (h1 : starEach [a, T] X.env = (false, eval a X.env) :: starEach [T] X.env := by rfl) (h2 : starEach [T] X.env = (false, eval T X.env) :: starEach [] X.env := by rfl) (hpl : (backTo pos (starEach [T] X.env)).any (·.1) = false := by rfl) :
    PE X (.Call (.Name "isinstance" p) [a, T] [] pos) (rdE c Wx (.isi ea [tt])) := e_isi kl n.hk f hd ha hT hg hm h1 h2 hpl
theorem x_isi2 {a T1 T2 : Expr} {ea : E} {t1 t2 : Ty} {d1 d2 : V} {u1 u2 : Value} {p tp : Pos} {kk} (n : Cn c Wx k X) (kl : Kls c) (f1 : IsF c t1 u1) (hd1 : ClsV d1 u1) (f2 : IsF c t2 u2) (hd2 : ClsV d2 u2) (ha : PE X a (rdE c Wx ea)) (hT1 : PE X T1 (tC d1)) (hT2 : PE X T2 (tC d2)) (hm : X.mg "isinstance" = none) (hg : Gl X "isinstance" := by rfl)
    (h1 : starEach [a, .Tuple [T1, T2] kk tp] X.env = (false, eval a X.env) :: starEach [.Tuple [T1, T2] kk tp] X.env := by rfl) (h2 : starEach [.Tuple [T1, T2] kk tp] X.env = (false, eval (.Tuple [T1, T2] kk tp) X.env) :: starEach [] X.env := by rfl) (hpl : (backTo pos (starEach [.Tuple [T1, T2] kk tp] X.env)).any (·.1) = false := by rfl)
    (h3 : starEach [T1, T2] X.env = (false, eval T1 X.env) :: starEach [T2] X.env := by rfl) (h4 : starEach [T2] X.env = (false, eval T2 X.env) :: starEach [] X.env := by rfl) :
    PE X (.Call (.Name "isinstance" p) [a, .Tuple [T1, T2] kk tp] [] pos) (rdE c Wx (.isi ea [t1, t2])) := e_isi2 kl n.hk f1 hd1 f2 hd2 ha hT1 hT2 hg hm h1 h2 hpl h3 h4
theorem x_ty {z : Str} {T : String} (n : Cn c Wx k X) (hm : X.mg z = none) (hv : bootBuiltins z = some (.type T)) (hg : Gl X z := by rfl) (hn : z ≠ "__name__" := by decide) (hd : (z == ("__debug__" : Str)) = false := by decide) : PE X (.Name z pos) (tC (.ty T)) := pe_bltn hg hm hv rfl hn hd
theorem x_cls {z : Str} {C : Addr} (n : Cn c Wx k X) (hm : X.mg z = some (.ref C)) (hg : Gl X z := by rfl) (hd : (z == ("__debug__" : Str)) = false := by decide) : PE X (.Name z pos) (tC (.ref C)) := pe_glob hg hm rfl hd
theorem x_biB {f : Bi} {r : List V → Hp → VK → Prop} {a : E} {z : Str} {id : String} {e : Expr} {es : List Expr} {p : Pos} (n : Cn c Wx k X) (kk : BiOk c (biD f) r) (hc : CallR X (.builtin id) r) (hv : bootBuiltins z = some (.builtin id)) (hm : X.mg z = none) (ha : PA X (e :: es) (rdL c Wx a)) (hg : Gl X z := by rfl)
    (hn : z ≠ "__name__" := by decide) (hdb : (z == ("__debug__" : Str)) = false := by decide) (he : starEach (e :: es) X.env = (false, eval e X.env) :: starEach es X.env := by rfl) (hpl : (backTo pos (starEach es X.env)).any (·.1) = false := by rfl) : PE X (.Call (.Name z p) (e :: es) [] pos) (rdE c Wx (.bi f a)) :=
  e_biB kk hc hg hm hv ha hn hdb he hpl
theorem x_biT {f : Bi} {r : List V → Hp → VK → Prop} {a : E} {z : Str} {T : String} {e : Expr} {es : List Expr} {p : Pos} (n : Cn c Wx k X) (kk : BiOk c (biD f) r) (hc : CallR X (.type T) r) (hv : bootBuiltins z = some (.type T)) (hm : X.mg z = none) (ha : PA X (e :: es) (rdL c Wx a)) (hg : Gl X z := by rfl)
    (hn : z ≠ "__name__" := by decide) (hdb : (z == ("__debug__" : Str)) = false := by decide) (he : starEach (e :: es) X.env = (false, eval e X.env) :: starEach es X.env := by rfl) (hpl : (backTo pos (starEach es X.env)).any (·.1) = false := by rfl) : PE X (.Call (.Name z p) (e :: es) [] pos) (rdE c Wx (.bi f a)) :=
  e_biT kk hc hg hm hv ha hn hdb he hpl
theorem y_cmp {op : CmpOp} {a b : Expr} {ea eb : E} (n : Cn c Wx k X) (ha : PE X a (rdE c Wx ea)) (hb : PE X b (rdE c Wx eb)) (hm : behindInMarks op b = false := by first | exact nobehind _ (by decide) (by decide) | rfl) : PT X (.Compare a [op] [b] pos) (rdT c Wx (.tv (.cmp op ea eb))) := by
  obtain ⟨r, h1, h2⟩ := cmp_all op n.hk n.hu
  exact t_cmp h1 h2 ha hb hm
theorem y_chn {o1 o2 : CmpOp} {a b d : Expr} {ea eb ed : E} (n : Cn c Wx k X) (ha : PE X a (rdE c Wx ea)) (hb : PE X b (rdE c Wx eb)) (hd : PE X d (rdE c Wx ed)) (hm : lastMarks [o1, o2] [b, d] = false := by rfl) : PT X (.Compare a [o1, o2] [b, d] pos) (rdT c Wx (.tv (.chn o1 o2 ea eb ed))) := by
  obtain ⟨r, h1, h2⟩ := cmp_all o1 n.hk n.hu
  obtain ⟨r', h1', h2'⟩ := cmp_all o2 n.hk n.hu
  exact t_chn h1 h2 h1' h2' ha hb hd hm
theorem y_val {a : Expr} {ea : E} (ha : PE X a (rdE c Wx ea)) (he : ∀ whole, isTrue a X.env whole = (do let v ← whole; standAt a.pos; holding [v] (truthy v)) := by intro _; rfl) : PT X a (rdT c Wx (.tv ea)) := t_val ha he
theorem Cn.blk (n : Cn c Wx k X) {s : Shared} {H : Hp} {scope : Scope} {cenv : Env} {fp : List Addr} : Cn c WXF k (X.blk s H scope cenv fp) := ⟨n.hk, n.calm, n.nd, takes0, n.room⟩
theorem Cn.fn {P : Program} {w : World} {K : PySem.W.Frag} {mg : Str → Option Value} {base : Heap} {N ps : List Str} {qual : Str} {scope : Scope} {f : Addr} {cdv : Value} {A : Around} {outer : List Env} {s : Shared} {H : Hp} {E : XK} (hk : K = c.K) (S : FnScope N ps scope) (hr : Room k (A.deeper (envOfC qual scope s.heap.objs.size f cdv)))
    (tk : Takes (cxOf (L2.CX P w) P w K mg base N qual scope f cdv A outer s H E) Wx) : Cn c Wx k (cxOf (L2.CX P w) P w K mg base N qual scope f cdv A outer s H E) := ⟨hk, rfl, S.nd, tk, hr⟩
theorem x_lc {tg it elt : Expr} {ifs : List Expr} {scope : Scope} {own : List (Str × Nat)} {pt : Pat} {g : TG} {src tst el : E} (n : Cn c Wx k X) (hi : PI X tg it (rdI c Wx src)) (gk : GOk c pt (own.map (·.2)) g) (ok : blkC X.N X.env.scope scope own = true)
    (hg : ∀ (s : Shared) (H : Hp) (C : Addr) (cl : List (Str × Addr)) (fp : List Addr), PG (X.blk s H scope (compEnvC scope cl C X.env) fp) tg g) (ht : ∀ (s : Shared) (H : Hp) (C : Addr) (cl : List (Str × Addr)) (fp : List Addr), PTs (X.blk s H scope (compEnvC scope cl C X.env) fp) ifs (rdA c WXF tst))
    (he : ∀ (s : Shared) (H : Hp) (C : Addr) (cl : List (Str × Addr)) (fp : List Addr), PE (X.blk s H scope (compEnvC scope cl C X.env) fp) elt (rdE c WXF el)) (hs : ∀ x, foldedSetIterable it X.env x = pure x := by intro _; rfl) :
    PE X (.ListComp elt [⟨tg, it, ifs, 0⟩] scope pos) (rdE c Wx (.lc el pt src tst (own.map (·.2)))) := e_lc n.calm n.nd hi (blkOk_by ok) gk hg ht he hs
theorem x_wk {tg a : Expr} {ea : E} (n : Cn c Wx k X) (ha : PE X a (rdE c Wx ea)) (hs : PI X tg a (iStr (rdE c Wx ea)) := by exact pi_str (by assumption)) : PI X tg a (rdI c Wx (.wk ea)) := i_wk n.hk ha hs
theorem x_rng1 {tg a : Expr} {ea : E} {p : Pos} (n : Cn c Wx k X) (hm : X.mg "range" = none) (ha : PA X [a] (rdL c Wx (.cons ea .nil))) (hg : Gl X "range" := by rfl) (hs : starEach [a] X.env = [(false, eval a X.env)] := by rfl) : PI X tg (.Call (.Name "range" p) [a] [] pos) (rdI c Wx (.rng (.cons ea .nil))) := i_rng1 hg hm ha hs
theorem x_rng2 {tg a b : Expr} {ea eb : E} {p : Pos} (n : Cn c Wx k X) (hm : X.mg "range" = none) (ha : PA X [a, b] (rdL c Wx (.cons ea (.cons eb .nil)))) (hg : Gl X "range" := by rfl) (hs : starEach [a, b] X.env = [(false, eval a X.env), (false, eval b X.env)] := by rfl)
    (hs2 : starEach [b] X.env = [(false, eval b X.env)] := by rfl) : PI X tg (.Call (.Name "range" p) [a, b] [] pos) (rdI c Wx (.rng (.cons ea (.cons eb .nil)))) := i_rng2 hg hm ha hs hs2
theorem z_set (i : Nat) {z : Str} {e : Expr} {ee : E} {pos' : Pos} (n : Cn c Wx k X) (he : PE X e (rdE c Wx ee)) (hx : Loc X.env.scope z) (hi : X.N[i]? = some z := by rfl) (hs : swapsWith e (some (.Name z pos')) pos.line X.env = pure false := by rfl) (hf : X.fn z = true ∨ X.env.scope.names.lookup z = some .local := by exact .inl rfl) :
    PS X (.Assign [.Name z pos'] e pos) (rdS c Wx fu (.asg i ee)) := s_set n.nd hi hx he hs hf
theorem z_aug (i : Nat) {z : Str} {e : Expr} {op : Operator} {ti : TIp} {ee : E} {pos' : Pos} (n : Cn c Wx k X) (ho : PIp X op ti) (kk : IpOk op ti) (he : PE X e (rdE c Wx ee)) (hx : Loc X.env.scope z) (hi : X.N[i]? = some z := by rfl) (hf : X.fn z = true ∨ X.env.scope.names.lookup z = some .local := by exact .inl rfl) :
    PS X (.AugAssign (.Name z pos') op e pos) (rdS c Wx fu (.aug i op ee)) := s_aug n.nd hi hx he ho kk hf
theorem z_expr {e : Expr} {ee : E} (he : PE X e (rdE c Wx ee)) (hs : swapsWith e none pos.line X.env = pure false := by rfl) : PS X (.Expr e pos) (rdS c Wx fu (.expr ee)) := s_expr he hs
theorem z_unp {tg e : Expr} {ee : E} {is : List Nat} {m : Nat} (n : Cn c Wx k X) (he : PE X e (rdE c Wx ee)) (hg : PG X tg (gTup X.K m (gNames is))) (hm : m = is.length := by rfl) (hs : swapsWithSole [tg] e pos.line X.env = pure false := by rfl) (hw : swappedStores [tg] e X.env = pure none := by rfl)
    (h1 : (assignEach [tg] X.env).map (·.2) = [assign tg X.env] := by rfl) : PS X (.Assign [tg] e pos) (rdS c Wx fu (.unp is ee)) := s_unp n.hk hm he hg hs hw h1
theorem z_par (i j : Nat) {z1 z2 : Str} {a b : Expr} {ea : E} {px py pt : Pos} {kt k2 pt2} (n : Cn c Wx k X) (ha : PA X [a, b] (rdL c Wx ea)) (hij : i ≠ j := by decide) (hi : X.N[i]? = some z1 := by rfl) (hj : X.N[j]? = some z2 := by rfl)
    (hx : X.env.scope.names.lookup z1 = some .local := by rfl) (hy : X.env.scope.names.lookup z2 = some .local := by rfl)
    (hw : swappedStores [.Tuple [.Name z1 px, .Name z2 py] kt pt] (.Tuple [a, b] k2 pt2) X.env = pure (some [z1, z2]) := by rfl)
    (hs : swapsWithSole [.Tuple [.Name z1 px, .Name z2 py] kt pt] (.Tuple [a, b] k2 pt2) pos.line X.env = pure false := by rfl) :
    PS X (.Assign [.Tuple [.Name z1 px, .Name z2 py] kt pt] (.Tuple [a, b] k2 pt2) pos) (rdS c Wx fu (.par [i, j] ea)) := s_par n.calm n.nd hi hj hij hx hy ha hw hs
theorem z_app (i : Nat) {z : Str} {e : Expr} {ee : E} {p2 apos cpos : Pos} (n : Cn c Wx k X) (he : PE X e (rdE c Wx ee)) (hv : Vis X.env.scope z) (hN : X.N[i]? = some z := by rfl) (hd : (z == ("__debug__" : Str)) = false := by decide) (hcd : (z == ("__classdict__" : Str)) = false := by decide)
    (hbase : attributeBase (.Name z p2) "append" X.env (eval (.Name z p2) X.env) = eval (.Name z p2) X.env := by rfl)
    (hfew : ((backTo cpos (starEach [e] X.env)).all (fun x => !x.1) && (backToKw cpos (keywordEach [] X.env)).all (fun x => x.1.isSome)
      && decide (([e] : List Expr).length + ([] : List Keyword).length + (if ([] : List Keyword).isEmpty then 0 else 1) < 30)) = true := by rfl)
    (hline : (apos.endLine == cpos.line) = true := by rfl) (hs : starEach [e] X.env = [(false, eval e X.env)] := by rfl) (hsw : swapsWith (.Call (.Attribute (.Name z p2) "append" apos) [e] [] cpos) none pos.line X.env = pure false := by rfl) :
    PS X (.Expr (.Call (.Attribute (.Name z p2) "append" apos) [e] [] cpos) pos) (rdS c Wx fu (.app i ee)) := s_app hN hv hd hcd he hbase hfew hline hs hsw
theorem z_setix (i : Nat) {z : Str} {kx e : Expr} {ek ee : E} {p2 tpos : Pos} (n : Cn c Wx k X) (hk : PE X kx (rdE c Wx ek)) (he : PE X e (rdE c Wx ee)) (hv : Vis X.env.scope z) (hN : X.N[i]? = some z := by rfl) (hd : (z == ("__debug__" : Str)) = false := by decide) (hcd : (z == ("__classdict__" : Str)) = false := by decide)
    (ha : ∀ v, assign (.Subscript (.Name z p2) kx tpos) X.env v = (do
      let ov ← holding [v] (eval (.Name z p2) X.env)
      let iv ← holding [v, ov] (eval kx X.env)
      standAt tpos
      holding [v, ov, iv] (setItem ov iv v)
      release [v, ov, iv] []) := by intro _; rfl)
    (hs : swapsWithSole [.Subscript (.Name z p2) kx tpos] e pos.line X.env = pure false := by rfl) (hw : swappedStores [.Subscript (.Name z p2) kx tpos] e X.env = pure none := by rfl)
    (h1 : (assignEach [.Subscript (.Name z p2) kx tpos] X.env).map (·.2) = [assign (.Subscript (.Name z p2) kx tpos) X.env] := by rfl) :
    PS X (.Assign [.Subscript (.Name z p2) kx tpos] e pos) (rdS c Wx fu (.setix i ek ee)) := s_setix hN hv hd hcd hk he ha hs hw h1
theorem z_fld (i : Nat) {z f : Str} {e : Expr} {ee : E} {p2 p3 : Pos} (n : Cn c Wx k X) (hc : ∀ n C, c.ca n = some C → Cls c.K C ∧ NoAttr c.K C f) (he : PE X e (rdE c Wx ee)) (hv : Vis X.env.scope z) (hN : X.N[i]? = some z := by rfl) (hd : (z == ("__debug__" : Str)) = false := by decide) (hcd : (z == ("__classdict__" : Str)) = false := by decide)
    (hs : swapsWith e (some (.Attribute (.Name z p2) f p3)) pos.line X.env = pure false := by rfl) : PS X (.Assign [.Attribute (.Name z p2) f p3] e pos) (rdS c Wx fu (.fld i f ee)) := s_fld n.hk hN hv hd hcd he hc hs
theorem z_for {tg iter : Expr} {body : List Stmt} {pt : Pat} {src : E} {g : TG} {b : S} {own : List Nat} (n : Cn c Wx k X) (hp : PassesOwn (model X.prog X.w) X.A X.env X.xe) (hi : PI X tg iter (rdI c Wx src)) (hg : PG X tg g) (gk : GOk c pt own g) (hb : PSs X body (rdS c Wx fu b))
    (hs : ∀ x, foldedSetIterable iter X.env x = pure x := by intro _; rfl) : PS X (.For tg iter body [] pos) (rdS c Wx fu (.for pt src b)) := s_for hp n.calm hi hg gk hb hs
end
end Z

namespace Z
open PySem PySem.Spec PyProof.Rows L2
open Classical
section
variable {c : Pm} {Wx : WX} {X : Cx} {fu n k : Nat} {pos : Pos} {a : E} {e : Expr} {es : List Expr} {p : Pos}
theorem x_len (n : Cn c Wx k X) (hm : X.mg "len" = none) (ha : PA X (e :: es) (rdL c Wx a)) (hg : Gl X "len" := by rfl) (he : starEach (e :: es) X.env = (false, eval e X.env) :: starEach es X.env := by rfl) (hpl : (backTo pos (starEach es X.env)).any (·.1) = false := by rfl) :
    PE X (.Call (.Name "len" p) (e :: es) [] pos) (rdE c Wx (.bi .len a)) := x_biB n len_ok (n.hk ▸ call_len) boot_len hm ha hg (by decide) (by decide) he hpl
theorem x_list (n : Cn c Wx k X) (hm : X.mg "list" = none) (ha : PA X (e :: es) (rdL c Wx a)) (hg : Gl X "list" := by rfl) (he : starEach (e :: es) X.env = (false, eval e X.env) :: starEach es X.env := by rfl) (hpl : (backTo pos (starEach es X.env)).any (·.1) = false := by rfl) :
    PE X (.Call (.Name "list" p) (e :: es) [] pos) (rdE c Wx (.bi .list a)) := x_biT n list_ok (n.hk ▸ call_list_of) boot_list hm ha hg (by decide) (by decide) he hpl
theorem x_tuple (n : Cn c Wx k X) (hm : X.mg "tuple" = none) (ha : PA X (e :: es) (rdL c Wx a)) (hg : Gl X "tuple" := by rfl) (he : starEach (e :: es) X.env = (false, eval e X.env) :: starEach es X.env := by rfl) (hpl : (backTo pos (starEach es X.env)).any (·.1) = false := by rfl) :
    PE X (.Call (.Name "tuple" p) (e :: es) [] pos) (rdE c Wx (.bi .tuple a)) := x_biT n tuple_ok (n.hk ▸ call_tuple_of) boot_tuple hm ha hg (by decide) (by decide) he hpl
theorem x_int (n : Cn c Wx k X) (hm : X.mg "int" = none) (ha : PA X (e :: es) (rdL c Wx a)) (hg : Gl X "int" := by rfl) (he : starEach (e :: es) X.env = (false, eval e X.env) :: starEach es X.env := by rfl) (hpl : (backTo pos (starEach es X.env)).any (·.1) = false := by rfl) :
    PE X (.Call (.Name "int" p) (e :: es) [] pos) (rdE c Wx (.bi .int a)) := x_biT n int_ok call_int1 boot_int hm ha hg (by decide) (by decide) he hpl
theorem x_abs (n : Cn c Wx k X) (hm : X.mg "abs" = none) (ha : PA X (e :: es) (rdL c Wx a)) (hg : Gl X "abs" := by rfl) (he : starEach (e :: es) X.env = (false, eval e X.env) :: starEach es X.env := by rfl) (hpl : (backTo pos (starEach es X.env)).any (·.1) = false := by rfl) :
    PE X (.Call (.Name "abs" p) (e :: es) [] pos) (rdE c Wx (.bi .abs a)) := x_biB n abs_ok call_abs boot_abs hm ha hg (by decide) (by decide) he hpl
theorem x_min (n : Cn c Wx k X) (hm : X.mg "min" = none) (ha : PA X (e :: es) (rdL c Wx a)) (hg : Gl X "min" := by rfl) (he : starEach (e :: es) X.env = (false, eval e X.env) :: starEach es X.env := by rfl) (hpl : (backTo pos (starEach es X.env)).any (·.1) = false := by rfl) :
    PE X (.Call (.Name "min" p) (e :: es) [] pos) (rdE c Wx (.bi .min a)) := x_biB n min_ok (call_min2 n.calm) boot_min hm ha hg (by decide) (by decide) he hpl
theorem x_max (n : Cn c Wx k X) (hm : X.mg "max" = none) (ha : PA X (e :: es) (rdL c Wx a)) (hg : Gl X "max" := by rfl) (he : starEach (e :: es) X.env = (false, eval e X.env) :: starEach es X.env := by rfl) (hpl : (backTo pos (starEach es X.env)).any (·.1) = false := by rfl) :
    PE X (.Call (.Name "max" p) (e :: es) [] pos) (rdE c Wx (.bi .max a)) := x_biB n max_ok (call_max2 n.calm) boot_max hm ha hg (by decide) (by decide) he hpl
theorem x_all (n : Cn c Wx k X) (hm : X.mg "all" = none) (ha : PA X (e :: es) (rdL c Wx a)) (hg : Gl X "all" := by rfl) (he : starEach (e :: es) X.env = (false, eval e X.env) :: starEach es X.env := by rfl) (hpl : (backTo pos (starEach es X.env)).any (·.1) = false := by rfl) :
    PE X (.Call (.Name "all" p) (e :: es) [] pos) (rdE c Wx (.bi .all a)) := x_biB n all_ok (n.hk ▸ cr_all n.calm) boot_all hm ha hg (by decide) (by decide) he hpl
theorem x_any (n : Cn c Wx k X) (hm : X.mg "any" = none) (ha : PA X (e :: es) (rdL c Wx a)) (hg : Gl X "any" := by rfl) (he : starEach (e :: es) X.env = (false, eval e X.env) :: starEach es X.env := by rfl) (hpl : (backTo pos (starEach es X.env)).any (·.1) = false := by rfl) :
    PE X (.Call (.Name "any" p) (e :: es) [] pos) (rdE c Wx (.bi .any a)) := x_biB n any_ok (n.hk ▸ cr_any n.calm) boot_any hm ha hg (by decide) (by decide) he hpl
theorem x_sum (n : Cn c Wx k X) (hm : X.mg "sum" = none) (ha : PA X (e :: es) (rdL c Wx a)) (hg : Gl X "sum" := by rfl) (he : starEach (e :: es) X.env = (false, eval e X.env) :: starEach es X.env := by rfl) (hpl : (backTo pos (starEach es X.env)).any (·.1) = false := by rfl) :
    PE X (.Call (.Name "sum" p) (e :: es) [] pos) (rdE c Wx (.bi .sum a)) := x_biB n sum_ok (n.hk ▸ cr_sum n.calm) boot_sum hm ha hg (by decide) (by decide) he hpl
/-- a target of several names -/
theorem y_tp {tg : Expr} {m : Nat} {g : TGs} (n : Cn c Wx k X) (h : PG X tg (gTup X.K m g)) : PG X tg (gTup c.K m g) := n.hk ▸ h
/-- an error class of the text, without an __init__ of its own -/
structure RaiseF (c : Pm) (mg : Str → Option Value) (nm : Str) : Prop where
  ex : ∃ (C : Addr) (B newId initId : String) (bmB : List Value), ExcBaseFacts B newId initId bmB ∧ PySem.W.excIn c.K C bmB newId = true ∧ mg nm = some (.ref C) ∧ PySem.W.keepIn c.K (.ref C) = true ∧ PySem.W.subIn c.K (.ref C) (.type "BaseException") = some true ∧ PySem.W.typeIn c.K (.ref C) = some (.type "type") ∧ c.cx nm = some C
theorem z_raise {x m : Str} {j : Nat} {p p2 pos2 : Pos} (n : Cn c Wx k X) (h : RaiseF c X.mg x) (hg : Gl X x := by rfl) (hdb : (x == ("__debug__" : Str)) = false := by decide) : PS X (.Raise (some (.Call (.Name x p) [.Constant (.str m) j p2] [] pos2)) none pos) (rdS c Wx fu (.raise x [] .nil)) := by
  obtain ⟨C, B, ni, ii, bm, h1, h2, h3, h4, h5, h6, h7⟩ := h.ex
  rw [← n.hk] at h2 h4 h5 h6
  exact s_raise n.calm n.tk h1 h2 h3 h4 (raises_own h5 h6) hg hdb h7
theorem z_popp (i j : Nat) {z zj : Str} {b : Expr} {bs : List Expr} {p2 pj apos cpos apos2 cpos2 : Pos} (n : Cn c Wx k X) (ha : PA X (b :: bs) (rdL c Wx a)) (hvj : Vis X.env.scope zj) (hv : Vis X.env.scope z) (hNj : X.N[i]? = some zj := by rfl) (hN : X.N[j]? = some z := by rfl)
    (hdj : (zj == ("__debug__" : Str)) = false := by decide) (hcdj : (zj == ("__classdict__" : Str)) = false := by decide) (hd : (z == ("__debug__" : Str)) = false := by decide) (hcd : (z == ("__classdict__" : Str)) = false := by decide)
    (hbase : attributeBase (.Name z p2) "pop" X.env (eval (.Name z p2) X.env) = eval (.Name z p2) X.env := by rfl)
    (hfew : ((backTo cpos (starEach (b :: bs) X.env)).all (fun x => !x.1) && (backToKw cpos (keywordEach [] X.env)).all (fun x => x.1.isSome)
      && decide ((b :: bs).length + ([] : List Keyword).length + (if ([] : List Keyword).isEmpty then 0 else 1) < 30)) = true := by rfl)
    (hline : (apos.endLine == cpos.line) = true := by rfl) (hs : starEach (b :: bs) X.env = (false, eval b X.env) :: starEach bs X.env := by rfl) (hpl : (backTo cpos (starEach bs X.env)).any (·.1) = false := by rfl)
    (hbase2 : attributeBase (.Name zj pj) "append" X.env (eval (.Name zj pj) X.env) = eval (.Name zj pj) X.env := by rfl)
    (hfew2 : ((backTo cpos2 (starEach [.Call (.Attribute (.Name z p2) "pop" apos) (b :: bs) [] cpos] X.env)).all (fun x => !x.1) && (backToKw cpos2 (keywordEach [] X.env)).all (fun x => x.1.isSome)
      && decide (([.Call (.Attribute (.Name z p2) "pop" apos) (b :: bs) [] cpos] : List Expr).length + ([] : List Keyword).length + (if ([] : List Keyword).isEmpty then 0 else 1) < 30)) = true := by rfl)
    (hline2 : (apos2.endLine == cpos2.line) = true := by rfl) (hs2 : starEach [.Call (.Attribute (.Name z p2) "pop" apos) (b :: bs) [] cpos] X.env = [(false, eval (.Call (.Attribute (.Name z p2) "pop" apos) (b :: bs) [] cpos) X.env)] := by rfl)
    (hsw : swapsWith (.Call (.Attribute (.Name zj pj) "append" apos2) [.Call (.Attribute (.Name z p2) "pop" apos) (b :: bs) [] cpos] [] cpos2) none pos.line X.env = pure false := by rfl) :
    PS X (.Expr (.Call (.Attribute (.Name zj pj) "append" apos2) [.Call (.Attribute (.Name z p2) "pop" apos) (b :: bs) [] cpos] [] cpos2) pos) (rdS c Wx fu (.popp i j a)) :=
  s_popp n.hk hNj hvj hdj hcdj hN hv hd hcd ha hbase hfew hline hs hpl hbase2 hfew2 hline2 hs2 hsw
/-- name = [..], the name a local -/
theorem z_setLc (i : Nat) {y : Str} {py : Pos} {tg it elt : Expr} {ifs : List Expr} {scope : Scope} {own : List (Str × Nat)} {pt : Pat} {g : TG} {src tst el : E} {cpos : Pos} (n : Cn c Wx k X) (hi : PI X tg it (rdI c Wx src)) (gk : GOk c pt (own.map (·.2)) g) (ok : blkC X.N X.env.scope scope own = true)
    (hg : ∀ (s : Shared) (H : Hp) (C : Addr) (cl : List (Str × Addr)) (fp : List Addr), PG (X.blk s H scope (compEnvC scope cl C X.env) fp) tg g) (ht : ∀ (s : Shared) (H : Hp) (C : Addr) (cl : List (Str × Addr)) (fp : List Addr), PTs (X.blk s H scope (compEnvC scope cl C X.env) fp) ifs (rdA c WXF tst))
    (he : ∀ (s : Shared) (H : Hp) (C : Addr) (cl : List (Str × Addr)) (fp : List Addr), PE (X.blk s H scope (compEnvC scope cl C X.env) fp) elt (rdE c WXF el)) (hy : X.N[i]? = some y := by rfl) (hyl : X.env.scope.names.lookup y = some .local := by rfl)
    (hsw : swapsWith (.ListComp elt [⟨tg, it, ifs, 0⟩] scope cpos) (some (.Name y py)) pos.line X.env = pure true := by rfl) (hs : ∀ x, foldedSetIterable it X.env x = pure x := by intro _; rfl) :
    PS X (.Assign [.Name y py] (.ListComp elt [⟨tg, it, ifs, 0⟩] scope cpos) pos) (rdS c Wx fu (.asg i (.lc el pt src tst (own.map (·.2))))) := by
  refine ps_wk (ps_setLc n.calm n.nd hy hyl hsw hi (blkOk_by ok) hg ht he hs) fun D σ H ⟨F0, H0, ρ, F, W, R, hP⟩ => ?_
  simp only [evS] at hP
  exact lc_ok n.calm n.nd hi (blkOk_by ok) gk (st_e R hP fun v W1 u F1 H1 S1 V1 R1 hP => hP _ _ _ (R.put R1 V1) fun a o q => Fz_up R1.stp.sub _ _ (S1.f _ _ q))
end
end Z

namespace Z
open PySem PySem.Spec PyProof.Rows L2
open Classical
section
variable {c : Pm} {Wx : WX} {X : Cx} {fu n k : Nat} {W W' W1 W2 W3 : Dr} {F0 H0 F H F' H' F1 H1 F2 H2 F3 H3 Hs : Hp} {ρ ρ' : En} {σ σ' : L2.St} {u w : V} {x y v : Vl} {Q : VK} {us : List V} {vs : List Vl} {pos : Pos}
theorem dl_kind {a : Addr} (d : DrawAt c W H) (h : a ∈ c.dl) : (∃ kvs, H a = some (.dK kvs)) ∨ ∃ xs, H a = some (.lst xs) := by
  rcases d with q | ⟨a0, a1, q, _, e0, e1⟩
  · rw [q] at h; cases h
  · rw [q] at h
    simp only [List.mem_cons, List.not_mem_nil, or_false] at h
    rcases h with rfl | rfl
    · exact .inl ⟨_, e0⟩
    · exact .inr ⟨_, e1⟩
theorem Stp.drw (S : Stp c W F H F H) (hH : ∀ a, a ∉ c.dl → H' a = H a) (d : DrawAt c W' H') (hc : W'.cells = W.cells) : Stp c W' F H F H' := by
  refine ⟨Same.refl _, fun a o e => ?_, fun a o e m _ => (hH a (mv_dl m)).trans e, fun _ e _ => e, S.nt, S.av, d, fun hd => by rw [hc]; exact S.cl hd, fun p hp => ?_⟩
  · have m : a ∉ c.dl := fun z => by rw [S.av a (List.mem_append_left _ z)] at e; cases e
    exact (hH a m).trans (S.sub _ _ e)
  · obtain ⟨ps, e1, e2, e3⟩ := S.tabs p hp
    refine ⟨ps, ?_, e2, fun pos cv hv => ?_⟩
    · rw [hH _ fun z => ?_]; exact e1
      rcases dl_kind S.dr z with ⟨_, k⟩ | ⟨_, k⟩ <;> rw [e1] at k <;> cases k
    · obtain ⟨cc, k1, k2⟩ := e3 pos cv hv
      refine ⟨cc, k1, ?_⟩
      rw [hH _ fun z => ?_]; exact k2
      rcases dl_kind S.dr z with ⟨_, k⟩ | ⟨_, k⟩ <;> rw [k2] at k <;> cases k
theorem val_drw (R : Rel c F0 H0 ρ σ F H W) (k : ValOk c ρ σ Hs F H u v) (e : v.d = .drw) : ∃ a0 a1, u = .ref a0 ∧ c.dl = [a0, a1] ∧ a0 ≠ a1 ∧ H a0 = some (.dK (drK W a1 c.d2)) ∧ H a1 = some (.lst (W.wide.map .int)) ∧ F c.d2 = some (.lst (W.cells.map .int)) := by
  have a := k.rep R e fun _ _ _ h => h
  cases a with
  | drw h =>
    rcases R.stp.dr with q | ⟨a0, a1, q, n, e0, e1⟩
    · rw [q] at h; cases h
    · rw [q] at h
      cases h
      exact ⟨_, a1, rfl, q, n, e0, e1, R.stp.cl (by rw [q]; simp)⟩
theorem ne_wide_cells : ¬ Str.ofString "wide" = Str.ofString "cells" := by decide
theorem ne_wide_rest : ¬ Str.ofString "wide" = Str.ofString "rest" := by decide
theorem ne_wide_turn : ¬ Str.ofString "wide" = Str.ofString "turn" := by decide
theorem ne_cells_wide : ¬ Str.ofString "cells" = Str.ofString "wide" := by decide
theorem ne_cells_rest : ¬ Str.ofString "cells" = Str.ofString "rest" := by decide
theorem ne_cells_turn : ¬ Str.ofString "cells" = Str.ofString "turn" := by decide
theorem ne_rest_wide : ¬ Str.ofString "rest" = Str.ofString "wide" := by decide
theorem ne_rest_cells : ¬ Str.ofString "rest" = Str.ofString "cells" := by decide
theorem ne_rest_turn : ¬ Str.ofString "rest" = Str.ofString "turn" := by decide
theorem ne_turn_wide : ¬ Str.ofString "turn" = Str.ofString "wide" := by decide
theorem ne_turn_cells : ¬ Str.ofString "turn" = Str.ofString "cells" := by decide
theorem ne_turn_rest : ¬ Str.ofString "turn" = Str.ofString "rest" := by decide
def kRest : Key := Sum.inr "rest"
def kTurn : Key := Sum.inr "turn"
def kWide : Key := Sum.inr "wide"
def kCells : Key := Sum.inr "cells"
theorem dr_rest {a1 a2 : Addr} : valV (drK W a1 a2) kRest = some (.int W.rest) := by simp [valV, drK, kRest, ne_wide_cells, ne_wide_rest, ne_wide_turn, ne_cells_wide, ne_cells_rest, ne_cells_turn, ne_rest_wide, ne_rest_cells, ne_rest_turn, ne_turn_wide, ne_turn_cells, ne_turn_rest]
theorem dr_turn {a1 a2 : Addr} : valV (drK W a1 a2) kTurn = some (.int W.turn) := by simp [valV, drK, kTurn, ne_wide_cells, ne_wide_rest, ne_wide_turn, ne_cells_wide, ne_cells_rest, ne_cells_turn, ne_rest_wide, ne_rest_cells, ne_rest_turn, ne_turn_wide, ne_turn_cells, ne_turn_rest]
theorem dr_wide {a1 a2 : Addr} : valV (drK W a1 a2) kWide = some (.ref a1) := by simp [valV, drK, kWide, ne_wide_cells, ne_wide_rest, ne_wide_turn, ne_cells_wide, ne_cells_rest, ne_cells_turn, ne_rest_wide, ne_rest_cells, ne_rest_turn, ne_turn_wide, ne_turn_cells, ne_turn_rest]
theorem dr_cells {a1 a2 : Addr} : valV (drK W a1 a2) kCells = some (.ref a2) := by simp [valV, drK, kCells, ne_wide_cells, ne_wide_rest, ne_wide_turn, ne_cells_wide, ne_cells_rest, ne_cells_turn, ne_rest_wide, ne_rest_cells, ne_rest_turn, ne_turn_wide, ne_turn_cells, ne_turn_rest]
theorem dr_prest {a1 a2 : Addr} {j : Int} : putK (drK W a1 a2) kRest (.int j) = drK { W with rest := j } a1 a2 := by simp [putK, drK, kRest, ne_wide_cells, ne_wide_rest, ne_wide_turn, ne_cells_wide, ne_cells_rest, ne_cells_turn, ne_rest_wide, ne_rest_cells, ne_rest_turn, ne_turn_wide, ne_turn_cells, ne_turn_rest]
theorem dr_pturn {a1 a2 : Addr} {j : Int} : putK (drK W a1 a2) kTurn (.int j) = drK { W with turn := j } a1 a2 := by simp [putK, drK, kTurn, ne_wide_cells, ne_wide_rest, ne_wide_turn, ne_cells_wide, ne_cells_rest, ne_cells_turn, ne_rest_wide, ne_rest_cells, ne_rest_turn, ne_turn_wide, ne_turn_cells, ne_turn_rest]
/-- draw['turn'], draw['rest'] -/
theorem x_drg (kk : Bool) {a : Expr} {ea : E} {j : Nat} {p2 : Pos} (n : Cn c Wx k X) (ha : PE X a (rdE c Wx ea)) (hs : NoSl (.Constant (.str (if kk then "turn" else "rest")) j p2) := by exact fun _ _ => rfl) :
    PE X (.Subscript a (.Constant (.str (if kk then "turn" else "rest")) j p2) pos) (rdE c Wx (.drg kk ea)) := by
  refine pe_wk (pe_dget (by have := n.hu; omega) ha pe_str hs) fun σ H Q ⟨F0, H0, ρ, F, W, R, hP⟩ => ?_
  simp only [ev] at hP
  refine rd_e R R.refl hP fun x W1 u F1 H1 S1 _ V1 R1 hP => ?_
  cases e : x.d <;> rw [e] at hP <;> try (exact hP.elim)
  obtain ⟨a0, a1, rfl, e1, e2, e3, e4, e5⟩ := val_drw R1 V1 e
  cases kk with
  | true => exact ⟨a0, _, rfl, dr_turn (W := W1) ▸ DGet.k (k := kTurn) e3, fin_sc R1 S1 hP (.int _)⟩
  | false => exact ⟨a0, _, rfl, dr_rest (W := W1) ▸ DGet.k (k := kRest) e3, fin_sc R1 S1 hP (.int _)⟩
/-- draw['cells'] -/
theorem x_drc {a : Expr} {ea : E} {j : Nat} {p2 : Pos} (n : Cn c Wx k X) (ha : PE X a (rdE c Wx ea)) (hs : NoSl (.Constant (.str "cells") j p2) := by exact fun _ _ => rfl) :
    PE X (.Subscript a (.Constant (.str "cells") j p2) pos) (rdE c Wx (.drc ea)) := by
  refine pe_wk (pe_dget (by have := n.hu; omega) ha pe_str hs) fun σ H Q ⟨F0, H0, ρ, F, W, R, hP⟩ => ?_
  simp only [ev] at hP
  refine rd_e R R.refl hP fun x W1 u F1 H1 S1 _ V1 R1 hP => ?_
  cases e : x.d <;> rw [e] at hP <;> try (exact hP.elim)
  obtain ⟨a0, a1, rfl, e1, e2, e3, e4, e5⟩ := val_drw R1 V1 e
  refine ⟨a0, _, rfl, dr_cells (W := W1) ▸ DGet.k (k := kCells) e3, fin_sc R1 S1 hP (.lst e5 ?_)⟩
  have go : ∀ l : List Int, RepL c F1 (l.map V.int) (l.map D.int) := fun l => by
    induction l with
    | nil => exact .nil
    | cons y l ih => exact .cons (.int y) ih
  exact go _
/-- draw['wide'] != [] -/
theorem ints_dp {K : PySem.W.Frag} : ∀ l : List Int, DpAll K H (l.map V.int) (l.map PyData.int)
  | [] => .nil
  | _ :: l => .cons (.int _) (ints_dp l)
theorem pyN_ints : ∀ (m : Nat) (l : List Int), D.pyNL m (l.map D.int) = some (l.map PyData.int)
  | m, [] => by simp [D.pyNL]
  | m, y :: l => by simp [D.pyNL, D.pyN, pyN_ints m l]
theorem drn_ok {ea : E} {Wx : WX} (hk : X.K = c.K) (h : rdE c Wx (.drn ea) σ H Q) : tOp (rEqP X.K true) (tDGet (rdE c Wx ea) (tC (.str "wide"))) (tLst tNil) σ H Q := by
  obtain ⟨F0, H0, ρ, F, W, R, hP⟩ := h
  simp only [ev] at hP
  refine rd_e R R.refl hP fun x W1 u F1 H1 S1 _ V1 R1 hP => ?_
  cases e : x.d <;> rw [e] at hP <;> try (exact hP.elim)
  obtain ⟨a0, a1, rfl, e1, e2, e3, e4, e5⟩ := val_drw R1 V1 e
  refine ⟨a0, _, rfl, dr_wide (W := W1) ▸ DGet.k (k := kWide) e3, Nat.zero_le _, fun p hp => ?_⟩
  have S2 := R1.refl.make (o := .lst []) hp
  have ne : a1 ≠ p := fun z => by rw [z, hp] at e4; cases e4
  have h4 : (upd H1 p (.lst [])) a1 = some (.lst (W1.wide.map .int)) := by rw [upd_ne ne]; exact e4
  obtain ⟨p1, p2⟩ := pyN_ok 12 (.lst (W1.wide.map .int)) (.list (W1.wide.map .int)) (by simp [D.pyN, pyN_ints])
  refine ⟨.list (W1.wide.map .int), .list [], .lst (.inl (.inl h4)) (ints_dp _), .lst (.inl (.inl upd_same)) .nil, p1, rfl, by omega, ?_⟩
  rw [if_pos rfl]
  have q := fin_sc (u := .bl (!W1.wide.isEmpty)) (R1.step S2) (S1.trans S2) hP (.bl _)
  have eq : PyData.eqv (.list (W1.wide.map .int)) (.list []) = W1.wide.isEmpty := by
    cases W1.wide with
    | nil => rfl
    | cons y l => rfl
  rw [eq]
  exact q
theorem x_drn {a : Expr} {ea : E} {j : Nat} {p2 p3 p4 : Pos} (n : Cn c Wx k X) (ha : PE X a (rdE c Wx ea)) (hs : NoSl (.Constant (.str "wide") j p2) := by exact fun _ _ => rfl) (hm : behindInMarks .NotEq (.List [] p3) = false := by first | exact nobehind _ (by decide) (by decide) | rfl) :
    PE X (.Compare (.Subscript a (.Constant (.str "wide") j p2) p4) [.NotEq] [.List [] p3] pos) (rdE c Wx (.drn ea)) :=
  pe_wk (pe_cmpR (op_neP n.hu) (pe_dget (by have := n.hu; omega) ha pe_str hs) (pe_lst pa_nil) hm) fun σ H Q h => drn_ok n.hk h
theorem y_drn {a : Expr} {ea : E} {j : Nat} {p2 p3 p4 : Pos} (n : Cn c Wx k X) (ha : PE X a (rdE c Wx ea)) (hs : NoSl (.Constant (.str "wide") j p2) := by exact fun _ _ => rfl) (hm : behindInMarks .NotEq (.List [] p3) = false := by first | exact nobehind _ (by decide) (by decide) | rfl) :
    PT X (.Compare (.Subscript a (.Constant (.str "wide") j p2) p4) [.NotEq] [.List [] p3] pos) (rdT c Wx (.tv (.drn ea))) := by
  refine pt_wk (pt_cmpR (op_neP n.hu) (pe_dget (by have := n.hu; omega) ha pe_str hs) (pe_lst pa_nil) hm) fun σ H Q ⟨F0, H0, ρ, F, W, R, hP⟩ => ?_
  simp only [evT] at hP
  refine drn_ok (c := c) (Wx := Wx) n.hk ⟨F0, H0, ρ, F, W, R, ?_⟩
  cases e : ev (.drn ea) ρ W with
  | stk => rw [e] at hP; exact hP.elim
  | ex x W1 => rw [e] at hP; exact hP
  | ok x W1 =>
    rw [e] at hP
    intro u F1 H1 S1 V1
    cases ed : x.d <;> (simp only [Out.bind, ed, D.isBl, ofO] at hP) <;> try (exact hP.elim)
    rename_i b
    exact ⟨b, V1.bl (R.step S1) ed, hP b F1 H1 S1 rfl⟩
/-- draw['wide'].pop(0) -/
theorem x_drp {a : Expr} {ea : E} {j j2 : Nat} {p2 p3 p4 apos cpos : Pos} (n : Cn c Wx k X) (ha : PE X a (rdE c Wx ea)) (hs : NoSl (.Constant (.str "wide") j p2) := by exact fun _ _ => rfl)
    (hbase : attributeBase (.Subscript a (.Constant (.str "wide") j p2) p4) "pop" X.env (eval (.Subscript a (.Constant (.str "wide") j p2) p4) X.env) = eval (.Subscript a (.Constant (.str "wide") j p2) p4) X.env := by rfl)
    (hfew : ((backTo cpos (starEach [.Constant (.int 0) j2 p3] X.env)).all (fun x => !x.1) && (backToKw cpos (keywordEach [] X.env)).all (fun x => x.1.isSome)
      && decide (([.Constant (.int 0) j2 p3] : List Expr).length + ([] : List Keyword).length + (if ([] : List Keyword).isEmpty then 0 else 1) < 30)) = true := by rfl)
    (hline : (apos.endLine == cpos.line) = true := by rfl) (hst : starEach [.Constant (.int 0) j2 p3] X.env = (false, eval (.Constant (.int 0) j2 p3) X.env) :: starEach [] X.env := by rfl) :
    PE X (.Call (.Attribute (.Subscript a (.Constant (.str "wide") j p2) p4) "pop" apos) [.Constant (.int 0) j2 p3] [] cpos) (rdE c Wx (.drp ea)) := by
  refine pe_wk (pe_bm F.plainAttrs_list F.slot_list_pop (by rfl) mt_popAt (pe_dget (by have := n.hu; omega) ha pe_str hs) (pa_cons pe_int pa_nil hst) hbase hfew hline hst (by rfl)) fun σ H Q ⟨F0, H0, ρ, F, W, R, hP⟩ => ?_
  simp only [ev] at hP
  refine rd_e R R.refl hP fun x W1 u F1 H1 S1 _ V1 R1 hP => ?_
  cases e : x.d <;> rw [e] at hP <;> try (exact hP.elim)
  obtain ⟨a0, a1, rfl, e1, e2, e3, e4, e5⟩ := val_drw R1 V1 e
  cases ew : W1.wide with
  | nil => rw [ew] at hP; exact hP.elim
  | cons w ws =>
    rw [ew] at hP e4
    simp only at hP
    refine ⟨a0, .ref a1, rfl, dr_wide (W := W1) ▸ DGet.k (k := kWide) e3, (.inl ⟨rfl, _, .inl (.inl e4)⟩ : (_ ∧ _) ∨ _), a1, _, 0, 0, .int w, rfl, rfl, e4, by decide, by decide, by simp [seqIndex?], rfl, ?_⟩
    have S2 : Stp c { W1 with wide := ws } F1 H1 F1 (upd H1 a1 (.lst (ws.map .int))) := by
      refine Stp.drw R1.refl (fun a m => upd_ne fun z => m (by rw [e1, z]; simp)) (.inr ⟨a0, a1, e1, e2, ?_, upd_same⟩) rfl
      rw [upd_ne e2]
      exact e3
    exact fin_sc (R1.step S2) (S1.trans S2) hP (.int w)
/-- draw['turn'] = e, draw['rest'] = e -/
theorem z_drs (kk : Bool) (i : Nat) {z : Str} {e : Expr} {ee : E} {j : Nat} {p2 p3 tpos : Pos} (n : Cn c Wx k X) (he : PE X e (rdE c Wx ee)) (hv : Vis X.env.scope z) (hN : X.N[i]? = some z := by rfl) (hd : (z == ("__debug__" : Str)) = false := by decide) (hcd : (z == ("__classdict__" : Str)) = false := by decide)
    (ha : ∀ v, assign (.Subscript (.Name z p2) (.Constant (.str (if kk then "turn" else "rest")) j p3) tpos) X.env v = (do
      let ov ← holding [v] (eval (.Name z p2) X.env)
      let iv ← holding [v, ov] (eval (.Constant (.str (if kk then "turn" else "rest")) j p3) X.env)
      standAt tpos
      holding [v, ov, iv] (setItem ov iv v)
      release [v, ov, iv] []) := by intro _; rfl)
    (hs : swapsWithSole [.Subscript (.Name z p2) (.Constant (.str (if kk then "turn" else "rest")) j p3) tpos] e pos.line X.env = pure false := by rfl) (hw : swappedStores [.Subscript (.Name z p2) (.Constant (.str (if kk then "turn" else "rest")) j p3) tpos] e X.env = pure none := by rfl)
    (h1 : (assignEach [.Subscript (.Name z p2) (.Constant (.str (if kk then "turn" else "rest")) j p3) tpos] X.env).map (·.2) = [assign (.Subscript (.Name z p2) (.Constant (.str (if kk then "turn" else "rest")) j p3) tpos) X.env] := by rfl) :
    PS X (.Assign [.Subscript (.Name z p2) (.Constant (.str (if kk then "turn" else "rest")) j p3) tpos] e pos) (rdS c Wx fu (.drs kk i ee)) := by
  refine ps_wk (ps_asg he (pg_sub (pe_var hN hv hd hcd) pe_str (set_dict (by have := n.hu; omega)) ha) hs hw h1) fun D σ H ⟨F0, H0, ρ, F, W, R, hP⟩ => ?_
  simp only [evS] at hP
  refine st_e R hP fun v W1 u F1 H1 S1 V1 R1 hP => ?_
  cases e0 : ρ[i]? with
  | none => rw [e0] at hP; exact hP.elim
  | some s =>
    rw [e0] at hP
    cases s with
    | un => exact hP.elim
    | own d => exact hP.elim
    | slf _ _ _ => exact hP.elim
    | val d =>
      cases d <;> try (exact hP.elim)
      cases e3 : v.d <;> rw [e3] at hP <;> try (exact hP.elim)
      rename_i m
      simp only at hP
      cases V1.int R1 e3
      obtain ⟨w, q1, q2⟩ := R1.slot i _ e0
      cases q2 with
      | drw hh =>
        rename_i b
        rcases R1.stp.dr with q | ⟨a0, a1, q, nn, f0, f1⟩
        · rw [q] at hh; cases hh
        · rw [q] at hh
          cases hh
          have sz : (drK W1 a1 c.d2).length < sizeLine := by rw [sizeLine_eq]; show 4 < 16777216; decide
          cases kk with
          | true =>
            have S2 : Stp c { W1 with turn := m } F1 H1 F1 (upd H1 b (.dK (drK { W1 with turn := m } a1 c.d2))) := by
              refine Stp.drw R1.refl (fun a m => upd_ne fun z => m (by rw [q, z]; simp)) (.inr ⟨b, a1, q, nn, upd_same, ?_⟩) rfl
              rw [upd_ne nn.symm]
              exact f1
            exact ⟨_, q1, b, _, rfl, DPut.k (k := kTurn) f0 sz, by rw [dr_pturn]; exact hP _ _ _ (R1.step S2) S1.f⟩
          | false =>
            have S2 : Stp c { W1 with rest := m } F1 H1 F1 (upd H1 b (.dK (drK { W1 with rest := m } a1 c.d2))) := by
              refine Stp.drw R1.refl (fun a m => upd_ne fun z => m (by rw [q, z]; simp)) (.inr ⟨b, a1, q, nn, upd_same, ?_⟩) rfl
              rw [upd_ne nn.symm]
              exact f1
            exact ⟨_, q1, b, _, rfl, DPut.k (k := kRest) f0 sz, by rw [dr_prest]; exact hP _ _ _ (R1.step S2) S1.f⟩
end
end Z

namespace Z
open PySem PySem.Spec PyProof.Rows L2
open Classical
def lcWide : E := (.lc (.bin .Sub (.bi .abs (.cons (.var 2) .nil)) (.bin .Pow (.cst (.int 10)) (.cst (.int 18)))) (.nm 2) (.wk (.var 0)) (.cons (.tv (.cmp .GtE (.bi .abs (.cons (.var 2) .nil)) (.bin .Pow (.cst (.int 10)) (.cst (.int 18))))) .nil) [2])
def lcCells : E := (.lc (.bin .Mod (.bi .int (.cons (.bi .abs (.cons (.var 2) .nil)) .nil)) (.cst (.int 2147483629))) (.nm 2) (.wk (.var 0)) .nil [2])
def absI (i : Int) : Int := if i < 0 then -i else i
def wideOf (ns : List Int) : List Int := ns.filterMap fun i => if (10 : Int) ^ 18 ≤ absI i then some (absI i - 10 ^ 18) else none
def cellsOf (ns : List Int) : List Int := ns.map fun i => absI i % 2147483629
theorem lcGo_fm {f : D → Dr → Out (Option Vl)} {g : Int → Option Int} {W : Dr} (hf : ∀ i, f (.int i) W = .ok ((g i).map fun j => ⟨.int j, .pl, []⟩) W) : ∀ (ns : List Int) (acc : List D), acc.length + ns.length ≤ cap →
    lcGo f (ns.map .int) acc [] W = .ok (vf (.lst (acc ++ (ns.filterMap g).map .int)) []) W
  | [], acc, _ => by simp [lcGo]
  | i :: ns, acc, h => by
    simp only [List.map_cons, lcGo, hf]
    rw [List.length_cons] at h
    cases e : g i with
    | none =>
      simp only [Option.map_none, List.filterMap_cons, e]
      exact lcGo_fm hf ns acc (by omega)
    | some j =>
      simp only [Option.map_some, List.filterMap_cons, e]
      rw [if_pos (by omega)]
      have q := lcGo_fm hf ns (acc ++ [.int j]) (by simp; omega)
      simp only [Vl.all, List.append_nil] at q ⊢
      rw [q]
      simp
theorem lc_eq {el src tst : E} {pt : Pat} {own : List Nat} {ρ : En} {W W1 : Dr} {xs : List D} {me : List Nat} (h : evI src ρ W = .ok ⟨xs, me, []⟩ W1) : ev (.lc el pt src tst own) ρ W = lcGo (fun x W => ofO (bindP pt x (wip ρ own)) fun ρ' => (evA tst ρ' W).bind fun b W => if b then (ev el ρ' W).bind fun v W => .ok (some v) W else .ok none W) xs [] [] W1 := by
  simp only [ev, h, Out.bind]
theorem abs_eq {i : Int} : absD [.int i] = some (false, .int (absI i)) := rfl
theorem ev_wide {ns : List Int} {W : Dr} (h : ns.length ≤ cap) : ev lcWide [.val (.scr ns), .un, .un] W = .ok (vf (.lst ((wideOf ns).map .int)) []) W := by
  unfold lcWide
  rw [lc_eq (xs := ns.map .int) (me := []) (W1 := W) (by simp [evI, ev, Out.bind, D.items, ofO, Vl.all])]
  refine lcGo_fm (g := fun i => if (10 : Int) ^ 18 ≤ absI i then some (absI i - 10 ^ 18) else none) (fun i => ?_) ns [] (by simpa using h)
  by_cases hi : (10 : Int) ^ 18 ≤ absI i
  · rw [if_pos hi]
    simp [bindP, ofO, wip, evA, evT, ev, evL, Out.bind, biD, abs_eq, ds, binD, big_eq, cmpD, D.isBl, vo, vl, D.imm] at hi ⊢
    simp [hi]
  · rw [if_neg hi]
    simp [bindP, ofO, wip, evA, evT, ev, evL, Out.bind, biD, abs_eq, ds, binD, big_eq, cmpD, D.isBl, vo, vl, D.imm] at hi ⊢
    simp [show ¬ ((1000000000000000000 : Int) ≤ absI i) by omega]
theorem ev_cells {ns : List Int} {W : Dr} {s : Sl} (h : ns.length ≤ cap) : ev lcCells [.val (.scr ns), s, .un] W = .ok (vf (.lst ((cellsOf ns).map .int)) []) W := by
  unfold lcCells
  rw [lc_eq (xs := ns.map .int) (me := []) (W1 := W) (by simp [evI, ev, Out.bind, D.items, ofO, Vl.all])]
  rw [lcGo_fm (g := fun i => some (absI i % 2147483629)) (fun i => ?_) ns [] (by simpa using h)]
  · simp [cellsOf, List.filterMap_eq_map']
  · simp [bindP, ofO, wip, evA, evT, ev, evL, Out.bind, biD, abs_eq, intD, ds, binD, big_eq, cmpD, D.isBl, vo, vl, D.imm]
section
variable {c : Pm} {Wx : WX} {X : Cx} {fu n k : Nat} {W W' W1 W2 W3 : Dr} {F0 H0 F H F' H' F1 H1 F2 H2 F3 H3 Hs : Hp} {ρ ρ' : En} {σ σ' : L2.St} {u w : V} {x y v : Vl} {Q : VK} {us : List V} {vs : List Vl} {pos : Pos}
/-- the parts before anything is drawn -/
abbrev Pm.bare (c : Pm) : Pm := { c with dl := [] }
/-- the draws stand at a0, a1, a2 -/
abbrev Pm.at (c : Pm) (a0 a1 a2 : Addr) : Pm := { c with dl := [a0, a1], d2 := a2 }
def dr0 (ns : List Int) : Dr := ⟨false, wideOf ns, cellsOf ns, 0, 0⟩
/-- the heap without the tables of code objects -/
noncomputable def noTb (H : Hp) : Hp := fun a => if ∃ ps, H a = some (.tbl ps) then none else H a
theorem noTb_dn {H : Hp} : Same (noTb H) H := fun a o e => by
  unfold noTb at e
  by_cases h : ∃ ps, H a = some (.tbl ps)
  · rw [if_pos h] at e; cases e
  · rw [if_neg h] at e; exact e
theorem noTb_in {H : Hp} {a : Addr} {ps : Array Value} (h : H a = some (.tbl ps)) : noTb H a = none := if_pos ⟨_, h⟩
theorem noTb_out {H : Hp} {a : Addr} {o : HO} (h : H a = some o) (n : Nt o) : noTb H a = some o := by
  unfold noTb
  rw [if_neg]
  · exact h
  · rintro ⟨ps, e⟩
    rw [h] at e
    exact n ps (Option.some.inj e)
theorem noTb_nt {H : Hp} {a : Addr} {o : HO} (h : noTb H a = some o) : Nt o := fun ps z => by
  subst z
  have := noTb_dn _ _ h
  rw [noTb_in this] at h
  cases h
theorem noTb_nil {H : Hp} {a : Addr} (h : ∀ o, H a = some o → ¬ Nt o) : noTb H a = none := by
  cases q : noTb H a with
  | none => rfl
  | some o => exact (h o (noTb_dn _ _ q) (noTb_nt q)).elim
theorem tb_kind {T : List (Addr × Str)} {H : Hp} {a : Addr} (t : LamX.Tabs T H) (h : a ∈ T.map (·.1)) : ∃ ps, H a = some (.tbl ps) := by
  obtain ⟨p, hp, rfl⟩ := List.mem_map.mp h
  obtain ⟨ps, e, _⟩ := t p hp
  exact ⟨ps, e⟩
theorem noTb_sqS {K : PySem.W.Frag} {H : Hp} {a : Addr} {vs : List V} (h : SqS K H a vs) : SqS K (noTb H) a vs := by
  rcases h with ⟨o, h⟩ | h | h
  · exact .inl ⟨o, noTb_out h fun _ z => by cases z⟩
  · exact .inr (.inl (noTb_out h nt_lst))
  · exact .inr (.inr h)
theorem bare_mv {a : Addr} (h : a ∈ c.bare.mv) : a ∈ c.tb.map (·.1) := by
  unfold Pm.mv at h
  exact (List.mem_append.mp h).elim (fun z => by cases z) id
theorem bare_stp {H : Hp} (t : LamX.Tabs c.tb H) : Stp c.bare W (noTb H) H (noTb H) H := ⟨Same.refl _, noTb_dn, fun _ _ e _ _ => e, fun _ e _ => e, fun _ _ h => noTb_nt h, fun a ha => by obtain ⟨ps, e⟩ := tb_kind t (bare_mv ha); exact noTb_in e, .inl rfl, fun z => absurd rfl z, t⟩
/-- all but the tables stand -/
def SameB (c : Pm) (H H' : Hp) : Prop := ∀ a o, H a = some o → Nt o → a ∉ c.tb.map (·.1) → H' a = some o
/-- _law_begun's promise -/
def spBegun (c : Pm) : Sp := fun vs H Q _ => ∃ (s : Addr) (ns : List Int), vs = [.ref s] ∧ SqS c.K H s (ns.map V.int) ∧ ns.length ≤ 1000 ∧ LamX.Tabs c.tb H ∧ ∀ H' a0 a1 a2, SameB c H H' → LamX.Tabs c.tb H' → Nil H a0 → Nil H a1 → Nil H a2 → a0 ≠ a1 → a0 ≠ a2 → a1 ≠ a2 →
  H' a0 = some (.dK (drK (dr0 ns) a1 a2)) → H' a1 = some (.lst ((wideOf ns).map V.int)) → H' a2 = some (.lst ((cellsOf ns).map V.int)) → Q (.ref a0) H'
theorem repl_ints {c : Pm} {F : Hp} : ∀ {vs : List V} {l : List Int}, RepL c F vs (l.map D.int) → vs = l.map V.int
  | [], [], _ => rfl
  | v :: vs, y :: l, .cons h t => by rw [List.map_cons, h.intI, repl_ints t]
  | [], _ :: _, h => by cases h
  | _ :: _, [], h => by cases h
theorem begun_ok {E : XK} (h : spBegun c us H Q E) : tSeq (rdS c.bare WXF fu (.asg 1 lcWide)) (tRet (tDisp [(tC (.str "wide"), rdE c.bare WXF (.var 1)), (tC (.str "cells"), rdE c.bare WXF lcCells), (tC (.str "rest"), tC (.int 0)), (tC (.str "turn"), tC (.int 0))])) { nx := fun _ H' => Q .non H', rt := Q } (L2.start ["_law_script", "_law_wide", "_law_cell"] us) H := by
  obtain ⟨s, ns, rfl, hs, hl, ht, q⟩ := h
  have hcap : ns.length ≤ cap := by unfold cap; omega
  have R0 : Rel c.bare (noTb H) H [.val (.scr ns), .un, .un] (L2.start ["_law_script", "_law_wide", "_law_cell"] [.ref s]) (noTb H) H (dr0 ns) := by
    have r : RepL c.bare (noTb H) [.ref s] [.scr ns] := .cons (.scr (noTb_sqS hs)) .nil
    exact rel_start (N := ["_law_script", "_law_wide", "_law_cell"]) r (bare_stp ht)
  refine ⟨noTb H, H, _, noTb H, dr0 ns, R0, ?_⟩
  simp only [evS, ev_wide hcap, Out.st]
  have hput : put [.val (.scr ns), .un, .un] 1 (vf (.lst ((wideOf ns).map .int)) []) = [.val (.scr ns), .own (.lst ((wideOf ns).map .int)), .un] := by
    simp [put, frz, vf, Vl.isFr]
  rw [hput]
  intro σ1 F1 H1 R1 sF1
  obtain ⟨a1, j1, j2, j3, j4, ws, j5, j6⟩ := R1.own (i := 1) rfl
  cases repl_ints j6
  -- the dict
  intro p hp
  have S1 := R1.refl.make (o := .dK []) hp
  have R2 := R1.step S1
  have n1 : a1 ≠ p := fun z => by rw [z, hp] at j5; cases j5
  show rdE c.bare WXF (.var 1) σ1 _ _
  refine ⟨noTb H, H, _, F1, dr0 ns, R2, ?_⟩
  simp only [ev]
  intro u2 F2 H2 S2 V2
  have eu : u2 = .ref a1 := by
    obtain ⟨_, _, b3⟩ := V2.at_
    rw [j1] at b3
    exact (Option.some.inj (Option.some.inj b3)).symm
  subst eu
  have R3 := R2.step S2
  show rdE c.bare WXF lcCells σ1 H2 _
  refine ⟨noTb H, H, _, F2, dr0 ns, R3, ?_⟩
  rw [ev_cells hcap]
  intro u3 F3 H3 S3 V3
  have hv : ((vf (.lst ((cellsOf ns).map .int)) [] : Vl)) = ⟨.lst ((cellsOf ns).map .int), .fr, []⟩ := by simp [vf]
  rw [hv] at V3
  obtain ⟨a2, rfl, k2, k3, k4, ws, k5, k6⟩ := V3.at_
  cases repl_ints k6
  have R4 := R3.step S3
  have pmv : p ∉ c.bare.mv := fun z => R1.stp.sm z hp
  have hp2 : H2 p = some (.dK []) := S2.h _ _ upd_same pmv nt_dK
  have hp3 : H3 p = some (.dK []) := S3.h _ _ hp2 pmv nt_dK
  have ha2 : H2 a1 = some (.lst ((wideOf ns).map V.int)) := S2.h _ _ (by rw [upd_ne n1]; exact j5) j3 nt_lst
  have ha3 : H3 a1 = some (.lst ((wideOf ns).map V.int)) := S3.h _ _ ha2 j3 nt_lst
  have n2 : a2 ≠ p := fun z => k4 (by rw [z]; exact .dK hp2)
  have n3 : a1 ≠ a2 := fun z => k4 (by rw [← z]; exact .lst ha2)
  refine ⟨hp3, [(kWide, .ref a1), (kCells, .ref a2), (kRest, .int 0), (kTurn, .int 0)], rfl, (by show 4 ≤ 15; decide), ?_⟩
  have hm : mergeK [] [(kWide, .ref a1), (kCells, .ref a2), (kRest, .int 0), (kTurn, .int 0)] = drK (dr0 ns) a1 a2 := by
    simp [mergeK, putK, drK, dr0, kWide, kCells, kRest, kTurn, ne_wide_cells, ne_wide_rest, ne_wide_turn, ne_cells_wide, ne_cells_rest, ne_cells_turn, ne_rest_wide, ne_rest_cells, ne_rest_turn, ne_turn_wide, ne_turn_cells, ne_turn_rest]
  rw [hm]
  have sf : SameB c H H3 := fun b o e n nb => R4.stp.h _ _ e (fun z => nb (bare_mv z)) n
  refine q _ p a1 a2 (fun b o e n nb => ?_) (tabs_set R4.stp.tabs (fun z => pmv (List.mem_append_right _ z)) fun q z => by rw [hp3] at z; cases z) (R1.stp.keepN pmv (.of hp)) j4 (R3.stp.keepN k3 k4) n1.symm n2.symm n3 upd_same (by rw [upd_ne n1]; exact ha3) (by rw [upd_ne n2]; exact k5)
  rw [upd_ne fun z => by
    have q := R1.stp.h b o e (by rw [z]; exact pmv) n
    rw [z, hp] at q
    cases q]
  exact sf _ _ e n nb
def spLaw (c : Pm) : Sp := fun vs H Q _ => ∃ (s : Addr) (ns : List Int), vs = [.ref s] ∧ SqS c.K H s (ns.map V.int) ∧ (ns.length ≤ 63) ∧ LamX.Tabs c.tb H ∧ ∀ H', Q (.bl true) H'
theorem sqS_of {K : PySem.W.Frag} {H : Hp} {s : Addr} {vs : List V} (h : SqL K H s vs) : SqS K H s vs := by
  rcases h with (h | h) | h
  · exact .inr (.inl h)
  · exact .inl h
  · exact .inr (.inr fun _ => .inr h)
/-- the names' places behind the first statement -/
def law0 (m i : Nat) (ns : List Int) : En := (.val (.scr ns) :: List.replicate m .un).set i (.val .drw)
theorem frame_ok {N : List Str} {m i : Nat} {b : S} {E : XK} {Wx : WX} (hN : N.length = m + 1) (hi : 0 < i) (hi2 : i ≤ m) (h : spLaw c us H Q E)
    (run : ∀ ns : List Int, ns.length ≤ 63 → ∃ ρ' W', evS fu b (law0 m i ns) (dr0 ns) = .rt ⟨.bl true, .pl, []⟩ ρ' W') :
    tSeq (tAsg (tCallS (spBegun c) (WE Wx) (tCons (tVar 0) tNil)) (gName i)) (fun D σ H => ∃ a0 a1 a2, rdS (c.at a0 a1 a2) Wx fu b D σ H) { nx := fun _ H' => Q .non H', rt := Q } (L2.start N us) H := by
  obtain ⟨s, ns, rfl, hs, hl, ht, q⟩ := h
  refine ⟨.ref s, rfl, s, ns, rfl, hs, by omega, ht, fun H' a0 a1 a2 sH ht' h0 h1 h2 n01 n02 n12 e0 e1 e2 => ?_⟩
  obtain ⟨ρ', W', hr⟩ := run ns hl
  have strong : ∀ a o', Nil H a → H' a = some o' → Ob o' → ∀ o, H a = some o → ¬ Nt o := fun a o' hn e' ob o e n => by
    have hb : a ∉ c.tb.map (·.1) := fun z => by
      obtain ⟨ps, y⟩ := tb_kind ht' z
      rw [e'] at y
      cases y
      exact ob.1 ps rfl
    have q := sH a o e n hb
    rw [e'] at q
    cases q
    exact hn.no e ob
  have s0 := strong a0 _ h0 e0 ob_dK
  have s1 := strong a1 _ h1 e1 ob_lst
  have s2 := strong a2 _ h2 e2 ob_lst
  let F : Hp := fun a => if a = a2 then H' a2 else noTb H a
  have F2 : F a2 = some (.lst ((cellsOf ns).map V.int)) := by show (if a2 = a2 then _ else _) = _; rw [if_pos rfl]; exact e2
  have Fo : ∀ a, a ≠ a2 → F a = noTb H a := fun a z => if_neg z
  have sF : Same F H' := fun a o e => by
    by_cases z : a = a2
    · subst z; rw [F2] at e; rw [e2]; exact e
    · rw [Fo a z] at e
      by_cases y : a ∈ c.tb.map (·.1)
      · obtain ⟨ps, y⟩ := tb_kind ht y
        rw [noTb_in y] at e; cases e
      · exact sH _ _ (noTb_dn _ _ e) (noTb_nt e) y
  have sHF : Same (noTb H) F := fun a o e => by rw [Fo a fun z => by rw [z] at e; exact s2 _ (noTb_dn _ _ e) (noTb_nt e)]; exact e
  have S0 : Stp (c.at a0 a1 a2) (dr0 ns) F H' F H' := by
    refine ⟨Same.refl _, sF, fun _ _ e _ _ => e, fun _ e _ => e, fun a o e => ?_, fun a ha => ?_, .inr ⟨a0, a1, rfl, n01, e0, e1⟩, fun _ => F2, ht'⟩
    · by_cases z : a = a2
      · subst z; rw [F2] at e; cases e; exact nt_lst
      · rw [Fo a z] at e; exact noTb_nt e
    unfold Pm.mv at ha
    rcases List.mem_append.mp ha with ha | ha
    · simp only [List.mem_cons, List.not_mem_nil, or_false] at ha
      rcases ha with rfl | rfl
      · rw [Fo _ n02]; exact noTb_nil s0
      · rw [Fo _ n12]; exact noTb_nil s1
    · rw [Fo _ fun z => ?_]
      · obtain ⟨ps, e⟩ := tb_kind ht ha
        exact noTb_in e
      · obtain ⟨ps, e⟩ := tb_kind ht' ha
        rw [z, e2] at e; cases e
  have R0 : Rel (c.at a0 a1 a2) F H' (.val (.scr ns) :: List.replicate m .un) (L2.start N [.ref s]) F H' (dr0 ns) := by
    have r : RepL (c.at a0 a1 a2) F [.ref s] [.scr ns] := .cons (.scr ((noTb_sqS hs).mono sHF)) .nil
    have := rel_start (N := N) r S0
    rw [hN] at this
    exact this
  have R1 : Rel (c.at a0 a1 a2) F H' (law0 m i ns) ((L2.start N [.ref s]).set i (some (.ref a0))) F H' (dr0 ns) := R0.setv (.drw rfl)
  refine ⟨a0, a1, a2, F, H', _, F, dr0 ns, R1, ?_⟩
  rw [hr]
  intro u σ' F' H'' R' V' _
  have a := V'.at_
  simp only at a
  rw [Fz_nil] at a
  rw [a.blI]
  exact q _
theorem pss_ex3 {sts : List Stmt} {t : Addr → Addr → Addr → TS} (h : ∀ a0 a1 a2, PSs X sts (t a0 a1 a2)) : PSs X sts (fun D σ H => ∃ a0 a1 a2, t a0 a1 a2 D σ H) := ⟨fun pins s σ H D I ⟨a0, a1, a2, q⟩ => (h a0 a1 a2).run pins s σ H D I q⟩
end
end Z

namespace Z
open PySem PySem.Spec PyProof.Rows L2
open Classical
section
variable {c : Pm} {Wx : WX} {X : Cx} {fu n k : Nat} {W W' W1 W2 W3 : Dr} {F0 H0 F H F' H' F1 H1 F2 H2 F3 H3 Hs : Hp} {ρ ρ' : En} {σ σ' : L2.St} {u w : V} {x y v : Vl} {Q : VK} {us : List V} {vs : List Vl} {pos : Pos}
theorem e_dic0 : PE X (.Dict [] [] pos) (rdE c Wx (.cst (.dic false []))) := pe_wk pe_dnewK fun σ H Q ⟨F0, H0, ρ, F, W, R, hP⟩ => by
  simp only [ev] at hP
  intro p hp
  have S := R.refl.makeF (o := .dK []) hp
  exact hP _ _ _ S (.of_rep (.dicK (.inl upd_same) rfl .nil) rfl rfl)
theorem pk_wk {kws : List Keyword} {t t' : TA} (h : PK X kws t) (q : ∀ σ H Q, t' σ H Q → t σ H Q) : PK X kws t' := ⟨fun pos pins s σ H Q I z => h.run pos pins s σ H Q I (q _ _ _ z)⟩
theorem k_nil : PK X [] (rdL c Wx .nil) := pk_wk pk_nil fun σ H Q ⟨F0, H0, ρ, F, W, R, hP⟩ => by
  simp only [evL] at hP
  exact hP [] F H R.refl ⟨.nil, trivial⟩
theorem k_cons {e : Expr} {kws : List Keyword} {nm : Option Str} {kpos : Pos} {a b : E} (ha : PE X e (rdE c Wx a)) (hb : PK X kws (rdL c Wx b)) : PK X (⟨nm, e, kpos⟩ :: kws) (rdL c Wx (.cons a b)) := by
  refine pk_wk (pk_cons ha hb) fun σ H Q ⟨F0, H0, ρ, F, W, R, hP⟩ => ?_
  simp only [evL] at hP
  refine rd_e R R.refl hP fun x W1 u F1 H1 S1 _ V1 R1 hP => ?_
  refine rd_lx R1 S1 hP fun ys W2 us F2 H2 S2 S12 V2 A2 R2 hP => ?_
  refine hP _ _ _ S2 ⟨.cons (V1.step R1 S12) (Paired.mapP V2 fun _ _ z => z.start fun a m z => S1.keepN m z), fun a hk hu z => ?_, A2⟩
  have q := V1.at_
  rw [hk] at q
  obtain ⟨p, e1, _, _, _, e5⟩ := q
  rw [hu] at e1
  cases e1
  exact (tmp_at V2 z).2.2.1 e5.thr
theorem pick_rep {xs : List D} (r : RepL c F us xs) : ∀ {is : List Nat} , (∀ i ∈ is, i < xs.length) → RepL c F (pick is us) (pick is xs)
  | [], _ => .nil
  | i :: is, h => by
    have hi := h i List.mem_cons_self
    obtain ⟨v, e1, e2⟩ := r.get (List.getElem?_eq_getElem hi)
    unfold pick
    rw [List.filterMap_cons, List.filterMap_cons, e1, List.getElem?_eq_getElem hi]
    exact .cons e2 (pick_rep r fun j hj => h j (List.mem_cons_of_mem _ hj))
theorem pick_vals {vs : List V} {ws : List Value} (r : Vals vs ws) : ∀ {is : List Nat}, (∀ i ∈ is, i < vs.length) → Vals (pick is vs) (pick is ws)
  | [], _ => .nil
  | i :: is, h => by
    have hi := h i List.mem_cons_self
    obtain ⟨w, e1, e2⟩ := r.get (List.getElem?_eq_getElem hi)
    unfold pick
    rw [List.filterMap_cons, List.filterMap_cons, e1, List.getElem?_eq_getElem hi]
    exact .cons e2 (pick_vals r fun j hj => h j (List.mem_cons_of_mem _ hj))
/-- how keywords alone bind: the parameters' values are picked at is -/
def KPick (K : PySem.W.Frag) (fd : FuncData) (ps ks : List Str) (is : List Nat) : Prop := ∀ (s : Shared) (ws : List Value), K.In s.heap → ws.length = ks.length → BindsTo s fd ⟨[], ks.zip ws⟩ (ps.zip (pick is ws))
/-- a def that can be called by keywords -/
structure CalK (c : Pm) (P : Program) (w : World) (K : PySem.W.Frag) (mg : Str → Option Value) (base : Heap) (k : Nat) (x : Str) (ps ks : List Str) (is : List Nat) (g : G) : Prop where
  ex : ∃ (f : Addr) (fd : FuncData), mg x = some (.ref f) ∧ PySem.W.keepIn K (.ref f) = true ∧ KPick K fd ps ks is ∧ FnOk P w K mg base (L2.CX P w) k f fd ps (spG c g)
theorem CalK.mono {P : Program} {w : World} {K : PySem.W.Frag} {mg : Str → Option Value} {base : Heap} {j : Nat} {x : Str} {ps ks : List Str} {is : List Nat} {g : G} (h : CalK c P w K mg base j x ps ks is g) (hk : j ≤ k) : CalK c P w K mg base k x ps ks is g := by
  obtain ⟨f, fd, h1, h2, h3, h4⟩ := h.ex
  exact ⟨f, fd, h1, h2, h3, h4.mono hk⟩
theorem run_pick {pins : List (Addr × Obj)} {s : Shared} {ws : List Value} {zs : List V} {f : Addr} {fd : FuncData} {ps ks : List Str} {is : List Nat} {sp : Sp} {CX : CXT} {E : L2.St → XK} (Fn : FnOk X.prog X.w X.K X.mg X.base CX k f fd ps sp) (hr : Room k X.A) (hb : KPick X.K fd ps ks is) (hx : PassesAt CX X σ (E σ))
    (I : Inv X pins σ H s) (r : Vals zs ws) (hl : zs.length = ks.length) (hi : ∀ i ∈ is, i < zs.length) (h : sp (pick is zs) H Q (E σ)) : wpAny (model X.prog X.w) X.A (call (.ref f) [] (ks.zip ws)) (EP X pins σ Q) X.xe s := by
  have b := hb s ws I.kIn (r.length.symm.trans hl)
  refine wpAny_call (codeAny_mono (Fn.run X.A X.stack s H _ (pick is ws) (pick is zs) Q (E σ) hr I.env0 b (pick_vals r hi) h) fun res s2 hq => ?_)
  match res, hq with
  | .error e, hq => exact hx pins H s e s2 I hq
  | .ok (.ret u), hq => exact I.after hq
theorem x_callk {j : Nat} {x : Str} {ps ks : List Str} {is : List Nat} {g : G} {kws : List Keyword} {ea : E} {p : Pos} (n : Cn c Wx k X) (h : CalK c X.prog X.w X.K X.mg X.base j x ps ks is g) (hkw : PK X kws (rdL c Wx ea)) (hj : j ≤ k := by decide) (hg : Gl X x := by rfl) (hdb : (x == ("__debug__" : Str)) = false := by decide)
    (hall : (backToKw pos (keywordEach kws X.env)).all (·.1.isSome) = true := by rfl) (hks : (backToKw pos (keywordEach kws X.env)).filterMap (·.1) = ks := by rfl)
    (hpl : ((backTo pos (starEach [] X.env)).any (·.1) || (backToKw pos (keywordEach kws X.env)).any (·.1.isNone)) = false := by rfl) (hm : is.all (· < ks.length) = true := by decide) : PE X (.Call (.Name x p) [] kws pos) (rdE c Wx (.callk g ks.length is ea)) := by
  obtain ⟨f, fd, h1, h2, h3, h4⟩ := h.ex
  refine ⟨fun pins s σ H Q I ⟨F0, H0, ρ, F, W, R, hP⟩ => ?_⟩
  simp only [ev] at hP
  have q : rdL c Wx ea σ H fun zs H2 => zs.length = ks.length ∧ (∀ i ∈ is, i < zs.length) ∧ spG c g (pick is zs) H2 Q (WE Wx σ) := by
    refine rd_l R R.refl hP fun vs W1 us F1 H1 S1 _ A R1 hP => ?_
    by_cases hl : vs.length = ks.length
    · rw [if_pos hl] at hP
      have RF := (Ft_rel R R1 S1 A).frz (ts_own A)
      have hlu : us.length = ks.length := (Paired.len A).trans hl
      have hi : ∀ i ∈ is, i < ks.length := fun i z => by simpa using List.all_eq_true.mp hm i z
      refine ⟨hlu, fun i z => by rw [hlu]; exact hi i z, _, pick is (ds vs), W1, pick_rep (args_all R R1 S1 A) fun i z => ?_, RF.stp.refl, call_end (g := g) R S1 A (ts_own A) hP⟩
      unfold ds
      rw [List.length_map, hl]
      exact hi i z
    · rw [if_neg hl] at hP; exact hP.elim
  refine wpAny_Call_Name_kw (ld_glob I hg h1 ?_ hdb)
  refine PySem.W.callWith_KW0 (h₀ := X.base) I.ok.mod.kin h2 hall (thn (hkw.run pos pins s σ H _ I q) fun ws s2 ⟨zs, H2, I2, rz, l1, l2, q2⟩ => ⟨I2.kIn, ?_⟩) hpl
  rw [hks]
  exact run_pick h4 (n.room.mono hj) h3 (passAt n.tk σ) I2 rz l1 l2 q2
end
end Z

namespace Z
open PySem PySem.Spec PyProof.Rows L2
open Classical
section
variable {X : Cx}
def rCountF (K : PySem.W.Frag) : V → List V → Hp → VK → Prop := fun x xs H Q => ∃ (a : Addr) (ys : List V) (y : V), x = V.ref a ∧ xs = [y] ∧ SqL K H a ys ∧ flatV y = true ∧ ys.all flatV = true ∧ Q (.int ((ys.countP fun z => eqV z y : Nat) : Int)) H
theorem count_eq {y : V} : ∀ {ys : List V} {its : List Value}, Vals ys its → ys.all flatV = true → its.countP (eqU y) = ys.countP fun z => eqV z y
  | _, _, .nil, _ => rfl
  | _, _, .cons r t, h => by
    simp only [List.all_cons, Bool.and_eq_true] at h
    rw [List.countP_cons, List.countP_cons, count_eq t h.2, eqU_of r h.1]
theorem mt_countF : MtR X "list.count" (rCountF X.K) := by
  intro pins s σ H x xs v us Q I rx rxs ⟨a, ys, y, e1, e2, hs, fy, fys, q⟩
  subst e1 e2
  cases rx
  obtain ⟨u, rfl, ru⟩ := rxs.one
  obtain ⟨its, rv, ⟨⟨cls, dd, data, sl⟩, n, ho, hc, hdn, hd⟩, hlen⟩ := I.list hs
  simp only at hc hd
  subst hc hd
  refine call_meets PySem.F.slot_list_count ⟨_, ho, rfl⟩ PySem.F.entry_list_count (PySem.F.args_list_count_2 _ _) (SeqAt.list_countAt a its.toArray n dd sl u (eqU y)) ⟨ho, fun z hz => mem_eqAt ru fy rv fys z (by simpa using hz), ?_⟩
  refine ⟨.int ((ys.countP fun z => eqV z y : Nat) : Int), H, I.tok _, ⟨s.toks, ?_⟩, q⟩
  show Value.int ((its.toArray.toList.countP (eqU y) : Nat) : Int) s.toks = _
  rw [← count_eq rv fys]
theorem bls_flat : ∀ bs : List Bool, (bs.map V.bl).all flatV = true
  | [] => rfl
  | _ :: bs => by rw [List.map_cons, List.all_cons, bls_flat bs]; rfl
theorem bls_count {b : Bool} : ∀ bs : List Bool, ((bs.map V.bl).countP fun z => eqV z (.bl b)) = bs.count b
  | [] => rfl
  | x :: bs => by
    rw [List.map_cons, List.countP_cons, List.count_cons, bls_count bs]
    rfl
variable {c : Pm} {Wx : WX} {k : Nat} {pos : Pos}
/-- xs.count(b), xs a list of bools -/
theorem x_count {o a : Expr} {eo ea : E} {apos cpos : Pos} (n : Cn c Wx k X) (ho : PE X o (rdE c Wx eo)) (ha : PA X [a] (rdL c Wx (.cons ea .nil))) (hbase : attributeBase o "count" X.env (eval o X.env) = eval o X.env := by rfl)
    (hfew : ((backTo cpos (starEach [a] X.env)).all (fun x => !x.1) && (backToKw cpos (keywordEach [] X.env)).all (fun x => x.1.isSome)
      && decide (([a] : List Expr).length + ([] : List Keyword).length + (if ([] : List Keyword).isEmpty then 0 else 1) < 30)) = true := by rfl)
    (hline : (apos.endLine == cpos.line) = true := by rfl) (hs : starEach [a] X.env = (false, eval a X.env) :: starEach [] X.env := by rfl) :
    PE X (.Call (.Attribute o "count" apos) [a] [] cpos) (rdE c Wx (.bm .count eo (.cons ea .nil))) := by
  refine pe_wk (pe_bm F.plainAttrs_list F.slot_list_count (by rfl) mt_countF ho ha hbase hfew hline hs (by rfl)) fun σ H Q ⟨F0, H0, ρ, F, W, R, hP⟩ => ?_
  simp only [ev] at hP
  refine rd_e R R.refl hP fun x W1 u F1 H1 S1 _ V1 R1 hQ => ?_
  cases e : x.d <;> rw [e] at hQ <;> try (exact hQ.elim)
  rename_i xs
  simp only at hQ
  obtain ⟨p, ws, rfl, h1, h2⟩ := V1.lst R1 e
  refine ⟨.inl ⟨rfl, ws, .inl (.inl h1)⟩, rd_le R1 S1 hQ fun vs W2 us F2 H2 he S2 S12 A R2 hQ => ?_⟩
  obtain ⟨y, rfl⟩ := evL_one he
  obtain ⟨r, hr, hQ⟩ := ofO_some hQ
  obtain ⟨u, v, rfl, e', e1, V2⟩ := args1 A (d := y.d) rfl
  cases e'
  have hds : ds [y] = [y.d] := rfl
  rw [hds] at hr
  cases ey : y.d <;> rw [ey] at hr <;> simp only [bmD] at hr <;> try (cases hr; done)
  rename_i b
  rw [Option.map_eq_some_iff] at hr
  obtain ⟨bs, k1, rfl⟩ := hr
  cases V2.bl R2 ey
  obtain ⟨p', ws', e3, h3, h4⟩ := (V1.step R1 S12).lst R2 e
  cases e3
  cases repL_bls h4 k1
  refine ⟨p, bs.map V.bl, .bl b, rfl, rfl, .inl (.inl h3), rfl, bls_flat bs, ?_⟩
  rw [bls_count]
  exact fin_vl R2 S2 (own_app (V1.step R1 S12).t_own (ts_own A)) hQ (.int _)
end
end Z

namespace Z
open PySem PySem.Spec PyProof.Rows L2
open Classical
theorem idx_facts {b : Bool} : ∀ bs : List Bool, b ∈ bs → bs[bs.idxOf b]? = some b ∧ ∀ (m : Nat) (x : Bool), m < bs.idxOf b → bs[m]? = some x → (x == b) = false
  | [], h => by cases h
  | y :: bs, h => by
    by_cases e : y = b
    · subst e
      rw [List.idxOf_cons_self]
      exact ⟨rfl, fun m x hm => by omega⟩
    · have hb : b ∈ bs := (List.mem_cons.mp h).elim (fun z => absurd z.symm e) id
      obtain ⟨i1, i2⟩ := idx_facts bs hb
      have ei : (y :: bs).idxOf b = bs.idxOf b + 1 := by
        have eb : (y == b) = false := by simpa using e
        simp only [List.idxOf, List.findIdx_cons, eb, cond_false]
      rw [ei]
      refine ⟨by simpa using i1, fun m x hm hx => ?_⟩
      cases m with
      | zero =>
        simp at hx
        subst hx
        simpa using e
      | succ m => exact i2 m x (by omega) (by simpa using hx)
section
variable {X : Cx} {c : Pm} {Wx : WX} {k : Nat} {pos : Pos}
/-- xs.index(b), xs a list of bools -/
theorem x_index {o a : Expr} {eo ea : E} {apos cpos : Pos} (n : Cn c Wx k X) (ho : PE X o (rdE c Wx eo)) (ha : PA X [a] (rdL c Wx (.cons ea .nil))) (hbase : attributeBase o "index" X.env (eval o X.env) = eval o X.env := by rfl)
    (hfew : ((backTo cpos (starEach [a] X.env)).all (fun x => !x.1) && (backToKw cpos (keywordEach [] X.env)).all (fun x => x.1.isSome)
      && decide (([a] : List Expr).length + ([] : List Keyword).length + (if ([] : List Keyword).isEmpty then 0 else 1) < 30)) = true := by rfl)
    (hline : (apos.endLine == cpos.line) = true := by rfl) (hs : starEach [a] X.env = (false, eval a X.env) :: starEach [] X.env := by rfl) :
    PE X (.Call (.Attribute o "index" apos) [a] [] cpos) (rdE c Wx (.bm .index eo (.cons ea .nil))) := by
  refine pe_wk (pe_bm F.plainAttrs_list F.slot_list_index (by rfl) mt_index ho ha hbase hfew hline hs (by rfl)) fun σ H Q ⟨F0, H0, ρ, F, W, R, hP⟩ => ?_
  simp only [ev] at hP
  refine rd_e R R.refl hP fun x W1 u F1 H1 S1 _ V1 R1 hQ => ?_
  cases e : x.d <;> rw [e] at hQ <;> try (exact hQ.elim)
  rename_i xs
  simp only at hQ
  obtain ⟨p, ws, rfl, h1, h2⟩ := V1.lst R1 e
  refine ⟨.inl ⟨rfl, ws, .inl (.inl h1)⟩, rd_le R1 S1 hQ fun vs W2 us F2 H2 he S2 S12 A R2 hQ => ?_⟩
  obtain ⟨y, rfl⟩ := evL_one he
  obtain ⟨r, hr, hQ⟩ := ofO_some hQ
  obtain ⟨u, v, rfl, e', e1, V2⟩ := args1 A (d := y.d) rfl
  cases e'
  have hds : ds [y] = [y.d] := rfl
  rw [hds] at hr
  cases ey : y.d <;> rw [ey] at hr <;> simp only [bmD] at hr <;> try (cases hr; done)
  rename_i b
  rw [Option.bind_eq_some_iff] at hr
  obtain ⟨bs, k1, hr⟩ := hr
  split at hr <;> cases hr
  rename_i hb
  cases V2.bl R2 ey
  obtain ⟨p', ws', e3, h3, h4⟩ := (V1.step R1 S12).lst R2 e
  cases e3
  cases repL_bls h4 k1
  obtain ⟨i1, i2⟩ := idx_facts bs hb
  refine ⟨p, bs.map V.bl, .bl b, bs.idxOf b, .bl b, rfl, rfl, .inl (.inl h3), rfl, bls_flat bs, by rw [List.getElem?_map, i1]; rfl, beq_self_eq_true b, fun m z hm hz => ?_, fin_vl R2 S2 (own_app (V1.step R1 S12).t_own (ts_own A)) hQ (.int _)⟩
  rw [List.getElem?_map, Option.map_eq_some_iff] at hz
  obtain ⟨x', hx', rfl⟩ := hz
  exact i2 m x' hm hx'
end
end Z

namespace Z
open PySem PySem.Spec PyProof.Rows L2
theorem track {X : Cx} {pins : List (Addr × Obj)} {σ : L2.St} {H : Hp} {s : Shared} {a : Addr} {oe : Obj} {vs : Array Value} {cls : Value} {d : Option Addr} (I : Inv X pins σ H s) (e : s.heap.get? a = some oe) (z : Zc cls d oe) (hd : oe.data = .fields vs) (na : H a = none)
    (n0 : X.s_0.heap.get? a = none) (nl : a ≠ X.env.locals) (np : ∀ p ∈ X.pn ++ pins, p.1 ≠ a) : Inv X pins σ (upd H a (XO cls d a)) s := by
  have ne0 : ∀ b o, X.s_0.heap.get? b = some o → b ≠ a := fun b o q y => by rw [y, n0] at q; cases q
  have neH : ∀ b o, H b = some o → b ≠ a := fun b o q y => by rw [y, na] at q; cases q
  refine ⟨I.ok, I.os, I.bare, ⟨fun b o q n hb hx => I.base.keep b o q n hb hx, fun b o q n hb hx => I.base.slot b o q n hb hx, fun b o q n hx => ?_, I.base.there, fun b xs q => ?_, fun b o u q => ?_, fun b ps q => ?_⟩, I.loc, I.cell, ?_, fun x c q => ?_, fun p hp => ?_, fun b o q => ?_, I.len⟩
  · rw [upd_ne (ne0 b o q)]; exact I.base.free b o q n hx
  · have y := I.base.tups b xs q
    rw [upd_ne (neH _ _ y)]; exact y
  · have y := I.base.frzs b o u q
    rw [upd_ne (neH _ _ y)]; exact y
  · obtain ⟨m, y⟩ := I.base.tbls b ps q
    exact ⟨m, by rw [upd_ne (neH _ _ y)]; exact y⟩
  · rw [upd_ne nl.symm]; exact I.free
  · obtain ⟨v, o, ho, hv⟩ := I.cell x c q
    rw [upd_ne fun y => ?_]
    · exact I.freeC x c q
    · rw [y, e] at ho
      cases ho
      rw [hd] at hv
      cases hv
  · obtain ⟨q1, q2, q3, q4, q5⟩ := I.pin p hp
    exact ⟨q1, by rw [upd_ne (np p hp)]; exact q2, q3, q4, q5⟩
  · by_cases y : b = a
    · subst y
      rw [upd_same] at q
      cases q
      exact ⟨⟨oe, vs, e, z, hd⟩, ⟨oe, e⟩, fun _ _ ⟨o, v, q, r⟩ k => ⟨o, v, k o q, r⟩⟩
    · rw [upd_ne y] at q
      exact (I.hok b o q).stay (fun _ _ _ q => q) (fun c q => by rw [upd_ne (neH _ _ q)]; exact q) fun c xs q => by rw [upd_ne (neH _ _ q)]; exact q
def wCatch (K : PySem.W.Frag) (c : Value) (i j m : Nat) (D : Ends) : WX := fun cls d σ H => PySem.W.exmOne K cls c = some true ∧ (σ.length = m → ∀ a, H a = none → D.nx ((σ.set j (some (.ref a))).set i none) (upd H a (XO cls d a)))
theorem ps_catch {X : Cx} {x n m : Str} {c : Value} {i j : Nat} {body : List Stmt} {np pos pos' p1 p2 p3 : Pos} {tb : WX → TS} (hs : X.stack = X.env :: X.outer) (hf : X.env.frame = some X.env.locals) (hN : X.N.Nodup) (hi : X.N[i]? = some n) (hln : X.env.kindOf n = some .local) (hj : X.N[j]? = some m) (hlm : X.env.kindOf m = some .local)
    (hex : X.ex = []) (hd1 : (n == ("__debug__" : Str)) = false) (hd2 : (n == ("__classdict__" : Str)) = false) (hc : Names X x c)
    (hb : ∀ (W : WX) (pn : List (Addr × Obj)) (xe : Value → Shared → Prop), Takes (X.tr pn xe) W → PassesOwn (model X.prog X.w) X.A X.env xe → PSs (X.tr pn xe) body (tb W))
    (hsw : ∀ (a : Addr) (pn : List (Addr × Obj)), swapsWith (.Name n p2) (some (.Name m p1)) p3.line (X.suite a pn).env = pure false) :
    PS X (.Try body [.ExceptHandler (some (.Name x np)) (some n) [.Assign [.Name m p1] (.Name n p2) p3] pos'] [] [] pos) (fun D σ H => tb (wCatch X.K c i j X.N.length D) D σ H) := by
  refine ⟨fun pins s σ H D I h0 => wpAny_Try_except ?_⟩
  have OK := I.ok
  have FR : X.A.frames = some (X.env :: X.outer) := OK.frames.trans (by rw [hs])
  refine wpAny_mono ((hb (wCatch X.K c i j X.N.length D) (X.pn ++ pins) (fun e s₁ => wpAny (model X.prog X.w) X.A (noteFrame e X.env) (fun _ s₂ => wpAny (model X.prog X.w) X.A (setFlight e none) (fun _ s₃ =>
    wpAny (model X.prog X.w) X.A (handleBy e X.env [.ExceptHandler (some (.Name x np)) (some n) [.Assign [.Name m p1] (.Name n p2) p3] pos']) (SP X pins D) X.xe s₃) X.xe s₂) X.xe s₁) (fun u s' xx => ?_) PassesOwn.looking).run [] s σ H D (I.toTry _) h0) (fun fl s1 hsp => ?_) (fun e s1 he => he)
  · obtain ⟨a, B, sI, pins', σ', H', cls, d, rfl, J', nb, up, sky, na, os, ag, hb1, hyes⟩ := xx
    have J : Inv X pins σ' H' sI := J'.ofTry OK
    rw [show (X.tr (X.pn ++ pins) _).stack = X.env :: X.outer from hs] at sky
    refine Sky.land Zc.steady FR hf sky fun h3 fl3 up3 => ?_
    have J3 : Inv X pins σ' H' { s' with heap := h3 } := J.landed nb fl3.1 (up.trans up3) os ag
    obtain ⟨o3, v3, e3, z3, d3⟩ := fl3.there
    have offF : ∀ {h : Heap} {o : Obj} {w : Array Value}, h.FunFrames B (X.env :: X.outer) → h.get? a = some o → o.data = .fields w → a ∉ frs (X.env :: X.outer) := fun {h o w} ff q dd hm => by
      obtain ⟨_, o', q', hnf⟩ := ff.mem hm
      cases q.symm.trans q'
      exact hnf _ dd
    have aF := offF fl3.2.2.1 e3 d3
    have aL : a ≠ X.env.locals := fun y => aF (List.mem_filterMap.mpr ⟨X.env, List.mem_cons_self, by rw [hf, y]⟩)
    have aFs : a ∉ X.fs := fun hm => by
      obtain ⟨e, he, q⟩ := List.mem_filterMap.mp hm
      exact aF (List.mem_filterMap.mpr ⟨e, List.mem_cons_of_mem _ he, q⟩)
    have newI : sI.heap.get? a = none := by
      cases q : sI.heap.get? a with
      | none => rfl
      | some o =>
        have := nb a o q (by show a ∉ frs X.stack; rw [hs]; exact aF)
        rw [fl3.2.1] at this
        cases this
    have new0 : X.s_0.heap.get? a = none := by
      cases q : X.s_0.heap.get? a with
      | none => rfl
      | some o =>
        obtain ⟨o', q'⟩ := J.base.there a o q (by rw [hex]; exact fun z => nomatch z)
        rw [newI] at q'
        cases q'
    have npin : ∀ p ∈ X.pn ++ pins, p.1 ≠ a := fun p hp y => by
      have := (J'.pin p (List.mem_append_left _ hp)).1
      rw [y, newI] at this
      cases this
    have S3 := J3.suite e3 d3 na aL aFs
    refine wpAny_handleBy_cons (codeAny_handlers_test ?_) (by intro q; cases q)
    have LT : PySem.W.Looks (model X.prog X.w) h3 (typeOf (.ref a)) cls := fun A Q E t k q => wpAny_typeOf_ref (k _ _ e3) (by rw [z3.1]; exact q)
    have LM := PySem.W.exm_one (M := model X.prog X.w) (J3.kIn) LT hb1
    have look : ∀ {Q : Value → Shared → Prop} {E : Value → Shared → Prop}, Q c { s' with heap := h3 } → wpAny (model X.prog X.w) (X.A.mark (some (.ref a))) (eval (.Name x np) X.env) Q E { s' with heap := h3 } := fun {Q E} q => by
      obtain ⟨hg, hdbg, hm | ⟨hm, hv, hnn⟩⟩ := hc
      · exact ld_glob (X := X.suite a ((a, o3) :: (X.pn ++ pins))) S3 hg hm q hdbg
      · exact ld_blt (X := X.suite a ((a, o3) :: (X.pn ++ pins))) S3 hg hm hv q hnn hdbg
    refine look (LM.here ?_)
    refine codeAny_handlers_suite_as ?_
    refine HandSPX.lands_againZ fl3 fun h4 fl4 up4 => ?_
    have J4 : Inv X pins σ' H' { s' with heap := h4 } := J.landed nb fl4.1 ((up.trans up3).trans up4) os ag
    obtain ⟨o4, v4, e4, z4, d4⟩ := fl4.there
    have S4 := J4.suite e4 d4 na aL aFs
    refine store_ok (X := X.suite a ((a, o4) :: (X.pn ++ pins))) (v := .ref a) S4 hN hi (.inl hln) rfl (fun s5 S5 => ?_) (.inr hln)
    have st : PSs (X.suite a ((a, o4) :: (X.pn ++ pins))) [.Assign [.Name m p1] (.Name n p2) p3] (tAsg (tVar i) (gName j)) := pss_one (ps_set (X := X.suite a ((a, o4) :: (X.pn ++ pins))) hN hj (.inl hlm) (pe_var hi (.inl hln) hd1 hd2) (hsw a _) (.inr hlm))
    have il : i < σ'.length := by rw [J.len]; exact (List.getElem?_eq_some_iff.mp hi).1
    refine wpAny_mono (st.run [] s5 _ H' { nx := fun σ6 H6 => σ6 = (σ'.set i (some (.ref a))).set j (some (.ref a)) ∧ H6 = H', rt := fun _ _ => False } S5 ⟨.ref a, List.getElem?_set_self il, rfl, rfl⟩) (fun f s6 hsp => ?_) (fun _ _ y => y.elim)
    cases f with
    | next =>
      obtain ⟨σ6, H6, S6, r1, r2⟩ := hsp
      subst r1
      rw [r2] at S6
      have pa := (S6.pin (a, o4) (List.mem_append_left _ List.mem_cons_self)).1
      have J6 : Inv X pins _ H' s6 := S6.unsuite OK
      have J7 := track J6 pa z4 d4 na new0 aL npin
      refine gone_ok J7 hN hi hln fun s7 J8 => ⟨_, _, J8, ?_⟩
      have q := hyes J.len a na
      rwa [show ((σ'.set i (some (V.ref a))).set j (some (V.ref a))).set i none = (σ'.set j (some (V.ref a))).set i none from by
        by_cases ij : i = j
        · subst ij; simp
        · rw [show (σ'.set i (some (V.ref a))).set j (some (V.ref a)) = (σ'.set j (some (V.ref a))).set i (some (V.ref a)) from List.set_comm _ _ ij, List.set_set]]
    | brk => obtain ⟨_, _, _, y⟩ := hsp; exact y.elim
    | cont => obtain ⟨_, _, _, y⟩ := hsp; exact y.elim
    | ret u => obtain ⟨_, _, _, _, _, y⟩ := hsp; exact y.elim
  · cases fl with
    | next =>
      obtain ⟨σ2, H2, J2, q2⟩ := hsp
      exact wpAny_execs_nil ⟨σ2, H2, J2.ofTry OK, q2⟩
    | brk => obtain ⟨σ2, H2, J2, q2⟩ := hsp; exact ⟨σ2, H2, J2.ofTry OK, q2⟩
    | cont => obtain ⟨σ2, H2, J2, q2⟩ := hsp; exact ⟨σ2, H2, J2.ofTry OK, q2⟩
    | ret u => obtain ⟨v2, σ2, H2, J2, r2, q2⟩ := hsp; exact ⟨v2, σ2, H2, J2.ofTry OK, r2, q2⟩
end Z

namespace Z
open PySem PySem.Spec PyProof.Rows L2
open Classical
section
variable {c : Pm} {Wx : WX} {X : Cx} {fu n k : Nat} {W W' W1 W2 W3 : Dr} {F0 H0 F H F' H' F1 H1 F2 H2 F3 H3 Hs : Hp} {ρ ρ' : En} {σ σ' : L2.St} {u w : V} {x y v : Vl} {Q : VK} {us : List V} {vs : List Vl} {pos : Pos}
theorem s_bad {st : Stmt} : PS X st (rdS c Wx fu .bad) := ⟨fun _ _ _ _ _ _ ⟨_, _, _, _, _, _, hP⟩ => hP.elim⟩
theorem ss_bad {st : List Stmt} : PSs X st (rdS c Wx fu .bad) := ⟨fun _ _ _ _ _ _ ⟨_, _, _, _, _, _, hP⟩ => hP.elim⟩
theorem e_bad {e : Expr} : PE X e (rdE c Wx .no_) := ⟨fun _ _ _ _ _ _ ⟨_, _, _, _, _, _, hP⟩ => by simp only [ev] at hP; exact hP.elim⟩
def TCaught (K : PySem.W.Frag) (CS : Addr) : (XK → Hp → VK → Prop) → Hp → VK → Prop := fun tl H Q =>
  tl (fun cls d H' => PySem.W.exmOne K cls (.ref CS) = some true ∧ ∀ a, H' a = none → Q (.ref a) (upd H' a (XO cls d a))) H fun _ H' => ∃ v, some (some V.non) = some (some v) ∧ Q v H'
theorem caught_gives {x a m n e q : Str} {sg : Scope} {g CS : Addr} {cdg : Value} {j : Nat} {p1 p2 p3 p4 p5 p6 p7 p8 p9 p10 p11 p12 p13 p14 : Pos} (hnd : [a, m, n].Nodup) (hm : sg.names.lookup m = some .local) (hn : sg.names.lookup n = some .local) (hge : sg.names.lookup e = some .globalImplicit) (hme : X.mg e = some (.ref CS)) (hde : (e == ("__debug__" : Str)) = false)
    (hd1 : (n == ("__debug__" : Str)) = false) (hd2 : (n == ("__classdict__" : Str)) = false) (hd3 : (m == ("__debug__" : Str)) = false) (hd4 : (m == ("__classdict__" : Str)) = false) (hln : p8.line = p8.line)
    (hsw1 : ∀ E, swapsWith (.Constant .none j p2) (some (.Name m p1)) p3.line E = pure false) (hsw2 : ∀ E, swapsWith (.Name n p9) (some (.Name m p8)) p10.line E = pure false) (hsw3 : ∀ E, swapsWith (.Call (.Name a p4) [] [] p5) none p6.line E = pure false) :
    LamX.GivesTo X [a, m, n] x sg g cdg [.Assign [.Name m p1] (.Constant .none j p2) p3, .Try [.Expr (.Call (.Name a p4) [] [] p5) p6] [.ExceptHandler (some (.Name e p7)) (some n) [.Assign [.Name m p8] (.Name n p9) p10] p11] [] [] p12, .Return (some (.Name m p13)) p14] a q (TCaught X.K CS) := by
  intro f c' s H Q tl act hc h
  have hgl : Gl (cxOf C8.CX0 X.prog X.w X.K X.mg X.base [a, m, n] x sg g cdg X.A X.stack s H C8.E0).nox e := hge
  refine ⟨_, pss_cons (ps_set (i := 1) hnd rfl (.inl hm) pe_non (hsw1 _) (.inl rfl)) (pss_cons (ps_catch (X := (cxOf C8.CX0 X.prog X.w X.K X.mg X.base [a, m, n] x sg g cdg X.A X.stack s H C8.E0).nox) (c := .ref CS) (i := 2) (j := 1)
      (tb := fun W D σ H => ∃ Ech : XK, (∀ cls d σ' H', Ech cls d H' → W cls d σ' H') ∧ σ[0]? = some (some (.ref f)) ∧ H c' = some (LamX.CodeO c' q) ∧ tl Ech H fun _ H' => D.nx σ H')
      rfl rfl hnd rfl hn rfl hm rfl hd1 hd2 ⟨hgl, hde, .inl hme⟩ (fun W pn xe tk _ => ?_) (fun _ _ => hsw2 _)) (pss_one (ps_ret (pe_var (i := 1) rfl (.inl hm) hd3 hd4)))), ?_⟩
  · refine ⟨fun pins s' σ H' D I h' => ?_⟩
    obtain ⟨Ech, hW, h1, h2, h3⟩ := h'
    have hp := act W pn xe Ech p4 p5 tk hW
    exact (pss_one (ps_expr hp (hsw3 _))).run pins s' σ H' D I ⟨h1, h2, h3⟩
  · refine ⟨fun cls d H' => PySem.W.exmOne X.K cls (.ref CS) = some true ∧ ∀ a, H' a = none → Q (.ref a) (upd H' a (XO cls d a)), fun cls d σ' H' ⟨e1, e2⟩ => ⟨e1, fun hl b hb => ?_⟩, rfl, hc, ?_⟩
    · have hl : σ'.length = 3 := hl
      refine ⟨.ref b, ?_, e2 b hb⟩
      rw [List.getElem?_set_ne (by decide), List.getElem?_set_self (by omega)]
    · exact h
/-- a def's code object and its table, for the lambdas in its body -/
structure LamAt (c : Pm) (X : Cx) : Prop where
  ex : ∃ cc P, LamX.TabB X.base X.mg cc P ∧ X.env.code = .ref cc ∧ (P, X.env.qual ++ "<lambda>") ∈ c.tb ∧ ∀ p ∈ c.tb, p.1 = P → p.2 = X.env.qual ++ "<lambda>"
/-- the def _law_caught -/
structure CauF (c : Pm) (mg : Str → Option Value) (x a : Str) (Ng : List Str) (st : Stmt) (CS : Addr) : Prop where
  ex : ∃ (g : Addr) (fd : FuncData), Fun c.K x x st g fd ∧ mg x = some (.ref g) ∧ L2.Binds c.K fd [a] []
  sc : FnScope Ng [a] (defScope st)
  na : Ng[0]? = some a
  va : Vis (defScope st) a
  give : ∀ (X : Cx) (g : Addr) (cdg : Value) (q : Str), X.K = c.K → X.mg = mg → LamX.GivesTo X Ng x (defScope st) g cdg (defBody st) a q (TCaught X.K CS)
  up : ∀ n C, c.cx n = some C → PySem.W.exmOne c.K (.ref C) (.ref CS) = some true
theorem Cn.lam (n : Cn c Wx k X) {A : Around} {outer : List Env} {s : Shared} {H : Hp} {E : XK} {scope : Scope} {f c' : Addr} {j : Nat} (hr : Room j (A.deeper (LamX.lamEnv X scope s.heap.objs.size f c'))) :
    Cn c (fun cls dd _ H' => E cls dd H') j (LamX.lamCx X A outer s H E scope f c') := ⟨n.hk, rfl, n.nd, takes_of rfl rfl rfl rfl, hr⟩
theorem ext_stp {T : Prop} (R : Rel c F0 H0 ρ σ F H W) (e : LamX.ExtN H H1) (t : LamX.Tabs c.tb H1) : Stp c W F H F H1 := by
  have S := R.refl
  refine ⟨Same.refl _, fun a o h => e _ _ (S.sub _ _ h) (S.nt _ _ h), fun a o h _ n => e _ _ h n, fun _ h _ => h, S.nt, S.av, ?_, S.cl, t⟩
  rcases S.dr with h | ⟨a0, a1, h, n, e0, e1⟩
  · exact .inl h
  · exact .inr ⟨a0, a1, h, n, e _ _ e0 nt_dK, e _ _ e1 nt_lst⟩
theorem x_caught {x a : Str} {Ng : List Str} {st : Stmt} {CS : Addr} {params : Arguments} {body : Expr} {scope : Scope} {ea : E} {j : Nat} {p lpos : Pos} (n : Cn c Wx k X) (LA : LamAt c X) (CF : CauF c X.mg x a Ng st CS)
    (hb : ∀ (A : Around) (outer : List Env) (s : Shared) (H : Hp) (E : XK) (f c' : Addr), Cn c (fun cls dd _ H' => E cls dd H') j (LamX.lamCx X A outer s H E scope f c') → PE (LamX.lamCx X A outer s H E scope f c') body (rdE c (fun cls dd _ H' => E cls dd H') ea))
    (hj : j + 2 ≤ k := by decide) (L : LamX.lamSB X.env.scope scope = true := by rfl) (hdef : defaultsOf params X.env = ([], []) := by rfl)
    (hbind : ∀ (q : Str) (cl : List (Str × Addr)) (pm cv ctv : Value), bindArgs (PySem.W.kla_fn "<lambda>" q params body scope cl pm cv ctv) ⟨[], []⟩ = pure [] := by intros; rfl)
    (hg : Gl X x := by rfl) (hdb : (x == ("__debug__" : Str)) = false := by decide) (hd : (a == ("__debug__" : Str)) = false := by decide) (hcd : (a == ("__classdict__" : Str)) = false := by decide) :
    PE X (.Call (.Name x p) [.Lambda params body scope lpos] [] pos) (rdE c Wx (.caught ea)) := by
  obtain ⟨g, fd, ⟨⟨oc, od, kV, doc, pm, an, cdv, ct, osl, rfl, lk, hcd2⟩, kp⟩, hm, hbd⟩ := CF.ex
  obtain ⟨cc, P, TB, hcode, hmT, hu⟩ := LA.ex
  rw [← n.hk] at lk hcd2 kp hbd
  refine pe_wk (LamX.pe_lamcall (T := c.tb) (k := j) (t := fun E => rdE c (fun cls dd _ H' => E cls dd H') ea) hg hm kp lk hcd2 hbd CF.sc CF.na CF.va (CF.give X g cdv _ n.hk rfl) TB hcode hmT hu (n.room.mono hj) (LamX.lamS_by L) hdef hbind
    (fun A outer s H E f c' hr => hb A outer s H E f c' (n.lam hr)) hdb hd hcd) fun σ H Q ⟨F0, H0, ρ, F, W, R, hP⟩ => ⟨R.stp.tabs, fun H1 eN T1 => ?_⟩
  have S1 := ext_stp (T := True) R eN T1
  refine ⟨F0, H0, ρ, F, W, R.step S1, ?_⟩
  simp only [ev] at hP
  cases e : ev ea ρ W with
  | stk => rw [e] at hP; exact hP.elim
  | ok v W2 =>
    rw [e] at hP
    exact fun u F2 H2 S2 V2 => ⟨_, rfl, hP .non F2 H2 (S1.trans S2) (.of_rep .non rfl rfl)⟩
  | ex x W2 =>
    rw [e] at hP
    intro cls dd F2 H2 S2 hx
    cases x <;> try (exact hP.elim)
    rename_i nm fs
    simp only at hP
    obtain ⟨C, h1, rfl, h2⟩ := hx
    refine ⟨n.hk ▸ CF.up _ _ h1, fun b hb => ?_⟩
    have S3 := (S1.trans S2).trans ((R.step (S1.trans S2)).refl.makeF (o := XO (.ref C) dd b) hb)
    refine hP (.ref b) _ _ S3 (.of_rep ?_ rfl rfl)
    have ne : ∀ q o, F2 q = some o → q ≠ b := fun q o e z => by
      have := S2.sub _ _ e
      rw [z, hb] at this; cases this
    have up : Same F2 (upd F2 b (XO (.ref C) dd b)) := fun q o e => by rw [upd_ne (ne q o e)]; exact e
    cases fs with
    | nil =>
      simp only at h2
      subst h2
      exact .exc0 upd_same h1
    | cons q fs =>
      simp only at h2
      obtain ⟨m, d, gs, rfl, k1, k2⟩ := h2
      exact .exc1 upd_same h1 (up _ _ k1) (k2.mono up) (by simp)
end
end Z

namespace Z
open PySem PySem.Spec PyProof.Rows L2 He
/-- the parts: instance classes, error classes, defs with lambdas -/
def pmOf (K : PySem.W.Frag) (cas cxs : List Str) (tf : List Defn) (dl : List Addr) (d2 : Addr) : Pm where
  K := K
  ca := fun n => if n ∈ cas then some (ga K n) else none
  cx := fun n => if n ∈ cxs then some (ga K n) else none
  dl := dl
  d2 := d2
  tb := tf.map fun p => ((cT K p).2, p.1 ++ ".<locals>." ++ "<lambda>")
def insB (K : PySem.W.Frag) (n : Str) : Bool := (Fa.cls n).ok K && (eqO (PySem.W.findIn K (.ref (ga K n)) "__class__") (some (some (.builtin "object.__class__"))) && (eqO (PySem.W.specialIn K (.builtin "object.__class__") "__get__") (some (some (.builtin "getset_descriptor.__get__"))) &&
  (decide (PySem.W.takesIn K (.builtin "object.__class__") = some true) && decide (PySem.W.mroIn K (ga K n) (.type "object") = some true))))
theorem insB_ok {K : PySem.W.Frag} {n : Str} (h : insB K n = true) : InsT K (ga K n) := by
  obtain ⟨h1, h⟩ := ba h
  obtain ⟨h2, h⟩ := ba h
  obtain ⟨h3, h⟩ := ba h
  obtain ⟨h4, h5⟩ := ba h
  exact ⟨cls_ok h1, eqO_ok h2, eqO_ok h3, of_decide_eq_true h4, of_decide_eq_true h5⟩
def excB (K : PySem.W.Frag) (n : Str) : Bool := eqO (PySem.W.findIn K (.ref (ga K n)) "__getattribute__") (some (some (.builtin "BaseException.__getattribute__"))) && (eqO (PySem.W.findIn K (.ref (ga K n)) "__getattr__") (some none) && (decide (PySem.W.subIn K (.ref (ga K n)) (.type "BaseException") = some true) &&
  (PySem.W.hasDictIn K (ga K n) && (eqO (PySem.W.findIn K (.ref (ga K n)) "__class__") (some (some (.builtin "object.__class__"))) && (eqO (PySem.W.specialIn K (.builtin "object.__class__") "__get__") (some (some (.builtin "getset_descriptor.__get__"))) &&
  (decide (PySem.W.takesIn K (.builtin "object.__class__") = some true) && decide (PySem.W.mroIn K (ga K n) (.type "object") = some true)))))))
theorem excB_ok {K : PySem.W.Frag} {n : Str} (h : excB K n = true) : ExcC K (ga K n) := by
  obtain ⟨h1, h⟩ := ba h
  obtain ⟨h2, h⟩ := ba h
  obtain ⟨h3, h⟩ := ba h
  obtain ⟨h4, h⟩ := ba h
  obtain ⟨h5, h⟩ := ba h
  obtain ⟨h6, h⟩ := ba h
  obtain ⟨h7, h8⟩ := ba h
  exact ⟨eqO_ok h1, eqO_ok h2, of_decide_eq_true h3, h4, eqO_ok h5, eqO_ok h6, of_decide_eq_true h7, of_decide_eq_true h8⟩
/-- a class in isinstance: a built-in one by its name, or one of the text -/
def isU (K : PySem.W.Frag) : Ty → Value
  | .int => .type "int"
  | .bool => .type "bool"
  | .str => .type "str"
  | .list => .type "list"
  | .tuple => .type "tuple"
  | .dict => .type "dict"
  | .cls n _ => bif n == "ValueError" then .type "ValueError" else .ref (ga K n)
theorem isU_VE {K : PySem.W.Frag} {b : List Str} : isU K (.cls "ValueError" b) = .type "ValueError" := by rfl
def isB (K : PySem.W.Frag) (cas cxs : List Str) (t : Ty) : Bool :=
  decide (PySem.W.kitOne K (.type "NoneType") (isU K t) = some (isD1 .non t)) && (decide (PySem.W.kitOne K (.type "bool") (isU K t) = some (isD1 (.bl true) t)) && (decide (PySem.W.kitOne K (.type "int") (isU K t) = some (isD1 (.int 0) t)) &&
  (decide (PySem.W.kitOne K (.type "str") (isU K t) = some (isD1 (.str default) t)) && (decide (PySem.W.kitOne K (.type "tuple") (isU K t) = some (isD1 (.tup []) t)) && (decide (PySem.W.kitOne K (.type "list") (isU K t) = some (isD1 (.lst []) t)) &&
  (decide (PySem.W.kitOne K (.type "dict") (isU K t) = some (isD1 (.dic false []) t)) && (cas.all (fun n => decide (PySem.W.kitOne K (.ref (ga K n)) (isU K t) = some (isD1 (.ins n []) t))) &&
  cxs.all (fun n => decide (PySem.W.kitOne K (.ref (ga K n)) (isU K t) = some (isD1 (.exc n []) t))))))))))
section
variable {K : PySem.W.Frag} {cas cxs : List Str} {tf : List Defn} {dl : List Addr} {d2 : Addr}
theorem pm_ca {n : Str} {C : Addr} (h : (pmOf K cas cxs tf dl d2).ca n = some C) : n ∈ cas ∧ C = ga K n := by
  have h : (if n ∈ cas then some (ga K n) else none) = some C := h
  by_cases m : n ∈ cas
  · rw [if_pos m] at h; exact ⟨m, (Option.some.inj h).symm⟩
  · rw [if_neg m] at h; cases h
theorem pm_cx {n : Str} {C : Addr} (h : (pmOf K cas cxs tf dl d2).cx n = some C) : n ∈ cxs ∧ C = ga K n := by
  have h : (if n ∈ cxs then some (ga K n) else none) = some C := h
  by_cases m : n ∈ cxs
  · rw [if_pos m] at h; exact ⟨m, (Option.some.inj h).symm⟩
  · rw [if_neg m] at h; cases h
theorem pm_ca_mk {n : Str} (h : n ∈ cas) : (pmOf K cas cxs tf dl d2).ca n = some (ga K n) := if_pos h
theorem pm_cx_mk {n : Str} (h : n ∈ cxs) : (pmOf K cas cxs tf dl d2).cx n = some (ga K n) := if_pos h
theorem isB_ok {t : Ty} (h : isB K cas cxs t = true) : IsF (pmOf K cas cxs tf dl d2) t (isU K t) := by
  obtain ⟨h1, h⟩ := ba h
  obtain ⟨h2, h⟩ := ba h
  obtain ⟨h3, h⟩ := ba h
  obtain ⟨h4, h⟩ := ba h
  obtain ⟨h5, h⟩ := ba h
  obtain ⟨h6, h⟩ := ba h
  obtain ⟨h7, h⟩ := ba h
  obtain ⟨h8, h9⟩ := ba h
  refine ⟨of_decide_eq_true h1, of_decide_eq_true h2, of_decide_eq_true h3, of_decide_eq_true h4, of_decide_eq_true h5, of_decide_eq_true h6, of_decide_eq_true h7, fun n C e => ?_, fun n C e => ?_⟩
  · obtain ⟨m, rfl⟩ := pm_ca e
    exact of_decide_eq_true (List.all_eq_true.mp h8 n m)
  · obtain ⟨m, rfl⟩ := pm_cx e
    exact of_decide_eq_true (List.all_eq_true.mp h9 n m)
/-- all that is asked of the classes, the tables -/
def exB (cas cxs ats : List Str) (tys : List Ty) (top : Str) (tf : List Defn) (K : PySem.W.Frag) : Bool :=
  cas.all (insB K) && (cxs.all (excB K) && (cas.all (fun n => ats.all fun f => (Fa.noat n f).ok K) && (tys.all (isB K cas cxs) && (cxs.all (fun n => (Fa.exm n top true).ok K) &&
  (tf.all (fun p => tf.all fun q => (cT K p).2 != (cT K q).2 || p == q) && cas.all (fun n => eqO (PySem.W.findIn K (.ref (ga K n)) "__ne__") (some (some (.builtin "object.__ne__")))))))))
variable {ats : List Str} {tys : List Ty} {top : Str}
theorem ex_kls (h : exB cas cxs ats tys top tf K = true) : Kls (pmOf K cas cxs tf dl d2) := by
  obtain ⟨h1, h⟩ := ba h
  obtain ⟨h2, h⟩ := ba h
  refine ⟨fun n C e => ?_, fun n C e => ?_⟩
  · obtain ⟨m, rfl⟩ := pm_ca e
    exact insB_ok (List.all_eq_true.mp h1 n m)
  · obtain ⟨m, rfl⟩ := pm_cx e
    exact excB_ok (List.all_eq_true.mp h2 n m)
theorem ex_at (h : exB cas cxs ats tys top tf K = true) {f : Str} (hf : f ∈ ats) : ∀ n C, (pmOf K cas cxs tf dl d2).ca n = some C → Cls K C ∧ NoAttr K C f := fun n C e => by
  obtain ⟨h1, h⟩ := ba h
  obtain ⟨h2, h⟩ := ba h
  obtain ⟨h3, h⟩ := ba h
  obtain ⟨m, rfl⟩ := pm_ca e
  exact ⟨(insB_ok (List.all_eq_true.mp h1 n m)).cl, noat_ok (List.all_eq_true.mp (List.all_eq_true.mp h3 n m) f hf)⟩
theorem ex_is (h : exB cas cxs ats tys top tf K = true) {t : Ty} (ht : t ∈ tys) : IsF (pmOf K cas cxs tf dl d2) t (isU K t) := by
  obtain ⟨h1, h⟩ := ba h
  obtain ⟨h2, h⟩ := ba h
  obtain ⟨h3, h⟩ := ba h
  obtain ⟨h4, h⟩ := ba h
  exact isB_ok (List.all_eq_true.mp h4 t ht)
theorem ex_up (h : exB cas cxs ats tys top tf K = true) : ∀ n C, (pmOf K cas cxs tf dl d2).cx n = some C → PySem.W.exmOne K (.ref C) (.ref (ga K top)) = some true := fun n C e => by
  obtain ⟨h1, h⟩ := ba h
  obtain ⟨h2, h⟩ := ba h
  obtain ⟨h3, h⟩ := ba h
  obtain ⟨h4, h⟩ := ba h
  obtain ⟨h5, h6⟩ := ba h
  obtain ⟨m, rfl⟩ := pm_cx e
  exact exm_ok (List.all_eq_true.mp h5 n m)
theorem ex_tb (h : exB cas cxs ats tys top tf K = true) {p : Defn} (hp : p ∈ tf) : ∀ q ∈ (pmOf K cas cxs tf dl d2).tb, q.1 = (cT K p).2 → q.2 = p.1 ++ ".<locals>." ++ "<lambda>" := fun q hq e => by
  obtain ⟨h1, h⟩ := ba h
  obtain ⟨h2, h⟩ := ba h
  obtain ⟨h3, h⟩ := ba h
  obtain ⟨h4, h⟩ := ba h
  obtain ⟨h5, h⟩ := ba h
  obtain ⟨h6, h7⟩ := ba h
  obtain ⟨r, hr, rfl⟩ := List.mem_map.mp hq
  have z := List.all_eq_true.mp (List.all_eq_true.mp h6 r hr) p hp
  simp only [Bool.or_eq_true, bne_iff_ne, ne_eq, beq_iff_eq] at z
  rcases z with z | z
  · exact absurd e z
  · rw [z]
theorem ex_ne (h : exB cas cxs ats tys top tf K = true) : ∀ C : Addr, ∀ {n : Str}, (pmOf K cas cxs tf dl d2).ca n = some C → PySem.W.findIn K (.ref C) "__ne__" = some (some (.builtin "object.__ne__")) := fun C n e => by
  obtain ⟨h1, h⟩ := ba h
  obtain ⟨h2, h⟩ := ba h
  obtain ⟨h3, h⟩ := ba h
  obtain ⟨h4, h⟩ := ba h
  obtain ⟨h5, h⟩ := ba h
  obtain ⟨h6, h7⟩ := ba h
  obtain ⟨m, rfl⟩ := pm_ca e
  exact eqO_ok (List.all_eq_true.mp h7 n m)
end
theorem fun_of {K : PySem.W.Frag} {x qual : Str} {st : Stmt} {f : Addr} {fd : FuncData} (F : FunD K x qual (defArgs st) (defBody st) (defScope st) [] [] f fd) : Fun K x qual st f fd := by
  obtain ⟨⟨oc, od, dV, kV, doc, pm, an, cdv, ct, osl, e, lk, hc, hd, _⟩, kp⟩ := F
  rcases hd with ⟨_, rfl⟩ | ⟨z, _⟩
  · exact ⟨⟨oc, od, kV, doc, pm, an, cdv, ct, osl, e, lk, hc⟩, kp⟩
  · exact absurd rfl z
section
variable {c : Pm} {Wx : WX} {X : Cx} {fu n k : Nat}
theorem ba_ {a b : Bool} (h : (a && b) = true) : a = true ∧ b = true := Bool.and_eq_true_iff.mp h
/-- a def of the text whose code object is known -/
theorem fn_okL {P : Program} {w : World} {K : PySem.W.Frag} {mg : Str → Option Value} {base : Heap} {x qual : Str} {st : Stmt} {f : Addr} {fd : FuncData} {N ps : List Str} {b : S} (F : Fun K x qual st f fd) (S : FnScope N ps (defScope st))
    (hb : ∀ (cdv : Value) (A : Around) (outer : List Env) (s : Shared) (H : Hp) (E : XK), fd.code = cdv → Room k (A.deeper (envOfC qual (defScope st) s.heap.objs.size f cdv)) →
      Takes (cxOf (L2.CX P w) P w K mg base N qual (defScope st) f cdv A outer s H E) (fun cls dd _ H' => E cls dd H') →
      PSs (cxOf (L2.CX P w) P w K mg base N qual (defScope st) f cdv A outer s H E) (defBody st) (rdS c (fun cls dd _ H' => E cls dd H') fu b)) :
    FnOk P w K mg base (L2.CX P w) (k + 1) f fd ps (spG c (run fu N.length ps.length b)) := by
  obtain ⟨⟨oc, od, kV, doc, pm, an, cdv, ct, osl, rfl, lk, hcd⟩, kp⟩ := F
  exact fn_of lk hcd S (fun vs H Q E h => spG_len h) fun A outer s H vs Q E hr h => ⟨_, hb cdv A outer s H E rfl hr (takes_of rfl rfl rfl rfl), (body_ok h).2⟩
/-- the same, of any promise -/
theorem fn_okS {P : Program} {w : World} {K : PySem.W.Frag} {mg : Str → Option Value} {base : Heap} {x qual : Str} {st : Stmt} {f : Addr} {fd : FuncData} {N ps : List Str} {sp : Sp} (F : Fun K x qual st f fd) (S : FnScope N ps (defScope st)) (len : ∀ vs H Q E, sp vs H Q E → vs.length = ps.length)
    (hb : ∀ (cdv : Value) (A : Around) (outer : List Env) (s : Shared) (H : Hp) (vs : List V) (Q : VK) (E : XK), fd.code = cdv → Room k (A.deeper (envOfC qual (defScope st) s.heap.objs.size f cdv)) → sp vs H Q E →
      ∃ t, PSs (cxOf (L2.CX P w) P w K mg base N qual (defScope st) f cdv A outer s H E) (defBody st) t ∧ t { nx := fun _ H' => Q .non H', rt := Q } (L2.start N vs) H) :
    FnOk P w K mg base (L2.CX P w) (k + 1) f fd ps sp := by
  obtain ⟨⟨oc, od, kV, doc, pm, an, cdv, ct, osl, rfl, lk, hcd⟩, kp⟩ := F
  exact fn_of lk hcd S len fun A outer s H vs Q E hr h => hb cdv A outer s H vs Q E rfl hr h
/-- the code object of a def, its table -/
structure TbF (c : Pm) (mg : Str → Option Value) (base : Heap) (qual : Str) (fd : FuncData) : Prop where
  ex : ∃ cc P, LamX.TabB base mg cc P ∧ fd.code = .ref cc ∧ (P, qual ++ ".<locals>." ++ "<lambda>") ∈ c.tb ∧ ∀ p ∈ c.tb, p.1 = P → p.2 = qual ++ ".<locals>." ++ "<lambda>"
theorem TbF.at {mg : Str → Option Value} {base : Heap} {qual : Str} {fd : FuncData} (t : TbF c mg base qual fd) {CX : CXT} {P : Program} {w : World} {K : PySem.W.Frag} {N : List Str} {scope : Scope} {f : Addr} {cd : Value} {A : Around} {outer : List Env} {s : Shared} {H : Hp} {E : XK} (h : fd.code = cd) :
    LamAt c (cxOf CX P w K mg base N qual scope f cd A outer s H E) := by
  obtain ⟨cc, P, h1, h2, h3, h4⟩ := t.ex
  exact ⟨cc, P, h1, h.symm.trans h2, h3, h4⟩
end
theorem tbF_of {K : PySem.W.Frag} {tf : List Defn} {cas cxs ats : List Str} {tys : List Ty} {top : Str} {dl : List Addr} {d2 : Addr} {base : Heap} {mg : Str → Option Value} {x : Str} {fd : FuncData} {oc : Value} {od : Option Addr} {osl : Array (Option Value)}
    (hex : exB cas cxs ats tys top tf K = true) (hp : (x, none) ∈ tf) (TB : ∀ p ∈ tf.map (cT K), LamX.TabB base mg p.1 p.2) (lk : K.lookup (fAd K (x, none)) = some ⟨oc, od, .func fd, osl⟩) (hc : PySem.W.codeIn K fd.code x = true) :
    TbF (pmOf K cas cxs tf dl d2) mg base x fd := by
  obtain ⟨cc, e⟩ := codeIn_ref hc
  have ec : codeOf K (x, none) = cc := codeOf_eq lk e
  refine ⟨cc, (cT K (x, none)).2, ?_, e, List.mem_map.mpr ⟨_, hp, rfl⟩, fun q hq e => ex_tb hex hp q hq e⟩
  have := TB _ (List.mem_map.mpr ⟨_, hp, rfl⟩)
  rw [show (cT K (x, none)).1 = cc from ec] at this
  exact this
theorem Fun.lk {K : PySem.W.Frag} {x qual : Str} {st : Stmt} {f : Addr} {fd : FuncData} (F : Fun K x qual st f fd) : (∃ oc od osl, K.lookup f = some ⟨oc, od, .func fd, osl⟩) ∧ PySem.W.codeIn K fd.code qual = true := by
  obtain ⟨⟨oc, od, kV, doc, pm, an, cdv, ct, osl, rfl, lk, hcd⟩, kp⟩ := F
  exact ⟨⟨oc, od, osl, lk⟩, hcd⟩
theorem Fun.kpick {K : PySem.W.Frag} {x qual : Str} {st : Stmt} {f : Addr} {fd : FuncData} {ps ks : List Str} {is : List Nat} (F : Fun K x qual st f fd)
    (h : ∀ (kV doc pm : Value) (an : Option Addr) (cdv ct : Value) (us : List Value), us.length = ks.length → bindArgs (PySem.W.fnOf x qual (defArgs st) (defBody st) (defScope st) .none kV doc pm an cdv ct) ⟨[], ks.zip us⟩ = pure (ps.zip (pick is us))) : KPick K fd ps ks is := by
  obtain ⟨⟨oc, od, kV, doc, pm, an, cdv, ct, osl, rfl, lk, hcd⟩, kp⟩ := F
  exact fun s us _ hl => .of_eq (h kV doc pm an cdv ct us hl)
theorem raiseF_of {K : PySem.W.Frag} {cas cxs : List Str} {tf : List Defn} {dl : List Addr} {d2 : Addr} {mg : Str → Option Value} {n : Str} (h : (Fa.exc n).ok K = true) (hm : mg n = some (.ref (ga K n))) (hn : n ∈ cxs) (F : ExcBaseFacts "ValueError" "ValueError.__new__" "ValueError.__init__" veBase) :
    RaiseF (pmOf K cas cxs tf dl d2) mg n := by
  obtain ⟨h1, h2, h3, h4⟩ := exc_ok h
  exact ⟨_, _, _, _, _, F, h1, hm, h2, h3, h4, pm_cx_mk hn⟩
theorem law_end {l : PySem.W.OpenLaw} {k : Nat} {q : Program} {loose : List Str} {XP : (Str → Option Value) → Heap → Prop} {d : DefRec} {fa : List Fa} {fn : List DefD} {tf : List Defn} {ex : PySem.W.Frag → Bool} {x : Str} (cas cxs : List Str)
    (hn : l.most = some 63) (hdf : d.params.defaults = []) (hr : Room k callerA)
    (F : ∀ (w : World) (mg : Str → Option Value) (fl : Addr) (h : Heap) (K : PySem.W.Frag), K.In h → SaysX fa fn [] tf ex w h K → h.Ns mainGlobals mg → mg d.name = some (.ref fl) →
      ∃ fd : FuncData, (∀ (s : Shared) (u : Value), BindsTo s fd ⟨[u], []⟩ [(x, u)]) ∧ ∀ base : Heap, K.In base → base.Ns mainGlobals mg → (∀ p ∈ tf.map (cT K), LamX.TabB base mg p.1 p.2) → FnOk l.prog w K mg base (L2.CX l.prog w) k fl fd [x] (spLaw (pmOf K cas cxs tf [] 0))) :
    PySem.W.WalkO q loose XP (hookX n fa fn [] tf ex).says l.row.toRowW d [] (fun f vs => PySem.call f vs) := by
  refine LamX.walk_ofTsE (n := 63) (k := k) (x := x) (CX := fun w => L2.CX l.prog w) hn (by rw [sizeLine_eq]; decide) hdf hr (fun w mg fl h Y G hm => ?_) fun w H s e s' z => ?_
  · obtain ⟨K, KX, c⟩ := Y
    obtain ⟨fd, hb, hF⟩ := F w mg fl h K KX c G hm
    refine ⟨K, KX, fd, tf.map (cT K), _, fun p hp => ?_, fun p hp => ?_, fun p hp => ?_, hb, fun H a ns hl _ hT hS => ⟨a, ns, rfl, sqS_of hS, hl, fun p hp => ?_, fun _ => rfl⟩, hF⟩
    · obtain ⟨q, hq, rfl⟩ := List.mem_map.mp hp
      exact c.empty q hq
    · obtain ⟨q, hq, rfl⟩ := List.mem_map.mp hp
      exact c.out q hq
    · obtain ⟨q, hq, rfl⟩ := List.mem_map.mp hp
      exact PySem.W.codeHd_of_K KX (c.hd q hq)
    · obtain ⟨q, hq, rfl⟩ := List.mem_map.mp hp
      exact LamX.TabS.nil (hT _ (List.mem_map.mpr ⟨q, hq, rfl⟩))
  · obtain ⟨_, _, _, _, _, _, _, _, _, _, _, _, z⟩ := z
    exact z
end Z

namespace Z
open PySem PySem.Spec PyProof.Rows L2
open Classical
section
variable {c : Pm} {Wx : WX} {X : Cx} {fu n k : Nat} {W W' W1 W2 W3 : Dr} {F0 H0 F H F' H' F1 H1 F2 H2 F3 H3 Hs : Hp} {ρ ρ' : En} {σ σ' : L2.St} {u w : V} {x y v : Vl} {Q : VK} {us : List V} {vs : List Vl} {pos : Pos}

/-- a def's worth that does not look at the draws -/
def pureG (f : List D → Option (Bool × D)) : G := fun xs W => ofO (f xs) fun r => .ok r W
theorem pureG_some {f : List D → Option (Bool × D)} {xs : List D} {r : Bool × D} {W : Dr} (h : f xs = some r) : pureG f xs W = .ok r W := by unfold pureG; rw [h]; rfl
theorem spG_pure {f : List D → Option (Bool × D)} {E : XK} (h : spG c (pureG f) us H Q E) : ∃ F xs W r, RepL c F us xs ∧ Stp c W F H F H ∧ f xs = some r ∧ ∀ u F' H', Stp c W F H F' H' → ResOk c H F' H' u r → Q u H' := by
  obtain ⟨F, xs, W, r, S, hP⟩ := h
  unfold pureG at hP
  cases e : f xs with
  | none => rw [e] at hP; exact hP.elim
  | some z => rw [e] at hP; exact ⟨F, xs, W, z, r, S, e, hP⟩
/-- a new list as a result -/
theorem fin_newL {us : List V} {xs : List D} (S : Stp c W F H F H) (r : RepL c F us xs) (hQ : ∀ u F' H', Stp c W F H F' H' → ResOk c H F' H' u (true, .lst xs) → Q u H') : ∀ p, H p = none → Q (.ref p) (upd H p (.lst us)) := fun p hp => by
  have hF : F p = none := by
    cases q : F p with
    | none => rfl
    | some o => rw [S.sub _ _ q] at hp; cases hp
  refine hQ _ F _ (S.make hp) ?_
  exact ⟨p, rfl, hF, fun h => S.sm h hp, .of hp, us, upd_same, r⟩
theorem op_ok {ck : D → Bool} {g : G} {ea es : E} (h : rdE c Wx (.op ck g ea es) σ H Q) : rdE c Wx ea σ H (fun x H1 => (∃ d F W, Rep c F x d ∧ Stp c W F H1 F H1 ∧ ck d = true) ∧ rdL c Wx es σ H1 fun us H2 => spG c g (x :: us) H2 Q (WE Wx σ)) := by
  obtain ⟨F0, H0, ρ, F, W, R, hP⟩ := h
  simp only [ev] at hP
  refine rd_e R R.refl hP fun x W1 u F1 H1 S1 _ V1 R1 hQ => ?_
  by_cases hc : ck x.d = true
  · rw [if_pos hc] at hQ
    have A0 : ArgOk c ρ σ H F1 H1 [u] [x] := .cons V1 .nil
    have a0 := args_all R R1 S1 A0
    have R0 := (Ft_rel R R1 S1 A0).frz (ts_own A0)
    refine ⟨?_, rd_l R1 S1 hQ fun vs W2 us F2 H2 S2 S12 A R2 hQ => ?_⟩
    · cases a0 with
      | cons r _ => exact ⟨_, _, _, r, R0.stp.refl, hc⟩
    · have AA : ArgOk c ρ σ H F2 H2 (u :: us) (x :: vs) := .cons (V1.step R1 S12) A
      have RF := (Ft_rel R R2 S2 AA).frz (ts_own AA)
      exact ⟨_, ds (x :: vs), W2, args_all R R2 S2 AA, RF.stp.refl, call_end (g := g) R S2 AA (ts_own AA) hQ⟩
  · rw [if_neg hc] at hQ; exact hQ.elim
theorem op1_ok {ck : D → Bool} {g : G} {ea eb : E} (h : rdE c Wx (.op ck g ea (.cons eb .nil)) σ H Q) : rdE c Wx ea σ H (fun x H1 => (∃ d F W, Rep c F x d ∧ Stp c W F H1 F H1 ∧ ck d = true) ∧ rdE c Wx eb σ H1 fun y H2 => spG c g [x, y] H2 Q (WE Wx σ)) := by
  obtain ⟨F0, H0, ρ, F, W, R, hP⟩ := h
  simp only [ev, evL] at hP
  refine rd_e R R.refl hP fun x W1 u F1 H1 S1 _ V1 R1 hQ => ?_
  by_cases hc : ck x.d = true
  · rw [if_pos hc] at hQ
    have A0 : ArgOk c ρ σ H F1 H1 [u] [x] := .cons V1 .nil
    have a0 := args_all R R1 S1 A0
    have R0 := (Ft_rel R R1 S1 A0).frz (ts_own A0)
    rw [Out.bind_bind] at hQ
    refine ⟨?_, rd_e R1 S1 hQ fun y W2 w F2 H2 S2 S12 V2 R2 hQ => ?_⟩
    · cases a0 with
      | cons r _ => exact ⟨_, _, _, r, R0.stp.refl, hc⟩
    · simp only [Out.ok_bind] at hQ
      have AA : ArgOk c ρ σ H F2 H2 [u, w] [x, y] := .cons (V1.step R1 S12) (.cons V2 .nil)
      have RF := (Ft_rel R R2 S2 AA).frz (ts_own AA)
      exact ⟨_, ds [x, y], W2, args_all R R2 S2 AA, RF.stp.refl, call_end (g := g) R S2 AA (ts_own AA) hQ⟩
  · rw [if_neg hc] at hQ; exact hQ.elim

theorem rdE_mono {e : E} {Q Q' : V → Hp → Prop} (h : rdE c Wx e σ H Q) (k : ∀ x H', Q x H' → Q' x H') : rdE c Wx e σ H Q' := by
  obtain ⟨F0, H0, ρ, F, W, R, hP⟩ := h
  refine ⟨F0, H0, ρ, F, W, R, ?_⟩
  revert hP
  cases ev e ρ W with
  | stk => exact fun h => h
  | ex x W' => exact fun h => h
  | ok a W' => exact fun h b F' H' S V => k b H' (h b F' H' S V)

theorem call2_ok {g : G} {ea eb : E} (h : rdE c Wx (.call g (.cons ea (.cons eb .nil))) σ H Q) : rdE c Wx ea σ H (fun x H1 => rdE c Wx eb σ H1 fun y H2 => spG c g [x, y] H2 Q (WE Wx σ)) := by
  obtain ⟨F0, H0, ρ, F, W, R, hP⟩ := h
  simp only [ev, evL, Out.bind_bind, Out.ok_bind] at hP
  refine rd_e R R.refl hP fun x W1 u F1 H1 S1 _ V1 R1 hQ => ?_
  refine rd_e R1 S1 hQ fun y W2 w F2 H2 S2 S12 V2 R2 hQ => ?_
  have AA : ArgOk c ρ σ H F2 H2 [u, w] [x, y] := .cons (V1.step R1 S12) (.cons V2 .nil)
  have RF := (Ft_rel R R2 S2 AA).frz (ts_own AA)
  exact ⟨_, ds [x, y], W2, args_all R R2 S2 AA, RF.stp.refl, call_end (g := g) R S2 AA (ts_own AA) hQ⟩
theorem call1_ok {g : G} {ea : E} (h : rdE c Wx (.call g (.cons ea .nil)) σ H Q) : rdE c Wx ea σ H (fun x H1 => spG c g [x] H1 Q (WE Wx σ)) := by
  obtain ⟨F0, H0, ρ, F, W, R, hP⟩ := h
  simp only [ev, evL, Out.bind_bind, Out.ok_bind] at hP
  refine rd_e R R.refl hP fun x W1 u F1 H1 S1 _ V1 R1 hQ => ?_
  have AA : ArgOk c ρ σ H F1 H1 [u] [x] := .cons V1 .nil
  have RF := (Ft_rel R R1 S1 AA).frz (ts_own AA)
  exact ⟨_, ds [x], W1, args_all R R1 S1 AA, RF.stp.refl, call_end (g := g) R S1 AA (ts_own AA) hQ⟩

def isStrD : D → Bool
  | .str _ => true
  | _ => false
def strsD : List D → Option (List Str)
  | [] => some []
  | .str x :: r => (strsD r).map (x :: ·)
  | _ => none
theorem strsD_map : ∀ ys : List Str, strsD (ys.map .str) = some ys
  | [] => rfl
  | y :: ys => by rw [List.map_cons]; simp only [strsD, strsD_map ys, Option.map_some]
theorem strs_rep : ∀ {us : List V} {xs : List D} {ys : List Str}, RepL c F us xs → strsD xs = some ys → us = ys.map V.str
  | _, _, _, .nil, h => by cases h; rfl
  | _, _, _, .cons (x := d) (xs := ds) r t, h => by
    cases d <;> simp only [strsD] at h <;> try (cases h; done)
    rw [Option.map_eq_some_iff] at h
    obtain ⟨zs, h1, rfl⟩ := h
    cases r
    rw [strs_rep t h1]
    rfl
theorem rep_strs : ∀ ys : List Str, RepL c F (ys.map V.str) (ys.map D.str)
  | [] => .nil
  | y :: ys => .cons (.str y) (rep_strs ys)
def joinS (a : Str) (xs : List D) : Option (Bool × D) := (strsD xs).bind fun ys => if (ys.map (·.length)).sum + ys.length * a.length ≤ cap then some (false, .str (Txt.join a ys)) else none
def joinD : List D → Option (Bool × D)
  | [.str a, .lst xs] => joinS a xs
  | [.str a, .tup xs] => joinS a xs
  | _ => none
def splitD : List D → Option (Bool × D)
  | [.str a, .str b] => if b.length ≠ 0 ∧ a.length + 2 ≤ cap then some (true, .lst ((Txt.split a b).map .str)) else none
  | _ => none
theorem isStr_ok {x : V} {H1 : Hp} (h : ∃ d F W, Rep c F x d ∧ Stp c W F H1 F H1 ∧ isStrD d = true) : ∃ a, x = .str a := by
  obtain ⟨d, F, W, r, _, e⟩ := h
  cases d <;> simp only [isStrD] at e <;> try (cases e; done)
  cases r
  exact ⟨_, rfl⟩
theorem x_join {o a : Expr} {eo ea : E} {apos : Pos} (n : Cn c Wx k X) (ho : PE X o (rdE c Wx eo)) (ha : PE X a (rdE c Wx ea)) (hs : starEach [a] X.env = [(false, eval a X.env)] := by rfl) (hbase : attributeBase o "join" X.env (eval o X.env) = eval o X.env := by rfl) (hline : (apos.endLine == pos.line) = true := by rfl) :
    PE X (.Call (.Attribute o "join" apos) [a] [] pos) (rdE c Wx (.op isStrD (pureG joinD) eo (.cons ea .nil))) := by
  refine pe_wk (pe_join (apos := apos) (pos := pos) ho ha hs hbase hline) fun σ H Q h => ?_
  refine rdE_mono (op1_ok h) fun x H1 ⟨h1, h2⟩ => ⟨isStr_ok h1, rdE_mono h2 fun y H2 h3 => ?_⟩
  obtain ⟨F, xs, W, r, rr, S, hf, hQ⟩ := spG_pure h3
  cases rr with
  | cons r1 rr =>
    cases rr with
    | cons r2 rr =>
      cases rr
      rename_i d1 d2
      obtain ⟨sa, rfl⟩ : ∃ sa, d1 = .str sa := by cases d1 <;> simp only [joinD] at hf <;> first | (cases hf; done) | exact ⟨_, rfl⟩
      cases r1
      have fin : ∀ {zs : List D} {ws : List V}, RepL c F ws zs → joinS sa zs = some r → ∃ ys : List Str, ws = ys.map V.str ∧ (ys.map (·.length)).sum + ys.length * sa.length ≤ 16777216 ∧ Q (.str (Txt.join sa ys)) H2 := by
        intro zs ws rz hf
        unfold joinS at hf
        rw [Option.bind_eq_some_iff] at hf
        obtain ⟨ys, hy, hf⟩ := hf
        split at hf <;> cases hf
        rename_i hle
        exact ⟨ys, strs_rep rz hy, hle, hQ _ F H2 S (.str _)⟩
      cases d2 <;> simp only [joinD] at hf <;> try (cases hf; done)
      · obtain ⟨p, vs, rfl, e1, e2⟩ := r2.tupI
        obtain ⟨ys, rfl, hle, q⟩ := fin e2 hf
        exact ⟨sa, p, ys, rfl, rfl, .inr (n.hk ▸ Same.sqT S.sub e1), hle, q⟩
      · obtain ⟨p, vs, rfl, e1, e2⟩ := r2.lstI
        obtain ⟨ys, rfl, hle, q⟩ := fin e2 hf
        exact ⟨sa, p, ys, rfl, rfl, .inl (.inl (.inl (S.sub _ _ e1))), hle, q⟩
theorem x_split {o a : Expr} {eo ea : E} {apos : Pos} (n : Cn c Wx k X) (ho : PE X o (rdE c Wx eo)) (ha : PE X a (rdE c Wx ea)) (hs : starEach [a] X.env = [(false, eval a X.env)] := by rfl) (hbase : attributeBase o "split" X.env (eval o X.env) = eval o X.env := by rfl) (hline : (apos.endLine == pos.line) = true := by rfl) :
    PE X (.Call (.Attribute o "split" apos) [a] [] pos) (rdE c Wx (.op isStrD (pureG splitD) eo (.cons ea .nil))) := by
  refine pe_wk (pe_split (apos := apos) (pos := pos) ho ha hs hbase hline) fun σ H Q h => ?_
  refine rdE_mono (op1_ok h) fun x H1 ⟨h1, h2⟩ => ⟨isStr_ok h1, rdE_mono h2 fun y H2 h3 => ?_⟩
  obtain ⟨F, xs, W, r, rr, S, hf, hQ⟩ := spG_pure h3
  cases rr with
  | cons r1 rr =>
    cases rr with
    | cons r2 rr =>
      cases rr
      rename_i d1 d2
      obtain ⟨sa, rfl⟩ : ∃ sa, d1 = .str sa := by cases d1 <;> simp only [splitD] at hf <;> first | (cases hf; done) | exact ⟨_, rfl⟩
      obtain ⟨sb, rfl⟩ : ∃ sa, d2 = .str sa := by cases d2 <;> simp only [splitD] at hf <;> first | (cases hf; done) | exact ⟨_, rfl⟩
      cases r1
      cases r2
      simp only [splitD] at hf
      split at hf <;> cases hf
      rename_i hle
      refine ⟨sa, sb, rfl, rfl, by simpa using hle.1, by rw [← cap_eq]; exact hle.2, fun p hp => ?_⟩
      exact fin_newL S (rep_strs _) hQ p hp

theorem star_go {t : List Nat} (R2 : Rel c F0 H0 ρ σ F2 H2 W2) (ht : ∀ i ∈ t, ∃ x, ρ[i]? = some (.own x)) : ∀ {xs : List V} {ys : List D}, RepL c (Fz F2 H2 σ t) xs ys → Paired (fun u v => ValOk c ρ σ Hs F2 H2 u v) us vs → Apart us vs →
    Paired (fun u v => ValOk c ρ σ Hs F2 H2 u v) (xs ++ us) (ys.map (fun y => vl y t) ++ vs) ∧ Apart (xs ++ us) (ys.map (fun y => vl y t) ++ vs)
  | _, _, .nil, A, B => ⟨A, B⟩
  | _, _, .cons r rs, A, B => ⟨.cons (.of_plain R2 ht r) (star_go R2 ht rs A B).1, fun a h _ => (nomatch h), (star_go R2 ht rs A B).2⟩
theorem l_star {e : Expr} {es : List Expr} {a b : E} {p : Pos} (n : Cn c Wx k X) (ha : PE X e (rdE c Wx a)) (hb : PA X es (rdL c Wx b)) (hs : starEach (.Starred e p :: es) X.env = (true, eval e X.env) :: starEach es X.env := by rfl) : PA X (.Starred e p :: es) (rdL c Wx (.star a b)) := by
  refine pa_wk (StX.pa_star ha hb hs) fun σ H Q ⟨F0, H0, ρ, F, W, R, hP⟩ => ?_
  simp only [evL] at hP
  refine rd_e R R.refl hP fun x W1 u F1 H1 S1 _ V1 R1 hP => ?_
  obtain ⟨ys, hy, hP⟩ := ofO_some hP
  have fin : ∀ {us : List V} {vs : List Vl} {F2 H2 : Hp} {W2 : Dr} {xs : List V}, RepL c (Fz F1 H1 σ x.t) xs ys → Stp c W2 F H F2 H2 → Stp c W2 F1 H1 F2 H2 → Paired (fun u v => ValOk c ρ σ H1 F2 H2 u v) us vs → Apart us vs → Rel c F0 H0 ρ σ F2 H2 W2 → Pst c Wx σ F H (fun vs us F' H' => Paired (fun u v => ValOk c ρ σ H F' H' u v) us vs ∧ Apart us vs) Q (.ok (ys.map (fun y => vl y x.t) ++ vs) W2) → Q (xs ++ us) H2 := by
    intro us vs F2 H2 W2 xs rl S2 S12 A B R2 hP
    exact hP _ F2 H2 S2 (star_go R2 V1.t_own (rl.mono (Fz_step R1 V1.t_own S12)) (Paired.mapP A fun _ _ z => z.start fun a m z => S1.keepN m z) B)
  cases e : x.d <;> rw [e] at hy <;> simp only [D.seq] at hy <;> try (cases hy; done)
  · cases hy
    obtain ⟨p, xs, rfl, h1, h2⟩ := V1.tup R1 e
    exact ⟨p, xs, rfl, .inl (n.hk ▸ Same.sqT (Fz_dn R1.stp.sub) h1), rd_lx R1 S1 hP fun vs W2 us F2 H2 S2 S12 A B R2 hP => fin h2 S2 S12 A B R2 hP⟩
  · cases hy
    obtain ⟨p, xs, rfl, h1, h2⟩ := V1.lst R1 e
    exact ⟨p, xs, rfl, .inr (.inl (.inl h1)), rd_lx R1 S1 hP fun vs W2 us F2 H2 S2 S12 A B R2 hP => fin h2 S2 S12 A B R2 hP⟩

theorem enuD_get {x : D} : ∀ {xs : List D} {k i : Nat}, (enuD k xs)[i]? = some x → ∃ y, xs[i]? = some y ∧ x = .tup [.int ((k + i : Nat) : Int), y]
  | [], k, i, h => by simp [enuD] at h
  | y :: ys, k, 0, h => by
    simp [enuD] at h
    exact ⟨y, rfl, by rw [← h]; simp⟩
  | y :: ys, k, i + 1, h => by
    simp only [enuD, List.getElem?_cons_succ] at h
    obtain ⟨z, h1, h2⟩ := enuD_get h
    exact ⟨z, by simpa using h1, by rw [h2]; congr 3; omega⟩
theorem enuD_len : ∀ {xs : List D} {k : Nat}, (enuD k xs).length = xs.length
  | [], k => rfl
  | y :: ys, k => by simp [enuD, enuD_len]
theorem wk_enu {a : Addr} {vs : List V} {xs : List D} {B B' : Hp} (h : ∀ H, Same B H → SqL c.K H a vs) (r : RepL c B' vs xs) : WkOk c B B' (enuD 0 xs) (Ite c.K a) := by
  refine ⟨fun i x H e s => ?_, fun H s => ?_⟩
  · obtain ⟨y, hy, rfl⟩ := enuD_get e
    obtain ⟨v, h1, h2⟩ := r.get hy
    refine ⟨⟨vs, v, h H s, h1⟩, fun u H' ⟨T, z, e1, e2, e3, e4⟩ => .inr ⟨T, _, _, e1, rfl, e2, e3, ?_⟩⟩
    have q := e4 vs (h H s)
    rw [h1] at q
    cases q
    rw [Nat.zero_add]
    exact .cons (.int _) (.cons h2 .nil)
  · exact ⟨vs, h H s, by rw [r.length, enuD_len]; exact Nat.le_refl _⟩
def insD (nm : Str) : D → Bool
  | .ins n _ => n == nm
  | _ => false
/-- a == b (a != b) of two instances of a class with an own == -/
def eqG (neg : Bool) (nm : Str) (g : G) : G := fun xs W => match xs with
  | [x, y] => if (insD nm x && insD nm y) = true then match g [x, y] W with
    | .ok (false, .bl b) W' => .ok (false, .bl (b != neg)) W'
    | _ => .stk
    else .stk
  | _ => .stk
theorem ins_of {nm : Str} {d : D} {F : Hp} {x : V} (r : Rep c F x d) (e : insD nm d = true) : ∃ a C dx fs, x = .ref a ∧ F a = some (.ins C dx fs) ∧ c.ca nm = some C := by
  cases d <;> simp only [insD] at e <;> try (cases e; done)
  obtain ⟨a, C, dx, gs, h1, h2, h3, _⟩ := r.insI
  rw [← beq_iff_eq.mp e]
  exact ⟨a, C, dx, gs, h1, h2, h3⟩
def rOEq (C : Addr) (sp : Sp) (neg : Bool) : R2 := fun x y H Q => (∃ a b dx dy fs gs, x = .ref a ∧ y = .ref b ∧ H a = some (.ins C dx fs) ∧ H b = some (.ins C dy gs)) ∧ ∀ E, sp [x, y] H (fun v H' => ∃ r : Bool, v = .bl r ∧ Q (.bl (r != neg)) H') E
theorem spG_eq {neg : Bool} {nm : Str} {g : G} {x y : V} {E : XK} {C : Addr} (hC : c.ca nm = some C) (h : spG c (eqG neg nm g) [x, y] H Q E) : rOEq C (spG c g) neg x y H Q := by
  obtain ⟨F, xs, W, r, S, hP⟩ := h
  cases r with
  | cons r1 r =>
    cases r with
    | cons r2 r =>
      cases r
      rename_i d1 d2
      simp only [eqG] at hP
      split at hP
      · rename_i hd
        rw [Bool.and_eq_true] at hd
        obtain ⟨b, C', dy, gs, rfl, h2, h3⟩ := ins_of r2 hd.2
        rw [hC] at h3
        cases h3
        obtain ⟨a, C', dx, fs, rfl, h1, h3⟩ := ins_of r1 hd.1
        rw [hC] at h3
        cases h3
        refine ⟨⟨a, b, dx, dy, fs, gs, rfl, rfl, S.sub _ _ h1, S.sub _ _ h2⟩, fun E => ⟨F, [d1, d2], W, .cons r1 (.cons r2 .nil), S, ?_⟩⟩
        cases e : g [d1, d2] W with
        | stk => rw [e] at hP; exact hP.elim
        | ex z W' => rw [e] at hP; exact hP.elim
        | ok rr W' =>
          rw [e] at hP
          obtain ⟨nw, d⟩ := rr
          cases nw <;> cases d <;> try (exact hP.elim)
          rename_i b
          intro u F' H' S' hr
          cases hr
          exact ⟨b, rfl, hP _ F' H' S' (.bl _)⟩
      · exact hP.elim
end
section
variable {prog : Program} {w : World} {A A₀ : Around} {E : Value → Shared → Prop} {s : Shared} {K : PySem.W.Frag} {x y C L f : Addr} {h₀ : Heap} {m : Str → Option Value} {ox : Obj} {od : Option Obj}
/-- object.__ne__ of two objects, the first one with an own == -/
theorem ne_own {Q : Fin → Shared → Prop} (X : K.In s.heap) (I : PySem.W.InstAt s.heap x ox C od) (hs : PySem.W.findIn K (.ref C) "__eq__" = some (some (.ref f))) (hf : PySem.W.isFn K (.ref f) = true) (hu : A.units < cLine)
    (hcall : wpAny (model prog w) A (call (.ref f) [.ref x, .ref y]) (fun v s' => ∃ b, v = .bool b ∧ Q (.done (.ret (.bool (!b)))) s') E s) :
    wpAny (model prog w) A (Builtin.«object.__ne__» ⟨[.ref x, .ref y], []⟩) Q E s := by
  obtain ⟨hh, gg, dd, tt, oo⟩ := s
  unfold Builtin.«object.__ne__»
  repeat (first
    | with_reducible refine wpAny_cRoomFor hu ?_
    | (refine wpAny_bind (m := callSpecialIfBound? (.ref x) (Str.ofString "__eq__") [.ref y])
        (PySem.W.ifBound_K X I hs hf (wpAny_mono hcall (fun r s' hr => by
          obtain ⟨b, rfl, hq⟩ := hr
          repeat (first | exact hq | exact wpAny_pure hq | exact wpAny_truthy_bool hq | (refine wpAny_bind (m := truthy (.bool _)) (wpAny_truthy_bool ?_)) | wp_step)) fun _ _ e => e)))
    | wp_step)
theorem ifBound_ne {M : Model} {args : List Value} {Q : Option Value → Shared → Prop} (X : K.In s.heap) (I : PySem.W.InstAt s.heap x ox C od) (hs : PySem.W.findIn K (.ref C) "__ne__" = some (some (.builtin "object.__ne__")))
    (h : wpAny M A (call (.builtin "object.__ne__") (.ref x :: args)) (fun v => Q (some v)) E s) : wpAny M A (callSpecialIfBound? (.ref x) "__ne__" args) Q E s := by
  simp only [callSpecialIfBound?, bindSpecialIfBound?]
  refine wpAny_holding (wpAny_bind (wpAny_bind (wpAny_bind (I.type.here ((PySem.W.looks_findIn X hs).here ?_)))))
  simp only [PySem.F.cmp_object.ne.bind]
  refine wpAny_bind (wpAny_askSetting (wpAny_ite ?_))
  have fin : wpAny M A (call (.builtin "object.__ne__") ([.ref x] ++ args) >>= fun v => pure (some v)) Q E s := wpAny_bind (wpAny_mono h (fun v s' h' => wpAny_pure h') fun _ _ h' => h')
  split
  · exact wpAny_bind (wpAny_pure (wpAny_pure fin))
  · exact wpAny_tryCatch (wpAny_bind (wpAny_pure (wpAny_pure fin)))
theorem cmp_ne_K {Q : Value → Shared → Prop} {oy : Obj} {od' : Option Obj} (hu : A.units + 1 < cLine) (F : Fr h₀ L s.heap m) (X₀ : K.In h₀) (I : PySem.W.InstAt s.heap x ox C od) (J : PySem.W.InstAt s.heap y oy C od')
    (hs : PySem.W.findIn K (.ref C) "__eq__" = some (some (.ref f))) (hf : PySem.W.isFn K (.ref f) = true) (hn : PySem.W.findIn K (.ref C) "__ne__" = some (some (.builtin "object.__ne__"))) (ho : PySem.W.mroIn K C (.type "object") = some true)
    (h : wpAny (model prog w) A.in1 (call (.ref f) [.ref x, .ref y]) (fun v s' => ∃ b, v = .bool b ∧ Q (.bool (!b)) s') E s) : wpAny (model prog w) A (richCompare .NotEq (.ref x) (.ref y)) Q E s := by
  have X := X₀.keeps F.keep
  have sub : PySem.W.Looks (model prog w) s.heap (isInstance (.ref x) (.type "object")) true := I.type.andThen (PySem.W.looks_mroIn X ho)
  have one : wpAny (model prog w) A (tryCompare (.ref x) "__ne__" (.ref y)) (fun r s' => ∃ v, r = some v ∧ Q v s') E s := by
    unfold tryCompare
    refine wpAny_bind (ifBound_ne X I hn (wpAny_call (codeAny_call_builtin PySem.F.cmp_object.ne.plain PySem.F.cmpEntry_ne
      (PySem.W.check_slot PySem.F.cmpKind_ne PySem.F.cmpSplit_ne sub (PySem.F.cmpArgs_ne _ _) (ne_own (A := A.in1) X I hs hf hu (wpAny_mono h (fun v s' hv => ?_) fun _ _ e => e))))))
    obtain ⟨b, rfl, hq⟩ := hv
    first | exact ⟨b, rfl, wpAny_pure ⟨_, rfl, hq⟩⟩ | exact ⟨b, rfl, wpAny_pure (wpAny_pure ⟨_, rfl, hq⟩)⟩ | exact ⟨b, rfl, ⟨_, rfl, hq⟩⟩
  unfold richCompare
  simp only [oneThing_ref]
  refine wpAny_holding (wpAny_bind (wpAny_cRoomFor (Nat.lt_of_succ_lt hu) ?_))
  refine wpAny_bind (I.type.here (wpAny_bind (J.type.here ?_)))
  rw [show (Value.ref C != Value.ref C) = false from by simp]
  simp only [Bool.false_eq_true, if_false]
  refine wpAny_bind (wpAny_pure ?_)
  simp only [Bool.false_eq_true, if_false]
  refine wpAny_bind (wpAny_mono one (fun r s' z => ?_) fun _ _ e => e)
  obtain ⟨v, rfl, hq⟩ := z
  exact wpAny_pure hq
end
section
variable {c : Pm} {Wx : WX} {X : Cx} {k : Nat} {H : Hp} {σ : L2.St} {pos : Pos}
theorem run_own {A : Around} {CX : CXT} {f : Addr} {fd : FuncData} {ps : List Str} {sp : Sp} {E : L2.St → XK} {pins : List (Addr × Obj)} {s : Shared} {Q : VK} {us : List Value} {vs : List V} (F : FnOk X.prog X.w X.K X.mg X.base CX k f fd ps sp) (hr : Room k A) (hfr : A.frames = X.A.frames) (hb : Binds X.K fd ps []) (hx : PassesAt CX X σ (E σ))
    (I : Inv X pins σ H s) (r : Vals vs us) (h : sp vs H Q (E σ)) : wpAny (model X.prog X.w) A (call (.ref f) us) (EP X pins σ Q) X.xe s := by
  have hl : us.length = ps.length := by rw [← r.length]; exact F.len _ _ _ _ h
  have b := hb s us I.kIn (by rw [List.append_nil]; exact hl)
  rw [List.append_nil] at b
  have e0 : Env0 X.prog X.w X.K X.mg X.base A X.stack s H := by
    have e := I.env0
    exact ⟨by rw [hfr]; exact e.frames, e.mod, e.bs, e.bsz, e.funs, e.frf, e.hok, e.bare⟩
  refine wpAny_call (codeAny_mono (F.run A X.stack s H ⟨us, []⟩ us vs Q (E σ) hr e0 b r h) fun r s' hq => ?_)
  cases r with
  | error e => exact hx pins H s e s' I hq
  | ok fl =>
    cases fl with
    | ret u => exact I.after hq
    | next => exact False.elim hq
    | brk => exact False.elim hq
    | cont => exact False.elim hq
/-- a class with its own == -/
structure OwnEq (c : Pm) (P : Program) (w : World) (mg : Str → Option Value) (base : Heap) (k : Nat) (nm : Str) (ps : List Str) (g : G) : Prop where
  mth : Mth c P w mg base k nm "__eq__" ps g
  ne : ∀ C, c.ca nm = some C → PySem.W.findIn c.K (.ref C) "__ne__" = some (some (.builtin "object.__ne__")) ∧ PySem.W.mroIn c.K C (.type "object") = some true
theorem op_own {j : Nat} {nm : Str} {ps : List Str} {g : G} {C : Addr} (n : Cn c Wx k X) (M : OwnEq c X.prog X.w X.mg X.base j nm ps g) (hj : j + 1 ≤ k) (hC : c.ca nm = some C) :
    OpR X (compareOp .Eq) (rOEq C (spG c g) false) ∧ OpR X (compareOp .NotEq) (rOEq C (spG c g) true) := by
  obtain ⟨C', f, fd, h1, h2, h3, h4, h5⟩ := M.mth.ex
  rw [hC] at h1
  cases h1
  obtain ⟨m1, m2⟩ := M.ne C hC
  rw [← n.hk] at h2 h3 h4 h5 m1 m2
  refine ⟨fun pins s σ H x y v u Q I rx ry hq => ?_, fun pins s σ H x y v u Q I rx ry hq => ?_⟩
  · obtain ⟨⟨a, b, dx, dy, fs, gs, rfl, rfl, ha, hb'⟩, q⟩ := hq
    cases rx
    cases ry
    obtain ⟨mA, J, _⟩ := ins_get I.hok ha
    obtain ⟨mB, J', _⟩ := ins_get I.hok hb'
    obtain ⟨od, J, _⟩ := J.look
    obtain ⟨od', J', _⟩ := J'.look
    obtain ⟨m, hF⟩ := I.fr
    show wpAny (model X.prog X.w) X.A (richCompare .Eq _ _) (EP X pins σ Q) X.xe s
    refine PySem.W.cmp_K (op := .Eq) (tb := .ref C) n.room.units0 hF I.ok.mod.kin J J'.type (by simp [PySem.W.notFirst]) h3.at_ h3.fn (wpAny_mono (run_own (us := [.ref a, .ref b]) (vs := [.ref a, .ref b]) h5 (n.room.mono (Nat.le_of_succ_le hj)) rfl h4 (passAt n.tk σ) I (.cons rfl (.cons rfl .nil)) (q _)) (fun v s' z => ?_) fun _ _ e => e)
    obtain ⟨vv, H', I', rv, r, rfl, hQ⟩ := z
    obtain rfl : v = .bool r := rv
    exact ⟨.bl (r != false), H', I', by rw [Bool.bne_false]; rfl, hQ⟩
  · obtain ⟨⟨a, b, dx, dy, fs, gs, rfl, rfl, ha, hb'⟩, q⟩ := hq
    cases rx
    cases ry
    obtain ⟨mA, J, _⟩ := ins_get I.hok ha
    obtain ⟨mB, J', _⟩ := ins_get I.hok hb'
    obtain ⟨od, J, _⟩ := J.look
    obtain ⟨od', J', _⟩ := J'.look
    obtain ⟨m, hF⟩ := I.fr
    show wpAny (model X.prog X.w) X.A (richCompare .NotEq _ _) (EP X pins σ Q) X.xe s
    refine cmp_ne_K (by have := n.hu; omega) hF I.ok.mod.kin J J' h3.at_ h3.fn m1 m2 (wpAny_mono (run_own (A := X.A.in1) (us := [.ref a, .ref b]) (vs := [.ref a, .ref b]) h5 ((n.room.mono hj).in1) rfl h4 (passAt n.tk σ) I (.cons rfl (.cons rfl .nil)) (q _)) (fun v s' z => ?_) fun _ _ e => e)
    obtain ⟨vv, H', I', rv, r, rfl, hQ⟩ := z
    obtain rfl : v = .bool r := rv
    exact ⟨r, rfl, .bl (r != true), H', I', by cases r <;> rfl, hQ⟩
theorem own_lift {neg : Bool} {nm : Str} {g : G} {ea eb : E} {C : Addr} {Q : VK} (hC : c.ca nm = some C) (h : rdE c Wx (.call (eqG neg nm g) (.cons ea (.cons eb .nil))) σ H Q) : tOp (rOEq C (spG c g) neg) (rdE c Wx ea) (rdE c Wx eb) σ H Q :=
  rdE_mono (call2_ok h) fun x H1 h2 => rdE_mono h2 fun y H2 h3 => spG_eq hC h3
/-- a == b (a != b), two instances of a class with an own == -/
theorem x_own {neg : Bool} {op : CmpOp} {j : Nat} {nm : Str} {ps : List Str} {g : G} {a b : Expr} {ea eb : E} (n : Cn c Wx k X) (M : OwnEq c X.prog X.w X.mg X.base j nm ps g) (ha : PE X a (rdE c Wx ea)) (hb : PE X b (rdE c Wx eb)) (hj : j + 1 ≤ k := by decide) (ho : op = (if neg then .NotEq else .Eq) := by rfl) (hm : behindInMarks op b = false := by first | exact nobehind _ (by decide) (by decide) | rfl) :
    PE X (.Compare a [op] [b] pos) (rdE c Wx (.call (eqG neg nm g) (.cons ea (.cons eb .nil)))) := by
  obtain ⟨C, _, _, hC, _⟩ := M.mth.ex
  obtain ⟨h1, h2⟩ := op_own n M hj hC
  subst ho
  cases neg
  · exact pe_wk (pe_cmpR h1 ha hb hm) fun σ H Q h => own_lift hC h
  · exact pe_wk (pe_cmpR h2 ha hb hm) fun σ H Q h => own_lift hC h
theorem spG_bl {neg : Bool} {nm : Str} {g : G} {x y : V} {E : XK} {Q : VK} (h : spG c (eqG neg nm g) [x, y] H Q E) : spG c (eqG neg nm g) [x, y] H (fun v H' => ∃ b, v = .bl b ∧ Q (.bl b) H') E := by
  obtain ⟨F, xs, W, r, S, hP⟩ := h
  refine ⟨F, xs, W, r, S, ?_⟩
  cases r with
  | cons r1 r =>
    cases r with
    | cons r2 r =>
      cases r
      simp only [eqG] at hP ⊢
      split at hP
      · rename_i hd
        rw [if_pos hd]
        revert hP
        split
        · intro hP u F' H' S' hr
          cases hr
          exact ⟨_, rfl, hP _ F' H' S' (.bl _)⟩
        · exact fun h => h.elim
      · exact hP.elim
theorem y_own {neg : Bool} {op : CmpOp} {j : Nat} {nm : Str} {ps : List Str} {g : G} {a b : Expr} {ea eb : E} (n : Cn c Wx k X) (M : OwnEq c X.prog X.w X.mg X.base j nm ps g) (ha : PE X a (rdE c Wx ea)) (hb : PE X b (rdE c Wx eb)) (hj : j + 1 ≤ k := by decide) (ho : op = (if neg then .NotEq else .Eq) := by rfl) (hm : behindInMarks op b = false := by first | exact nobehind _ (by decide) (by decide) | rfl) :
    PT X (.Compare a [op] [b] pos) (rdT c Wx (.tv (.call (eqG neg nm g) (.cons ea (.cons eb .nil))))) := by
  obtain ⟨C, _, _, hC, _⟩ := M.mth.ex
  obtain ⟨h1, h2⟩ := op_own n M hj hC
  have fin : ∀ σ H Q, rdT c Wx (.tv (.call (eqG neg nm g) (.cons ea (.cons eb .nil)))) σ H Q → tOp (rOEq C (spG c g) neg) (rdE c Wx ea) (rdE c Wx eb) σ H fun v H' => ∃ b, v = .bl b ∧ Q b H' := by
    intro σ H Q h
    refine own_lift (Wx := Wx) hC ?_
    obtain ⟨F0, H0, ρ, F, W, R, hP⟩ := h
    refine ⟨F0, H0, ρ, F, W, R, ?_⟩
    simp only [evT] at hP
    revert hP
    cases e : ev (.call (eqG neg nm g) (.cons ea (.cons eb .nil))) ρ W with
    | stk => exact fun h => h
    | ex x W' => exact fun h => h
    | ok z W' =>
      intro hP u F' H' S V
      cases ez : z.d <;> simp only [Out.bind, ez, D.isBl, ofO] at hP <;> try (exact hP.elim)
      rename_i b
      exact ⟨b, V.bl (R.step S) ez, hP b F' H' S rfl⟩
  subst ho
  cases neg
  · exact pt_wk (pt_cmpR h1 ha hb hm) fin
  · exact pt_wk (pt_cmpR h2 ha hb hm) fin
end
end Z

namespace Z
open PySem PySem.Spec PyProof.Rows L2
open Classical
section
variable {c : Pm} {Wx : WX} {X : Cx} {fu n k : Nat} {W W' W1 W2 W3 : Dr} {F0 H0 F H F' H' F1 H1 F2 H2 F3 H3 Hs : Hp} {ρ ρ' : En} {σ σ' : L2.St} {u w : V} {x y v : Vl} {Q : VK} {us : List V} {vs : List Vl} {pos : Pos}
theorem keyD_inj {a b : Key} (h : keyD a = keyD b) : a = b := by
  cases a <;> cases b <;> simp only [keyD] at h <;> cases h <;> rfl
/-- the entries, one by one -/
abbrev KvG {κ : Type} (kd : κ → D) (c : Pm) (F : Hp) (ks : List (κ × V)) (kvs : List (D × D)) : Prop := Paired (fun (q : κ × V) (p : D × D) => p.1 = kd q.1 ∧ Rep c F q.2 p.2) ks kvs
abbrev KvR (c : Pm) (F : Hp) (ks : List (Key × V)) (kvs : List (D × D)) : Prop := KvG keyD c F ks kvs
section
variable {κ : Type} [DecidableEq κ] {kd : κ → D}
theorem kv_of : ∀ {ks : List (κ × V)} {kvs : List (D × D)}, kvs.map (·.1) = ks.map (fun q => kd q.1) → RepL c F (ks.map (·.2)) (kvs.map (·.2)) → KvG kd c F ks kvs
  | [], [], _, _ => .nil
  | [], _ :: _, h, _ => by cases h
  | _ :: _, [], h, _ => by cases h
  | q :: ks, p :: kvs, h, r => by
    simp only [List.map_cons] at h r
    cases r with
    | cons r rs => exact .cons ⟨(List.cons.inj h).1, r⟩ (kv_of (List.cons.inj h).2 rs)
theorem kv_to : ∀ {ks : List (κ × V)} {kvs : List (D × D)}, KvG kd c F ks kvs → kvs.map (·.1) = ks.map (fun q => kd q.1) ∧ RepL c F (ks.map (·.2)) (kvs.map (·.2))
  | _, _, .nil => ⟨rfl, .nil⟩
  | _, _, .cons h t => by
    obtain ⟨h1, h2⟩ := kv_to t
    exact ⟨by rw [List.map_cons, List.map_cons, h1, h.1], .cons h.2 h2⟩
theorem kv_any (inj : ∀ a b, kd a = kd b → a = b) {k : κ} : ∀ {ks : List (κ × V)} {kvs : List (D × D)}, KvG kd c F ks kvs → (kvs.any fun p => decide (p.1 = kd k)) = ks.any fun q => decide (q.1 = k)
  | _, _, .nil => rfl
  | _, _, .cons (a := q) h t => by
    rw [List.any_cons, List.any_cons, kv_any inj t, h.1]
    congr 1
    exact decide_eq_decide.mpr ⟨inj _ _, fun e => by rw [e]⟩
theorem dGet_pos {p : D × D} {r : List (D × D)} {k : D} (e : p.1 = k) : dGet (p :: r) k = some p.2 := by simp [dGet, List.find?_cons, e]
theorem dGet_neg {p : D × D} {r : List (D × D)} {k : D} (e : ¬ p.1 = k) : dGet (p :: r) k = dGet r k := by simp [dGet, List.find?_cons, e]
theorem kv_get (inj : ∀ a b, kd a = kd b → a = b) {k : κ} : ∀ {ks : List (κ × V)} {kvs : List (D × D)}, KvG kd c F ks kvs → (∀ d, dGet kvs (kd k) = some d → ∃ v, valV ks k = some v ∧ Rep c F v d) ∧ (dGet kvs (kd k) = none → valV ks k = none)
  | _, _, .nil => ⟨fun d h => by simp [dGet] at h, fun _ => rfl⟩
  | _, _, .cons (a := q) (b := p) h t => by
    obtain ⟨h1, h2⟩ := kv_get inj (k := k) t
    by_cases e : q.1 = k
    · have ep : p.1 = kd k := by rw [h.1, e]
      rw [dGet_pos ep, valV_pos e]
      exact ⟨fun d hd => by cases hd; exact ⟨_, rfl, h.2⟩, fun hd => by cases hd⟩
    · have ep : ¬ p.1 = kd k := fun z => e (inj _ _ (h.1.symm.trans z))
      rw [dGet_neg ep, valV_neg e]
      exact ⟨h1, h2⟩
theorem kv_map (inj : ∀ a b, kd a = kd b → a = b) {k : κ} {v : V} {d : D} (r : Rep c F v d) : ∀ {ks : List (κ × V)} {kvs : List (D × D)}, KvG kd c F ks kvs → KvG kd c F (ks.map fun q => if q.1 = k then (q.1, v) else q) (kvs.map fun p => if p.1 = kd k then (p.1, d) else p)
  | _, _, .nil => .nil
  | _, _, .cons (a := q) (b := p) h t => by
    rw [List.map_cons, List.map_cons]
    refine .cons ?_ (kv_map inj r t)
    by_cases e : q.1 = k
    · rw [if_pos e, if_pos (by rw [h.1, e])]
      exact ⟨h.1, r⟩
    · rw [if_neg e, if_neg fun z => e (inj _ _ (h.1.symm.trans z))]
      exact h
theorem kv_snoc {q : κ × V} {p : D × D} (r : p.1 = kd q.1 ∧ Rep c F q.2 p.2) : ∀ {ks : List (κ × V)} {kvs : List (D × D)}, KvG kd c F ks kvs → KvG kd c F (ks ++ [q]) (kvs ++ [p])
  | _, _, .nil => .cons r .nil
  | _, _, .cons h t => .cons h (kv_snoc r t)
theorem kv_put (inj : ∀ a b, kd a = kd b → a = b) {k : κ} {v : V} {d : D} {ks : List (κ × V)} {kvs : List (D × D)} (r : Rep c F v d) (h : KvG kd c F ks kvs) : KvG kd c F (putK ks k v) (dPut kvs (kd k) d) := by
  unfold putK dPut
  rw [kv_any inj h]
  split
  · exact kv_map inj r h
  · exact kv_snoc (kd := kd) (q := (k, v)) (p := (kd k, d)) ⟨rfl, r⟩ h
end
theorem keyD_inj' : ∀ a b : Key, keyD a = keyD b → a = b := fun _ _ h => keyD_inj h
theorem kv_len {ks : List (Key × V)} {kvs : List (D × D)} (h : KvR c F ks kvs) : ks.length = kvs.length := Paired.len h
/-- a key, as a value -/
theorem key_of {d : D} {u : V} (r : Rep c F u d) (h : d.keyOk false = true) : ∃ k : Key, u = kV k ∧ d = keyD k := by
  cases d <;> simp only [D.keyOk, D.key1, Bool.false_eq_true, if_false] at h <;> try (cases h; done)
  · cases r; exact ⟨.inl _, rfl, rfl⟩
  · cases r; exact ⟨.inr _, rfl, rfl⟩

def keyT (k : List Key) : D := .tup (k.map keyD)
theorem keysD_inj : ∀ {a b : List Key}, a.map keyD = b.map keyD → a = b
  | [], [], _ => rfl
  | [], _ :: _, h => by cases h
  | _ :: _, [], h => by cases h
  | x :: a, y :: b, h => by
    have h' := List.cons.inj h
    rw [keyD_inj h'.1, keysD_inj h'.2]
theorem keyT_inj : ∀ a b : List Key, keyT a = keyT b → a = b := fun a b h => keysD_inj (D.tup.inj h)
theorem kv_ofG {κ : Type} {kd : κ → D} : ∀ {ks : List (κ × V)} {kvs : List (D × D)}, kvs.map (·.1) = ks.map (fun q => kd q.1) → RepL c F (ks.map (·.2)) (kvs.map (·.2)) → KvG kd c F ks kvs
  | [], [], _, _ => .nil
  | [], _ :: _, h, _ => by cases h
  | _ :: _, [], h, _ => by cases h
  | q :: ks, p :: kvs, h, r => by
    simp only [List.map_cons] at h r
    cases r with
    | cons r rs => exact .cons ⟨(List.cons.inj h).1, r⟩ (kv_ofG (List.cons.inj h).2 rs)
theorem keys_of : ∀ {us : List V} {xs : List D}, RepL c F us xs → xs.all D.key1 = true → ∃ k : List Key, us = k.map kV ∧ xs = k.map keyD
  | _, _, .nil, _ => ⟨[], rfl, rfl⟩
  | _, _, .cons (x := x) r t, h => by
    rw [List.all_cons, Bool.and_eq_true] at h
    obtain ⟨k, rfl, rfl⟩ := keys_of t h.2
    obtain ⟨k1, rfl, rfl⟩ := key_of (d := x) r (by simpa only [D.keyOk, Bool.false_eq_true, if_false] using h.1)
    exact ⟨k1 :: k, rfl, rfl⟩
theorem kv_toG {κ : Type} {kd : κ → D} : ∀ {ks : List (κ × V)} {kvs : List (D × D)}, KvG kd c F ks kvs → kvs.map (·.1) = ks.map (fun q => kd q.1) ∧ RepL c F (ks.map (·.2)) (kvs.map (·.2))
  | _, _, .nil => ⟨rfl, .nil⟩
  | _, _, .cons h t => by
    obtain ⟨h1, h2⟩ := kv_toG t
    exact ⟨by rw [List.map_cons, List.map_cons, h1, h.1], .cons h.2 h2⟩
def newDicD : List D → Option (Bool × D) := fun _ => some (true, .dic false [])
theorem e_dict : PE X (.Dict [] [] pos) (rdE c Wx (.call (pureG newDicD) .nil)) := by
  refine pe_wk (pe_dnewK (pos := pos)) fun σ H Q ⟨F0, H0, ρ, F, W, R, hP⟩ => ?_
  simp only [ev, evL, Out.ok_bind] at hP
  have A : ArgOk c ρ σ H F H [] [] := .nil
  have q := call_end (g := pureG newDicD) R R.refl A (t := []) (fun i h => by cases h) hP
  obtain ⟨F', xs, W', r, _, S, hf, hQ⟩ := spG_pure (c := c) (us := []) (f := newDicD) ⟨_, [], W, .nil, ((Ft_rel R R R.refl A).frz (t := []) (fun i h => by cases h)).stp.refl, q⟩
  cases hf
  intro p hp
  have hF : F' p = none := by
    cases q : F' p with
    | none => rfl
    | some o => rw [S.sub _ _ q] at hp; cases hp
  exact hQ _ F' _ (S.make hp) ⟨p, rfl, hF, fun h => S.sm h hp, .of hp, [], upd_same, rfl, .nil⟩

/-- {} whose keys will be tuples -/
def newDicTD : List D → Option (Bool × D) := fun _ => some (true, .dic true [])
theorem e_dictT : PE X (.Dict [] [] pos) (rdE c Wx (.call (pureG newDicTD) .nil)) := by
  refine pe_wk (pe_dnewT (pos := pos)) fun σ H Q ⟨F0, H0, ρ, F, W, R, hP⟩ => ?_
  simp only [ev, evL, Out.ok_bind] at hP
  have A : ArgOk c ρ σ H F H [] [] := .nil
  have q := call_end (g := pureG newDicTD) R R.refl A (t := []) (fun i h => by cases h) hP
  obtain ⟨F', xs, W', r, _, S, hf, hQ⟩ := spG_pure (c := c) (us := []) (f := newDicTD) ⟨_, [], W, .nil, ((Ft_rel R R R.refl A).frz (t := []) (fun i h => by cases h)).stp.refl, q⟩
  cases hf
  intro p hp
  have hF : F' p = none := by
    cases q : F' p with
    | none => rfl
    | some o => rw [S.sub _ _ q] at hp; cases hp
  exact hQ _ F' _ (S.make hp) ⟨p, rfl, hF, fun h => S.sm h hp, .of hp, [], upd_same, rfl, .nil⟩

theorem own_dic {i : Nat} {kvs : List (D × D)} (R : Rel c F0 H0 ρ σ F H W) (e : ρ[i]? = some (.own (.dic false kvs))) : ∃ p, ∃ ks : List (Key × V), σ[i]? = some (some (.ref p)) ∧ H p = some (.dK ks) ∧ KvR c F ks kvs := by
  obtain ⟨p, h1, _, _, _, ks, h2, h3, h4⟩ := R.own e
  exact ⟨p, ks, h1, h2, kv_of h3 h4⟩
theorem s_setk {i : Nat} {z : Str} {kx e : Expr} {ek ee : E} {p2 tpos : Pos} (n : Cn c Wx k X) (hN : X.N[i]? = some z) (hv : Vis X.env.scope z) (hd : (z == ("__debug__" : Str)) = false) (hcd : (z == ("__classdict__" : Str)) = false) (hk : PE X kx (rdE c Wx ek)) (he : PE X e (rdE c Wx ee))
    (hs : swapsWith e (some (.Subscript (.Name z p2) kx tpos)) pos.line X.env = pure false) :
    PS X (.Assign [.Subscript (.Name z p2) kx tpos] e pos) (rdS c Wx fu (.setk i ek ee)) := by
  refine ps_wk (ps_dput (by have := n.hu; omega) (pe_var hN hv hd hcd) hk he hs) fun D σ H ⟨F0, H0, ρ, F, W, R, hP⟩ => ?_
  simp only [evS] at hP
  cases e0 : ρ[i]? with
  | none => rw [e0] at hP; exact hP.elim
  | some s =>
    rw [e0] at hP
    cases s with
    | un => exact hP.elim
    | slf _ _ _ => exact hP.elim
    | val d => exact hP.elim
    | own d =>
      cases d <;> try (exact hP.elim)
      rename_i t0 xs0
      simp only at hP
      obtain ⟨p, h1, _, _, _, _⟩ := R.own e0
      refine st_e R hP fun v W1 u F1 H1 S1 V1 R1 hP => ?_
      refine ⟨.ref p, h1, st_e R1 (hP.up S1.f) fun y W2 w F2 H2 S2 V2 R2 hP => ?_⟩
      have S12 := S1.trans S2
      have A : ArgOk c ρ σ H F2 H2 [u, w] [v, y] := .cons (V1.step R1 S2) (.cons (V2.start fun a m z => S1.keepN m z) .nil)
      obtain ⟨RF, RA, up⟩ := keep_all R R2 S12 A
      have hts : ts [v, y] = v.all ++ y.all := by simp [ts]
      rw [hts] at RF RA up
      cases e2 : (Z.frz ρ (v.all ++ y.all))[i]? with
      | none => rw [e2] at hP; exact hP.elim
      | some s =>
        rw [e2] at hP
        cases s with
        | un => exact hP.elim
        | slf _ _ _ => exact hP.elim
        | val d => exact hP.elim
        | own d =>
          cases d <;> try (exact hP.elim)
          rename_i t kvs
          simp only at hP
          split at hP
          · rename_i hz
            obtain ⟨p', q1, _, _, _, own⟩ := RF.own e2
            rw [h1] at q1
            have q := L2.V.ref.inj (Option.some.inj (Option.some.inj q1))
            subst q
            cases RA with
            | cons ru ra =>
              cases ra with
              | cons rw_ _ =>
                cases t with
                | false =>
                  obtain ⟨ks, h5, h6, h7⟩ := own
                  have h6 := kv_of h6 h7
                  obtain ⟨kk, rfl, ek'⟩ := key_of rw_ hz.1
                  have hl : ks.length < sizeLine := by rw [kv_len h6, ← cap_eq]; exact hz.2
                  have hput := kv_to (kv_put keyD_inj' (k := kk) ru h6)
                  rw [← ek'] at hput
                  exact ⟨p, _, rfl, DPut.k h5 hl, hP _ _ _ (RF.mut e2 h1 ⟨_, upd_same, hput.1, hput.2⟩) fun a o q => up _ _ (S2.f _ _ q)⟩
                | true =>
                  obtain ⟨ks, h5, h6, h7⟩ := own
                  have h6 := kv_ofG (kd := keyT) h6 h7
                  have hkey := hz.1
                  cases ey : y.d <;> rw [ey] at hkey <;> simp only [Z.D.keyOk, if_true] at hkey <;> try (cases hkey; done)
                  have rw2 : Rep c (Fz (Ft F2 H2 [u, w] [v, y]) H2 σ (v.all ++ y.all)) w y.d := rw_
                  rw [ey] at rw2
                  obtain ⟨b, ws, rfl, e5, e6⟩ := rw2.tupP
                  obtain ⟨kk, rfl, ek'⟩ := keys_of e6 hkey
                  have hl : ks.length < sizeLine := by rw [Paired.len h6, ← cap_eq]; exact hz.2
                  have hput := kv_toG (kv_put keyT_inj (k := kk) ru h6)
                  have ek2 : y.d = keyT kk := by rw [ey, ek']; rfl
                  rw [← ek2] at hput
                  have e7 := Fz_dn (Ft_dn R2.stp.sub) _ _ e5
                  exact ⟨p, _, rfl, DPut.t h5 e7 hl, hP _ _ _ (RF.mut e2 h1 ⟨_, upd_same, hput.1, hput.2⟩) fun a o q => up _ _ (S2.f _ _ q)⟩
          · exact hP.elim
theorem z_setk (i : Nat) {z : Str} {kx e : Expr} {ek ee : E} {p2 tpos : Pos} (n : Cn c Wx k X) (hk : PE X kx (rdE c Wx ek)) (he : PE X e (rdE c Wx ee)) (hv : Vis X.env.scope z) (hN : X.N[i]? = some z := by rfl) (hd : (z == ("__debug__" : Str)) = false := by decide) (hcd : (z == ("__classdict__" : Str)) = false := by decide)
    (hs : swapsWith e (some (.Subscript (.Name z p2) kx tpos)) pos.line X.env = pure false := by rfl) :
    PS X (.Assign [.Subscript (.Name z p2) kx tpos] e pos) (rdS c Wx fu (.setk i ek ee)) := s_setk n hN hv hd hcd hk he hs

noncomputable def sortS (l : List Str) : List Str := if h : ∃ ys : List Str, ys.Perm l ∧ sortedS ys = true then Classical.choose h else []
theorem ltC_irr : ∀ a : List Nat, ltCps a a = false
  | [] => rfl
  | x :: r => by simp [ltCps, ltC_irr r]
theorem ltC_tot : ∀ {a b : List Nat}, ltCps a b = false → ltCps b a = false → a = b
  | [], [], _, _ => rfl
  | [], _ :: _, h, _ => by simp [ltCps] at h
  | _ :: _, [], _, h => by simp [ltCps] at h
  | x :: a, y :: b, h1, h2 => by
    simp only [ltCps, Bool.or_eq_false_iff, decide_eq_false_iff_not, Bool.and_eq_false_iff, beq_eq_false_iff_ne] at h1 h2
    have : x = y := by omega
    subst this
    have h3 : ltCps a b = false := h1.2.resolve_left (by simp)
    have h4 : ltCps b a = false := h2.2.resolve_left (by simp)
    rw [ltC_tot h3 h4]
theorem ltC_trans : ∀ {a b c : List Nat}, ltCps b a = false → ltCps c b = false → ltCps c a = false
  | [], _, c, _, _ => by cases c <;> rfl
  | _ :: _, [], _, h, _ => by simp [ltCps] at h
  | _ :: _, _ :: _, [], _, h => by simp [ltCps] at h
  | x :: a, y :: b, z :: c, h1, h2 => by
    simp only [ltCps, Bool.or_eq_false_iff, decide_eq_false_iff_not, Bool.and_eq_false_iff, beq_eq_false_iff_ne] at h1 h2 ⊢
    refine ⟨by omega, ?_⟩
    by_cases e : z = x
    · right
      have e1 : y = x := by omega
      subst e1
      subst e
      exact ltC_trans (h1.2.resolve_left (by simp)) (h2.2.resolve_left (by simp))
    · exact .inl e
theorem rising_pw : ∀ {p : Str} {l : List Str}, risingS p l = true → (p :: l).Pairwise fun a b => ltCps b.cps.toList a.cps.toList = false
  | p, [], _ => by simp
  | p, x :: r, h => by
    simp only [risingS, Bool.and_eq_true, Bool.not_eq_true'] at h
    have ih := rising_pw h.2
    refine List.pairwise_cons.mpr ⟨fun y hy => ?_, ih⟩
    rcases List.mem_cons.mp hy with rfl | hy
    · exact h.1
    · exact ltC_trans h.1 ((List.pairwise_cons.mp ih).1 y hy)
theorem sorted_pw {l : List Str} (h : sortedS l = true) : l.Pairwise fun a b => ltCps b.cps.toList a.cps.toList = false := by
  cases l with
  | nil => exact .nil
  | cons x r => exact rising_pw h
theorem sorted_one : ∀ {a b : List Str}, a.Perm b → sortedS a = true → sortedS b = true → a = b := by
  intro a b p ha hb
  have e : ∀ x y : Str, ltCps y.cps.toList x.cps.toList = false → ltCps x.cps.toList y.cps.toList = false → x = y := fun x y h1 h2 => by
    have q := ltC_tot h2 h1
    cases x; cases y
    congr 1
    exact Array.toList_inj.mp q
  exact p.eq_of_pairwise (fun x y _ _ h1 h2 => e x y h1 h2) (sorted_pw ha) (sorted_pw hb)
theorem sortS_eq {l ys : List Str} (p : ys.Perm l) (s : sortedS ys = true) : sortS l = ys := by
  have h : ∃ ys : List Str, ys.Perm l ∧ sortedS ys = true := ⟨ys, p, s⟩
  unfold sortS
  rw [dif_pos h]
  have q := Classical.choose_spec h
  exact sorted_one (q.1.trans p.symm) q.2 s
def strsK : List D → Option (List Str)
  | [] => some []
  | .str x :: r => (strsK r).map (x :: ·)
  | _ => none
noncomputable def sortedDD : List D → Option (Bool × D)
  | [.dic false kvs] => (strsD (kvs.map (·.1))).bind fun ks => if ks.length < 64 then some (true, .lst ((sortS ks).map .str)) else none
  | [.lst xs] => (strsD xs).bind fun ks => if ks.length < 64 then some (true, .lst ((sortS ks).map .str)) else none
  | _ => none
theorem keys_strs : ∀ {ks : List (Key × V)} {kvs : List (D × D)} {ss : List Str}, KvR c F ks kvs → strsD (kvs.map (·.1)) = some ss → ks.map (·.1) = ss.map Sum.inr
  | _, _, _, .nil, h => by cases h; rfl
  | _, _, _, .cons (a := q) (b := p) h t, e => by
    rw [List.map_cons] at e
    obtain ⟨q1, q2⟩ := q
    obtain ⟨p1, p2⟩ := p
    obtain ⟨h1, h2⟩ := h
    simp only at h1 e
    subst h1
    cases q1 with
    | inl i => simp [keyD, strsD] at e
    | inr x =>
      simp only [keyD, strsD, Option.map_eq_some_iff] at e
      obtain ⟨zs, e1, rfl⟩ := e
      rw [List.map_cons, List.map_cons, keys_strs t e1]
theorem rdL_mono {e : E} {Q Q' : List V → Hp → Prop} (h : rdL c Wx e σ H Q) (k : ∀ x H', Q x H' → Q' x H') : rdL c Wx e σ H Q' := by
  obtain ⟨F0, H0, ρ, F, W, R, hP⟩ := h
  refine ⟨F0, H0, ρ, F, W, R, ?_⟩
  revert hP
  cases evL e ρ W with
  | stk => exact fun h => h
  | ex x W' => exact fun h => h
  | ok a W' => exact fun h b F' H' S V => k b H' (h b F' H' S V)
/-- a built-in as a promise -/
theorem x_bltB {g : G} {r : List V → Hp → VK → Prop} {z : Str} {id : String} {e : Expr} {es : List Expr} {ea : E} {p : Pos} (n : Cn c Wx k X) (hr : ∀ vs H Q E, spG c g vs H Q E → r vs H Q) (hc : CallR X (.builtin id) r) (hv : bootBuiltins z = some (.builtin id)) (hm : X.mg z = none) (ha : PA X (e :: es) (rdL c Wx ea)) (hg : Gl X z := by rfl)
    (hn : z ≠ "__name__" := by decide) (hdb : (z == ("__debug__" : Str)) = false := by decide) (he : starEach (e :: es) X.env = (false, eval e X.env) :: starEach es X.env := by rfl) (hpl : (backTo pos (starEach es X.env)).any (·.1) = false := by rfl) : PE X (.Call (.Name z p) (e :: es) [] pos) (rdE c Wx (.call g ea)) :=
  pe_wk (pe_callB hc hg hm hv ha hn hdb he hpl) fun σ H Q h => rdL_mono (call_ok h) fun vs H1 q => hr _ _ _ _ q
theorem callR_or {f : Value} {r1 r2 : List V → Hp → VK → Prop} (h1 : CallR X f r1) (h2 : CallR X f r2) : CallR X f fun xs H Q => r1 xs H Q ∨ r2 xs H Q := by
  intro pins s σ H xs us Q I rel h
  rcases h with h | h
  · exact h1 pins s σ H xs us Q I rel h
  · exact h2 pins s σ H xs us Q I rel h
theorem boot_sorted' : bootBuiltins "sorted" = some (.builtin "sorted") := by first | rfl | decide +kernel
theorem x_sorted {a : Expr} {ea : E} {p : Pos} (n : Cn c Wx k X) (hm : X.mg "sorted" = none) (ha : PA X [a] (rdL c Wx ea)) (hg : Gl X "sorted" := by rfl) (he : starEach [a] X.env = (false, eval a X.env) :: starEach [] X.env := by rfl) (hpl : (backTo pos (starEach [] X.env)).any (·.1) = false := by rfl) :
    PE X (.Call (.Name "sorted" p) [a] [] pos) (rdE c Wx (.call (pureG sortedDD) ea)) := by
  refine x_bltB n (fun vs H Q E h => ?_) (callR_or cr_sortedS (call_sortedD n.calm)) boot_sorted' hm ha hg (by decide) (by decide) he hpl
  obtain ⟨F, xs, W, r, rr, S, hf, hQ⟩ := spG_pure h
  have fin : ∀ ks ys : List Str, ys.Perm ks → sortedS ys = true → r = (true, .lst ((sortS ks).map .str)) → ∀ p, H p = none → Q (.ref p) (upd H p (.lst (ys.map V.str))) := fun ks ys p1 p2 er p hp => by
    subst er
    rw [sortS_eq p1 p2] at hQ
    exact fin_newL S (rep_strs ys) hQ p hp
  match xs, rr, hf with
  | [.lst zs], .cons r1 .nil, hf =>
    simp only [sortedDD, Option.bind_eq_some_iff] at hf
    obtain ⟨ks, hk, hf⟩ := hf
    split at hf <;> cases hf
    rename_i hl
    obtain ⟨p, ws, rfl, e1, e2⟩ := r1.lstI
    cases strs_rep e2 hk
    exact .inl ⟨p, ks, rfl, .inl (.inl (S.sub _ _ e1)), hl, fun ys q p1 p2 hp => fin ks ys p1 p2 rfl q hp⟩
  | [.dic false kvs], .cons r1 .nil, hf =>
    simp only [sortedDD, Option.bind_eq_some_iff] at hf
    obtain ⟨ks, hk, hf⟩ := hf
    split at hf <;> cases hf
    rename_i hl
    cases r1 with
    | dicK h1 h2 h3 => exact .inr ⟨_, _, ks, rfl, Rd.mono S.sub h1, keys_strs (kv_of h2 h3) hk, hl, fun ys q p1 p2 hp => fin ks ys p1 p2 rfl q hp⟩
end
end Z

namespace Z
open PySem PySem.Spec PyProof.Rows L2
open Classical
section
open AutoSeq1 (wpAny_loadPart')
theorem enum_newT (tt : Addr) (ys : Array Value) (cc : Nat) (dd : Option Addr) (sl : Array (Option Value)) :
    Meets (Builtin.«enumerate.__new__» ⟨[.type "enumerate", .ref tt], []⟩) (fun _ R s => s.heap.get? tt = some { cls := .type "tuple", dict := dd, data := .seq ys cc, slots := sl } ∧
      R (.ok (.ret (.ref (s.heap.push { cls := .type "tuple_iterator", data := .fields #[.ref tt, .int 0 0] }).objs.size)))
        { s with heap := (s.heap.push { cls := .type "tuple_iterator", data := .fields #[.ref tt, .int 0 0] }).push { cls := .type "enumerate", data := .fields #[.none, .bool false, .ref s.heap.objs.size, rawInt 0, .none, .none] } }) :=
  .of_wp fun prog w A R s hh => by
    obtain ⟨hp, gg, d0, tk, os⟩ := s; obtain ⟨hl, hh⟩ := hh
    have hsub := sub_enumerate
    have hT : Heap.IsTuple (Shared.heap ⟨hp, gg, d0, tk, os⟩) tt ys := ⟨_, hl, rfl, cc, rfl⟩
    wp_walk using wpAny_loadPart' hl
    refine wpAny_stack_any fun st => wpAny_pure ?_
    split
    · rename_i c1 _ _ _ _ _
      cases (c1 == Value.type "enumerate")
      · wp_walk using wpAny_loadPart' hl, wpAny_pyIter_tuple hT
        exact ⟨_, rfl, hh⟩
      · wp_walk using wpAny_loadPart' hl, wpAny_pyIter_tuple hT
        exact ⟨_, rfl, hh⟩
    · wp_walk using wpAny_loadPart' hl, wpAny_pyIter_tuple hT
      exact ⟨_, rfl, hh⟩
variable {prog : Program} {w : World} {A : Around} {E : Value → Shared → Prop} {s : Shared}
theorem call_enumT {tt : Addr} {ys : Array Value} {Q : Value → Shared → Prop} (hT : s.heap.IsTuple tt ys)
    (hq : ∀ h2, IsEnum h2 (s.heap.objs.size + 1) s.heap.objs.size 0 .none → h2.IsTupleIter s.heap.objs.size tt 0 → (∀ b o, s.heap.get? b = some o → h2.get? b = some o) → Q (.ref (s.heap.objs.size + 1)) { s with heap := h2 }) :
    wpAny (model prog w) A (call (.type "enumerate") [.ref tt]) Q E s := by
  obtain ⟨⟨c1, d1, dt, sl⟩, hl, hc, n, hd⟩ := hT
  replace hc : c1 = .type "tuple" := hc
  replace hd : dt = .seq ys n := hd
  subst hc hd
  refine callType_new F.called_enumerate (by decide) (F.typeCall_enumerate_1 _) (F.newCall_enumerate_1 _) (fun ob => F.args_object_init_2 ob _) F.entry_enumerate_new (enum_newT tt ys n d1 sl) ⟨hl, ?_⟩
  generalize hI : ({ cls := .type "tuple_iterator", data := .fields #[.ref tt, .int 0 0] } : Obj) = oI
  generalize hE : ({ cls := .type "enumerate", data := .fields #[.none, .bool false, .ref s.heap.objs.size, rawInt 0, .none, .none] } : Obj) = oE
  have hz : (s.heap.push oI).objs.size = s.heap.objs.size + 1 := Heap.size_push ..
  show _ ∧ _
  rw [hz]
  have he : IsEnum ((s.heap.push oI).push oE) (s.heap.objs.size + 1) s.heap.objs.size 0 .none := by
    have q := Heap.get?_push_size (s.heap.push oI) (o := oE) (by subst hE; rfl)
    rw [hz] at q
    subst hE
    exact q
  refine ⟨⟨_, he, rfl⟩, hq _ he ⟨oI, Heap.get?_push_of_some _ (Heap.get?_push_size _ (by subst hI; rfl)), by subst hI; rfl, by subst hI; rfl⟩ fun b o z => Heap.get?_push_of_some _ (Heap.get?_push_of_some _ z)⟩
theorem enumT_end {e it tt : Addr} {i : Nat} {ys : Array Value} {old : Value} {Q : Option Value → Shared → Prop} (hh : A.handled = none) (he : IsEnum s.heap e it i old) (hi : s.heap.IsTupleIter it tt i) (hT : s.heap.IsTuple tt ys) (hx : ys[i]? = none)
    (hq : ∀ h1, Heap.ExtBut it s.heap h1 → Q none { s with heap := h1 }) : wpAny (model prog w) A (pyNext (.ref e)) Q E s := by
  have ty : s.TypeIs (.ref e) "enumerate" := ⟨_, he, rfl⟩
  have body : wpAny (model prog w) A.in1 (Builtin.«enumerate.__next__» ⟨[.ref e], []⟩) (fun _ _ => False) (fun x s1 => (∃ a o, x = .ref a ∧ s1.heap.get? a = some o ∧ o.cls = .type "StopIteration") ∧ ∃ h1, s1 = { s with heap := h1 } ∧ Heap.ExtBut it s.heap h1) s := by
    show wpAny _ _ (field (.ref e) 2 >>= _) _ _ _
    refine wpAny_bind (wpAny_field he rfl (x := .ref it) rfl (wpAny_bind (wpAny_nextOf_tuple_end hh hi hT hx fun h1 a eb ⟨o, q1, q2⟩ => ?_)))
    exact ⟨⟨a, o, rfl, q1, q2⟩, h1, rfl, eb⟩
  unfold pyNext
  refine wpAny_bind (wpAny_attempt (wpAny_callSpecial?_slot (name := Str.ofString "__next__") ty F.slot_enumerate_next (wpAny_call_entry F.slot_enumerate_next ty F.entry_enumerate_next (wpAny_mono body (fun _ _ z => z.elim) fun x s1 z => ?_) (F.args_enumerate_next_1 _))))
  obtain ⟨⟨a, o, rfl, q1, q2⟩, h1, rfl, eb⟩ := z
  exact wpAny_bind (wpAny_isInstance (T := "StopIteration") (b := true) ⟨o, q1, q2⟩ isSubtype_stop (wpAny_pure (hq _ eb)))
end
section
/-- the tuple at a as it stands at each turn, each item in a new pair -/
def IteT (K : PySem.W.Frag) (a : Addr) : It where
  go := fun i H => ∃ (xs : List V) (x : V), SqT K H a xs ∧ xs[i]? = some x
  yld := fun i H v H' => ∃ T x, v = .ref T ∧ H T = none ∧ H' = upd H T (.tup [.int (i : Nat), x]) ∧ ∀ xs, SqT K H a xs → xs[i]? = some x
  stop := fun i H => ∃ xs : List V, SqT K H a xs ∧ xs.length ≤ i
theorem turn_enumT {P : Program} {w : World} {K : PySem.W.Frag} {es : List Expr} {kk : Nat} {tp : Pos} (a e it : Addr) :
    Turn P w K (.Tuple es kk tp) (IteT K a) [e, it] e (fun i h => (∃ old, IsEnum h e it ((i : Nat) : Int) old) ∧ h.IsTupleIter it a i ∧ e ≠ it) where
  mem := by simp
  obj := fun i h st b hb => by
    obtain ⟨⟨old, he⟩, ⟨o, ho, hc, hd⟩, _⟩ := st
    have eb : b = e ∨ b = it := by simpa using hb
    rcases eb with rfl | rfl
    · exact ⟨_, he, fun v q => nomatch q⟩
    · exact ⟨o, ho, fun v q => by rw [hd] at q; cases q⟩
  keep := fun i h h' st k => ⟨let ⟨old, he⟩ := st.1; ⟨old, k e (by simp) _ he⟩, st.2.1.at fun o q => k it (by simp) o q, st.2.2⟩
  item := by
    intro X hP hw hK hc i pins s σ H E I hf st hg
    subst hP hw hK
    obtain ⟨⟨old, he⟩, hit, hne⟩ := st
    obtain ⟨xs, x, hq, hx⟩ := hg
    obtain ⟨its, rv, p, hz⟩ := I.tuple hq
    have pT : s.heap.IsTuple a its.toArray := p
    obtain ⟨u, hu, ru⟩ := rv.get hx
    have le : e < s.heap.objs.size := Heap.lt_size he
    have li : it < s.heap.objs.size := by obtain ⟨_, q, _⟩ := hit; exact Heap.lt_size q
    have na : a ≠ it := fun z => by
      obtain ⟨o1, q1, c1, _⟩ := pT
      obtain ⟨o2, q2, c2, _⟩ := hit
      rw [z, q2] at q1
      cases q1
      rw [c2] at c1
      revert c1; decide
    have nea : e ≠ a := fun z => by
      obtain ⟨o1, q1, c1, _⟩ := pT
      have he' : s.heap.get? e = some _ := he
      rw [← z, he'] at q1
      cases q1
      exact absurd (show Value.type "enumerate" = Value.type "tuple" from c1) (by decide)
    have hi : i < its.toArray.size := by
      have := (List.getElem?_eq_some_iff.mp hu).1
      simpa using this
    refine wpAny_pyNext_enum_itemD (Draws.tuple (A := X.A.in1) (show X.A.in1.handled = none from I.ok.hd hc) it a na its.toArray) he ⟨hit, pT⟩ hi hne (by simp [hne, nea]) fun x' h1 tk hx' ho st1 hT hsz hk => ?_
    have ex : x' = u := by
      rw [List.getElem?_toArray, hu] at hx'
      exact (Option.some.inj hx').symm
    subst ex
    refine ⟨_, rfl, wpAny_letOwnedTupleGo_enum (s := { s with heap := h1, toks := tk + 1 }) ho fun h2 he2 sb => ?_⟩
    have hT2 : h2.get? s.heap.objs.size = some { cls := .type "tuple", data := .seq #[.int i tk, x'] } := (sb.2 _ (Nat.ne_of_gt le)).trans hT
    have new : ObjOk X.prog X.w (upd H s.heap.objs.size (.tup [.int (i : Nat), x])) h2 s.heap.objs.size (.tup [.int (i : Nat), x]) :=
      ⟨by show 2 ≤ sizeLine; decide, [.int i tk, x'], .cons ⟨_, rfl⟩ (.cons ru .nil), ⟨_, hT2, rfl, _, rfl⟩⟩
    have hk2 : ∀ b ob, b ∉ [e, it] → s.heap.get? b = some ob → h2.get? b = some ob := fun b ob hb q => (sb.2 b fun z => hb (by simp [z])).trans (hk b ob (fun z => hb (by simp [z])) (fun z => hb (by simp [z])) q)
    have I1 : Inv X pins σ (upd H s.heap.objs.size (.tup [.int (i : Nat), x])) { s with heap := h2, toks := tk + 1 } := I.turnedNew (ch := [e, it]) hk2 hf (Nat.le_refl _) new
    refine ⟨.ref s.heap.objs.size, _, I1, rfl, ⟨_, x, rfl, I.hok.fresh (Nat.le_refl _), rfl, fun ys hy => by rw [I.tuple_inj hy hq]; exact hx⟩, ⟨⟨x', ?_⟩, st1.1.at fun o q => (sb.2 it (Ne.symm hne)).trans q, hne⟩, fun b hb => ?_⟩
    · rw [show ((i + 1 : Nat) : Int) = (i : Int) + 1 by omega]
      exact he2
    · have lb : b < s.heap.objs.size := by
        have eb : b = e ∨ b = it := by simpa using hb
        rcases eb with rfl | rfl
        · exact le
        · exact li
      rw [upd_ne (Nat.ne_of_lt lb)]
      exact (hf b hb).1
  done := by
    intro X hP hw hK hc i pins s σ H E I hf st hg
    subst hP hw hK
    obtain ⟨⟨old, he⟩, hit, hne⟩ := st
    obtain ⟨xs, hq, hx⟩ := hg
    obtain ⟨its, rv, p, hz⟩ := I.tuple hq
    have pT : s.heap.IsTuple a its.toArray := p
    have hl := rv.length
    obtain ⟨f0, f1, f2, f3, f4, f5⟩ := hf it (by simp)
    exact enumT_end (I.ok.hd hc) he hit pT (by simp; omega) fun h1 eb => ⟨rfl, I.turned (t' := s.toks) (fun b o hb z => eb b o hb z) f0 f1 f3 f4 f5⟩
  self := fun A i s Q E st h => let ⟨⟨_, he⟩, _⟩ := st; wpAny_pyIter_enum he h
variable {c : Pm} {Wx : WX} {X : Cx} {fu n k : Nat} {W W' W1 W2 W3 : Dr} {F0 H0 F H F' H' F1 H1 F2 H2 F3 H3 Hs : Hp} {ρ ρ' : En} {σ σ' : L2.St} {u w : V} {x y v : Vl} {Q : VK} {us : List V} {vs : List Vl} {pos : Pos}
def iEnumT (K : PySem.W.Frag) (ta : TA) : TI := fun σ H R => ta σ H fun vs H1 => ∃ a xs, vs = [.ref a] ∧ SqT K H1 a xs ∧ R (IteT K a) H1
theorem pi_enumT {e : Expr} {ta : TA} {p tpos : Pos} {elts : List Expr} {kk : Nat} (hg : Gl X "enumerate") (hm : X.mg "enumerate" = none) (ha : PA X [e] ta) (hs : starEach [e] X.env = [(false, eval e X.env)]) :
    PI X (.Tuple elts kk tpos) (.Call (.Name "enumerate" p) [e] [] pos) (iEnumT X.K ta) := by
  refine ⟨fun pins s σ H R I h => ?_⟩
  refine Call_ (ld_blt I hg hm boot_enumerate (PyProof.Rows.callWith_type1 (thn (ha.run pos pins s σ H _ I h) fun us s1 ⟨vs, H1, I1, r1, q1⟩ => ?_) hs rfl))
  obtain ⟨a, xs, rfl, hq, q⟩ := q1
  cases r1 with
  | cons r rr =>
    cases rr
    cases r
    obtain ⟨its, rv, p', hz⟩ := I1.tuple hq
    have pT : s1.heap.IsTuple a its.toArray := p'
    refine call_enumT pT fun h2 he hit hk => wpAny_pyIter_enum he ?_
    have I2 : Inv X pins σ H1 { s1 with heap := h2 } := I1.kept (t' := s1.toks) hk
    refine ⟨s1.heap.objs.size + 1, [s1.heap.objs.size + 1, s1.heap.objs.size], _, _, H1, rfl, I2, turn_enumT a (s1.heap.objs.size + 1) s1.heap.objs.size, ⟨⟨.none, he⟩, hit, Nat.succ_ne_self _⟩, fun b hb => ?_, q⟩
    have le : s1.heap.objs.size ≤ b := by
      have eb : b = s1.heap.objs.size + 1 ∨ b = s1.heap.objs.size := by simpa using hb
      rcases eb with eb | eb
      · rw [eb]; exact Nat.le_succ _
      · rw [eb]; exact Nat.le_refl _
    exact I1.fpOk le (I1.hok.fresh le)
theorem wk_enuT {a : Addr} {vs : List V} {xs : List D} {B B' : Hp} (h : ∀ H, Same B H → SqT c.K H a vs) (r : RepL c B' vs xs) : WkOk c B B' (enuD 0 xs) (IteT c.K a) := by
  refine ⟨fun i x H e s => ?_, fun H s => ?_⟩
  · obtain ⟨y, hy, rfl⟩ := enuD_get e
    obtain ⟨v, h1, h2⟩ := r.get hy
    refine ⟨⟨vs, v, h H s, h1⟩, fun u H' ⟨T, z, e1, e2, e3, e4⟩ => .inr ⟨T, _, _, e1, rfl, e2, e3, ?_⟩⟩
    have q := e4 vs (h H s)
    rw [h1] at q
    cases q
    rw [Nat.zero_add]
    exact .cons (.int _) (.cons h2 .nil)
  · exact ⟨vs, h H s, by rw [r.length, enuD_len]; exact Nat.le_refl _⟩
/-- enumerate of a list or a tuple -/
theorem x_enuA {a : Expr} {ea : E} {p tpos : Pos} {elts : List Expr} {kk : Nat} (n : Cn c Wx k X) (hm : X.mg "enumerate" = none) (ha : PE X a (rdE c Wx ea)) (hg : Gl X "enumerate" := by rfl) (hs : starEach [a] X.env = [(false, eval a X.env)] := by rfl) :
    PI X (.Tuple elts kk tpos) (.Call (.Name "enumerate" p) [a] [] pos) (rdI c Wx (.enu ea)) := by
  have hl : PA X [a] (rdL c Wx (.cons ea .nil)) := l_cons ha l_nil (by rw [hs]; rfl)
  refine ⟨fun pins s σ H RR I ⟨F0, H0, ρ, F, W, R, hP⟩ => ?_⟩
  simp only [evI] at hP
  have rd : ∀ Q2 : List V → Hp → Prop, Pst c Wx σ F H (fun vs us F' H' => Paired (fun u v => ValOk c ρ σ H F' H' u v) us vs ∧ Apart us vs) Q2 ((ev ea ρ W).bind fun x W => .ok [x] W) → rdL c Wx (.cons ea .nil) σ H Q2 := fun Q2 h => ⟨F0, H0, ρ, F, W, R, by simpa only [evL, Out.bind_bind, Out.ok_bind] using h⟩
  cases e : ev ea ρ W with
  | stk => rw [e] at hP; exact hP.elim
  | ex x W1 =>
    rw [e] at hP
    exact (pi_enum hg hm hl hs).run pins s σ H RR I (rd _ (by rw [e]; exact hP))
  | ok x W1 =>
    rw [e] at hP
    simp only [Out.bind] at hP
    cases ed : x.d <;> rw [ed] at hP <;> simp only [D.seq, ofO] at hP <;> try (exact hP.elim)
    · refine (pi_enumT hg hm hl hs).run pins s σ H RR I (rd _ ?_)
      rw [e]
      intro us F1 H1 S1 ⟨V1, _⟩
      cases V1 with
      | cons V1 vv =>
        cases vv
        have R1 := R.step S1
        obtain ⟨F3, S3, up, q⟩ := val_walk R R1 S1 V1
        rcases q with ⟨b, vs, zs, rfl, e1, _⟩ | ⟨b, vs, zs, rfl, e1, e3, e4⟩ | ⟨_, q⟩
        · rw [ed] at e1; cases e1
        · rw [ed] at e1
          cases e1
          refine ⟨b, vs, rfl, n.hk ▸ Same.sqT (Fz_dn S3.sub) e3, hP _ F3 H1 S3 ⟨V1.own, V1.t_own, ?_⟩⟩
          rw [n.hk]
          exact wk_enuT (fun H s => Same.sqT s e3) e4
        · exact (q _ ed).elim
    · refine (pi_enum hg hm hl hs).run pins s σ H RR I (rd _ ?_)
      rw [e]
      intro us F1 H1 S1 ⟨V1, _⟩
      cases V1 with
      | cons V1 vv =>
        cases vv
        have R1 := R.step S1
        obtain ⟨F3, S3, up, q⟩ := val_walk R R1 S1 V1
        rcases q with ⟨b, vs, zs, rfl, e1, e2, e3, e4⟩ | ⟨b, vs, zs, rfl, e1, _⟩ | ⟨q, _⟩
        · rw [ed] at e1
          cases e1
          refine ⟨b, vs, rfl, n.hk ▸ .inl (.inl e2), hP _ F3 H1 S3 ⟨V1.own, V1.t_own, ?_⟩⟩
          rw [n.hk]
          exact wk_enu (fun H s => .inl (.inl (s _ _ e3))) e4
        · rw [ed] at e1; cases e1
        · exact (q _ ed).elim
def revLD : List D → Option (Bool × D)
  | [.lst xs] => some (true, .lst xs.reverse)
  | _ => none
theorem RepL.rev {vs : List V} {xs : List D} (r : RepL c F vs xs) : RepL c F vs.reverse xs.reverse := by
  have go : ∀ (vs : List V) (xs : List D), RepL c F vs xs → RepL c F vs.reverse xs.reverse := by
    intro vs
    induction vs with
    | nil => intro xs r; cases r; exact .nil
    | cons v vs ih =>
      intro xs r
      cases r with
      | cons h t =>
        rw [List.reverse_cons, List.reverse_cons]
        exact (ih _ t).append (.cons h .nil)
  exact go _ _ r
theorem x_revL {a : Expr} {ea : E} {kk : Nat} {p1 p2 p3 : Pos} (n : Cn c Wx k X) (ha : PE X a (rdE c Wx ea)) : PE X (.Subscript a (.Slice none none (some (.UnaryOp .USub (.Constant (.int 1) kk p1) p2)) p3) pos) (rdE c Wx (.call (pureG revLD) (.cons ea .nil))) := by
  refine pe_wk (pe_revL ha) fun σ H Q h => rdE_mono (call1_ok h) fun x H1 h2 => ?_
  obtain ⟨F, xs, W, r, rr, S, hf, hQ⟩ := spG_pure h2
  cases rr with
  | cons r1 rr =>
    cases rr
    rename_i d1
    cases d1 <;> simp only [revLD] at hf <;> try (cases hf; done)
    cases hf
    obtain ⟨p, vs, rfl, e1, e2⟩ := r1.lstI
    exact ⟨p, vs, rfl, .inl (.inl (S.sub _ _ e1)), fin_newL S e2.rev hQ⟩
end
end Z

namespace Z
open PySem PySem.Spec PyProof.Rows L2 He
open Classical
/-- one call of a def of the text, by its body -/
theorem run1 {CX : CXT} {P : Program} {w : World} {K : PySem.W.Frag} {mg : Str → Option Value} {base : Heap} {k : Nat} {f : Addr} {x qual : Str} {st : Stmt} {fd : FuncData} {N : List Str} {pa : Str} (Fu : Fun K x qual st f fd) (S : FnScope N [pa] (defScope st))
    {A : Around} {outer : List Env} {s : Shared} {H : Hp} {u : Value} {v : V} {Q : VK} {E : XK} (hr : Room (k + 1) A) (e0 : Env0 P w K mg base A outer s H) (hb : ∀ (s : Shared) (u : Value), BindsTo s fd ⟨[u], []⟩ [(pa, u)]) (ru : RelV v u)
    (body : ∀ cdv : Value, fd.code = cdv → Room k (A.deeper (envOfC qual (defScope st) s.heap.objs.size f cdv)) → ∃ t, PSs (cxOf CX P w K mg base N qual (defScope st) f cdv A outer s H E) (defBody st) t ∧ t { nx := fun _ H' => Q .non H', rt := Q } (L2.start N [v]) H) :
    codeAny (model P w) A (.call (.ref f) ⟨[u], []⟩) (CR CX outer P w H s Q E) s := by
  obtain ⟨⟨oc, od, kV, doc, pm, an, cdv, ct, osl, rfl, lk, hcd⟩, kp⟩ := Fu
  obtain ⟨tt, ht, hq⟩ := body cdv rfl (hr.deeper _)
  have KX : K.In s.heap := e0.mod.kin.keeps fun b o z => (e0.bs b o z).1
  have nolim : s.heap.NoLimit := e0.mod.nolimit.keeps fun b o z => (e0.bs b o z).1
  have rr : Vals [v] [u] := .cons ru .nil
  have kinds : ∀ y ∈ [pa].zip [u], (defScope st).names.lookup y.1 = some .local ∨ ((defScope st).names.lookup y.1 = some .cell ∧ ((cellsFrom (s.heap.objs.size + 1) (defScope st).names []).lookup y.1).isSome = true) := by
    intro y hy
    have ey : y.1 ∈ [pa] := (List.of_mem_zip (a := y.1) (b := y.2) hy).1
    rcases S.par y.1 ey with q | q
    · exact .inl q
    · exact .inr ⟨q, PySem.W.cellsFrom_some _ _ _ (.inl q)⟩
  refine codeAny_call_function hr.depth (KX _ _ lk) rfl S.co S.gen rfl (PySem.W.codeRec_of KX hcd) ((hb s u) _ _ _ _ (wpAny_newFunctionEnv_cells S.kind kinds fun env he s1 y => ?_))
  subst he
  refine ⟨nolim.keeps y.toInCall.keep, codeAny_func ?_⟩
  have I := inv_start (CX := CX) (E := E) S hr.hd e0 rfl rr y
  refine wpAny_mono (ht.run [] s1 (L2.start N [v]) H _ I hq) (fun fl s2 hs => ?_) fun e s2 hs => hs
  cases fl with
  | next => obtain ⟨σ2, H2, J, q⟩ := hs; exact ⟨.non, H2, J.os, J.bare, J.base, J.hok, rfl, q⟩
  | ret z => obtain ⟨vz, σ2, H2, J, rz, q⟩ := hs; exact ⟨vz, H2, J.os, J.bare, J.base, J.hok, rz, q⟩
  | brk => obtain ⟨_, _, _, q⟩ := hs; exact q.elim
  | cont => obtain ⟨_, _, _, q⟩ := hs; exact q.elim
section
open LamX
variable {P : Program} {w : World} {K : PySem.W.Frag} {mg mb : Str → Option Value} {a : Addr} {cs : List (Addr × Addr)} {s₁ : Shared} {vs : List Value} {ns : List Int}
/-- the tables' places -/
abbrev tbs (cs : List (Addr × Addr)) : List Addr := cs.map (·.2)
/-- what is tracked as the law begins: the script where it is not of the written part, the tables -/
noncomputable def startH (K : PySem.W.Frag) (a : Addr) (vs : List Value) (ns : List Int) (cs : List (Addr × Addr)) : Hp := fun b =>
  if b ∈ tbs cs then some (.tbl #[]) else if b = a ∧ K.lookup a = none then some (.frz { cls := .type "list", data := .seq vs.toArray } (.lst (ns.map V.int))) else none
/-- how the law's call begins and what its end tells -/
theorem law_start (KX : K.In s₁.heap) (hns : s₁.heap.Ns mainGlobals mg) (hb : s₁.heap.Ns builtinsNs mb) (hbb : ∀ x : Str, x ≠ "__name__" → mb x = bootBuiltins x) (hlim : s₁.heap.NoLimit) (hg : s₁.gens = #[])
    (hT : ∀ p ∈ cs, s₁.heap.get? p.2 = some { cls := .none, data := .fields #[] }) (nT : ∀ p ∈ cs, K.lookup p.2 = none) (C : ∀ p ∈ cs, PySem.W.CodeHd s₁.heap p.1 p.2)
    (hbm : ∃ (bm : Addr) (ob : Obj), mg "__builtins__" = some (.ref bm) ∧ bm ≠ builtinsNs ∧ s₁.heap.get? bm = some ob ∧ ob.cls = .type "module" ∧ ob.dict = some builtinsNs ∧ ob.data = .plain)
    (ha : s₁.heap.get? a = some { cls := .type "list", data := .seq vs.toArray }) (hi : IntsAre vs ns) (hl : ns.length ≤ sizeLine) :
    K.In (hidT s₁.heap (startH K a vs ns cs)) ∧ (hidT s₁.heap (startH K a vs ns cs)).Ns mainGlobals mg ∧ (∀ p ∈ cs, TabB (hidT s₁.heap (startH K a vs ns cs)) mg p.1 p.2) ∧ Env0 P w K mg (hidT s₁.heap (startH K a vs ns cs)) callerA [] s₁ (startH K a vs ns cs) ∧
      (∀ p ∈ cs, startH K a vs ns cs p.2 = some (.tbl #[])) ∧ SqL K (startH K a vs ns cs) a (ns.map V.int) := by
  generalize eH : startH K a vs ns cs = H
  have tb : ∀ b, b ∈ tbs cs → s₁.heap.get? b = some { cls := .none, data := .fields #[] } ∧ K.lookup b = none := fun b z => by
    obtain ⟨p, hp, rfl⟩ := List.mem_map.mp z
    exact ⟨hT p hp, nT p hp⟩
  have at_ : ∀ b o, H b = some o → (b ∈ tbs cs ∧ o = .tbl #[]) ∨ (b = a ∧ K.lookup a = none ∧ o = .frz { cls := .type "list", data := .seq vs.toArray } (.lst (ns.map V.int))) := fun b o z => by
    rw [← eH] at z
    unfold startH at z
    split at z
    · rename_i q; cases z; exact .inl ⟨q, rfl⟩
    · split at z
      · rename_i q; cases z; exact .inr ⟨q.1, q.2, rfl⟩
      · cases z
  have sm : ∀ b, b ∈ tbs cs → H b = some (.tbl #[]) := fun b z => by rw [← eH]; exact if_pos z
  -- what is no list and no table's object is not tracked
  have free : ∀ {b : Addr} {o : Obj}, s₁.heap.get? b = some o → (o.cls ≠ .type "list") → (o.data ≠ .fields #[]) → H b = none := fun {b o} z c1 c2 => by
    cases q : H b with
    | none => rfl
    | some u =>
      rcases at_ b u q with ⟨m, _⟩ | ⟨rfl, _⟩
      · rw [(tb b m).1] at z; cases z; exact absurd rfl c2
      · rw [ha] at z; cases z; exact absurd rfl c1
  have freeD : ∀ {b : Addr} {o : Obj} {es : Array DictEntry} {ep : Nat}, s₁.heap.get? b = some o → o.data = .dict es ep → H b = none := fun {b o es ep} z dd => by
    cases q : H b with
    | none => rfl
    | some u =>
      rcases at_ b u q with ⟨m, _⟩ | ⟨rfl, _⟩
      · rw [(tb b m).1] at z; cases z; cases dd
      · rw [ha] at z; cases z; cases dd
  have ns_ : ∀ {b : Addr} {m : Str → Option Value}, s₁.heap.Ns b m → (hidT s₁.heap H).Ns b m := fun {b m} ⟨o, es, ep, z, dd, r⟩ => ⟨o, es, ep, hidT_get z (freeD z dd), dd, r⟩
  have kin : K.In (hidT s₁.heap H) := fun b o z => hidT_get (KX b o z) (by
    cases q : H b with
    | none => rfl
    | some u =>
      rcases at_ b u q with ⟨m, _⟩ | ⟨rfl, n, _⟩
      · rw [(tb b m).2] at z; cases z
      · rw [n] at z; cases z)
  have okH : HOk P w H s₁.heap := fun b o z => by
    rcases at_ b o z with ⟨m, rfl⟩ | ⟨rfl, _, rfl⟩
    · exact (tb b m).1
    · exact ⟨ha, by rw [List.length_map]; exact hl, vs, _, vals_ints hi, ha⟩
  refine ⟨kin, ns_ hns, fun p hp => ⟨?_, ?_, fun z => ?_⟩, ⟨rfl, ⟨kin, ns_ hns, ⟨mb, ns_ hb, hbb⟩, let ⟨mc, h1, h2⟩ := hlim; ⟨mc, ns_ h1, h2⟩⟩, fun b o z => of_hidT z, Nat.le_of_eq (hidT_size _ _), trivial, fun b hb => (nomatch hb), okH, .of_eq hg⟩, fun p hp => sm _ (List.mem_map.mpr ⟨p, hp, rfl⟩), ?_⟩
  · obtain ⟨o, us, file, tf, flags, tg, inF, text, tt, e1, r1, r2, r3, r4⟩ := C p hp
    refine ⟨o, us, file, tf, flags, tg, inF, text, tt, hidT_get e1 (free e1 (by rw [r1]; decide) fun z => ?_), r1, r2, r3, r4⟩
    rw [r2] at z
    cases z
    simp at r3
  · obtain ⟨bm, ob, b1, b2, b3, b4, b5, b6⟩ := hbm
    refine ⟨bm, ob, b1, b2, fun q => ?_, fun q => ?_, hidT_get b3 (free b3 (by rw [b4]; decide) fun z => by rw [b6] at z; cases z), b4, b5, b6⟩
    · obtain ⟨o, es, ep, z, dd, _⟩ := hns
      rw [q, z] at b3; cases b3
      rw [dd] at b6; cases b6
    · rw [q, hT p hp] at b3; cases b3; cases b6
  · obtain ⟨o, es, ep, y, dd, _⟩ := hns
    rw [z, hT p hp] at y; cases y; cases dd
  · cases q : K.lookup a with
    | some o =>
      have y := KX a o q
      rw [ha] at y; cases y
      refine Or.inr ⟨_, vs.toArray, _, q, rfl, rfl, rfl, by rw [List.size_toArray, hi.length]; exact hl, by simpa using vals_ints hi⟩
    | none =>
      refine .inl (.inr ⟨{ cls := .type "list", data := .seq vs.toArray }, ?_⟩)
      rw [← eH]
      unfold startH
      rw [if_neg fun m => ?_, if_pos ⟨rfl, q⟩]
      have y := (tb a m).1
      rw [ha] at y; cases y
/-- a law's call: its end, from a promise at the top -/
theorem law_callG {CX : CXT} {fl : Addr} (KX : K.In s₁.heap) (hns : s₁.heap.Ns mainGlobals mg) (hb : s₁.heap.Ns builtinsNs mb) (hbb : ∀ x : Str, x ≠ "__name__" → mb x = bootBuiltins x) (hlim : s₁.heap.NoLimit) (hg : s₁.gens = #[])
    (hT : ∀ p ∈ cs, s₁.heap.get? p.2 = some { cls := .none, data := .fields #[] }) (nT : ∀ p ∈ cs, K.lookup p.2 = none) (C : ∀ p ∈ cs, PySem.W.CodeHd s₁.heap p.1 p.2)
    (hbm : ∃ (bm : Addr) (ob : Obj), mg "__builtins__" = some (.ref bm) ∧ bm ≠ builtinsNs ∧ s₁.heap.get? bm = some ob ∧ ob.cls = .type "module" ∧ ob.dict = some builtinsNs ∧ ob.data = .plain)
    (ha : s₁.heap.get? a = some { cls := .type "list", data := .seq vs.toArray }) (hi : IntsAre vs ns) (hl : ns.length ≤ sizeLine)
    (F : ∀ (base : Heap) (H : Hp), K.In base → base.Ns mainGlobals mg → (∀ p ∈ cs, TabB base mg p.1 p.2) → Env0 P w K mg base callerA [] s₁ H → (∀ p ∈ cs, H p.2 = some (.tbl #[])) → SqL K H a (ns.map V.int) →
      codeAny (model P w) callerA (.call (.ref fl) ⟨[.ref a], []⟩) (CR CX [] P w H s₁ (fun v _ => v = .bl true) fun _ _ _ => False) s₁)
    (hCX : ∀ H e s', CX [] H s₁ (fun _ _ _ => False) e s' → False) :
    codeAny (model P w) callerA (.call (.ref fl) ⟨[.ref a], []⟩) (fun r s' => r = .ok (.ret (.bool true)) ∧ OldK s₁.heap s'.heap ∧ s'.os = s₁.os ∧ AllBare s'.gens) s₁ := by
  obtain ⟨k1, k2, k3, k4, k5, k6⟩ := law_start (P := P) (w := w) KX hns hb hbb hlim hg hT nT C hbm ha hi hl
  generalize eH : startH K a vs ns cs = H at k1 k2 k3 k4 k5 k6
  have out : ∀ b, H b = none ∨ (∃ p ∈ cs, p.2 = b) ∨ ∃ o xs, H b = some (.frz o (.lst xs)) := fun b => by
    rw [← eH]
    unfold startH
    split
    · rename_i m; obtain ⟨p, hp, q⟩ := List.mem_map.mp m; exact .inr (.inl ⟨p, hp, q⟩)
    · split
      · exact .inr (.inr ⟨_, _, rfl⟩)
      · exact .inl rfl
  refine codeAny_mono (F _ H k1 k2 k3 k4 k5 k6) fun r s2 z => ?_
  match r, z with
  | .error e, z => exact (hCX H e s2 z).elim
  | .ok .next, z => exact False.elim z
  | .ok .brk, z => exact False.elim z
  | .ok .cont, z => exact False.elim z
  | .ok (.ret u), ⟨v, H2, os2, bare, un, ok2, ru, q⟩ =>
    cases (show v = .bl true from q)
    cases (show u = Value.bool true from ru)
    -- a table only grows
    have tabs : ∀ b, (∃ p ∈ cs, p.2 = b) → ∃ more : Array Value, s2.heap.get? b = some { cls := .none, data := .fields more } := fun b ⟨p, hp, e⟩ => by
      obtain ⟨more, z⟩ := un.tbls p.2 #[] (k5 p hp)
      exact ⟨_, e ▸ ok2 p.2 _ z⟩
    have rest : ∀ b o, ¬ (∃ p ∈ cs, p.2 = b) → s₁.heap.get? b = some o → s2.heap.get? b = some o := fun b o n z => by
      rcases out b with h | h | ⟨ob, xs, h⟩
      · exact un.keep b o z h (fun y => nomatch y) (by simp)
      · exact absurd h n
      · have e1 := (k4.hok b _ h).1
        have e2 := (ok2 b _ (un.frzs b ob _ h)).1
        rw [z] at e1
        cases e1
        exact e2
    refine ⟨rfl, ⟨fun b o z => ?_, fun b o z => ?_⟩, os2, bare⟩
    · by_cases m : ∃ p ∈ cs, p.2 = b
      · obtain ⟨more, y⟩ := tabs b m
        obtain ⟨p, hp, rfl⟩ := m
        rw [hT p hp] at z
        cases z
        exact .inr (.inl ⟨((C p hp).tab (hT p hp)).isCodeTable, rfl, #[], more, rfl, by rw [Array.empty_append]; exact y⟩)
      · exact .inl (rest b o m z)
    · by_cases m : ∃ p ∈ cs, p.2 = b
      · obtain ⟨more, y⟩ := tabs b m; exact ⟨_, y⟩
      · exact ⟨o, rest b o m z⟩
end
/-- the end of a law whose body is run where no repr is under way -/
theorem law_endG {l : PySem.W.OpenLaw} {k n : Nat} {q : Program} {loose : List Str} {XP : (Str → Option Value) → Heap → Prop} {d : DefRec} {fa : List Fa} {fn : List DefD} {tf : List Defn} {ex : PySem.W.Frag → Bool} {x : Str} (cas cxs : List Str)
    (hn : l.most = some 63) (hdf : d.params.defaults = []) (hr : Room (k + 1) callerA)
    (F : ∀ (w : World) (mg : Str → Option Value) (fl : Addr) (h : Heap) (K : PySem.W.Frag), K.In h → SaysX fa fn [] tf ex w h K → h.Ns mainGlobals mg → mg d.name = some (.ref fl) →
      ∃ (fd : FuncData) (N : List Str) (st : Stmt) (z qual : Str), (∀ (s : Shared) (u : Value), BindsTo s fd ⟨[u], []⟩ [(x, u)]) ∧ Fun K z qual st fl fd ∧ FnScope N [x] (defScope st) ∧
        ∀ base : Heap, K.In base → base.Ns mainGlobals mg → (∀ p ∈ tf.map (cT K), LamX.TabB base mg p.1 p.2) → ∀ (A : Around) (outer : List Env) (s : Shared) (H : Hp) (v : V) (Q : VK) (E : XK) (cdv : Value), A.guards = some [] → fd.code = cdv →
          Room k (A.deeper (envOfC qual (defScope st) s.heap.objs.size fl cdv)) → spLaw (pmOf K cas cxs tf [] 0) [v] H Q E →
          ∃ t, PSs (cxOf (L2.CX l.prog w) l.prog w K mg base N qual (defScope st) fl cdv A outer s H E) (defBody st) t ∧ t { nx := fun _ H' => Q .non H', rt := Q } (L2.start N [v]) H) :
    PySem.W.WalkO q loose XP (hookX n fa fn [] tf ex).says l.row.toRowW d [] (fun f vs => PySem.call f vs) := by
  refine _root_.Att.attach_callB hn hdf fun w s₀ s₁ mg mb fl o pm cd doc a vs ns G Y ho hd hcd hmg hobj hints hlen hbits hg => ?_
  obtain ⟨K, KX, c⟩ := Y
  obtain ⟨fd, N, st, z, qual, hb, Fu, S, body⟩ := F w mg fl _ K KX c G.T.g hmg
  refine law_callG (CX := L2.CX l.prog w) (cs := tf.map (cT K)) KX G.T.g G.T.b G.T.builtins G.T.nolimit hg (fun p hp => ?_) (fun p hp => ?_) (fun p hp => ?_) G.T.bmain hobj hints (Nat.le_trans hlen (by rw [sizeLine_eq]; decide)) (fun base H k1 k2 k3 e0 hT hS => ?_) fun H e s' y => ?_
  · obtain ⟨r, hq, rfl⟩ := List.mem_map.mp hp; exact c.empty r hq
  · obtain ⟨r, hq, rfl⟩ := List.mem_map.mp hp; exact c.out r hq
  · obtain ⟨r, hq, rfl⟩ := List.mem_map.mp hp; exact PySem.W.codeHd_of_K KX (c.hd r hq)
  · refine run1 Fu S hr e0 hb (v := .ref a) rfl fun cdv hcv hrm => body base k1 k2 k3 callerA [] s₁ H (.ref a) (fun v _ => v = .bl true) (fun _ _ _ => False) cdv rfl hcv hrm ⟨a, ns, rfl, sqS_of hS, hlen, fun p hp => ?_, fun _ => rfl⟩
    obtain ⟨r, hq, rfl⟩ := List.mem_map.mp hp
    exact LamX.TabS.nil (hT _ (List.mem_map.mpr ⟨r, hq, rfl⟩))
  · obtain ⟨_, _, _, _, _, _, _, _, _, _, _, _, y⟩ := y
    exact y
section
variable {c : Pm} {Wx : WX} {X : Cx} {fu n k : Nat} {W W' W1 W2 W3 : Dr} {F0 H0 F H F' H' F1 H1 F2 H2 F3 H3 Hs : Hp} {ρ ρ' : En} {σ σ' : L2.St} {u w : V} {x y v : Vl} {Q : VK} {us : List V} {vs : List Vl} {pos : Pos}
mutual
theorem pyN_nod : ∀ (n : Nat) (d : D) (p : PyData), D.pyN n d = some p → p.hasDict = false
  | n, .non, _, h => by cases n <;> simp [D.pyN] at h <;> subst h <;> rfl
  | n, .bl _, _, h => by cases n <;> simp [D.pyN] at h <;> subst h <;> rfl
  | n, .int _, _, h => by cases n <;> simp [D.pyN] at h <;> subst h <;> rfl
  | n, .str _, _, h => by cases n <;> simp [D.pyN] at h <;> subst h <;> rfl
  | n + 1, .tup xs, _, h => by
    simp only [D.pyN, Option.map_eq_some_iff] at h
    obtain ⟨ps, h1, rfl⟩ := h
    simp only [PyData.hasDict]
    exact pyNL_nod _ _ _ h1
  | n + 1, .lst xs, _, h => by
    simp only [D.pyN, Option.map_eq_some_iff] at h
    obtain ⟨ps, h1, rfl⟩ := h
    simp only [PyData.hasDict]
    exact pyNL_nod _ _ _ h1
  | 0, .tup _, _, h => by simp [D.pyN] at h
  | 0, .lst _, _, h => by simp [D.pyN] at h
  | n, .dic _ _, _, h => by cases n <;> simp [D.pyN] at h
  | n, .ins _ _, _, h => by cases n <;> simp [D.pyN] at h
  | n, .exc _ _, _, h => by cases n <;> simp [D.pyN] at h
  | n, .drw, _, h => by cases n <;> simp [D.pyN] at h
  | n, .fn _, _, h => by cases n <;> simp [D.pyN] at h
  | n, .scr _, _, h => by cases n <;> simp [D.pyN] at h
theorem pyNL_nod : ∀ (n : Nat) (ds : List D) (ps : List PyData), D.pyNL n ds = some ps → PyData.hasDictAll ps = false
  | n, [], _, h => by simp [D.pyNL] at h; subst h; rfl
  | n, d :: ds, _, h => by
    simp only [D.pyNL] at h
    cases e1 : D.pyN n d <;> cases e2 : D.pyNL n ds <;> rw [e1, e2] at h <;> simp only at h <;> try (cases h; done)
    cases h
    simp only [PyData.hasDictAll, pyN_nod _ _ _ e1, pyNL_nod _ _ _ e2, Bool.or_self]
end
def isSeqD : D → Bool
  | .lst _ => true
  | .tup _ => true
  | _ => false
noncomputable def reprD : List D → Option (Bool × D)
  | [d] => if isSeqD d = true then d.pd.bind fun p => if p.showable = true ∧ p.shown.length ≤ cap then some (false, .str p.shown) else none else none
  | _ => none
def rReprG (K : PySem.W.Frag) : List V → Hp → VK → Prop := fun xs H Q => ∃ (a : Addr) (d : PyData), xs = [.ref a] ∧ Dp K H (.ref a) d ∧ d.showable = true ∧ d.hasDict = false ∧ d.depth ≤ 60 ∧ d.shown.length ≤ sizeLine ∧ Q (.str d.shown) H
theorem cr_reprG (hu : X.A.units + 64 < cLine) (GD : X.A.guards = some []) : CallR X (.builtin "repr") (rReprG X.K) := by
  intro pins s σ H xs us Q I r h
  obtain ⟨a, d, rfl, hd, h1, h2, h3, h4, q⟩ := h
  obtain ⟨u, rfl, ru⟩ := vals1 r
  cases ru
  obtain ⟨as, rd⟩ := Dp.reads I d _ _ hd rfl
  exact repr_of_reads' rd h1 (fun z => by rw [h2] at z; cases z) GD (by omega) (fun _ _ z => z) (fun h' u tk hk => ⟨.str d.shown, H, I.kept hk, ⟨_, rfl⟩, q⟩) h4
theorem boot_repr' : bootBuiltins "repr" = some (.builtin "repr") := by first | rfl | decide +kernel
theorem x_repr {a : Expr} {ea : E} {p : Pos} (n : Cn c Wx k X) (GD : X.A.guards = some []) (hm : X.mg "repr" = none) (ha : PA X [a] (rdL c Wx ea)) (hg : Gl X "repr" := by rfl) (he : starEach [a] X.env = (false, eval a X.env) :: starEach [] X.env := by rfl) (hpl : (backTo pos (starEach [] X.env)).any (·.1) = false := by rfl) :
    PE X (.Call (.Name "repr" p) [a] [] pos) (rdE c Wx (.call (pureG reprD) ea)) := by
  refine x_bltB n (fun vs H Q E h => ?_) (cr_reprG n.hu GD) boot_repr' hm ha hg (by decide) (by decide) he hpl
  obtain ⟨F, xs, W, r, rr, S, hf, hQ⟩ := spG_pure h
  match xs, rr, hf with
  | [d], .cons (v := v) r1 .nil, hf =>
    simp only [reprD] at hf
    split at hf
    · rename_i hs
      rw [Option.bind_eq_some_iff] at hf
      obtain ⟨p, hp, hf⟩ := hf
      split at hf <;> cases hf
      rename_i hz
      have dp := dp_mono S.sub (rep_dp _ _ _ _ hp r1)
      have ref : ∃ a, v = .ref a := by
        cases r1 <;> simp only [isSeqD] at hs <;> first | exact ⟨_, rfl⟩ | (cases hs; done)
      obtain ⟨a, rfl⟩ := ref
      exact ⟨a, p, rfl, n.hk ▸ dp, hz.1, pyN_nod _ _ _ hp, by have := (pyN_ok _ _ _ hp).2; omega, by rw [← cap_eq]; exact hz.2, hQ _ F _ S (.str _)⟩
    · cases hf
end
end Z

namespace Z
open PySem PySem.Spec PyProof.Rows L2
open Classical
section
variable {c : Pm} {Wx : WX} {X : Cx} {fu n k : Nat} {W W' W1 W2 W3 : Dr} {F0 H0 F H F' H' F1 H1 F2 H2 F3 H3 Hs : Hp} {ρ ρ' : En} {σ σ' : L2.St} {u w : V} {x y v : Vl} {Q : VK} {us : List V} {vs : List Vl} {pos : Pos}
/-- what a dict gives at a key -/
theorem dget_rep {a : Addr} {t : Bool} {kvs : List (D × D)} {kd : D} (s : Same F H) (r : Rep c F (.ref a) (.dic t kvs)) (rk : Rep c F u kd) (hk : kd.keyOk t = true) :
    IsD H a ∧ ∃ o, DGet H a u o ∧ (∀ d, dGet kvs kd = some d → ∃ v, o = some v ∧ Rep c F v d) ∧ (dGet kvs kd = none → o = none) := by
  cases r with
  | dicK h1 h2 h3 =>
    obtain ⟨k, rfl, rfl⟩ := key_of rk hk
    have e := Rd.mono s h1
    obtain ⟨g1, g2⟩ := kv_get keyD_inj' (k := k) (kv_of h2 h3)
    exact ⟨.inl ⟨_, e⟩, _, .inl ⟨_, k, e, rfl, rfl⟩, g1, g2⟩
  | dicT h1 h2 h3 =>
    have e := Rd.mono s h1
    cases kd <;> simp only [D.keyOk, if_true] at hk <;> try (cases hk; done)
    obtain ⟨b, ws, rfl, e2, e3⟩ := rk.tupP
    obtain ⟨k, rfl, rfl⟩ := keys_of e3 hk
    obtain ⟨g1, g2⟩ := kv_get keyT_inj (k := k) (kv_ofG (kd := keyT) h2 h3)
    exact ⟨.inr ⟨_, e⟩, _, .inr ⟨_, k, b, e, rfl, s _ _ e2, rfl⟩, g1, g2⟩
def isDicD : D → Bool
  | .dic _ _ => true
  | _ => false
theorem isD_ok {x : V} {H1 : Hp} (h : ∃ d F W, Rep c F x d ∧ Stp c W F H1 F H1 ∧ isDicD d = true) : ∃ a, x = .ref a ∧ IsD H1 a := by
  obtain ⟨d, F, W, r, S, e⟩ := h
  cases r <;> simp only [isDicD] at e <;> try (cases e; done)
  · rename_i h1 _ _; exact ⟨_, rfl, .inl ⟨_, Rd.mono S.sub h1⟩⟩
  · rename_i h1 _ _; exact ⟨_, rfl, .inr ⟨_, Rd.mono S.sub h1⟩⟩
noncomputable def dixD : List D → Option (Bool × D)
  | [.dic t kvs, k] => if k.keyOk t = true then (dGet kvs k).map fun d => (false, d) else none
  | _ => none
noncomputable def dget1D : List D → Option (Bool × D)
  | [.dic t kvs, k] => if k.keyOk t = true then some (false, (dGet kvs k).getD .non) else none
  | _ => none
noncomputable def dget2D : List D → Option (Bool × D)
  | [.dic t kvs, k, z] => if k.keyOk t = true then some (false, (dGet kvs k).getD z) else none
  | _ => none
noncomputable def dinD (neg : Bool) : List D → Option (Bool × D)
  | [k, .dic t kvs] => if k.keyOk t = true then some (false, .bl ((dGet kvs k).isSome != neg)) else none
  | _ => none
/-- d[k] -/
theorem x_dix {o i : Expr} {eo ei : E} (n : Cn c Wx k X) (ho : PE X o (rdE c Wx eo)) (hi : PE X i (rdE c Wx ei)) (hs : NoSl i := by exact fun _ _ => rfl) : PE X (.Subscript o i pos) (rdE c Wx (.call (pureG dixD) (.cons eo (.cons ei .nil)))) := by
  refine pe_wk (pe_dget (by have := n.hu; omega) ho hi hs) fun σ H Q h => rdE_mono (call2_ok h) fun x H1 h2 => rdE_mono h2 fun y H2 h3 => ?_
  obtain ⟨F, xs, W, r, rr, S, hf, hQ⟩ := spG_pure h3
  match xs, rr, hf with
  | [.dic t kvs, kd], .cons (v := v) r1 (.cons r2 .nil), hf =>
    simp only [dixD] at hf
    split at hf
    · rename_i hk
      rw [Option.map_eq_some_iff] at hf
      obtain ⟨d, hd, rfl⟩ := hf
      obtain ⟨a, rfl⟩ : ∃ a, v = .ref a := by cases r1 <;> exact ⟨_, rfl⟩
      obtain ⟨_, o, g, g1, _⟩ := dget_rep S.sub r1 r2 hk
      obtain ⟨z, rfl, rz⟩ := g1 d hd
      exact ⟨a, z, rfl, g, hQ _ F H2 S rz⟩
    · cases hf
theorem op2_ok {ck : D → Bool} {g : G} {ea eb ed : E} (h : rdE c Wx (.op ck g ea (.cons eb (.cons ed .nil))) σ H Q) : rdE c Wx ea σ H (fun x H1 => (∃ d F W, Rep c F x d ∧ Stp c W F H1 F H1 ∧ ck d = true) ∧ rdE c Wx eb σ H1 fun y H2 => rdE c Wx ed σ H2 fun z H3 => spG c g [x, y, z] H3 Q (WE Wx σ)) := by
  obtain ⟨F0, H0, ρ, F, W, R, hP⟩ := h
  simp only [ev, evL] at hP
  refine rd_e R R.refl hP fun x W1 u F1 H1 S1 _ V1 R1 hQ => ?_
  by_cases hc : ck x.d = true
  · rw [if_pos hc] at hQ
    have A0 : ArgOk c ρ σ H F1 H1 [u] [x] := .cons V1 .nil
    have a0 := args_all R R1 S1 A0
    have R0 := (Ft_rel R R1 S1 A0).frz (ts_own A0)
    simp only [Out.bind_bind, Out.ok_bind] at hQ
    refine ⟨?_, rd_e R1 S1 hQ fun y W2 w F2 H2 S2 S12 V2 R2 hQ => rd_e R2 S2 hQ fun z W3 q F3 H3 S3 S23 V3 R3 hQ => ?_⟩
    · cases a0 with
      | cons r _ => exact ⟨_, _, _, r, R0.stp.refl, hc⟩
    · have AA : ArgOk c ρ σ H F3 H3 [u, w, q] [x, y, z] := .cons (V1.step R1 (S12.trans S23)) (.cons (V2.step R2 S23) (.cons V3 .nil))
      have RF := (Ft_rel R R3 S3 AA).frz (ts_own AA)
      exact ⟨_, ds [x, y, z], W3, args_all R R3 S3 AA, RF.stp.refl, call_end (g := g) R S3 AA (ts_own AA) hQ⟩
  · rw [if_neg hc] at hQ; exact hQ.elim
theorem x_dget1 {o i : Expr} {eo ei : E} {apos : Pos} (n : Cn c Wx k X) (ho : PE X o (rdE c Wx eo)) (hi : PE X i (rdE c Wx ei)) (m : M1 X o "get" apos i pos := by exact ⟨rfl, rfl, rfl, rfl⟩) : PE X (.Call (.Attribute o "get" apos) [i] [] pos) (rdE c Wx (.op isDicD (pureG dget1D) eo (.cons ei .nil))) := by
  refine pe_wk (pe_dget1 (by have := n.hu; omega) ho hi m) fun σ H Q h => rdE_mono (op1_ok h) fun x H1 ⟨h1, h2⟩ => ?_
  obtain ⟨a, rfl, hd⟩ := isD_ok h1
  refine ⟨a, rfl, hd, rdE_mono h2 fun y H2 h3 => ?_⟩
  obtain ⟨F, xs, W, r, rr, S, hf, hQ⟩ := spG_pure h3
  match xs, rr, hf with
  | [.dic t kvs, kd], .cons r1 (.cons r2 .nil), hf =>
    simp only [dget1D] at hf
    split at hf <;> cases hf
    rename_i hk
    obtain ⟨_, o, g, g1, g2⟩ := dget_rep S.sub r1 r2 hk
    refine ⟨o, g, hQ _ F H2 S ?_⟩
    cases e : dGet kvs kd with
    | none => rw [g2 e]; exact .non
    | some d => obtain ⟨z, rfl, rz⟩ := g1 d e; exact rz
theorem x_dget2 {o i j : Expr} {eo ei ej : E} {apos : Pos} (n : Cn c Wx k X) (ho : PE X o (rdE c Wx eo)) (hi : PE X i (rdE c Wx ei)) (hj : PE X j (rdE c Wx ej)) (m : M2 X o "get" apos i j pos := by exact ⟨rfl, rfl, rfl, rfl⟩) : PE X (.Call (.Attribute o "get" apos) [i, j] [] pos) (rdE c Wx (.op isDicD (pureG dget2D) eo (.cons ei (.cons ej .nil)))) := by
  refine pe_wk (pe_dget2 (by have := n.hu; omega) ho hi hj m) fun σ H Q h => rdE_mono (op2_ok h) fun x H1 ⟨h1, h2⟩ => ?_
  obtain ⟨a, rfl, hd⟩ := isD_ok h1
  refine ⟨a, rfl, hd, rdE_mono h2 fun y H2 h3 => rdE_mono h3 fun z H3 h4 => ?_⟩
  obtain ⟨F, xs, W, r, rr, S, hf, hQ⟩ := spG_pure h4
  match xs, rr, hf with
  | [.dic t kvs, kd, zd], .cons r1 (.cons r2 (.cons r3 .nil)), hf =>
    simp only [dget2D] at hf
    split at hf <;> cases hf
    rename_i hk
    obtain ⟨_, o, g, g1, g2⟩ := dget_rep S.sub r1 r2 hk
    refine ⟨o, g, hQ _ F H3 S ?_⟩
    cases e : dGet kvs kd with
    | none => rw [g2 e]; exact r3
    | some d => obtain ⟨w, rfl, rz⟩ := g1 d e; exact rz
theorem x_din {neg : Bool} {i o : Expr} {eo ei : E} {op : CmpOp} (n : Cn c Wx k X) (hi : PE X i (rdE c Wx ei)) (ho : PE X o (rdE c Wx eo)) (he : op = (if neg then .NotIn else .In) := by rfl) (hm : behindInMarks op o = false := by first | exact nobehind _ (by decide) (by decide) | rfl) : PE X (.Compare i [op] [o] pos) (rdE c Wx (.call (pureG (dinD neg)) (.cons ei (.cons eo .nil)))) := by
  have fin : ∀ σ H Q, rdE c Wx (.call (pureG (dinD neg)) (.cons ei (.cons eo .nil))) σ H Q → rdE c Wx ei σ H fun y H1 => rdE c Wx eo σ H1 fun x H2 => ∃ a o, x = .ref a ∧ DGet H2 a y o ∧ Q (.bl (o.isSome != neg)) H2 := fun σ H Q h => rdE_mono (call2_ok h) fun y H1 h2 => rdE_mono h2 fun x H2 h3 => by
    obtain ⟨F, xs, W, r, rr, S, hf, hQ⟩ := spG_pure h3
    match xs, rr, hf with
    | [kd, .dic t kvs], .cons r2 (.cons (v := v) r1 .nil), hf =>
      simp only [dinD] at hf
      split at hf <;> cases hf
      rename_i hk
      obtain ⟨a, rfl⟩ : ∃ a, v = .ref a := by cases r1 <;> exact ⟨_, rfl⟩
      obtain ⟨_, o, g, g1, g2⟩ := dget_rep S.sub r1 r2 hk
      have : o.isSome = (dGet kvs kd).isSome := by
        cases e : dGet kvs kd with
        | none => rw [g2 e]; rfl
        | some d => obtain ⟨w, rfl, _⟩ := g1 d e; rfl
      exact ⟨a, o, rfl, g, hQ _ F H2 S (by rw [this]; exact .bl _)⟩
  subst he
  cases neg
  · exact pe_wk (pe_cmp (pc_din (by have := n.hu; omega) hi ho) hm) fun σ H Q h => rdE_mono (fin σ H Q h) fun y H1 h2 => rdE_mono h2 fun x H2 ⟨a, o, e, g, q⟩ => ⟨a, o, e, g, by simpa using q⟩
  · exact pe_wk (pe_cmp (pc_dnotin (by have := n.hu; omega) hi ho) hm) fun σ H Q h => rdE_mono (fin σ H Q h) fun y H1 h2 => rdE_mono h2 fun x H2 ⟨a, o, e, g, q⟩ => ⟨a, o, e, g, by simpa using q⟩
end
end Z

namespace Z
open PySem PySem.Spec PyProof.Rows L2
open Classical
section
variable {c : Pm} {Wx : WX} {X : Cx} {fu n k : Nat} {W W' W1 W2 W3 : Dr} {F0 H0 F H F' H' F1 H1 F2 H2 F3 H3 Hs FF : Hp} {ρ ρ' : En} {σ σ' : L2.St} {u w : V} {x y v : Vl} {Q : VK} {us : List V} {vs : List Vl} {pos : Pos}
theorem val_walkF (R : Rel c F0 H0 ρ σ F2 H2 W2) (k : ValOk c ρ σ Hs F2 H2 u v) (up : Same F2 FF) (dn : Same FF H2) (tmp : v.k = .fr → ∀ a, u = .ref a → FF a = H2 a) :
    (∀ xs, v.d = .lst xs → ∃ a vs, u = .ref a ∧ H2 a = some (.lst vs) ∧ Fz FF H2 σ v.all a = some (.lst vs) ∧ RepL c (Fz FF H2 σ v.t) vs xs) ∧ ∀ xs, v.d = .tup xs → ∃ a vs, u = .ref a ∧ SqT c.K (Fz FF H2 σ v.all) a vs ∧ RepL c (Fz FF H2 σ v.t) vs xs := by
  have mo : ∀ t : List Nat, Same (Fz F2 H2 σ t) (Fz FF H2 σ t) := fun t a o e => by
    by_cases q : AtS σ t a
    · rw [Fz_in q] at e ⊢; exact e
    · rw [Fz_out q] at e ⊢; exact up _ _ e
  have tl : ∀ i ∈ v.t, i ∈ v.all := fun i hi => by
    unfold Vl.all; split
    · exact List.mem_cons_of_mem _ hi
    · exact hi
  refine ⟨fun xs e => ?_, fun xs e => ?_⟩
  · obtain ⟨a, vs, rfl, h1, h2⟩ := k.lst R e
    refine ⟨a, vs, rfl, h1, ?_, h2.mono (mo _)⟩
    by_cases q : AtS σ v.all a
    · rw [Fz_in q]; exact h1
    · rw [Fz_out q]
      have b := k.at_
      have hq := q
      unfold Vl.all at hq
      revert b hq
      cases hk : v.k with
      | pl =>
        intro b hq
        rw [e] at b
        obtain ⟨a', vs', e1, e2, _⟩ := b.lstI
        cases e1
        rw [Fz_out hq] at e2
        exact up _ _ (by rw [e2, ← h1]; exact (R.stp.sub _ _ e2).symm)
      | me i =>
        rintro ⟨_, _, b3⟩ hq
        exact (hq ⟨i, List.mem_cons_self, b3⟩).elim
      | fr =>
        intro _ _
        rw [tmp hk a rfl]
        exact h1
  · obtain ⟨a, vs, rfl, h1, h2⟩ := k.tup R e
    exact ⟨a, vs, rfl, Same.sqT (fun b o q => Fz_mono dn tl _ _ (mo _ _ _ q)) h1, h2.mono (mo _)⟩
theorem zipD_get : ∀ {xs ys : List D} {i : Nat} {z : D}, (zipD xs ys)[i]? = some z → ∃ x y, xs[i]? = some x ∧ ys[i]? = some y ∧ z = .tup [x, y]
  | [], _, i, z, h => by simp [zipD] at h
  | _ :: _, [], i, z, h => by simp [zipD] at h
  | x :: xs, y :: ys, 0, z, h => by simp [zipD] at h; exact ⟨x, y, rfl, rfl, h.symm⟩
  | x :: xs, y :: ys, i + 1, z, h => by
    simp only [zipD, List.getElem?_cons_succ] at h ⊢
    exact zipD_get h
theorem zipD_len : ∀ {xs ys : List D}, (zipD xs ys).length = min xs.length ys.length
  | [], _ => by simp [zipD]
  | _ :: _, [] => by simp [zipD]
  | x :: xs, y :: ys => by simp only [zipD, List.length_cons, zipD_len]; omega
theorem wk_zipL {a b : Addr} {vs ws : List V} {xs ys : List D} {B B' : Hp} (h : ∀ H, Same B H → SqL c.K H a vs) (h' : ∀ H, Same B H → SqL c.K H b ws) (r : RepL c B' vs xs) (r' : RepL c B' ws ys) : WkOk c B B' (zipD xs ys) (Itz c.K a b) := by
  refine ⟨fun i z H e s => ?_, fun H s => ?_⟩
  · obtain ⟨x, y, hx, hy, rfl⟩ := zipD_get e
    obtain ⟨v, h1, h2⟩ := r.get hx
    obtain ⟨w, h3, h4⟩ := r'.get hy
    refine ⟨⟨vs, ws, v, w, h H s, h' H s, h1, h3⟩, fun u H' ⟨T, v', w', e1, e2, e3, e4, e5⟩ => .inr ⟨T, _, _, e1, rfl, e2, e3, ?_⟩⟩
    have q := e4 vs (h H s)
    have q' := e5 ws (h' H s)
    rw [h1] at q
    rw [h3] at q'
    cases q
    cases q'
    exact .cons h2 (.cons h4 .nil)
  · refine ⟨vs, ws, h H s, h' H s, ?_⟩
    rw [zipD_len, r.length, r'.length]
    omega
theorem wk_zipT {a b : Addr} {vs ws : List V} {xs ys : List D} {B B' : Hp} (h : ∀ H, Same B H → SqT c.K H a vs) (h' : ∀ H, Same B H → SqT c.K H b ws) (r : RepL c B' vs xs) (r' : RepL c B' ws ys) : WkOk c B B' (zipD xs ys) (RZ.ItzT c.K a b) := by
  refine ⟨fun i z H e s => ?_, fun H s => ?_⟩
  · obtain ⟨x, y, hx, hy, rfl⟩ := zipD_get e
    obtain ⟨v, h1, h2⟩ := r.get hx
    obtain ⟨w, h3, h4⟩ := r'.get hy
    refine ⟨⟨vs, ws, v, w, h H s, h' H s, h1, h3⟩, fun u H' ⟨T, v', w', e1, e2, e3, e4, e5⟩ => .inr ⟨T, _, _, e1, rfl, e2, e3, ?_⟩⟩
    have q := e4 vs (h H s)
    have q' := e5 ws (h' H s)
    rw [h1] at q
    rw [h3] at q'
    cases q
    cases q'
    exact .cons h2 (.cons h4 .nil)
  · refine ⟨vs, ws, h H s, h' H s, ?_⟩
    rw [zipD_len, r.length, r'.length]
    omega
theorem x_zip {a b : Expr} {ea eb : E} {p tpos : Pos} {elts : List Expr} {kk : Nat} (n : Cn c Wx k X) (hm : X.mg "zip" = none) (ha : PE X a (rdE c Wx ea)) (hb : PE X b (rdE c Wx eb)) (hg : Gl X "zip" := by rfl) (hs : starEach [a, b] X.env = [(false, eval a X.env), (false, eval b X.env)] := by rfl) (hs2 : starEach [b] X.env = [(false, eval b X.env)] := by rfl) :
    PI X (.Tuple elts kk tpos) (.Call (.Name "zip" p) [a, b] [] pos) (rdI c Wx (.zip ea eb)) := by
  have hl : PA X [a, b] (rdL c Wx (.cons ea (.cons eb .nil))) := l_cons ha (l_cons hb l_nil (by rw [hs2]; rfl)) (by rw [hs, hs2])
  refine ⟨fun pins s σ H RR I ⟨F0, H0, ρ, F, W, R, hP⟩ => ?_⟩
  simp only [evI] at hP
  refine (RZ.pi_zipA hg hm hl (by rw [hs, hs2]) (by rw [hs2]; rfl)).run pins s σ H RR I ⟨F0, H0, ρ, F, W, R, ?_⟩
  simp only [evL, Out.bind_bind, Out.ok_bind]
  cases e1 : ev ea ρ W with
  | stk => rw [e1] at hP; exact hP.elim
  | ex x W1 => rw [e1] at hP; exact hP
  | ok x W1 =>
    rw [e1] at hP
    simp only [Out.ok_bind] at hP ⊢
    cases e2 : ev eb ρ W1 with
    | stk => rw [e2] at hP; exact hP.elim
    | ex y W2 => rw [e2] at hP; exact hP
    | ok y W2 =>
      rw [e2] at hP
      simp only [Out.ok_bind] at hP ⊢
      obtain ⟨⟨xs, ys⟩, hz, hP⟩ := ofO_some hP
      intro us F2 H2 S2 ⟨A, B⟩
      have R2 := R.step S2
      cases A with
      | cons V1 A =>
        cases A with
        | cons V2 A =>
          cases A
          rename_i u w
          have AA : ArgOk c ρ σ H F2 H2 [u, w] [x, y] := .cons V1 (.cons V2 .nil)
          have S3 := Ft_stp S2 AA
          have up := Ft_up (us := [u, w]) (vs := [x, y]) R2.stp.sub
          have dn := Ft_dn (us := [u, w]) (vs := [x, y]) R2.stp.sub
          obtain ⟨l1, t1⟩ := val_walkF (FF := Ft F2 H2 [u, w] [x, y]) R2 V1 up dn fun hk a ha => by unfold Ft; rw [if_pos (show TmpAt [u, w] [x, y] a from .inl ⟨hk, ha⟩)]
          obtain ⟨l2, t2⟩ := val_walkF (FF := Ft F2 H2 [u, w] [x, y]) R2 V2 up dn fun hk a ha => by unfold Ft; rw [if_pos (show TmpAt [u, w] [x, y] a from .inr (.inl ⟨hk, ha⟩))]
          have own := own_app V1.own V2.own
          have ownt := own_app V1.t_own V2.t_own
          have hal : ∀ {t t' : List Nat}, Same (Fz (Ft F2 H2 [u, w] [x, y]) H2 σ t) (Fz (Ft F2 H2 [u, w] [x, y]) H2 σ (t ++ t')) := Fz_l dn
          have har : ∀ {t t' : List Nat}, Same (Fz (Ft F2 H2 [u, w] [x, y]) H2 σ t') (Fz (Ft F2 H2 [u, w] [x, y]) H2 σ (t ++ t')) := Fz_r dn
          cases d1 : x.d <;> cases d2 : y.d <;> rw [d1, d2] at hz <;> simp only [zipK] at hz <;> try (cases hz; done)
          · cases hz
            obtain ⟨a, vs, rfl, h1, r1⟩ := t1 _ d1
            obtain ⟨b, ws, rfl, h2, r2⟩ := t2 _ d2
            refine ⟨a, b, vs, ws, rfl, .inr ⟨n.hk ▸ Same.sqT (Fz_dn dn) h1, n.hk ▸ Same.sqT (Fz_dn dn) h2, hP _ (Ft F2 H2 [V.ref a, V.ref b] [x, y]) H2 S3 ⟨own, ownt, ?_⟩⟩⟩
            rw [n.hk]
            exact wk_zipT (fun H s => Same.sqT (fun b o q => s _ _ (hal _ _ q)) h1) (fun H s => Same.sqT (fun b o q => s _ _ (har _ _ q)) h2) (r1.mono hal) (r2.mono har)
          · cases hz
            obtain ⟨a, vs, rfl, h0, h1, r1⟩ := l1 _ d1
            obtain ⟨b, ws, rfl, h3, h2, r2⟩ := l2 _ d2
            refine ⟨a, b, vs, ws, rfl, .inl ⟨n.hk ▸ .inl (.inl h0), n.hk ▸ .inl (.inl h3), hP _ (Ft F2 H2 [V.ref a, V.ref b] [x, y]) H2 S3 ⟨own, ownt, ?_⟩⟩⟩
            rw [n.hk]
            exact wk_zipL (fun H s => .inl (.inl (s _ _ (hal _ _ h1)))) (fun H s => .inl (.inl (s _ _ (har _ _ h2)))) (r1.mono hal) (r2.mono har)
end
end Z

namespace Z
open PySem PySem.Spec PyProof.Rows L2
open Classical
section
variable {c : Pm} {Wx : WX} {X : Cx} {fu n k : Nat} {W W' W1 W2 W3 : Dr} {F0 H0 F H F' H' F1 H1 F2 H2 F3 H3 Hs : Hp} {ρ ρ' : En} {σ σ' : L2.St} {u w : V} {x y v : Vl} {Q : VK} {us : List V} {vs : List Vl} {pos : Pos}
/-- a value that can't be changed stands in F -/
theorem val_imm (R : Rel c F0 H0 ρ σ F H W) (kv : ValOk c ρ σ Hs F H u v) (m : v.d.imm = true) : Rep c F u v.d := by
  have r := kv.rep R rfl fun F H p h => by
    cases e : v.d <;> rw [e] at h m <;> first | exact h.elim | (simp [D.imm] at m; done)
  obtain ⟨a1, a2⟩ := Fz_soft R kv.t_own
  exact Rep.soft a1 a2 r m
theorem key_imm {d : D} (h : d.keyOk false = true) : d.imm = true := by
  cases d <;> simp only [D.keyOk, D.key1, Bool.false_eq_true, if_false] at h <;> first | rfl | (cases h; done)
theorem dc_ok {tg it : Expr} {scope : Scope} {own : List (Str × Nat)} {pt : Pat} {g : TG} {src tst kx vx : E} (hc : X.calm = true) (hN : X.N.Nodup) (hi : PI X tg it (rdI c Wx src)) (ok : BlkOk X.N X.env.scope scope own)
    (gk : GOk c pt (own.map (·.2)) g)
    {σ : L2.St} {H : Hp} {Q : VK} (h : rdE c Wx (.dc kx vx pt src tst (own.map (·.2))) σ H Q) : tDc (rdI c Wx src) g (rdA c WXF tst) (rdE c WXF kx) (rdE c WXF vx) (own.map (·.2)) σ H Q := by
  obtain ⟨F0, H0, ρ, F, W, R, hP⟩ := h
  simp only [ev] at hP
  generalize hO : own.map (·.2) = ow at hP gk ⊢
  refine ⟨F0, H0, ρ, F, W, R, ?_⟩
  refine rd_gen (ok1 := fun _ (p : Wk) (J : It) F' H' => (∀ i ∈ p.me, ∃ x, ρ[i]? = some (.own x)) ∧ (∀ i ∈ p.t, ∃ x, ρ[i]? = some (.own x)) ∧ WkOk c (Fz F' H' σ p.me) (Fz F' H' σ p.t) p.xs J) R R.refl hP fun p W1 J F1 H1 S1 _ ⟨hme, ht, hw⟩ R1 hP => ?_
  intro Dd hD
  obtain ⟨xs, me, t⟩ := p
  cases t with
  | cons _ _ => exact hP.elim
  | nil =>
    simp only at hP hw hme
    rw [Fz_nil] at hw
    have hDF : F1 Dd = none := by
      cases q : F1 Dd with
      | none => rfl
      | some o => rw [R1.stp.sub _ _ q] at hD; cases hD
    have hDdl : Dd ∉ c.mv := fun z => R1.stp.sm z hD
    have hDs : Nil H Dd := S1.keepN hDdl (.of hD)
    generalize hone : (fun x W => ofO (bindP pt x (Z.wip ρ ow)) fun ρ' => (evA tst ρ' W).bind fun b W => if b = true then (ev kx ρ' W).bind fun k W => (ev vx ρ' W).bind fun v W => Out.ok (some (k.d, v.d)) W else .ok none W : D → Dr → Out (Option (D × D))) = one at hP
    refine ⟨fun i m Hi => m = xs.length - i ∧ i ≤ xs.length ∧ ∃ Fi Wi acc accD, Rel c F0 H0 ρ σ Fi Hi Wi ∧ Stp c Wi F H Fi Hi ∧ Same F1 Fi ∧ Same (Fz F1 H1 σ me) Hi ∧ Fi Dd = none ∧ Hi Dd = some (.dK acc) ∧ KvR c Fi acc accD ∧
      Pst c Wx σ F H (fun v u F' H' => ValOk c ρ σ H F' H' u v) Q (dcGo one (xs.drop i) accD Wi), ⟨xs.length, by simp, Nat.zero_le _, F1, W1, [], [], R1.step (R1.refl.make hD), S1.trans (R1.refl.make hD), Same.refl _, fun a o e => ?_, hDF, upd_same, .nil, hP⟩, ?_⟩
    · have e' := Fz_dn R1.stp.sub _ _ e
      rw [upd_ne fun z => by rw [z, hD] at e'; cases e']
      exact e'
    · rintro i m Hi ⟨rfl, hil, Fi, Wi, acc, accD, Ri, Si, sF, sB, hDi, hDo, hacc, hP⟩
      by_cases hlt : i < xs.length
      · obtain ⟨x, hx⟩ : ∃ x, xs[i]? = some x := ⟨xs[i], List.getElem?_eq_getElem hlt⟩
        obtain ⟨hgo, hy⟩ := hw.go i x Hi hx sB
        have hdrop : xs.drop i = x :: xs.drop (i + 1) := by
          rw [List.drop_eq_getElem_cons hlt]
          congr 1
          exact Option.some.inj ((List.getElem?_eq_getElem hlt).symm.trans hx)
        rw [hdrop] at hP
        simp only [dcGo] at hP
        refine .inr ⟨hgo, fun H' => ∃ m', m' = xs.length - (i + 1) ∧ i + 1 ≤ xs.length ∧ ∃ Fi Wi acc accD, Rel c F0 H0 ρ σ Fi H' Wi ∧ Stp c Wi F H Fi H' ∧ Same F1 Fi ∧ Same (Fz F1 H1 σ me) H' ∧ Fi Dd = none ∧ H' Dd = some (.dK acc) ∧ KvR c Fi acc accD ∧
          Pst c Wx σ F H (fun v u F' H' => ValOk c ρ σ H F' H' u v) Q (dcGo one (xs.drop (i + 1)) accD Wi), fun H' ⟨m', e, q⟩ => ⟨m', by omega, e, q⟩, fun u H2 hyu => ?_⟩
        obtain ⟨F2, S2, r2⟩ := Item.step Ri (hy u H2 hyu) sF
        have R2 := Ri.step S2
        have Rw := R2.wip ow
        have h1 : one x Wi = (ofO (bindP pt x (Z.wip ρ ow)) fun ρ' => (evA tst ρ' Wi).bind fun b W => if b = true then (ev kx ρ' W).bind fun k W => (ev vx ρ' W).bind fun v W => Out.ok (some (k.d, v.d)) W else .ok none W) := by rw [← hone]
        rw [h1] at hP
        cases hb : bindP pt x (Z.wip ρ ow) with
        | none => rw [hb] at hP; exact hP.elim
        | some ρ' =>
          rw [hb] at hP
          simp only [ofO] at hP
          refine gk Rw r2 hb fun σ2 R3 hl3 off own1 => ⟨by rw [wipe_eq hl3 off, wipe_wipe], ?_⟩
          have stay : ∀ {F4 H4 : Hp} {W4 : Dr}, Stp c W4 F2 H2 F4 H4 → Rel c F0 H0 ρ σ F4 H4 W4 ∧ Stp c W4 F H F4 H4 ∧ Same F1 F4 ∧ Same (Fz F1 H1 σ me) H4 ∧ F4 Dd = none ∧ H4 Dd = some (.dK acc) ∧ Same Fi F4 := fun {F4 H4 W4} S4 => by
            have S24 := S2.trans S4
            refine ⟨Ri.step S24, Si.trans S24, fun a o e => S24.f _ _ (sF _ _ e), fun a o e => ?_, S24.new _ hDi (.dK hDo), S24.h _ _ hDo hDdl nt_dK, S24.f⟩
            refine S24.h _ _ (sB _ _ e) (fun z => ?_) (by
              by_cases qa : AtS σ me a
              · rw [Fz_in qa] at e; exact (R1.at_ hme qa).2.2.1.nt e
              · rw [Fz_out qa] at e; exact R1.stp.nt _ _ e)
            by_cases qa : AtS σ me a
            · exact absurd z (R1.at_ hme qa).2.1
            · rw [Fz_out qa, R1.stp.av a z] at e; cases e
          refine ⟨F0, H0, ρ', F2, _, R3, ?_⟩
          cases hA : evA tst ρ' Wi with
          | stk => rw [hA] at hP; exact hP.elim
          | ex _ _ => rw [hA] at hP; exact hP.elim
          | ok b W3 =>
            rw [hA] at hP
            simp only [Out.bind] at hP
            rintro b' F3 H3 S3 rfl
            have R33 := R3.step S3
            cases b' with
            | false =>
              simp only [Bool.false_eq_true, if_false] at hP ⊢
              obtain ⟨q1, q2, q3, q4, q5, q6, q7⟩ := stay S3
              exact ⟨_, rfl, hlt, F3, W3, acc, accD, q1, q2, q3, q4, q5, q6, Paired.mapP hacc fun _ _ z => ⟨z.1, z.2.mono q7⟩, hP⟩
            | true =>
              simp only [if_true] at hP ⊢
              refine ⟨F0, H0, ρ', F3, W3, R33, ?_⟩
              cases hK : ev kx ρ' W3 with
              | stk => rw [hK] at hP; exact hP.elim
              | ex _ _ => rw [hK] at hP; exact hP.elim
              | ok kv W4 =>
                rw [hK] at hP
                simp only [Out.bind] at hP
                intro ku F4 H4 S4 V4
                have R4 := R33.step S4
                refine ⟨F0, H0, ρ', F4, W4, R4, ?_⟩
                cases hV : ev vx ρ' W4 with
                | stk => rw [hV] at hP; exact hP.elim
                | ex _ _ => rw [hV] at hP; exact hP.elim
                | ok vv W5 =>
                  rw [hV] at hP
                  simp only at hP
                  intro uu F5 H5 S5 V5
                  have R5 := R4.step S5
                  by_cases hz : kv.d.keyOk false = true ∧ vv.d.imm = true ∧ accD.length < cap
                  · rw [if_pos hz] at hP
                    obtain ⟨q1, q2, q3, q4, q5, q6, q7⟩ := stay (S3.trans (S4.trans S5))
                    have rk := val_imm R4 V4 (key_imm hz.1)
                    obtain ⟨kk, rfl, ek⟩ := key_of rk hz.1
                    have rv := val_imm R5 V5 hz.2.1
                    have hacc5 : KvR c F5 acc accD := Paired.mapP hacc fun _ _ z => ⟨z.1, z.2.mono q7⟩
                    have hput := kv_put keyD_inj' (k := kk) rv hacc5
                    rw [← ek] at hput
                    have nc : ∀ q, H5 Dd ≠ some (LamX.CodeO Dd q) := fun q z => by rw [q6] at z; cases z
                    have nc2 : ∀ q, H5 Dd ≠ some (.tup q) := fun q z => by rw [q6] at z; cases z
                    refine ⟨acc, kk, rfl, q6, by rw [kv_len hacc, ← cap_eq]; exact hz.2.2, _, rfl, hlt, F5, W5, _, _, R.setD q1 q5 hDs hDdl nc nc2, q2.setD q5 hDs hDdl nc nc2, q3, fun a o e => ?_, q5, upd_same, hput, hP⟩
                    rw [upd_ne fun z => ?_]
                    · exact q4 _ _ e
                    · subst z
                      by_cases qa : AtS σ me a
                      · obtain ⟨_, _, h3, h4⟩ := R.at_ hme qa
                        exact hDs (h3.thr h4)
                      · rw [Fz_out qa, hDF] at e; cases e
                  · rw [if_neg hz] at hP; exact hP.elim
      · have e : i = xs.length := by omega
        subst e
        rw [List.drop_length] at hP
        simp only [dcGo] at hP
        obtain ⟨h1, h2⟩ := kv_to hacc
        exact .inl ⟨hw.stop Hi sB, hP _ Fi Hi Si ⟨fun i hi => by simp [Vl.all] at hi, Dd, rfl, hDi, hDdl, hDs, acc, hDo, h1, by rw [Fz_nil]; exact h2⟩⟩
theorem x_dc {tg it kx vx : Expr} {ifs : List Expr} {scope : Scope} {own : List (Str × Nat)} {pt : Pat} {g : TG} {src tst ek ee : E} (n : Cn c Wx k X) (hi : PI X tg it (rdI c Wx src)) (gk : GOk c pt (own.map (·.2)) g) (ok : blkC X.N X.env.scope scope own = true)
    (hg : ∀ (s : Shared) (H : Hp) (C : Addr) (cl : List (Str × Addr)) (fp : List Addr), PG (X.blk s H scope (compEnvC scope cl C X.env) fp) tg g) (ht : ∀ (s : Shared) (H : Hp) (C : Addr) (cl : List (Str × Addr)) (fp : List Addr), PTs (X.blk s H scope (compEnvC scope cl C X.env) fp) ifs (rdA c WXF tst))
    (hk : ∀ (s : Shared) (H : Hp) (C : Addr) (cl : List (Str × Addr)) (fp : List Addr), PE (X.blk s H scope (compEnvC scope cl C X.env) fp) kx (rdE c WXF ek))
    (he : ∀ (s : Shared) (H : Hp) (C : Addr) (cl : List (Str × Addr)) (fp : List Addr), PE (X.blk s H scope (compEnvC scope cl C X.env) fp) vx (rdE c WXF ee)) (hs : ∀ x, foldedSetIterable it X.env x = pure x := by intro _; rfl) :
    PE X (.DictComp kx vx [⟨tg, it, ifs, 0⟩] scope pos) (rdE c Wx (.dc ek ee pt src tst (own.map (·.2)))) :=
  pe_wk (pe_dc n.calm n.nd hi (blkOk_by ok) hg ht hk he hs) fun σ H Q h => dc_ok n.calm n.nd hi (blkOk_by ok) gk h
end
end Z

namespace Z
open PySem PySem.Spec PyProof.Rows L2
open Classical
section
variable {c : Pm} {Wx : WX} {X : Cx} {fu n k : Nat} {W W' W1 W2 W3 : Dr} {F0 H0 F H F' H' F1 H1 F2 H2 F3 H3 Hs : Hp} {ρ ρ' : En} {σ σ' : L2.St} {u w : V} {x y v : Vl} {Q : VK} {us : List V} {vs : List Vl} {pos : Pos}
theorem Rel.un {i : Nat} (R : Rel c F0 H0 ρ σ F H W) : Rel c F0 H0 (ρ.set i .un) σ F H W := by
  refine ⟨by rw [List.length_set]; exact R.len, R.stp, fun j s e => ?_, fun j1 j2 d1 d2 p e1 e2 e3 e4 => ?_⟩
  · by_cases q : i = j
    · subst q
      have hl : i < ρ.length := by
        have := (List.getElem?_eq_some_iff.mp e).1
        rwa [List.length_set] at this
      rw [List.getElem?_set_self hl] at e
      cases e
      have hs : i < σ.length := R.len ▸ hl
      show σ[i]? ≠ none
      rw [List.getElem?_eq_getElem hs]
      exact fun z => nomatch z
    · rw [List.getElem?_set_ne q] at e
      exact R.slot j s e
  · have a : ∀ {j : Nat} {d' : D}, (ρ.set i .un)[j]? = some (.own d') → ρ[j]? = some (.own d') := fun {j d'} e => by
      by_cases q : i = j
      · subst q
        have hl : i < ρ.length := by
          have := (List.getElem?_eq_some_iff.mp e).1
          rwa [List.length_set] at this
        rw [List.getElem?_set_self hl] at e
        cases e
      · rwa [List.getElem?_set_ne q] at e
    exact R.dist j1 j2 d1 d2 p (a e1) (a e2) e3 e4
theorem Rel.kill (R : Rel c F0 H0 ρ σ F H W) : ∀ is : List Nat, Rel c F0 H0 (Z.wip ρ is) σ F H W
  | [] => R
  | i :: is => (R.kill is).un
theorem kl_ok {D : Ends} {b : S} {is js : List Nat} (h : rdS c Wx fu (.kl is b js) D σ H) : rdS c Wx fu b D σ H := by
  obtain ⟨F0, H0, ρ, F, W, R, hP⟩ := h
  refine ⟨F0, H0, Z.wip ρ is, F, W, R.kill is, ?_⟩
  simp only [evS] at hP
  revert hP
  cases evS fu b (Z.wip ρ is) W with
  | nx ρ' W' => exact fun h σ' F' H' R e => h σ' F' H' (R.kill js) e
  | bk ρ' W' => exact fun h σ' F' H' R e => h σ' F' H' (R.kill js) e
  | ct ρ' W' => exact fun h σ' F' H' R e => h σ' F' H' (R.kill js) e
  | rt v ρ W => exact fun h => h
  | ex x ρ W => exact fun h => h
  | stk => exact fun h => h
theorem z_kl (is js : List Nat) {st : Stmt} {b : S} (h : PS X st (rdS c Wx fu b)) : PS X st (rdS c Wx fu (.kl is b js)) := ps_wk h fun _ _ _ => kl_ok
theorem z_kls (is js : List Nat) {st : List Stmt} {b : S} (h : PSs X st (rdS c Wx fu b)) : PSs X st (rdS c Wx fu (.kl is b js)) := pss_wk h fun _ _ _ => kl_ok

def pdv (d : D) : PyData := d.pd.getD .none
def leD (a b : D) : Bool := PySem.W.dataLe false pdv a b
noncomputable def sortL (xs : List D) : List D := xs.mergeSort (PySem.W.dataLe false pdv)
/-- data that sorted takes -/
def SortOk (xs : List D) : Prop := (∀ x ∈ xs, ∃ p, x.pd = some p) ∧ PySem.W.AllAlike (xs.map pdv) ∧ PySem.W.Sortable (xs.map pdv)
def rSortD (c : Pm) : List V → Hp → VK → Prop := fun vs H Q => ∃ (a : Addr) (us : List V) (F : Hp) (xs : List D), vs = [.ref a] ∧ H a = some (.lst us) ∧ Same F H ∧ RepL c F us xs ∧ SortOk xs ∧ ∀ us' p, RepL c F us' (sortL xs) → H p = none → Q (.ref p) (upd H p (.lst us'))
theorem each_of_rep {R : Value → D → Prop} {F : Hp} (hR : ∀ v u d, RelV u v → Rep c F u d → R v d) : ∀ {us : List V} {vs : List Value} {xs : List D}, Vals us vs → RepL c F us xs → PySem.W.EachIs R vs xs
  | _, _, _, .nil, .nil => .nil
  | _, _, _, .cons r t, .cons r' t' => .cons (hR _ _ _ r r') (each_of_rep hR t t')
theorem rep_of_each {F : Hp} : ∀ {vs : List Value} {xs : List D}, PySem.W.EachIs (fun v d => ∃ u, RelV u v ∧ Rep c F u d) vs xs → ∃ us, Vals us vs ∧ RepL c F us xs
  | _, _, .nil => ⟨[], .nil, .nil⟩
  | _, _, .cons ⟨u, h1, h2⟩ t => by
    obtain ⟨us, h3, h4⟩ := rep_of_each t
    exact ⟨u :: us, .cons h1 h3, .cons h2 h4⟩
theorem EachIs.and {R S : Value → D → Prop} : ∀ {vs : List Value} {xs : List D}, PySem.W.EachIs R vs xs → (∀ v x, x ∈ xs → R v x → S v x) → PySem.W.EachIs S vs xs
  | _, _, .nil, _ => .nil
  | _, _, .cons h t, k => .cons (k _ _ List.mem_cons_self h) (EachIs.and t fun v x hx => k v x (List.mem_cons_of_mem _ hx))
theorem cr_sortedD (hk : X.K = c.K) (hu : X.A.units + 64 < cLine) : CallR X (.builtin "sorted") (rSortD c) := by
  intro pins s σ H vs us Q I r h
  obtain ⟨a, zs, F, xs, rfl, hs, sF, rx, ⟨hp, hal, hso⟩, q⟩ := h
  obtain ⟨its, rv, hl, hz⟩ := I.list (a := a) (xs := zs) (.inl (.inl hs))
  rw [Vals.ref1 r]
  have e := each_of_rep (c := c) (F := F) (R := fun v d => ∃ u, RelV u v ∧ Rep c F u d) (fun v u d h1 h2 => ⟨u, h1, h2⟩) rv rx
  refine PySem.W.sorted_data (β := D) (enc := pdv) (bs := xs) (R := fun v d => ∃ u, RelV u v ∧ Rep c F u d) hl.isList e ?_ hal hso (by rw [← rx.length]; exact hz) (fun b hb => ?_) fun out ho eo => ?_
  · refine EachIs.and e fun v x hx ⟨u, h1, h2⟩ => ?_
    obtain ⟨p, hp⟩ := hp x hx
    have hd : Dp X.K H u p := by rw [hk]; exact dp_mono sF (rep_dp _ _ _ _ hp h2)
    obtain ⟨as, ha⟩ := Dp.reads I p u v hd h1
    refine ⟨as, ?_⟩
    unfold pdv; rw [hp]; exact ha
  · obtain ⟨p, hp⟩ := hp b hb
    have hd := (pyN_ok _ _ _ hp).2
    have : pdv b = p := by unfold pdv; rw [hp]; rfl
    rw [this]
    omega
  · obtain ⟨us', k1, k2⟩ := rep_of_each eo
    obtain ⟨ep, he'⟩ := PyProof.Rows.sortedAll_at s.heap its out.toArray
    have hlen : us'.length ≤ sizeLine := by
      rw [k1.length, ho, ← rx.length]
      exact hz
    exact ⟨.ref _, upd H (s.heap.objs.size + 1) (.lst us'), I.laid (t' := s.toks) (fun _ _ => PyProof.Rows.sortedAll_old) (Nat.le_succ _) ⟨hlen, out, ep, k1, he'⟩, rfl, q _ _ k2 (I.hok.fresh (Nat.le_succ _))⟩
/-- sorted(d), d's keys tuples -/
def rSortDT (c : Pm) : List V → Hp → VK → Prop := fun vs H Q => ∃ (a : Addr) (ks : List (List Key × V)), vs = [.ref a] ∧ Rd H a (.dT ks) ∧ SortOk (ks.map fun q => keyT q.1) ∧ ∀ us' bs p, IsKeys H ks bs → (∀ F : Hp, (∀ b ∈ bs, F b = H b) → RepL c F us' (sortL (ks.map fun q => keyT q.1))) → H p = none → Q (.ref p) (upd H p (.lst us'))
theorem repl_keys : ∀ {F : Hp} (k : List Key), RepL c F (k.map kV) (k.map keyD)
  | _, [] => .nil
  | _, .inl i :: k => .cons (.int i) (repl_keys k)
  | _, .inr i :: k => .cons (.str i) (repl_keys k)
theorem keys_rep {F : Hp} : ∀ {ks : List (List Key × V)} {bs : List Addr}, IsKeys H ks bs → (∀ b ∈ bs, F b = H b) → RepL c F (bs.map V.ref) (ks.map fun q => keyT q.1)
  | _, _, .nil, _ => .nil
  | _, _, .cons h t, e => .cons (.tup (by rw [e _ List.mem_cons_self]; exact h) (repl_keys _)) (keys_rep t fun b hb => e b (List.mem_cons_of_mem _ hb))
theorem cr_sortedDT (hk : X.K = c.K) (hu : X.A.units + 64 < cLine) (hc : X.calm = true) : CallR X (.builtin "sorted") (rSortDT c) := by
  intro pins s σ H vs us Q I r h
  obtain ⟨d, kvs, rfl, hd, ⟨hp, hal, hso⟩, q⟩ := h
  rw [Vals.ref1 r]
  obtain ⟨z, hs, ks, pr, o, es, ep, ho, hx, hdt, he, hn⟩ := (show ObjOk X.prog X.w H s.heap d (.dT kvs) from hd.ok I.hok)
  have l1 : es.size = ks.length := size_of_entries he
  have l2 : kvs.length = ks.length := Paired.len pr
  refine Calls.call_function_entry PyProof.Rows.kind_sorted PyProof.Rows.plain_sorted PyProof.Rows.entry_sorted (PyProof.Rows.args_sorted1 _) ?_
  unfold Builtin.«sorted»
  refine wpAny_bind (m := checkCount "sorted" 1 1 _) (wpAny_pure ?_)
  refine wpAny_bind (PySem.W.kdu_collect (A := X.A.in1) (kdl_raw hs hx hdt) (I.ok.hd hc) ho (by omega) fun h' tk acc kp it => ?_)
  have ea : acc.toList = ks.map fun x => Value.ref x.2.1 := by
    have hl : acc.toList.length = ks.length := by rw [Array.length_toList, it.1]; exact l1
    apply List.ext_getElem?
    intro j
    rw [List.getElem?_map]
    cases hj : acc.toList[j]? with
    | none =>
      have h1 := List.getElem?_eq_none_iff.mp hj
      rw [List.getElem?_eq_none (by omega)]
      rfl
    | some v =>
      obtain ⟨en, hen, hv⟩ := it.2 j v (by rw [← Array.getElem?_toList]; exact hj)
      have qe := entry_at he j
      rw [hen] at qe
      cases hb : ks[j]? with
      | none =>
        rw [hb] at qe
        exact nomatch (show some en = none from qe)
      | some b =>
        rw [hb] at qe
        have e2 : en = entryOfKey (tupleKind (mixKind X.prog X.w)) b := Option.some.inj qe
        rw [hv, e2]
        rfl
  generalize hbs : ks.map (fun x => x.2.1) = bs
  have eb : acc.toList = bs.map Value.ref := by rw [ea, ← hbs, List.map_map]; rfl
  have ik : IsKeys H kvs bs := hbs ▸ isKeys_of pr
  generalize hF : (fun a => if a ∈ bs then H a else none : Hp) = F
  have hFb : ∀ b ∈ bs, F b = H b := fun b hb => by rw [← hF]; exact if_pos hb
  have sF : Same F H := fun a o e => by
    rw [← hF] at e
    by_cases m : a ∈ bs
    · simpa [m] using e
    · simp [m] at e
  have rx := keys_rep (c := c) (F := F) ik hFb
  have rv : Vals (bs.map V.ref) acc.toList := by rw [eb]; exact vals_refs _
  generalize hvs : acc.toList = vs at rv
  generalize hxs : (kvs.map fun q => keyT q.1) = xs at rx hp hal hso q
  have hz : vs.length ≤ sizeLine := by rw [← rv.length, rx.length, ← hxs, List.length_map]; exact z
  have I1 : Inv X pins σ H { s with heap := h', toks := tk } := I.kept kp
  refine wpAny_bind (wpAny_newList ?_ hz)
  have hoL : (h'.push (seqObj "list" vs.toArray 0)).get? h'.objs.size = some (seqObj "list" vs.toArray 0) := Heap.get?_push_size _ rfl
  show wpAny _ _ _ _ _ { s with heap := h'.push (seqObj "list" vs.toArray 0), toks := tk }
  have e := each_of_rep (c := c) (F := F) (R := fun v d => ∃ u, RelV u v ∧ Rep c F u d) (fun v u d h1 h2 => ⟨u, h1, h2⟩) rv rx
  have keep : ∀ b o, h'.get? b = some o → (PySem.W.sortingHeap (h'.push (seqObj "list" vs.toArray 0)) h'.objs.size vs).get? b = some o := fun b o e => by
    have hb : b < h'.objs.size := Heap.lt_size e
    exact PySem.W.sortingHeap_old (Nat.ne_of_lt hb) (Heap.get?_push_of_some _ e)
  have er : PySem.W.EachIs (fun v b => ∃ as, Reads (PySem.W.sortingHeap (h'.push (seqObj "list" vs.toArray 0)) h'.objs.size vs) v (pdv b) as) vs xs := by
    refine EachIs.and e fun v x hx ⟨u, h1, h2⟩ => ?_
    obtain ⟨p, hp⟩ := hp x hx
    have hd : Dp X.K H u p := by rw [hk]; exact dp_mono sF (rep_dp _ _ _ _ hp h2)
    obtain ⟨as, ha⟩ := Dp.reads I1 p u v hd h1
    refine ⟨as, PyProof.Rows.Reads.keeps keep ?_⟩
    unfold pdv; rw [hp]; exact ha
  refine wpAny_bind (wpAny_holding (wpAny_call_entry PyProof.Rows.slot_list_sort ⟨_, hoL, rfl⟩ PyProof.Rows.entry_list_sort
    (PySem.W.list_sort_vals (κ := PySem.W.dataKind (PySem.W.sortingHeap (h'.push (seqObj "list" vs.toArray 0)) h'.objs.size vs) (xs.map pdv)) (s := { s with heap := h'.push (seqObj "list" vs.toArray 0), toks := tk }) hoL
      (PySem.W.SortsAt.data (s := { s with heap := PySem.W.sortingHeap (h'.push (seqObj "list" vs.toArray 0)) h'.objs.size vs, toks := tk }) (PySem.W.each_map (R := fun v d => ∃ as, Reads (PySem.W.sortingHeap (h'.push (seqObj "list" vs.toArray 0)) h'.objs.size vs) v d as) pdv er) hal hso (PySem.W.bound_map (enc := pdv) fun b hb => ?_)) hz ⟨_, rfl, ?_⟩) (PyProof.Rows.args_list_sort _)))
  · obtain ⟨p, hp⟩ := hp b hb
    have hd := (pyN_ok _ _ _ hp).2
    have : pdv b = p := by unfold pdv; rw [hp]; rfl
    rw [this]
    show X.A.units + 2 + p.depth < cLine
    omega
  · have eo := PySem.W.sortVals_data (enc := pdv) (R := fun v d => ∃ u, RelV u v ∧ Rep c F u d) false e er hal
    obtain ⟨us', k1, k2⟩ := rep_of_each eo
    obtain ⟨e', he'⟩ := PyProof.Rows.sortedHeap_at (vs := vs) (out := (PySem.W.sortVals (PySem.W.dataKind (PySem.W.sortingHeap (h'.push (seqObj "list" vs.toArray 0)) h'.objs.size vs) (xs.map pdv)) false vs vs).toArray) hoL
    have hlen : us'.length ≤ sizeLine := by
      rw [k1.length, PySem.W.sortVals_length false rfl]
      exact hz
    refine wpAny_pure ⟨_, rfl, .ref h'.objs.size, upd H h'.objs.size (.lst us'), I1.laid (t' := tk) (fun b u e => ?_) (Nat.le_refl _)
      (show ObjOk X.prog X.w _ _ _ (.lst us') from ⟨hlen, _, e', k1, he'⟩), rfl, q us' bs _ ik (fun F2 hF2 => k2.mono fun a o e => by
      rw [← hF] at e
      by_cases m : a ∈ bs
      · rw [hF2 a m]; simpa [m] using e
      · simp [m] at e) (I1.hok.fresh (Nat.le_refl _))⟩
    have hb : b < h'.objs.size := Heap.lt_size e
    rw [PyProof.Rows.sortedHeap_old (Nat.ne_of_lt hb) (by rw [size_push']; exact Nat.lt_succ_of_lt hb)]
    exact Heap.get?_push_of_some _ e
noncomputable def sortAnyD : List D → Option (Bool × D)
  | [.lst xs] => if SortOk xs then some (true, .lst (sortL xs)) else none
  | [.dic false kvs] => sortedDD [.dic false kvs]
  | [.dic true kvs] => if SortOk (kvs.map (·.1)) then some (true, .lst (sortL (kvs.map (·.1)))) else none
  | _ => none
theorem isKeys_tup : ∀ {ks : List (List Key × V)} {bs : List Addr}, IsKeys H ks bs → ∀ b ∈ bs, ∃ xs, H b = some (.tup xs)
  | _, _, .nil, b, hb => by simp at hb
  | _, _, .cons h t, b, hb => (List.mem_cons.mp hb).elim (fun e => e ▸ ⟨_, h⟩) (isKeys_tup t b)
/-- tuples that stand there come into F -/
theorem Stp.addT {bs : List Addr} (S : Stp c W F H F H) (hb : ∀ b ∈ bs, ∃ xs, H b = some (.tup xs)) : Stp c W F H (fun a => if a ∈ bs then H a else F a) H := by
  have av : ∀ a ∈ c.mv, a ∉ bs := fun a ha m => by
    obtain ⟨xs, e⟩ := hb a m
    unfold Pm.mv at ha
    rcases List.mem_append.mp ha with ha | ha
    · rcases S.dr with h | ⟨a0, a1, h, n, e0, e1⟩
      · rw [h] at ha; cases ha
      · rw [h] at ha
        simp only [List.mem_cons, List.not_mem_nil, or_false] at ha
        rcases ha with rfl | rfl
        · rw [e] at e0; cases e0
        · rw [e] at e1; cases e1
    · obtain ⟨p, hp, rfl⟩ := List.mem_map.mp ha
      obtain ⟨ps, e1, _⟩ := S.tabs p hp
      rw [e] at e1
      cases e1
  refine ⟨fun a o e => ?_, fun a o e => ?_, fun _ _ e _ _ => e, fun a e t => ?_, fun a o e => ?_, fun a ha => ?_, S.dr, fun hd => ?_, S.tabs⟩
  · by_cases m : a ∈ bs
    · simp only [if_pos m]; exact S.sub _ _ e
    · simp only [if_neg m]; exact e
  · by_cases m : a ∈ bs
    · simpa only [if_pos m] using e
    · simp only [if_neg m] at e; exact S.sub _ _ e
  · have m : a ∉ bs := fun m => by
      obtain ⟨xs, e1⟩ := hb a m
      obtain ⟨o, e2, ob⟩ := t
      rw [e1] at e2
      cases e2
      exact ob.2 _ rfl
    simp only [if_neg m]; exact e
  · by_cases m : a ∈ bs
    · simp only [if_pos m] at e
      obtain ⟨xs, e1⟩ := hb a m
      rw [e1] at e
      cases e
      exact nt_tup
    · simp only [if_neg m] at e; exact S.nt _ _ e
  · simp only [if_neg (av a ha)]; exact S.av a ha
  · have e := S.cl hd
    by_cases m : c.d2 ∈ bs
    · simp only [if_pos m]; exact S.sub _ _ e
    · simp only [if_neg m]; exact e
theorem x_sortedA {a : Expr} {ea : E} {p : Pos} (n : Cn c Wx k X) (hm : X.mg "sorted" = none) (ha : PA X [a] (rdL c Wx ea)) (hg : Gl X "sorted" := by rfl) (he : starEach [a] X.env = (false, eval a X.env) :: starEach [] X.env := by rfl) (hpl : (backTo pos (starEach [] X.env)).any (·.1) = false := by rfl) :
    PE X (.Call (.Name "sorted" p) [a] [] pos) (rdE c Wx (.call (pureG sortAnyD) ea)) := by
  refine x_bltB n (fun vs H Q E h => ?_) (callR_or (cr_sortedD (c := c) n.hk n.hu) (callR_or (call_sortedD n.calm) (cr_sortedDT (c := c) n.hk n.hu n.calm))) boot_sorted' hm ha hg (by decide) (by decide) he hpl
  obtain ⟨F, xs, W, r, rr, S, hf, hQ⟩ := spG_pure h
  match xs, rr, hf with
  | [.lst zs], .cons r1 .nil, hf =>
    simp only [sortAnyD] at hf
    split at hf <;> cases hf
    rename_i hl
    obtain ⟨p, ws, rfl, e1, e2⟩ := r1.lstI
    exact .inl ⟨p, ws, F, zs, rfl, S.sub _ _ e1, S.sub, e2, hl, fun us' q r' hp => fin_newL S r' hQ q hp⟩
  | [.dic false kvs], .cons r1 .nil, hf =>
    simp only [sortAnyD, sortedDD, Option.bind_eq_some_iff] at hf
    obtain ⟨ks, hk, hf⟩ := hf
    split at hf <;> cases hf
    rename_i hl
    cases r1 with
    | dicK h1 h2 h3 => exact .inr (.inl ⟨_, _, ks, rfl, Rd.mono S.sub h1, keys_strs (kv_of h2 h3) hk, hl, fun ys q p1 p2 hp => by
        rw [sortS_eq p1 p2] at hQ
        exact fin_newL S (rep_strs ys) hQ q hp⟩)
  | [.dic true kvs], .cons r1 .nil, hf =>
    simp only [sortAnyD] at hf
    split at hf <;> cases hf
    rename_i hl
    cases r1 with
    | dicT h1 h2 h3 =>
      rename_i ks
      have ek : kvs.map (·.1) = ks.map fun q => keyT q.1 := h2
      refine .inr (.inr ⟨_, _, rfl, Rd.mono S.sub h1, by rw [← ek]; exact hl, fun us' bs q ik r' hp => ?_⟩)
      have S2 := S.addT (isKeys_tup ik)
      have r2 : RepL c (fun a => if a ∈ bs then H a else F a) us' (sortL (kvs.map (·.1))) := by
        rw [ek]
        exact r' _ fun b hb => if_pos hb
      have hq : (fun a => if a ∈ bs then H a else F a : Hp) q = none := by
        cases e : (fun a => if a ∈ bs then H a else F a : Hp) q with
        | none => rfl
        | some o =>
          have := S2.sub _ _ e
          rw [hp] at this
          cases this
      exact hQ _ _ _ (S2.trans (S2.refl.make hp)) ⟨q, rfl, hq, fun h => S2.sm h hp, .of hp, us', upd_same, r2⟩
/-- k in d as a test -/
theorem rdT_tv {e : E} {Q : Bool → Hp → Prop} (h : rdT c Wx (.tv e) σ H Q) : rdE c Wx e σ H fun v H' => ∃ b, v = .bl b ∧ Q b H' := by
  obtain ⟨F0, H0, ρ, F, W, R, hP⟩ := h
  simp only [evT] at hP
  refine rd_e R R.refl hP fun x W1 u F1 H1 S1 _ V1 R1 hP => ?_
  obtain ⟨b, hb, hP⟩ := ofO_some hP
  have hx : x.d = .bl b := by
    cases e : x.d <;> rw [e] at hb <;> simp only [Z.D.isBl] at hb <;> cases hb
    rfl
  exact ⟨b, V1.bl R1 hx, hP b F1 H1 S1 rfl⟩
theorem y_din {neg : Bool} {i o : Expr} {eo ei : E} {op : CmpOp} (n : Cn c Wx k X) (hi : PE X i (rdE c Wx ei)) (ho : PE X o (rdE c Wx eo)) (he : op = (if neg then .NotIn else .In) := by rfl) (hm : behindInMarks op o = false := by first | exact nobehind _ (by decide) (by decide) | rfl) : PT X (.Compare i [op] [o] pos) (rdT c Wx (.tv (.call (pureG (dinD neg)) (.cons ei (.cons eo .nil))))) := by
  have fin : ∀ σ H Q, rdT c Wx (.tv (.call (pureG (dinD neg)) (.cons ei (.cons eo .nil)))) σ H Q → rdE c Wx ei σ H fun y H1 => rdE c Wx eo σ H1 fun x H2 => ∃ a o, x = .ref a ∧ DGet H2 a y o ∧ ∃ b, V.bl (o.isSome != neg) = .bl b ∧ Q b H2 := fun σ H Q h => rdE_mono (call2_ok (rdT_tv h)) fun y H1 h2 => rdE_mono h2 fun x H2 h3 => by
    obtain ⟨F, xs, W, r, rr, S, hf, hQ⟩ := spG_pure h3
    match xs, rr, hf with
    | [kd, .dic t kvs], .cons r2 (.cons (v := v) r1 .nil), hf =>
      simp only [dinD] at hf
      split at hf <;> cases hf
      rename_i hk
      obtain ⟨a, rfl⟩ : ∃ a, v = .ref a := by cases r1 <;> exact ⟨_, rfl⟩
      obtain ⟨_, o, g, g1, g2⟩ := dget_rep S.sub r1 r2 hk
      have : o.isSome = (dGet kvs kd).isSome := by
        cases e : dGet kvs kd with
        | none => rw [g2 e]; rfl
        | some d => obtain ⟨w, rfl, _⟩ := g1 d e; rfl
      exact ⟨a, o, rfl, g, hQ _ F H2 S (by rw [this]; exact .bl _)⟩
  subst he
  cases neg
  · exact pt_wk (pt_cmp (pc_din (by have := n.hu; omega) hi ho) hm) fun σ H Q h => rdE_mono (fin σ H Q h) fun y H1 h2 => rdE_mono h2 fun x H2 ⟨a, o, e, g, q⟩ => ⟨a, o, e, g, by simpa using q⟩
  · exact pt_wk (pt_cmp (pc_dnotin (by have := n.hu; omega) hi ho) hm) fun σ H Q h => rdE_mono (fin σ H Q h) fun y H1 h2 => rdE_mono h2 fun x H2 ⟨a, o, e, g, q⟩ => ⟨a, o, e, g, by simpa using q⟩
end
end Z

namespace Z
open PySem PySem.Spec PyProof.Rows L2
open Classical
def Pin (o : Obj) : HO := .frz o (.ext fun _ => True)
noncomputable def pinned (L : List Addr) (h : Heap) (H : Hp) : Hp := fun b => if b ∈ L then (h.get? b).map Pin else H b
noncomputable def loose (L : List Addr) (H : Hp) : Hp := fun b => if b ∈ L then none else H b
noncomputable def repin (L : List Addr) (H0 H : Hp) : Hp := fun b => if b ∈ L then H0 b else H b
section
variable {P : Program} {w : World} {L : List Addr} {h h' base : Heap} {H H' HZ : Hp} {a b : Addr} {o : HO} {outer : List Env} {K : PySem.W.Frag} {mg : Str → Option Value} {A : Around} {s s' : Shared} {Q Q' : VK} {u : Value} {E : XK}
theorem pinned_in (hb : b ∈ L) : pinned L h H b = (h.get? b).map Pin := if_pos hb
theorem pinned_out (hb : b ∉ L) : pinned L h H b = H b := if_neg hb
theorem loose_in (hb : b ∈ L) : loose L H b = none := if_pos hb
theorem loose_out (hb : b ∉ L) : loose L H b = H b := if_neg hb
theorem repin_in (hb : b ∈ L) : repin L H H' b = H b := if_pos hb
theorem repin_out (hb : b ∉ L) : repin L H H' b = H' b := if_neg hb
theorem pin_ok {o : Obj} (e : h.get? a = some o) : ObjOk P w H h a (Pin o) := ⟨e, trivial, ⟨o, e⟩, fun _ _ _ _ => trivial⟩
/-- what may be pinned -/
structure Pb (L : List Addr) (outer : List Env) (base h : Heap) (H : Hp) : Prop where
  no : ∀ b ∈ L, H b = none
  at_ : ∀ b ∈ L, ∃ o, h.get? b = some o
  ba : ∀ b ∈ L, base.get? b = none
  fr : ∀ b ∈ L, b ∉ frs outer
theorem Pb.pin (p : Pb L outer base h H) (hb : b ∈ L) : ∃ o, h.get? b = some o ∧ pinned L h H b = some (Pin o) := by
  obtain ⟨o, e⟩ := p.at_ b hb
  exact ⟨o, e, by rw [pinned_in hb, e]; rfl⟩
theorem Pb.out (p : Pb L outer base h H) (e : H b = some o) : b ∉ L := fun hb => by rw [p.no b hb] at e; cases e
theorem Pb.up (p : Pb L outer base h H) (e : H b = some o) : pinned L h H b = some o := (pinned_out (p.out e)).trans e
theorem hok_pinned (x : HOk P w H h) (p : Pb L outer base h H) : HOk P w (pinned L h H) h := fun a o e => by
  by_cases ha : a ∈ L
  · obtain ⟨ob, e1, e2⟩ := p.pin ha
    rw [e2] at e
    cases e
    exact pin_ok e1
  · rw [pinned_out ha] at e
    exact (x a o e).stay (fun _ _ _ q => q) (fun b q => p.up q) fun b xs q => p.up q
theorem env0_pinned (e0 : Env0 P w K mg base A outer s H) (p : Pb L outer base s.heap H) : Env0 P w K mg base A outer s (pinned L s.heap H) :=
  ⟨e0.frames, e0.mod, fun b o e => ⟨(e0.bs b o e).1, by rw [pinned_out fun hb => by rw [p.ba b hb] at e; cases e]; exact (e0.bs b o e).2⟩, e0.bsz, e0.funs, fun b hb => by rw [pinned_out fun z => p.fr b z hb]; exact e0.frf b hb, hok_pinned e0.hok p, e0.bare⟩
/-- the pins are taken away -/
theorem ce_loose (p : Pb L outer base s.heap H) (hQ : ∀ v HZ, (∀ b ∈ L, HZ b = pinned L s.heap H b) → Q' v HZ → Q v (loose L HZ)) (hc : CE outer P w (pinned L s.heap H) s Q' u s') : CE outer P w H s Q u s' := by
  obtain ⟨v, HZ, os, bare, un, hok, r, q⟩ := hc
  have pk : ∀ b ∈ L, HZ b = pinned L s.heap H b := fun b hb => by
    obtain ⟨o, e1, e2⟩ := p.pin hb
    rw [e2]
    exact un.frzs b o _ e2
  have pz : ∀ b ∈ L, ∃ o, s.heap.get? b = some o ∧ HZ b = some (Pin o) := fun b hb => by
    obtain ⟨o, e1, e2⟩ := p.pin hb
    exact ⟨o, e1, (pk b hb).trans e2⟩
  have same : ∀ b ∈ L, ∀ o, s.heap.get? b = some o → s'.heap.get? b = some o := fun b hb o e => by
    obtain ⟨o', e1, e2⟩ := pz b hb
    rw [e1] at e
    cases e
    exact (show s'.heap.get? b = some _ ∧ _ from hok b _ e2).1
  have out : ∀ b o, HZ b = some o → (∀ q, o ≠ Pin q) → b ∉ L := fun b o e n hb => by
    obtain ⟨o', _, e2⟩ := pz b hb
    rw [e2] at e
    cases e
    exact n _ rfl
  have dn : ∀ b o, HZ b = some o → (∀ q, o ≠ Pin q) → loose L HZ b = some o := fun b o e n => (loose_out (out b o e n)).trans e
  refine ⟨v, loose L HZ, os, bare, ⟨fun b o e n hb hx => ?_, fun b o e n hb hx => ?_, fun b o e n hx => ?_, un.there, fun b xs e => ?_, fun b o u e => ?_, fun b ps e => ?_⟩, fun a o e => ?_, r, hQ v HZ pk q⟩
  · by_cases z : b ∈ L
    · exact same b z o e
    · exact un.keep b o e ((pinned_out z).trans n) hb hx
  · exact un.slot b o e ((pinned_out fun z => p.fr b z hb).trans n) hb hx
  · by_cases z : b ∈ L
    · exact loose_in z
    · exact (loose_out z).trans (un.free b o e ((pinned_out z).trans n) hx)
  · exact (loose_out (p.out e)).trans (un.tups b xs (p.up e))
  · exact (loose_out (p.out e)).trans (un.frzs b o u (p.up e))
  · obtain ⟨m, e'⟩ := un.tbls b ps (p.up e)
    exact ⟨m, (loose_out (p.out e)).trans e'⟩
  · by_cases z : a ∈ L
    · rw [loose_in z] at e; cases e
    · rw [loose_out z] at e
      exact (hok a o e).stay (fun _ _ _ q => q) (fun b q => dn b _ q fun _ => HO.noConfusion) fun b xs q => dn b _ q fun _ => HO.noConfusion
theorem env0_loose (e0 : Env0 P w K mg base A outer s H) (hL : ∀ b ∈ L, ∃ o, H b = some (Pin o)) : Env0 P w K mg base A outer s (loose L H) := by
  have dn : ∀ b o, H b = some o → (∀ q, o ≠ Pin q) → loose L H b = some o := fun b o e n => (loose_out fun z => by
    obtain ⟨o', e2⟩ := hL b z
    rw [e2] at e
    cases e
    exact n _ rfl).trans e
  have no : ∀ b, H b = none → loose L H b = none := fun b e => by
    unfold loose; split
    · rfl
    · exact e
  refine ⟨e0.frames, e0.mod, fun b o e => ⟨(e0.bs b o e).1, no b (e0.bs b o e).2⟩, e0.bsz, e0.funs, fun b hb => no b (e0.frf b hb), fun a o e => ?_, e0.bare⟩
  by_cases z : a ∈ L
  · rw [loose_in z] at e; cases e
  · rw [loose_out z] at e
    exact (e0.hok a o e).stay (fun _ _ _ q => q) (fun b q => dn b _ q fun _ => HO.noConfusion) fun b xs q => dn b _ q fun _ => HO.noConfusion
theorem ce_repin (e0 : Env0 P w K mg base A outer s H) (hL : ∀ b ∈ L, ∃ o, H b = some (Pin o)) (hc : CE outer P w (loose L H) s (fun v H' => (∀ b ∈ L, H' b = none) → Q v (repin L H H')) u s') : CE outer P w H s Q u s' := by
  obtain ⟨v, H', os, bare, un, hok, r, q⟩ := hc
  have at_ : ∀ b ∈ L, ∃ o, H b = some (Pin o) ∧ s.heap.get? b = some o := fun b hb => by
    obtain ⟨o, e⟩ := hL b hb
    exact ⟨o, e, (show s.heap.get? b = some o ∧ _ from e0.hok b _ e).1⟩
  have nf : ∀ b ∈ L, b ∉ frs outer := fun b hb z => by
    obtain ⟨o, e⟩ := hL b hb
    rw [e0.frf b z] at e; cases e
  have same : ∀ b ∈ L, ∀ o, s.heap.get? b = some o → s'.heap.get? b = some o := fun b hb o e => un.keep b o e (loose_in hb) (nf b hb) (by simp)
  have no : ∀ b ∈ L, H' b = none := fun b hb => by
    obtain ⟨o, _, e⟩ := at_ b hb
    exact un.free b o e (loose_in hb) (by simp)
  have out : ∀ b o, H b = some o → (∀ q, o ≠ Pin q) → b ∉ L := fun b o e n hb => by
    obtain ⟨o', e2⟩ := hL b hb
    rw [e2] at e
    cases e
    exact n _ rfl
  have outN : ∀ b, H b = none → b ∉ L := fun b e hb => by
    obtain ⟨o', e2⟩ := hL b hb
    rw [e2] at e; cases e
  refine ⟨v, repin L H H', os, bare, ⟨fun b o e n hb hx => ?_, fun b o e n hb hx => ?_, fun b o e n hx => ?_, un.there, fun b xs e => ?_, fun b o u e => ?_, fun b ps e => ?_⟩, fun a o e => ?_, r, q no⟩
  · exact un.keep b o e ((loose_out (outN b n)).trans n) hb hx
  · exact un.slot b o e ((loose_out (outN b n)).trans n) hb hx
  · exact (repin_out (outN b n)).trans (un.free b o e ((loose_out (outN b n)).trans n) hx)
  · have z := out b _ e fun _ => HO.noConfusion
    exact (repin_out z).trans (un.tups b xs ((loose_out z).trans e))
  · by_cases z : b ∈ L
    · exact (repin_in z).trans e
    · exact (repin_out z).trans (un.frzs b o u ((loose_out z).trans e))
  · have z := out b _ e fun _ => HO.noConfusion
    obtain ⟨m, e'⟩ := un.tbls b ps ((loose_out z).trans e)
    exact ⟨m, (repin_out z).trans e'⟩
  · by_cases z : a ∈ L
    · rw [repin_in z] at e
      obtain ⟨ob, e1, e2⟩ := at_ a z
      rw [e1] at e
      cases e
      exact pin_ok (same a z ob e2)
    · rw [repin_out z] at e
      have up : ∀ b o, H' b = some o → repin L H H' b = some o := fun b o q => (repin_out fun hb => by rw [no b hb] at q; cases q).trans q
      exact (hok a o e).stay (fun _ _ _ q => q) (fun b q => up b _ q) fun b xs q => up b _ q
theorem cx_repin {u : Value} (e0 : Env0 P w K mg base A outer s H) (hL : ∀ b ∈ L, ∃ o, H b = some (Pin o)) (hc : L2.CX P w outer (loose L H) s (fun cls d H' => (∀ b ∈ L, H' b = none) → E cls d (repin L H H')) u s') : L2.CX P w outer H s E u s' := by
  obtain ⟨a, B, H', cls, d, rfl, fl, hok, ub, na, os, ag, hE⟩ := hc
  have at_ : ∀ b ∈ L, ∃ o, H b = some (Pin o) ∧ s.heap.get? b = some o := fun b hb => by
    obtain ⟨o, e⟩ := hL b hb
    exact ⟨o, e, (show s.heap.get? b = some o ∧ _ from e0.hok b _ e).1⟩
  have nf : ∀ b ∈ L, b ∉ frs outer := fun b hb z => by
    obtain ⟨o, e⟩ := hL b hb
    rw [e0.frf b z] at e; cases e
  have same : ∀ b ∈ L, ∀ o, s.heap.get? b = some o → B.get? b = some o := fun b hb o e => ub.keep b o e (loose_in hb) (nf b hb)
  have no : ∀ b ∈ L, H' b = none := fun b hb => by
    obtain ⟨o, _, e⟩ := at_ b hb
    exact ub.free b o e (loose_in hb)
  have out : ∀ b o, H b = some o → (∀ q, o ≠ Pin q) → b ∉ L := fun b o e n hb => by
    obtain ⟨o', e2⟩ := hL b hb
    rw [e2] at e
    cases e
    exact n _ rfl
  have outN : ∀ b, H b = none → b ∉ L := fun b e hb => by
    obtain ⟨o', e2⟩ := hL b hb
    rw [e2] at e; cases e
  have naL : a ∉ L := fun hb => by
    obtain ⟨o, _, e⟩ := at_ a hb
    have := same a hb o e
    rw [fl.2.1] at this
    cases this
  refine ⟨a, B, repin L H H', cls, d, rfl, fl, fun a o e => ?_, ⟨fun b o e n hb => ?_, ub.slot, fun b o e n => ?_, ub.there, fun b xs e => ?_, fun b o u e => ?_, fun b ps e => ?_⟩, (repin_out naL).trans na, os, ag, hE no⟩
  · by_cases z : a ∈ L
    · rw [repin_in z] at e
      obtain ⟨ob, e1, e2⟩ := at_ a z
      rw [e1] at e
      cases e
      exact pin_ok (same a z ob e2)
    · rw [repin_out z] at e
      have up : ∀ b o, H' b = some o → repin L H H' b = some o := fun b o q => (repin_out fun hb => by rw [no b hb] at q; cases q).trans q
      exact (hok a o e).stay (fun _ _ _ q => q) (fun b q => up b _ q) fun b xs q => up b _ q
  · exact ub.keep b o e ((loose_out (outN b n)).trans n) hb
  · exact (repin_out (outN b n)).trans (ub.free b o e ((loose_out (outN b n)).trans n))
  · have z := out b _ e fun _ => HO.noConfusion
    exact (repin_out z).trans (ub.tups b xs ((loose_out z).trans e))
  · by_cases z : b ∈ L
    · exact (repin_in z).trans e
    · exact (repin_out z).trans (ub.frzs b o u ((loose_out z).trans e))
  · have z := out b _ e fun _ => HO.noConfusion
    obtain ⟨m, e'⟩ := ub.tbls b ps ((loose_out z).trans e)
    exact ⟨m, (repin_out z).trans e'⟩
end
end Z

namespace Z
open PySem PySem.Spec PyProof.Rows L2
open Classical
section
variable {X : Cx} {pins : List (Addr × Obj)} {σ : L2.St} {H HZ : Hp} {s s1 : Shared}
/-- the lambda's body is entered where its cells stand as they stood -/
theorem lam_start3 {A : Around} {outer : List Env} {E : XK} {scope : Scope} {f c' : Addr} {h₁ : Heap} {tk : Nat} (I : Inv X pins σ H s) (L : LamX.LamS X.env.scope scope) (e0 : Env0 X.prog X.w X.K X.mg X.base A outer s1 HZ) (hd : A.handled = none)
    (hc : ∀ y c o, X.env.cells.lookup y = some c → s.heap.get? c = some o → s1.heap.get? c = some o) (hn : ∀ y c, X.env.cells.lookup y = some c → HZ c = none)
    (hns : h₁.Ns s1.heap.objs.size fun y => ([] : List (Str × Value)).reverse.lookup y) (kp : ∀ b o, s1.heap.get? b = some o → h₁.get? b = some o) :
    Inv (LamX.lamCx X A outer s1 HZ E scope f c') [] σ HZ { s1 with heap := h₁, toks := tk } := by
  have hfree := L.has I.ok
  have cm : ∀ {y c}, (cloFrom X.env.cells scope.names []).lookup y = some c → X.env.cells.lookup y = some c := fun {y c} e => by
    rcases cloFrom_mem (PySem.mem_of_lookup e) with hm | ⟨h1, h2⟩
    · cases hm
    · obtain ⟨c1, hc⟩ := hfree _ h1 rfl
      have hc : X.env.cells.lookup y = some c1 := hc
      have e2 : c = c1 := by
        rw [h2, hc] <;> rfl
      rw [e2]
      exact hc
  have look : ∀ {y}, scope.names.lookup y = some .free → ∃ c, (cloFrom X.env.cells scope.names []).lookup y = some c := fun {y} hl =>
    mem_lookup (cloFrom_has (cells := X.env.cells) (acc := []) (PySem.mem_of_lookup hl))
  have cellK : ∀ {y c} {v : Option Value}, X.env.cells.lookup y = some c → s.heap.IsCell c v → h₁.IsCell c v := fun {y c v} e ⟨o, ho, hd⟩ => ⟨o, kp _ _ (hc y c o e ho), hd⟩
  have noA : ∀ b : Addr, b ∉ (LamX.lamCx X A outer s1 HZ E scope f c').ex := fun b z => absurd (show b ∈ ([] : List Addr) from z) (by simp)
  refine ⟨⟨e0.mod, L.kind, rfl, rfl, Nat.le_refl _, fun y z c e1 e2 => I.ok.inj y z c (cm e1) (cm e2), fun y hy => ?_, fun y c z _ => ?_, fun _ => hd, Around.frames_deeper e0.frames, .inr ⟨rfl, rfl⟩, fun b z => absurd z (noA b), e0.bs, e0.bsz, fun b _ _ => noA b,
      fun b z => absurd z (noA b), e0.funs, e0.frf⟩,
    rfl, e0.bare, Un.kept kp, ⟨_, hns, fun i y v e1 e2 e3 => ?_⟩, fun y c e => ?_, e0.hok.fresh (Nat.le_refl _), fun y c e => hn y c (cm e), fun q hq => absurd (show q ∈ ([] : List (Addr × Obj)) ++ [] from hq) (by simp), e0.hok.kept kp, I.len⟩
  · have hy : scope.names.lookup y = some .cell ∨ scope.names.lookup y = some .free := hy
    rcases hy with hy | hy
    · exact absurd rfl (L.own _ (PySem.mem_of_lookup hy)).2
    · exact look hy
  · have z : false = true := z
    cases z
  · have e3 : Vis scope y := e3
    rcases e3 with k | k | k
    · exact absurd rfl (L.own _ (PySem.mem_of_lookup k)).1
    · exact absurd rfl (L.own _ (PySem.mem_of_lookup k)).2
    · obtain ⟨m, hm, hl⟩ := I.loc
      have hvis : Vis X.env.scope y := (L.free _ (PySem.mem_of_lookup k) rfl).elim (fun k => .inr (.inl k)) (fun k => .inr (.inr k))
      obtain ⟨w', r, q⟩ := hl i y v e1 e2 hvis
      obtain ⟨c2, h2⟩ := look k
      refine ⟨w', r, .inr ⟨.inr k, c2, h2, ?_⟩⟩
      have c1 := cm h2
      rcases q with ⟨k', _⟩ | ⟨_, c3, e', z⟩
      · have k' : X.env.scope.names.lookup y = some .local := k'
        rcases L.free _ (PySem.mem_of_lookup k) rfl with k2 | k2 <;> rw [show X.env.scope.names.lookup y = _ from k2] at k' <;> cases k'
      · rw [c1] at e'
        cases e'
        exact cellK c1 z
  · obtain ⟨w', z⟩ := I.cell y c (cm e)
    exact ⟨w', cellK (cm e) z⟩
/-- the addresses that are pinned: the function, the maker's cells -/
noncomputable def jobL (X : Cx) (f : Addr) : List Addr := (if X.base.get? f = none then [f] else []) ++ X.env.cells.filterMap fun p => X.env.cells.lookup p.1
theorem cell_in {f : Addr} {y : Str} {c : Addr} (e : X.env.cells.lookup y = some c) : c ∈ jobL X f := List.mem_append_right _ (List.mem_filterMap.mpr ⟨(y, c), PySem.mem_of_lookup e, e⟩)
theorem jobL_or {f b : Addr} (h : b ∈ jobL X f) : (b = f ∧ X.base.get? f = none) ∨ ∃ y, X.env.cells.lookup y = some b := by
  rcases List.mem_append.mp h with h | h
  · by_cases e : X.base.get? f = none
    · rw [if_pos e] at h
      exact .inl ⟨by simpa using h, e⟩
    · rw [if_neg e] at h
      simp at h
  · obtain ⟨p, _, e⟩ := List.mem_filterMap.mp h
    exact .inr ⟨p.1, e⟩
/-- what the call of the job is worth; tl: the body's reading -/
def tJob (i : Nat) (f c' : Addr) (q : Str) (L : List Addr) (pin : Hp) (E : XK) (tl : XK → Hp → VK → Prop) : TE := fun σZ HZ Q => σZ[i]? = some (some (.ref f)) ∧ (∀ b ∈ L, HZ b = pin b) ∧ HZ c' = some (LamX.CodeO c' q) ∧
  tl (fun cls d H' => (∀ b ∈ L, H' b = none) → E cls d (repin L HZ H')) (loose L HZ) (fun u H' => (∀ b ∈ L, H' b = none) → Q u (repin L HZ H'))
theorem pe_job {Y : Cx} {f c' : Addr} {pm ctv : Value} {params : Arguments} {body : Expr} {scope : Scope} {k i : Nat} {a : Str} {W : WX} {E : XK} {t : XK → TE} {p1 p2 : Pos} (hp : Y.prog = X.prog) (hw : Y.w = X.w) (hK : Y.K = X.K) (hg : Y.mg = X.mg) (hb : Y.base = X.base)
    (I : Inv X pins σ H s) (L : LamX.LamS X.env.scope scope) (hf : s.heap.get? f = some (PySem.W.kla_obj "<lambda>" (X.env.qual ++ "<lambda>") params body scope (cloFrom X.env.cells scope.names []) pm c' ctv))
    (pb : Pb (jobL X f) X.stack X.base s.heap H)
    (hbind : bindArgs (PySem.W.kla_fn "<lambda>" (X.env.qual ++ "<lambda>") params body scope (cloFrom X.env.cells scope.names []) pm (.ref c') ctv) ⟨[], []⟩ = pure [])
    (tk : Takes Y W) (hW : ∀ cls d σ' H', E cls d H' → W cls d σ' H') (hr : Room (k + 1) Y.A)
    (hbody : ∀ (A : Around) (outer : List Env) (s : Shared) (H : Hp) (E : XK), Room k (A.deeper (LamX.lamEnv X scope s.heap.objs.size f c')) → PE (LamX.lamCx X A outer s H E scope f c') body (t E))
    (hN : Y.N[i]? = some a) (hv : Vis Y.env.scope a) (hd : (a == ("__debug__" : Str)) = false := by decide) (hcd : (a == ("__classdict__" : Str)) = false := by decide) :
    PE Y (.Call (.Name a p1) [] [] p2) (tJob i f c' (X.env.qual ++ "<lambda>") (jobL X f) (pinned (jobL X f) s.heap H) E (fun E H' Q' => t E σ H' Q')) := by
  refine ⟨fun pinsZ sZ σZ HZ Q IZ h => ?_⟩
  obtain ⟨hs, hpin, hc, ht⟩ := h
  have hL : ∀ b ∈ jobL X f, ∃ o, s.heap.get? b = some o ∧ HZ b = some (Pin o) := fun b hb => by
    obtain ⟨o, e1, e2⟩ := pb.pin hb
    exact ⟨o, e1, (hpin b hb).trans e2⟩
  refine wpAny_Call_Name_kw (thn ((pe_var (pos := p1) (i := i) hN hv hd hcd).run pinsZ sZ σZ HZ (fun v H1 => v = .ref f ∧ H1 = HZ) IZ ⟨.ref f, hs, rfl, rfl⟩) fun u s1 ⟨v, H1, I1, r1, q1⟩ => ?_)
  obtain ⟨ev, eH⟩ := q1
  subst ev
  rw [eH] at I1
  obtain rfl : u = Value.ref f := r1
  have at1 : ∀ b ∈ jobL X f, ∀ o, s.heap.get? b = some o → s1.heap.get? b = some o := fun b hb o e => by
    obtain ⟨o', e1, e2⟩ := hL b hb
    rw [e1] at e
    cases e
    exact (show s1.heap.get? b = some _ ∧ _ from I1.hok b _ e2).1
  have of1 : s1.heap.get? f = some (PySem.W.kla_obj "<lambda>" (X.env.qual ++ "<lambda>") params body scope (cloFrom X.env.cells scope.names []) pm c' ctv) := by
    cases q : X.base.get? f with
    | none => exact at1 f (List.mem_append_left _ (by rw [if_pos q]; exact List.mem_cons_self)) _ hf
    | some o =>
      have e1 := (I.bs f o q).1
      have e2 := (I1.bs f o (by rw [hb]; exact q)).1
      exact e2.trans (e1.symm.trans hf)
  refine PySem.W.callWith_F0 ⟨_, _, _, _, of1⟩ ?_
  have E0 := I1.env0
  have hL' : ∀ b ∈ jobL X f, ∃ o, HZ b = some (Pin o) := fun b hb => by
    obtain ⟨o, _, e⟩ := hL b hb
    exact ⟨o, e⟩
  have e0 := env0_loose E0 hL'
  obtain ⟨⟨oc, vs, tk', hoc, hdc, hvc⟩, _, _⟩ := I1.hok c' _ hc
  have rc : codeAny (model Y.prog Y.w) Y.A (.call (.ref f) ⟨[], []⟩) (CR (L2.CX Y.prog Y.w) Y.stack Y.prog Y.w (loose (jobL X f) HZ) s1 (fun u H' => (∀ b ∈ jobL X f, H' b = none) → Q u (repin (jobL X f) HZ H')) (fun cls d H' => (∀ b ∈ jobL X f, H' b = none) → E cls d (repin (jobL X f) HZ H'))) s1 := by
    refine PySem.W.kla_callFunE hr.depth of1 rfl L.co L.gen rfl ⟨c', oc, vs, tk', rfl, hoc, hdc, hvc⟩ ?_
    rw [hbind]
    refine wpAny_pure (wpAny_newFunctionEnv (fun y hy => (L.own y hy).2) (fun y hy => absurd hy (by simp)) (fun h₁ hns hsb => ⟨I1.nolimit.fresh _ hsb, ?_⟩) L.kind)
    show codeAny _ _ (.expr body (LamX.lamEnv X scope s1.heap.objs.size f c')) _ _
    have kp : ∀ b o, s1.heap.get? b = some o → h₁.get? b = some o := fun b o e => hsb.extBut b o (Nat.ne_of_lt (Heap.lt_size e)) (Heap.get?_push_of_some _ e)
    rw [hp, hw]
    rw [hp, hw, hK, hg, hb] at e0
    have J := lam_start3 (A := Y.A) (outer := Y.stack) (E := fun cls d H' => (∀ b ∈ jobL X f, H' b = none) → E cls d (repin (jobL X f) HZ H')) (f := f) (c' := c') (tk := s1.toks + ([] : List (Str × Value)).length) I L e0 hr.hd (fun y c o e => at1 c (cell_in e) o) (fun y c e => loose_in (cell_in e)) hns kp
    refine PySem.W.kla_codeExpr (wpAny_mono ((hbody _ _ s1 _ _ (hr.deeper _)).run [] _ _ _ _ J ht) (fun v s' hq => ?_) fun e s' hq => hq)
    obtain ⟨w', H', J', rv, q⟩ := hq
    exact ⟨w', H', J'.os, J'.bare, J'.base, J'.hok, rv, q⟩
  have hx : Passes (L2.CX Y.prog Y.w) Y E := passes_call tk hW
  refine wpAny_call (codeAny_mono rc fun r s' hq => ?_)
  cases r with
  | error e => exact hx pinsZ σZ HZ s1 e s' I1 (cx_repin E0 hL' hq)
  | ok fl =>
    cases fl with
    | ret u => exact I1.after (ce_repin E0 hL' hq)
    | next => exact False.elim hq
    | brk => exact False.elim hq
    | cont => exact False.elim hq
end
end Z

namespace Z
open PySem PySem.Spec PyProof.Rows L2
open Classical
/-- the rest of a def's body, from some names' places -/
noncomputable def runRest (fu : Nat) (b : S) (ρ : En) (W : Dr) : Out (Bool × D) := match evS fu b ρ W with
  | .nx _ W' => .ok (false, .non) W'
  | .rt v _ W' => match v.k with
    | .pl => .ok (false, v.d) W'
    | _ => .ok (true, v.d) W'
  | .ex x _ W' => .ex x W'
  | _ => .stk
def noEx : Out (Bool × D) → Out Vl
  | .ok r W => .ok (vo r []) W
  | _ => .stk
/-- what the def makes of its job's outcome -/
noncomputable def saidH (fu m : Nat) (b : S) : Out Vl → Out Vl
  | .ok v W => if v.k = .pl ∧ v.t = [] then noEx (runRest fu b (.un :: .own (.lst [v.d]) :: .val .non :: List.replicate m .un) W) else .stk
  | .ex (.exc n fs) W => noEx (runRest fu b (.un :: .own (.lst []) :: .val (.exc n fs) :: List.replicate m .un) W)
  | _ => .stk
section
variable {c : Pm} {Wx : WX} {X : Cx} {fu n k : Nat} {W W' W1 W2 W3 : Dr} {F0 H0 F H F' H' F1 H1 F2 H2 F3 H3 Hs : Hp} {ρ ρ' : En} {σ σ' : L2.St} {u w : V} {x y v : Vl} {Q : VK} {us : List V} {vs : List Vl} {pos : Pos} {L : List Addr}
/-- the end of a def's body, from some names' places -/
theorem body_at {b : S} {D : Ends} (hD : ∀ σ' H', D.nx σ' H' = Q .non H') (hR : D.rt = Q) (R : Rel c F0 H0 ρ σ F H W) (hP : match runRest fu b ρ W with
    | .ok r W' => ∀ u F' H', Stp c W' F0 H0 F' H' → ResOk c H0 F' H' u r → Q u H'
    | _ => False) : rdS c (fun _ _ _ _ => False) fu b D σ H := by
  refine ⟨F0, H0, ρ, F, W, R, ?_⟩
  unfold runRest at hP
  cases e : evS fu b ρ W with
  | nx ρ' W' =>
    rw [e] at hP
    exact fun σ' F' H' R' s => by rw [hD]; exact hP .non F' H' R'.stp .non
  | bk ρ' W' => rw [e] at hP; exact hP.elim
  | ct ρ' W' => rw [e] at hP; exact hP.elim
  | stk => rw [e] at hP; exact hP.elim
  | ex x ρ' W' => rw [e] at hP; exact hP.elim
  | rt v ρ' W' =>
    rw [e] at hP
    simp only at hP
    intro u σ' F' H' R' V N
    rw [hR]
    have RF := R'.frz V.t_own
    have a := V.at_
    cases hk : v.k with
    | pl =>
      rw [hk] at hP a
      exact hP u _ H' RF.stp a
    | me i =>
      rw [hk] at hP a
      obtain ⟨a1, a2, a3⟩ := a
      obtain ⟨p, q1, q2, q3, q4, q5⟩ := R'.own a2
      rw [a3] at q1
      cases q1
      exact hP _ F' H' R'.stp ⟨p, rfl, q2, q3, q4, q5⟩
    | fr =>
      rw [hk] at hP a
      obtain ⟨p, rfl, e2, e3, e4, e5⟩ := a
      refine hP _ _ H' RF.stp ⟨p, rfl, ?_, e3, e4, e5⟩
      rw [Fz_out]
      · exact e2
      · rintro ⟨j, z1, z2⟩
        obtain ⟨d, hd⟩ := V.t_own j z1
        exact N hk p rfl j d hd z2
/-- behind the job: the pins stand again -/
theorem stp_repin (S : Stp c W F H F H) (eN : LamX.ExtN H H2) (hL : ∀ b ∈ L, ∃ o, H b = some (Pin o)) (S2 : Stp c W2 F (loose L H2) F2 H') (no : ∀ b ∈ L, H' b = none) : Stp c W2 F H F2 (repin L H2 H') := by
  have up : ∀ a o, H' a = some o → repin L H2 H' a = some o := fun a o e => (repin_out fun z => by rw [no a z] at e; cases e).trans e
  refine ⟨S2.f, fun a o e => up a o (S2.sub a o e), fun a o e m t => ?_, fun a e t => ?_, S2.nt, S2.av, ?_, S2.cl, S2.tabs.ext up⟩
  · have e2 := eN a o e t
    by_cases z : a ∈ L
    · exact (repin_in z).trans e2
    · exact up a o (S2.h a o ((loose_out z).trans e2) m t)
  · by_cases z : a ∈ L
    · cases q : F2 a with
      | none => rfl
      | some o => exact absurd ((S2.sub a o q).symm.trans (no a z)) (by simp)
    · obtain ⟨o, h1, h2⟩ := t
      exact S2.new a e ⟨o, (loose_out z).trans (eN a o h1 h2.1), h2⟩
  · rcases S2.dr with h | ⟨a0, a1, h, n, e0, e1⟩
    · exact .inl h
    · exact .inr ⟨a0, a1, h, n, up _ _ e0, up _ _ e1⟩
theorem stp_loose (S : Stp c W F H F H) (hn : ∀ b ∈ L, H b = none) (pk : ∀ b ∈ L, ∃ o, Hs b = some (Pin o) ∧ H2 b = some (Pin o)) (he : ∀ b, b ∉ L → Hs b = H b) (S2 : Stp c W2 F Hs F2 H2) : Stp c W2 F H F2 (loose L H2) := by
  have fn : ∀ b ∈ L, F b = none := fun b hb => by
    cases q : F b with
    | none => rfl
    | some o => exact absurd ((S.sub b o q).symm.trans (hn b hb)) (by simp)
  have out : ∀ b o, H b = some o → b ∉ L := fun b o e z => by rw [hn b z] at e; cases e
  have f2n : ∀ b ∈ L, F2 b = none := fun b hb => by
    obtain ⟨o, e, _⟩ := pk b hb
    exact S2.new b (fn b hb) ⟨_, e, fun _ => HO.noConfusion, fun _ => HO.noConfusion⟩
  have dn : ∀ b o, H2 b = some o → (∀ q, o ≠ Pin q) → loose L H2 b = some o := fun b o e n => (loose_out fun z => by
    obtain ⟨o', _, e2⟩ := pk b z
    rw [e2] at e
    cases e
    exact n _ rfl).trans e
  refine ⟨S2.f, fun a o e => ?_, fun a o e m t => ?_, fun a e t => ?_, S2.nt, S2.av, ?_, S2.cl, fun p hp => ?_⟩
  · exact (loose_out fun z => by rw [f2n a z] at e; cases e).trans (S2.sub a o e)
  · exact (loose_out (out a o e)).trans (S2.h a o ((he a (out a o e)).trans e) m t)
  · obtain ⟨o, h1, h2⟩ := t
    exact S2.new a e ⟨o, (he a (out a o h1)).trans h1, h2⟩
  · rcases S2.dr with h | ⟨a0, a1, h, n, e0, e1⟩
    · exact .inl h
    · exact .inr ⟨a0, a1, h, n, dn _ _ e0 fun _ => HO.noConfusion, dn _ _ e1 fun _ => HO.noConfusion⟩
  · obtain ⟨ps, h1, h2, h3⟩ := S2.tabs p hp
    refine ⟨ps, dn _ _ h1 fun _ => HO.noConfusion, h2, fun pos cv hc => ?_⟩
    obtain ⟨cc, e1, e2⟩ := h3 pos cv hc
    exact ⟨cc, e1, dn _ _ e2 fun q z => by unfold LamX.CodeO Pin at z; cases z⟩
theorem res_loose (pk : ∀ b ∈ L, ∃ o, H2 b = some (Pin o)) {r : Bool × D} (hs : ∀ b, Nil Hs b → Nil H b) (h : ResOk c Hs F2 H2 u r) : ResOk c H F2 (loose L H2) u r := by
  unfold ResOk at h ⊢
  split
  · rename_i hr
    rw [if_pos hr] at h
    obtain ⟨p, h1, h2, h3, h4, h5⟩ := h
    refine ⟨p, h1, h2, h3, hs p h4, h5.mono (Same.refl _) fun o e => (loose_out fun z => ?_).trans e⟩
    obtain ⟨o', q⟩ := pk p z
    rcases h5.obj with ⟨_, e'⟩ | ⟨_, e'⟩ | ⟨_, e'⟩ <;> rw [q] at e' <;> cases e'
  · rename_i hr
    rwa [if_neg hr] at h
end
end Z

namespace Z
open PySem PySem.Spec PyProof.Rows L2
open Classical
theorem boot_ValueError : bootBuiltins "ValueError" = some (.type "ValueError") := by decide +kernel
theorem saidH_ne {fu m : Nat} {b : S} : ∀ o x W, saidH fu m b o ≠ .ex x W := by
  have k : ∀ (o : Out (Bool × D)) x W, noEx o ≠ .ex x W := fun o x W => by cases o <;> exact fun h => by cases h
  intro o x W
  unfold saidH
  split
  · split
    · exact k _ _ _
    · exact fun h => by cases h
  · exact k _ _ _
  · exact fun h => by cases h
section
variable {c : Pm} {Wx : WX} {X : Cx} {fu n k mm : Nat} {W W' W1 W2 W3 : Dr} {F0 H0 F H F' H' F1 H1 F2 H2 F3 H3 Hs Hl H4 : Hp} {ρ ρ' : En} {σ σ' : L2.St} {u w e2 : V} {x y v : Vl} {Q : VK} {us : List V} {vs : List V} {pos : Pos} {L : List Addr} {f a1 : Addr} {N : List Str} {d2 : D} {xs : List D}
theorem start_said (hlen : N.length = mm + 3) : L2.start N [.ref f] = some (.ref f) :: none :: none :: List.replicate mm none := by
  unfold L2.start
  rw [hlen]
  rfl
theorem rel_said (S : Stp c W F H F2 H4) (h1 : F2 a1 = none) (h2 : a1 ∉ c.mv) (h3 : Nil H a1) (h4 : H4 a1 = some (.lst vs)) (r1 : RepL c F2 vs xs) (r2 : Rep c F2 e2 d2) :
    Rel c F H (.un :: .own (.lst xs) :: .val d2 :: List.replicate mm .un) (some (.ref f) :: some (.ref a1) :: some e2 :: List.replicate mm none) F2 H4 W := by
  refine ⟨by simp, S, fun i s e => ?_, fun i j x y p ei ej _ _ => ?_⟩
  · rcases i with _ | _ | _ | i
    · cases e; exact fun z => nomatch z
    · cases e; exact ⟨a1, rfl, h1, h2, h3, vs, h4, r1⟩
    · cases e; exact ⟨e2, rfl, r2⟩
    · simp only [List.getElem?_cons_succ, List.getElem?_replicate] at e ⊢
      split at e
      · cases e
        rename_i q
        rw [if_pos q]
        exact fun z => nomatch z
      · cases e
  · have k : ∀ {i : Nat} {x : D}, (.un :: .own (.lst xs) :: .val d2 :: List.replicate mm .un : En)[i]? = some (.own x) → i = 1 := fun {i x} e => by
      rcases i with _ | _ | _ | i
      · cases e
      · rfl
      · cases e
      · simp only [List.getElem?_cons_succ, List.getElem?_replicate] at e
        split at e <;> cases e
    rw [k ei, k ej]
/-- the job, told to the def: its reading, its outcome -/
structure JobR (c : Pm) (F Hl H : Hp) (W : Dr) (L : List Addr) (pin : Hp) (c' : Addr) (q : Str) (oc : Out Vl) (tl : XK → Hp → VK → Prop) : Prop where
  st : Stp c W F H F H
  pin : ∀ b ∈ L, H b = pin b
  pn : ∀ b ∈ L, ∃ o, H b = some (Pin o)
  no : ∀ b ∈ L, Hl b = none
  fo : ∀ b ∈ L, F b = none
  out : ∀ b, b ∉ L → H b = Hl b
  code : H c' = some (LamX.CodeO c' q)
  run : ∀ (E : XK) (H3 : Hp) (Q : VK), Stp c W F Hl F (loose L H3) → (match oc with
    | .ok v W2 => ∀ u F2 H2, Stp c W2 F (loose L H3) F2 H2 → (v.k = .pl → v.t = [] → Rep c F2 u v.d) → Q u H2
    | .ex x W2 => ∀ cls dd F2 H2, Stp c W2 F (loose L H3) F2 H2 → ExOk c F2 x cls dd → E cls dd H2
    | .stk => False) → tl E (loose L H3) Q
/-- a def's body that hands its job on -/
def SaidB (c : Pm) (Z : Cx) (j : Nat) (a : Str) (h : Out Vl → Out Vl) (body : List Stmt) : Prop :=
  ∀ (f c' : Addr) (q : Str) (L : List Addr) (pin : Hp) (tl : XK → Hp → VK → Prop) (W : Dr) (oc : Out Vl) (F Hl H : Hp) (Q : VK),
    (∀ (Y : Cx) (Wx : WX) (E : XK) (i : Nat) (p1 p2 : Pos), Y.prog = Z.prog → Y.w = Z.w → Y.K = Z.K → Y.mg = Z.mg → Y.base = Z.base → Room (j + 1) Y.A → Takes Y Wx → (∀ cls d σ' H', E cls d H' → Wx cls d σ' H') → Y.N[i]? = some a → Vis Y.env.scope a →
      PE Y (.Call (.Name a p1) [] [] p2) (tJob i f c' q L pin E tl)) →
    JobR c F Hl H W L pin c' q oc tl →
    (match h oc with
      | .ok v W' => ∀ u F2 H2, Stp c W' F H F2 H2 → (∃ r, v = vo r [] ∧ ResOk c H F2 H2 u r) → Q u H2
      | _ => False) →
    ∃ t, PSs Z body t ∧ t { nx := fun _ H' => Q .non H', rt := Q } (L2.start Z.N [.ref f]) H
theorem extN_stp (S : Stp c W F H F H) (eN : LamX.ExtN H H1) (t : LamX.Tabs c.tb H1) : Stp c W F H F H1 := by
  refine ⟨Same.refl _, fun a o h => eN _ _ (S.sub _ _ h) (S.nt _ _ h), fun a o h _ n => eN _ _ h n, fun _ h _ => h, S.nt, S.av, ?_, S.cl, t⟩
  rcases S.dr with h | ⟨a0, a1, h, n, e0, e1⟩
  · exact .inl h
  · exact .inr ⟨a0, a1, h, n, eN _ _ e0 nt_dK, eN _ _ e1 nt_lst⟩
/-- the job's heap, without the pins -/
theorem job_stp {q : Str} {pin : Hp} {c' : Addr} {oc : Out Vl} {tl : XK → Hp → VK → Prop} (J : JobR c F Hl H W L pin c' q oc tl) (S1 : Stp c W F H F H2) (pk : ∀ b ∈ L, ∃ o, H2 b = some (Pin o)) : Stp c W F Hl F (loose L H2) := by
  have dn : ∀ b o, H2 b = some o → (∀ q, o ≠ Pin q) → loose L H2 b = some o := fun b o e n => (loose_out fun z => by
    obtain ⟨o', e2⟩ := pk b z
    rw [e2] at e
    cases e
    exact n _ rfl).trans e
  have out : ∀ a o, Hl a = some o → a ∉ L := fun a o e z => by rw [J.no a z] at e; cases e
  refine ⟨Same.refl _, fun a o e => ?_, fun a o e m t => ?_, fun _ h _ => h, S1.nt, S1.av, ?_, S1.cl, fun p hp => ?_⟩
  · exact (loose_out fun z => by rw [J.fo a z] at e; cases e).trans (S1.sub a o e)
  · exact (loose_out (out a o e)).trans (S1.h a o ((J.out a (out a o e)).trans e) m t)
  · rcases S1.dr with h | ⟨a0, a1, h, n, e0, e1⟩
    · exact .inl h
    · exact .inr ⟨a0, a1, h, n, dn _ _ e0 fun _ => HO.noConfusion, dn _ _ e1 fun _ => HO.noConfusion⟩
  · obtain ⟨ps, h1, h2, h3⟩ := S1.tabs p hp
    refine ⟨ps, dn _ _ h1 fun _ => HO.noConfusion, h2, fun pos cv hc => ?_⟩
    obtain ⟨cc, e1, e2⟩ := h3 pos cv hc
    exact ⟨cc, e1, dn _ _ e2 fun q z => by unfold LamX.CodeO Pin at z; cases z⟩
theorem said_body {Z : Cx} {b_ : S} {kk j : Nat} {a m e x2 a2 : Str} {Ng2 : List Str} {stc : Stmt} {CS : Addr} {params : Arguments} {scope2 : Scope} {rest : List Stmt} {lp p1 p2 p3 p4 p5 p6 p7 p8 p9 p10 p11 p12 : Pos} (n : Cn c (fun _ _ _ _ => False) kk Z) (LA : LamAt c Z) (CF : CauF c Z.mg x2 a2 Ng2 stc CS)
    (hrest : PSs Z rest (rdS c (fun _ _ _ _ => False) fu b_)) (hj : j + 3 ≤ kk) (hn0 : Z.N[0]? = some a) (hn1 : Z.N[1]? = some m) (hn2 : Z.N[2]? = some e) (hlen : Z.N.length = mm + 3) (hfn : Z.fn = fun _ => true) (lm : Loc Z.env.scope m) (le : Loc Z.env.scope e)
    (L2s : LamX.lamSB Z.env.scope scope2 = true) (va : Vis scope2 a) (vm : Vis scope2 m) (hdef : defaultsOf params Z.env = ([], []))
    (hbind : ∀ (q : Str) (cl : List (Str × Addr)) (pm cv ctv : Value), bindArgs (PySem.W.kla_fn "<lambda>" q params (.Call (.Attribute (.Name m p4) "append" p5) [.Call (.Name a p6) [] [] p7] [] p8) scope2 cl pm cv ctv) ⟨[], []⟩ = pure [])
    (hg : Gl Z x2) (hdb : (x2 == ("__debug__" : Str)) = false) (hd2 : (a2 == ("__debug__" : Str)) = false) (hcd2 : (a2 == ("__classdict__" : Str)) = false) (hdm : (m == ("__debug__" : Str)) = false) (hcm : (m == ("__classdict__" : Str)) = false)
    (hbase : ∀ env : Env, attributeBase (.Name m p4) "append" env (eval (.Name m p4) env) = eval (.Name m p4) env) (hline : (p5.endLine == p8.line) = true)
    (hsw1 : swapsWith (.List [] p2) (some (.Name m p1)) p3.line Z.env = pure false) (hsw2 : swapsWith (.Call (.Name x2 p10) [.Lambda params (.Call (.Attribute (.Name m p4) "append" p5) [.Call (.Name a p6) [] [] p7] [] p8) scope2 lp] [] p11) (some (.Name e p9)) p12.line Z.env = pure false) :
    SaidB c Z j a (saidH fu mm b_) (.Assign [.Name m p1] (.List [] p2) p3 :: .Assign [.Name e p9] (.Call (.Name x2 p10) [.Lambda params (.Call (.Attribute (.Name m p4) "append" p5) [.Call (.Name a p6) [] [] p7] [] p8) scope2 lp] [] p11) p12 :: rest) := by
  intro f c' q L pin tl W oc F Hl H Q act J hQ
  obtain ⟨g, fd, ⟨⟨oc2, od, kV, doc, pm, an, cdv, ct, osl, rfl, lk, hcd2'⟩, kp⟩, hm, hbd⟩ := CF.ex
  obtain ⟨cc, P, TB, hcode, hmT, hu⟩ := LA.ex
  rw [← n.hk] at lk hcd2' kp hbd
  have hb : ∀ (A : Around) (outer : List Env) (s : Shared) (H : Hp) (E : XK) (f2 c2 : Addr), Room (j + 1) (A.deeper (LamX.lamEnv Z scope2 s.heap.objs.size f2 c2)) →
      PE (LamX.lamCx Z A outer s H E scope2 f2 c2) (.Call (.Attribute (.Name m p4) "append" p5) [.Call (.Name a p6) [] [] p7] [] p8) (tBM Z.K "list" rAppend (tVar 1) (tCons (tJob 0 f c' q L pin E tl) tNil)) := fun A outer s H E f2 c2 hr =>
    pe_bm (X := LamX.lamCx Z A outer s H E scope2 f2 c2) PySem.F.plainAttrs_list PySem.F.slot_list_append PySem.F.type_list_append mt_append (pe_var (i := 1) hn1 vm hdm hcm)
      (pa_cons (act (LamX.lamCx Z A outer s H E scope2 f2 c2) (fun cls d _ H => E cls d H) E 0 p6 p7 rfl rfl rfl rfl rfl hr (takes_of rfl rfl rfl rfl) (fun _ _ _ _ h => h) hn0 va) pa_nil) (hbase _) rfl hline
  refine ⟨_, pss_cons (ps_set (i := 1) n.nd hn1 lm (pe_lst pa_nil) hsw1 (.inl (by rw [hfn]))) (pss_cons (ps_set (i := 2) n.nd hn2 le
    (LamX.pe_lamcall (T := c.tb) (k := j + 1) (t := fun E => tBM Z.K "list" rAppend (tVar 1) (tCons (tJob 0 f c' q L pin E tl) tNil)) hg hm kp lk hcd2' hbd CF.sc CF.na CF.va (CF.give Z g cdv _ n.hk rfl) TB hcode hmT hu (n.room.mono hj) (LamX.lamS_by L2s) hdef hbind hb hdb hd2 hcd2) hsw2 (.inl (by rw [hfn]))) hrest), ?_⟩
  refine ⟨Nat.zero_le _, fun a1 ha1 => ?_⟩
  have eσ : ∀ w, ((L2.start Z.N [.ref f]).set 1 (some (.ref a1))).set 2 (some w) = some (.ref f) :: some (.ref a1) :: some w :: List.replicate mm none := fun w => by rw [start_said hlen]; rfl
  have eσ1 : (L2.start Z.N [.ref f]).set 1 (some (.ref a1)) = some (.ref f) :: some (.ref a1) :: none :: List.replicate mm none := by rw [start_said hlen]; rfl
  have sA := J.st.make (o := .lst []) ha1
  have kA : ∀ b o, H b = some o → upd H a1 (.lst []) b = some o := fun b o e => (upd_ne (ne_of_none e ha1)).trans e
  have am : a1 ∉ c.mv := fun h => J.st.sm h ha1
  have aL : a1 ∉ L := fun z => by
    obtain ⟨o, e⟩ := J.pn a1 z
    rw [ha1] at e; cases e
  have aF : F a1 = none := by
    cases q : F a1 with
    | none => rfl
    | some o => rw [J.st.sub _ _ q] at ha1; cases ha1
  refine ⟨sA.tabs, fun H2 eN T2 => ?_⟩
  have S1 : Stp c W F H F H2 := sA.trans (extN_stp sA.refl eN T2)
  have e1 : H2 a1 = some (.lst []) := eN a1 _ upd_same nt_lst
  have eNH : LamX.ExtN H H2 := fun b o e t => eN b o (kA b o e) t
  have pk : ∀ b ∈ L, ∃ o, H2 b = some (Pin o) := fun b hb => by
    obtain ⟨o, e⟩ := J.pn b hb
    exact ⟨o, eNH b _ e fun _ => HO.noConfusion⟩
  refine ⟨.ref a1, by rw [eσ1]; rfl, .inl ⟨rfl, [], .inl (.inl e1)⟩, by rw [eσ1]; rfl, fun b hb => ?_, eNH _ _ J.code LamX.codeO_ne, ?_⟩
  · obtain ⟨o, e⟩ := J.pn b hb
    exact (eNH b _ e fun _ => HO.noConfusion).trans (e.symm.trans (J.pin b hb))
  refine J.run _ H2 _ (job_stp J S1 pk) ?_
  cases oc with
  | stk => exact hQ.elim
  | ok v W2 =>
    intro u F2 H' S2 hv no
    have SR := stp_repin J.st eNH J.pn S2 no
    have e4 : repin L H2 H' a1 = some (.lst []) := (repin_out aL).trans (S2.h a1 _ ((loose_out aL).trans e1) am nt_lst)
    have f2 : F2 a1 = none := S2.new a1 aF ⟨_, (loose_out aL).trans e1, ob_lst⟩
    refine ⟨a1, [], u, rfl, rfl, e4, by rw [sizeLine_eq]; decide, .non, rfl, ?_⟩
    show rdS c _ fu b_ _ (((L2.start Z.N [.ref f]).set 1 (some (.ref a1))).set 2 (some .non)) _
    rw [eσ]
    unfold saidH at hQ
    by_cases hk : v.k = .pl ∧ v.t = []
    · simp only [if_pos hk] at hQ
      have S4 : Stp c W2 F H F2 (upd (repin L H2 H') a1 (.lst ([] ++ [u]))) := SR.setD f2 (Nil.of ha1) am (fun q => by rw [e4]; exact fun z => by cases z) (fun q => by rw [e4]; exact fun z => by cases z)
      refine body_at (F0 := F) (H0 := H) (Q := Q) (fun _ _ => rfl) rfl (rel_said S4 f2 am (Nil.of ha1) upd_same (.cons (hv hk.1 hk.2) .nil) .non) ?_
      revert hQ
      cases runRest fu b_ (.un :: .own (.lst [v.d]) :: .val .non :: List.replicate mm .un) W2 with
      | ok r W3 => exact fun hQ u F2 H2 S r' => hQ u F2 H2 S ⟨r, rfl, r'⟩
      | _ => exact fun h => h.elim
    · simp only [if_neg hk] at hQ
  | ex x W2 =>
    intro cls dd F2 H' S2 hx no
    cases x <;> try (exact hQ.elim)
    rename_i nm fs
    obtain ⟨C, h1, rfl, h2⟩ := hx
    refine ⟨n.hk ▸ CF.up _ _ h1, fun b hb => ?_⟩
    have SR := stp_repin J.st eNH J.pn S2 no
    have e4 : repin L H2 H' a1 = some (.lst []) := (repin_out aL).trans (S2.h a1 _ ((loose_out aL).trans e1) am nt_lst)
    have f2 : F2 a1 = none := S2.new a1 aF ⟨_, (loose_out aL).trans e1, ob_lst⟩
    have ab : a1 ≠ b := ne_of_none e4 hb
    have S4 := SR.trans (SR.refl.makeF (o := XO (.ref C) dd b) hb)
    have ne : ∀ q o, F2 q = some o → q ≠ b := fun q o e => ne_of_none (SR.sub _ _ e) hb
    have up : Same F2 (upd F2 b (XO (.ref C) dd b)) := fun q o e => by rw [upd_ne (ne q o e)]; exact e
    have rb : Rep c (upd F2 b (XO (.ref C) dd b)) (.ref b) (.exc nm fs) := by
      cases fs with
      | nil =>
        simp only at h2
        subst h2
        exact .exc0 upd_same h1
      | cons q fs =>
        simp only at h2
        obtain ⟨m, d, gs, rfl, k1, k2⟩ := h2
        exact .exc1 upd_same h1 (up _ _ k1) (k2.mono up) (by simp)
    show rdS c _ fu b_ _ (((L2.start Z.N [.ref f]).set 1 (some (.ref a1))).set 2 (some (.ref b))) _
    rw [eσ]
    refine body_at (F0 := F) (H0 := H) (Q := Q) (fun _ _ => rfl) rfl (rel_said S4 ((upd_ne ab).trans f2) am (Nil.of ha1) ((upd_ne ab).trans e4) .nil rb) ?_
    unfold saidH at hQ
    simp only at hQ
    revert hQ
    cases runRest fu b_ (.un :: .own (.lst []) :: .val (.exc nm fs) :: List.replicate mm .un) W2 with
    | ok r W3 => exact fun hQ u F2 H2 S r' => hQ u F2 H2 S ⟨r, rfl, r'⟩
    | _ => exact fun h => h.elim
/-- the def as it stands -/
structure SaidF (c : Pm) (P : Program) (w : World) (K : PySem.W.Frag) (mg : Str → Option Value) (base : Heap) (j : Nat) (x : Str) (h : Out Vl → Out Vl) : Prop where
  ex : ∃ (g : Addr) (fd : FuncData) (st : Stmt) (Ng : List Str) (a : Str), Fun K x x st g fd ∧ mg x = some (.ref g) ∧ L2.Binds K fd [a] [] ∧ FnScope Ng [a] (defScope st) ∧ (a == ("__debug__" : Str)) = false ∧ (a == ("__classdict__" : Str)) = false ∧
    ∀ (A : Around) (outer : List Env) (s : Shared) (H : Hp), Room (j + 3) (A.deeper (envOfC x (defScope st) s.heap.objs.size g fd.code)) → SaidB c (cxOf C8.CX0 P w K mg base Ng x (defScope st) g fd.code A outer s H C8.E0) j a h (defBody st)
  ne : ∀ o x W, h o ≠ .ex x W
theorem x_said {x : Str} {h : Out Vl → Out Vl} {params : Arguments} {body : Expr} {scope : Scope} {ea : E} {j : Nat} {p lpos : Pos} (n : Cn c Wx k X) (LA : LamAt c X) (SF : SaidF c X.prog X.w X.K X.mg X.base j x h)
    (hb : ∀ (A : Around) (outer : List Env) (s : Shared) (H : Hp) (E : XK) (f c' : Addr), Cn c (fun cls dd _ H' => E cls dd H') j (LamX.lamCx X A outer s H E scope f c') → PE (LamX.lamCx X A outer s H E scope f c') body (rdE c (fun cls dd _ H' => E cls dd H') ea))
    (hj : j + 4 ≤ k := by decide) (L : LamX.lamSB X.env.scope scope = true := by rfl) (hdef : defaultsOf params X.env = ([], []) := by rfl)
    (hbind : ∀ (q : Str) (cl : List (Str × Addr)) (pm cv ctv : Value), bindArgs (PySem.W.kla_fn "<lambda>" q params body scope cl pm cv ctv) ⟨[], []⟩ = pure [] := by intros; rfl)
    (hg : Gl X x := by rfl) (hfn : X.fn = (fun _ => true) := by rfl) (hdb : (x == ("__debug__" : Str)) = false := by decide) :
    PE X (.Call (.Name x p) [.Lambda params body scope lpos] [] pos) (rdE c Wx (.hand h ea)) := by
  obtain ⟨g, fd, st, Ng, a, ⟨⟨oc, od, kV, doc, pm, an, cdv, ct, osl, rfl, lk, hcd2⟩, kp⟩, hm, hbd, Sg, hd1, hd2, hB⟩ := SF.ex
  obtain ⟨cc, P, TB, hcode, hmT, hu⟩ := LA.ex
  have LS := LamX.lamS_by L
  refine ⟨fun pins s σ H Q I ⟨F0, H0, ρ, F, W, R, hP⟩ => ?_⟩
  refine wpAny_Call_Name_kw (ld_glob I hg hm ?_ hdb)
  refine PySem.W.callWith_K (h₀ := X.base) I.ok.mod.kin kp ?_ (by rfl) (by rfl)
  show wpAny _ _ (spliced ((false, eval (.Lambda params body scope lpos) X.env) :: backTo pos (starEach [] X.env))) _ _ s
  refine Calls.spliced_cons (LamX.lam_make2 I TB hcode hmT hu R.stp.tabs hdef (LS.has I.ok) fun f c' pm' ctv H1 s' I1 eN T1 hf hfn' hfr hco => ?_)
  refine Calls.spliced_nil ⟨I1.kIn, ?_⟩
  have S1 := ext_stp (T := True) R eN T1
  have R1 := R.step S1
  have bsz : ∀ b, X.s_0.heap.objs.size ≤ b → X.base.get? b = none := fun b hb => by
    cases q : X.base.get? b with
    | none => rfl
    | some o => exact absurd (Nat.lt_of_lt_of_le (Heap.lt_size q) (Nat.le_trans I.ok.bsz hb)) (Nat.lt_irrefl _)
  have pb : Pb (jobL X f) X.stack X.base s'.heap H1 := by
    refine ⟨fun b hb => ?_, fun b hb => ?_, fun b hb => ?_, fun b hb => ?_⟩ <;> rcases jobL_or hb with ⟨rfl, nb⟩ | ⟨y, e⟩
    · exact hfn'
    · exact I1.freeC y b e
    · exact ⟨_, hf⟩
    · obtain ⟨v, o, ho, _⟩ := I1.cell y b e
      exact ⟨o, ho⟩
    · exact nb
    · exact bsz b (I.ok.cab y b (by rw [hfn]) e)
    · exact hfr
    · intro z
      rcases List.mem_cons.mp (I1.stkSub b z) with q | q
      · exact I1.cne y b e q
      · obtain ⟨_, o, ho, _⟩ := I.ok.funs.mem q
        exact absurd (Nat.lt_of_lt_of_le (Heap.lt_size ho) (I.ok.cab y b (by rw [hfn]) e)) (Nat.lt_irrefl _)
  have rc : codeAny (model X.prog X.w) X.A (.call (.ref g) ⟨[.ref f], []⟩) (CR C8.CX0 X.stack X.prog X.w (pinned (jobL X f) s'.heap H1) s' (fun v HZ => (∀ b ∈ jobL X f, HZ b = pinned (jobL X f) s'.heap H1 b) → Q v (loose (jobL X f) HZ)) C8.E0) s' := by
    refine LamX.run_ofS (N := Ng) (ps := [a]) (us := [.ref f]) (vs := [.ref f]) lk hcd2 Sg (n.room.mono hj) (env0_pinned I1.env0 pb) (hbd s' [.ref f] I1.kIn rfl) (.cons rfl .nil) rfl fun hr' => ?_
    refine hB X.A X.stack s' (pinned (jobL X f) s'.heap H1) hr' f c' (X.env.qual ++ "<lambda>") (jobL X f) (pinned (jobL X f) s'.heap H1) (fun E H' Q' => rdE c (fun cls dd _ H' => E cls dd H') ea σ H' Q') W (ev ea ρ W) F H1 (pinned (jobL X f) s'.heap H1) (fun v HZ => (∀ b ∈ jobL X f, HZ b = pinned (jobL X f) s'.heap H1 b) → Q v (loose (jobL X f) HZ)) ?_ ?_ ?_
    · intro Y Wy E i p1 p2 e1 e2 e3 e4 e5 hr2 tk hW hN hv
      exact pe_job (t := fun E => rdE c (fun cls dd _ H' => E cls dd H') ea) e1 e2 e3 e4 e5 I1 LS hf pb (hbind _ _ _ _ _) tk hW hr2 (fun A outer s H E hr3 => hb A outer s H E f c' (n.lam hr3)) hN hv hd1 hd2
    · refine ⟨⟨Same.refl _, fun a o e => pb.up (S1.sub a o e), fun _ _ e _ _ => e, fun _ e _ => e, S1.nt, S1.av, ?_, S1.cl, S1.tabs.ext fun b o e => pb.up e⟩, fun _ _ => rfl, fun b hb => ?_, pb.no, fun b hb => ?_, fun b hb => pinned_out hb, pb.up hco, fun E H3 Q3 S3 hm => ⟨F0, H0, ρ, F, W, R1.step S3, ?_⟩⟩
      · rcases S1.dr with h | ⟨a0, a1, h, n, e0, e1⟩
        · exact .inl h
        · exact .inr ⟨a0, a1, h, n, pb.up e0, pb.up e1⟩
      · obtain ⟨o, _, e⟩ := pb.pin hb
        exact ⟨o, e⟩
      · cases q : F b with
        | none => rfl
        | some o => exact absurd ((S1.sub _ _ q).symm.trans (pb.no b hb)) (by simp)
      · revert hm
        cases ev ea ρ W with
        | stk => exact fun h => h
        | ex x W2 => exact fun hm cls dd F2 H2 S hx => hm cls dd F2 H2 S hx
        | ok v W2 =>
          exact fun hm u F2 H2 S V => hm u F2 H2 S fun hk ht => by
            have a := V.at_
            rw [hk, ht, Fz_nil] at a
            exact a
    · simp only [ev] at hP
      revert hP
      cases q : h (ev ea ρ W) with
      | stk => exact fun h => h
      | ex x W2 => exact absurd q (SF.ne _ _ _)
      | ok v W2 =>
        rintro hP u F2 H2 S ⟨r, rfl, hr⟩ pk
        have pk2 : ∀ b ∈ jobL X f, ∃ o, pinned (jobL X f) s'.heap H1 b = some (Pin o) ∧ H2 b = some (Pin o) := fun b hb => by
          obtain ⟨o, _, e⟩ := pb.pin hb
          exact ⟨o, e, (pk b hb).trans e⟩
        have hr2 := res_loose (H := H1) (L := jobL X f) (fun b hb => by obtain ⟨o, _, e⟩ := pk2 b hb; exact ⟨o, e⟩) (fun b hb z => hb (by obtain ⟨o, e, t⟩ := z; exact ⟨o, pb.up e, t⟩)) hr
        refine hP u F2 (loose (jobL X f) H2) (S1.trans (stp_loose S1.refl pb.no pk2 (fun b hb => pinned_out hb) S)) ?_
        obtain ⟨fr, d⟩ := r
        cases fr with
        | false =>
          have hr2 : Rep c F2 u d := hr2
          exact .of_rep hr2 rfl (by show (if d.imm = true then [] else []) = []; split <;> rfl)
        | true =>
          obtain ⟨p, e1, e2, e3, e4, e5⟩ := (show ∃ p, u = .ref p ∧ F2 p = none ∧ p ∉ c.mv ∧ Nil H1 p ∧ OwnAt c F2 (loose (jobL X f) H2) p d from hr2)
          have et : (vo (true, d) []).t = [] := by show (if d.kids = true then [] else []) = []; split <;> rfl
          refine ⟨fun i hi => ?_, ?_⟩
          · have : (vo (true, d) []).all = [] := et
            rw [this] at hi
            cases hi
          · show ∃ p, u = .ref p ∧ F2 p = none ∧ p ∉ c.mv ∧ Nil H p ∧ OwnAt c (Fz F2 (loose (jobL X f) H2) σ (vo (true, d) []).t) (loose (jobL X f) H2) p d
            rw [et, Fz_nil]
            exact ⟨p, e1, e2, e3, S1.keepN e3 e4, e5⟩
  refine wpAny_call (codeAny_mono rc fun r s2 hq => ?_)
  cases r with
  | error e => exact (show False from hq).elim
  | ok fl =>
    cases fl with
    | ret u => exact I1.after (ce_loose pb (fun v HZ pk q => q pk) hq)
    | next => exact False.elim hq
    | brk => exact False.elim hq
    | cont => exact False.elim hq
theorem e_dic1 {a : Str} {i : Int} {j1 j2 p1 p2} : PE X (.Dict [some (.Constant (.str a) j1 p1)] [.Constant (.int i) j2 p2] pos) (rdE c Wx (.cst (.dic false [(.str a, .int i)]))) :=
  pe_wk (pe_disp (pps_cons pe_str pe_int pps_nil) rfl rfl (by simp) (by simp)) fun σ H Q ⟨F0, H0, ρ, F, W, R, hP⟩ => by
    simp only [ev] at hP
    intro p hp
    have S := R.refl.makeF (o := .dK [(Sum.inr a, .int i)]) hp
    refine ⟨upd_same, [(Sum.inr a, .int i)], rfl, by simp, ?_⟩
    rw [upd_upd]
    exact hP _ _ _ S (.of_rep (.dicK (.inl upd_same) rfl (.cons (.int i) .nil)) rfl rfl)
end
end Z

namespace Z
open PySem PySem.Spec PyProof.Rows L2
open Classical
theorem tuple_mulS (l : Addr) (items : Array Value) (n : Nat) (dd : Option Addr) (sl : Array (Option Value)) (x : Int) (u : Tok) (c0 : (decide (x < -(2 ^ 63)) || decide (x ≥ 2 ^ 63)) = false) (c1 : (items.isEmpty || x == 1) = true) :
    Meets (Builtin.«tuple.__mul__» ⟨[.ref l, .int x u], []⟩) (fun _ R s => s.heap.get? l = some { cls := .type "tuple", dict := dd, data := .seq items n, slots := sl } ∧ R (.ok (.ret (Value.ref l))) s) :=
  .of_wp fun prog w A R s h => by
    obtain ⟨hp, g, d, tk, os⟩ := s
    obtain ⟨hl, h⟩ := h
    have f1 := AutoSeq1.idx_int
    wp_walk using wpAny_loadPart' hl
    repeat (first
      | (refine wpAny_ite_false (decide_eq_false (by rw [c0]; exact Bool.false_ne_true)) ?_; wp_walk using wpAny_loadPart' hl)
      | (refine wpAny_ite_true (decide_eq_true c1) ?_; wp_walk using wpAny_loadPart' hl)
      | (refine wpAny_ite_true c1 ?_; wp_walk using wpAny_loadPart' hl))
    exact ⟨_, rfl, h⟩
theorem tuple_mul0 (l : Addr) (items : Array Value) (n : Nat) (dd : Option Addr) (sl : Array (Option Value)) (x : Int) (u : Tok) (c0 : (decide (x < -(2 ^ 63)) || decide (x ≥ 2 ^ 63)) = false) (c1 : (items.isEmpty || x == 1) = false) (c2 : (decide (x ≤ 0) || items.isEmpty) = true) :
    Meets (Builtin.«tuple.__mul__» ⟨[.ref l, .int x u], []⟩) (fun _ R s => s.heap.get? l = some { cls := .type "tuple", dict := dd, data := .seq items n, slots := sl } ∧
      R (.ok (.ret (Value.ref s.heap.objs.size))) { s with heap := s.heap.push { cls := Value.type "tuple", data := Data.seq #[] }, toks := s.toks }) :=
  .of_wp fun prog w A R s h => by
    obtain ⟨hp, g, d, tk, os⟩ := s
    obtain ⟨hl, h⟩ := h
    have f1 := AutoSeq1.idx_int
    wp_walk using wpAny_loadPart' hl
    repeat (first
      | (refine wpAny_ite_false (decide_eq_false (by rw [c0]; exact Bool.false_ne_true)) ?_; wp_walk using wpAny_loadPart' hl)
      | (refine wpAny_ite_false (decide_eq_false (by rw [c1]; exact Bool.false_ne_true)) ?_; wp_walk using wpAny_loadPart' hl)
      | (refine wpAny_ite_true (decide_eq_true c2) ?_; wp_walk using wpAny_loadPart' hl))
    exact ⟨_, rfl, h⟩
def rRepTA (K : PySem.W.Frag) : R2 := fun x y H Q => ∃ l k xs, x = .ref l ∧ y = .int k ∧ SqT K H l xs ∧ 0 ≤ k ∧ k ≤ 1000 ∧ xs.length ≤ 1000 ∧ ((xs = [] ∨ k = 1) → Q (.ref l) H) ∧ (xs ≠ [] → k ≠ 1 → ∀ p, H p = none → Q (.ref p) (upd H p (.tup (List.replicate k.toNat xs).flatten)))
section
variable {X : Cx} {c : Pm} {Wx : WX} {pos : Pos}
theorem op_repTA : OpR X (binaryOp .Mult) (rRepTA X.K) := by
  intro pins s σ H x y v u Q I rx ry h
  obtain ⟨l, k, xs, rfl, rfl, hT, h1, h2, hz, q1, q2⟩ := h
  by_cases hk : 2 ≤ k ∧ xs ≠ []
  · exact op_repT pins s σ H _ _ v u Q I rx ry ⟨l, k, xs, rfl, rfl, hT, hk.2, hk.1, h2, hz, q2 hk.2 (by omega)⟩
  cases rx
  obtain ⟨t, rfl⟩ := ry
  obtain ⟨its, r, ⟨⟨cls, dd, data, sl⟩, ho, hc, n, hd⟩, hs⟩ := I.tuple hT
  simp only at hc hd
  subst hc hd
  have hle : its.length = xs.length := r.length.symm
  have c0 : (decide (k < -(2 ^ 63)) || decide (k ≥ 2 ^ 63)) = false := by
    rw [decide_eq_false (by omega), decide_eq_false (by omega)] <;> rfl
  by_cases hs1 : xs = [] ∨ k = 1
  · have c1 : (its.toArray.isEmpty || k == 1) = true := by
      rcases hs1 with e | e
      · have : its = [] := by
          cases its with
          | nil => rfl
          | cons a b => rw [e] at hle; simp at hle
        subst this
        rfl
      · rw [e]; simp
    refine wpAny_binaryOp_repeat_ref (T := "tuple") (U := "int") (by decide) ⟨_, ho, rfl⟩ (fun s' => typeIs_int s' k t) noFill_tuple_mul F.fills_int_mul F.slot_int_rmul repeat_tuple F.slot_int_index.lookup
      (call_meets F.slot_int_rmul (typeIs_int s k t) F.entry_int_rmul (F.args_int_rmul_2 _ _) (int_rmul_tuple k t l its.toArray n dd sl)
        ⟨ho, rfl, ⟨_, ho, rfl⟩, call_meets F.slot_tuple_mul ⟨_, ho, rfl⟩ F.entry_tuple_mul (F.args_tuple_mul_2 _ _) (tuple_mulS l its.toArray n dd sl k t c0 c1) ⟨ho, ?_⟩⟩)
    exact ⟨.ref l, H, I, rfl, q1 hs1⟩
  · have hx : xs ≠ [] := fun e => hs1 (.inl e)
    have hk1 : k ≠ 1 := fun e => hs1 (.inr e)
    have hk0 : k = 0 := by
      by_cases z : 2 ≤ k
      · exact absurd ⟨z, hx⟩ hk
      · omega
    subst hk0
    have hi : its.toArray.isEmpty = false := by
      cases its with
      | nil => exact absurd (List.eq_nil_of_length_eq_zero hle.symm) hx
      | cons a b => rfl
    have c1 : (its.toArray.isEmpty || (0 : Int) == 1) = false := by rw [hi]; rfl
    have c2 : (decide ((0 : Int) ≤ 0) || its.toArray.isEmpty) = true := by rw [hi]; rfl
    refine wpAny_binaryOp_repeat_ref (T := "tuple") (U := "int") (by decide) ⟨_, ho, rfl⟩ (fun s' => typeIs_int s' 0 t) noFill_tuple_mul F.fills_int_mul F.slot_int_rmul repeat_tuple F.slot_int_index.lookup
      (call_meets F.slot_int_rmul (typeIs_int s 0 t) F.entry_int_rmul (F.args_int_rmul_2 _ _) (int_rmul_tuple 0 t l its.toArray n dd sl)
        ⟨ho, rfl, ⟨_, ho, rfl⟩, call_meets F.slot_tuple_mul ⟨_, ho, rfl⟩ F.entry_tuple_mul (F.args_tuple_mul_2 _ _) (tuple_mul0 l its.toArray n dd sl 0 t c0 c1 c2) ⟨ho, ?_⟩⟩)
    refine ⟨.ref s.heap.objs.size, _, I.laid (t' := s.toks) (o := .tup []) (fun b ob q => Heap.get?_push_of_some _ q) (Nat.le_refl _) ?_, rfl, q2 hx (by decide) _ (I.hok.fresh (Nat.le_refl _))⟩
    exact ⟨Nat.zero_le _, [], .nil, IsTup.new _ _⟩
def repTD : List D → Option (Bool × D)
  | [.tup a, .int k] => if 0 ≤ k ∧ k ≤ 1000 ∧ a.length ≤ 1000 then some (false, .tup (List.replicate k.toNat a).flatten) else none
  | _ => none
theorem x_repT {k : Nat} {a b : Expr} {ea eb : E} (n : Cn c Wx k X) (ha : PE X a (rdE c Wx ea)) (hb : PE X b (rdE c Wx eb)) : PE X (.BinOp a .Mult b pos) (rdE c Wx (.call (pureG repTD) (.cons ea (.cons eb .nil)))) := by
  refine pe_wk (pe_op op_repTA ha hb) fun σ H Q h => rdE_mono (call2_ok h) fun x H1 h => rdE_mono h fun y H2 h => ?_
  obtain ⟨F', xs, W', z, r, S, hf, hQ⟩ := spG_pure h
  obtain _ | ⟨r1, _ | ⟨r2, _ | _⟩⟩ := r
  rename_i d1 d2
  cases d1 <;> cases d2 <;> try (cases hf)
  rename_i xs i
  obtain ⟨l, vs, rfl, hT, r⟩ := r1.tupP
  have hf : (if 0 ≤ i ∧ i ≤ 1000 ∧ xs.length ≤ 1000 then some (false, D.tup (List.replicate i.toNat xs).flatten) else none) = some z := hf
  split at hf
  · rename_i hz
    cases hf
    refine ⟨l, i, vs, rfl, r2.intI, .inl (.inl (S.sub _ _ hT)), hz.1, hz.2.1, by rw [r.length]; exact hz.2.2, fun hs => ?_, fun h1 h2 p hp => ?_⟩
    · refine hQ _ F' H2 S ?_
      show Rep c F' (.ref l) (.tup (List.replicate i.toNat xs).flatten)
      have : (List.replicate i.toNat xs).flatten = xs := by
        rcases hs with e | e
        · subst e
          cases r
          simp
        · rw [e]; simp
      rw [this]
      exact .tup hT r
    · have S2 := S.makeF (o := .tup (List.replicate i.toNat vs).flatten) hp
      exact hQ _ _ _ S2 (.tup upd_same ((r.mono S2.f).times _))
  · cases hf
theorem names_set {F0 H : Hp} : ∀ (is : List Nat) {us : List V} {σ : L2.St} {Q : L2.St → Hp → Prop}, us.length = is.length → Q (setAll σ is us) H → gNames is us σ H Q
  | [], [], σ, Q, _, h => ⟨rfl, h⟩
  | i :: is, u :: us, σ, Q, hl, h => ⟨u, us, rfl, names_set (F0 := F0) is (by simpa using hl) h⟩
  | [], _ :: _, _, _, hl, _ => by simp at hl
  | _ :: _, [], _, _, hl, _ => by simp at hl
/-- a, b = x, y through a tuple that nothing keeps -/
theorem z_parU {k fu : Nat} {tg : Expr} {es : List Expr} {ea : E} {is : List Nat} {m : Nat} {pt2} {k2} (n : Cn c Wx k X) (ha : PA X es (rdL c Wx ea)) (hg : PG X tg (gTup X.K m (gNames is))) (hm : m = is.length := by rfl) (hml : is.length ≤ 100 := by decide)
    (hs : swapsWithSole [tg] (.Tuple es k2 pt2) pos.line X.env = pure false := by rfl) (hw : swappedStores [tg] (.Tuple es k2 pt2) X.env = pure none := by rfl)
    (h1 : (assignEach [tg] X.env).map (·.2) = [assign tg X.env] := by rfl) : PS X (.Assign [tg] (.Tuple es k2 pt2) pos) (rdS c Wx fu (.par is ea)) := by
  refine ps_wk (ps_asg (pe_tup ha) hg hs hw h1) fun D σ H ⟨F0, H0, ρ, F, W, R, hP⟩ => ?_
  simp only [evS] at hP
  refine st_l R hP fun vs W1 us F1 H1 S1 A ap R1 hP => ?_
  have hl : vs.length = is.length := by
    by_cases h : vs.length = is.length ∧ is.Nodup
    · exact h.1
    · rw [if_neg h] at hP; exact hP.elim
  have hu : us.length = is.length := by rw [Paired.len A]; exact hl
  refine ⟨by rw [hu, sizeLine_eq]; omega, fun p hp => ⟨p, us, rfl, .inl (.inl upd_same), by rw [hu, hm], ?_⟩⟩
  have Sm := R1.stp.refl.make (o := .tup us) hp
  have A' : ArgOk c ρ σ H F1 (upd H1 p (.tup us)) us vs := Paired.mapP A fun _ _ z => z.step R1 Sm
  exact names_set (F0 := F1) is hu (par_ok R (R1.step Sm) (S1.trans Sm) A' ap hP)
theorem z_par3 (i j l : Nat) {k fu : Nat} {z1 z2 z3 : Str} {a b e : Expr} {ea : E} {px py pz pt : Pos} {kt k2 pt2} (n : Cn c Wx k X) (ha : PA X [a, b, e] (rdL c Wx ea)) (hij : i ≠ j := by decide) (hil : i ≠ l := by decide) (hjl : j ≠ l := by decide)
    (hi : X.N[i]? = some z1 := by rfl) (hj : X.N[j]? = some z2 := by rfl) (hl : X.N[l]? = some z3 := by rfl)
    (hx : X.env.scope.names.lookup z1 = some .local := by rfl) (hy : X.env.scope.names.lookup z2 = some .local := by rfl) (hz : X.env.scope.names.lookup z3 = some .local := by rfl)
    (hw : swappedStores [.Tuple [.Name z1 px, .Name z2 py, .Name z3 pz] kt pt] (.Tuple [a, b, e] k2 pt2) X.env = pure (some [z1, z2, z3]) := by rfl)
    (hs : swapsWithSole [.Tuple [.Name z1 px, .Name z2 py, .Name z3 pz] kt pt] (.Tuple [a, b, e] k2 pt2) pos.line X.env = pure false := by rfl) :
    PS X (.Assign [.Tuple [.Name z1 px, .Name z2 py, .Name z3 pz] kt pt] (.Tuple [a, b, e] k2 pt2) pos) (rdS c Wx fu (.par [i, j, l] ea)) := by
  refine ps_wk (ps_par3 n.calm n.nd hi hj hl hij hil hjl hx hy hz ha hw hs) fun D σ H ⟨F0, H0, ρ, F, W, R, hP⟩ => ?_
  simp only [evS] at hP
  refine st_l R hP fun vs W1 us F1 H1 S1 A ap R1 hP => ?_
  have q := par_ok R R1 S1 A ap hP
  have hl : vs.length = 3 := by
    by_cases h : vs.length = [i, j, l].length ∧ [i, j, l].Nodup
    · exact h.1
    · rw [if_neg h] at hP; exact hP.elim
  rw [← Paired.len A] at hl
  match us, hl with
  | [u, w, z], _ => exact ⟨u, w, z, rfl, q⟩
end
end Z

namespace Z
open PySem PySem.Spec PyProof.Rows L2
open Classical
def scD : D → Option PyData
  | .int i => some (.int i)
  | .str x => some (.str x)
  | _ => none
def scV : V → Option PyData
  | .int i => some (.int i)
  | .str x => some (.str x)
  | _ => none
def keyPd : Key → PyData
  | .inl i => .int i
  | .inr x => .str x
def pdK : List (D × D) → Option (List (PyData × PyData))
  | [] => some []
  | (k, v) :: r => match scD k, scD v, pdK r with
    | some a, some b, some q => some ((a, b) :: q)
    | _, _, _ => none
def pdV : List (Key × V) → Option (List (PyData × PyData))
  | [] => some []
  | (k, v) :: r => match scV v, pdV r with
    | some b, some q => some ((keyPd k, b) :: q)
    | _, _ => none
def pdOf : D → Option PyData
  | .dic false kvs => (pdK kvs).map .dict
  | d => d.pd
noncomputable def reprAnyD : List D → Option (Bool × D)
  | [d] => (pdOf d).bind fun p => if p.showable = true ∧ p.shown.length ≤ cap ∧ p.depth ≤ 50 then some (false, .str p.shown) else none
  | _ => none
section
variable {c : Pm} {Wx : WX} {X : Cx} {F : Hp} {pos : Pos} {k : Nat}
theorem scD_rep {u : V} {d : D} {p : PyData} (r : Rep c F u d) (h : scD d = some p) : scV u = some p := by
  cases r <;> first | exact h | (cases h)
theorem pdK_rep : ∀ {kvs : List (D × D)} {ks : List (Key × V)} {q : List (PyData × PyData)}, kvs.map (·.1) = ks.map (fun q => keyD q.1) → RepL c F (ks.map (·.2)) (kvs.map (·.2)) → pdK kvs = some q → pdV ks = some q
  | [], [], q, _, _, h => h
  | (k, v) :: r, (k', v') :: r', q, e, R, h => by
    simp only [List.map_cons, List.cons.injEq] at e
    obtain ⟨e1, e2⟩ := e
    simp only [List.map_cons] at R
    obtain _ | ⟨R1, R2⟩ := R
    simp only [pdK] at h
    cases h1 : scD k <;> cases h2 : scD v <;> cases h3 : pdK r <;> rw [h1, h2, h3] at h <;> simp only at h <;> try (cases h; done)
    rename_i A B R
    cases h
    have q1 := scD_rep R1 h2
    have q2 := pdK_rep e2 R2 h3
    have q3 : keyPd k' = A := by
      rw [e1] at h1
      cases k' <;> simp only [keyD, scD] at h1 <;> exact Option.some.inj h1
    simp only [pdV, q1, q2, q3]
  | [], _ :: _, _, e, _, _ => by simp at e
  | _ :: _, [], _, e, _, _ => by simp at e
theorem sc_reads {h : Heap} {v : V} {u : Value} {p : PyData} (r : RelV v u) (e : scV v = some p) : Reads h u p [] := by
  cases v <;> try (cases e; done)
  · cases e
    obtain ⟨t, rfl⟩ := r
    exact .int _ t
  · cases e
    obtain ⟨t, rfl⟩ := r
    exact .str _ t
theorem kv_reads {P : Program} {w : World} {h : Heap} : ∀ {ks : List (Key × V)} {vs : List (Key × Value)} {es : List DictEntry} {q : List (PyData × PyData)}, KV ks vs → Pairs (mixKind P w) es vs → pdV ks = some q →
    ReadsAll h (es.map (·.key)) (q.map (·.1)) [] ∧ ReadsAll h (es.map (·.val)) (q.map (·.2)) []
  | _, _, _, q, .nil, .nil, e => by cases e; exact ⟨.nil, .nil⟩
  | (k, v) :: ks, (k2, u) :: vs, en :: es, q, .cons r rs, .cons p1 p2 ps, e => by
    simp only [pdV] at e
    cases h1 : scV v <;> cases h2 : pdV ks <;> rw [h1, h2] at e <;> simp only at e <;> try (cases e; done)
    cases e
    obtain ⟨i1, i2⟩ := kv_reads (h := h) rs ps h2
    have hk : k = k2 := r.1
    have rv : RelV v u := r.2
    have p1 : keyIs k2 en.key = true := p1
    have p2 : en.val = u := p2
    subst hk
    refine ⟨?_, ?_⟩
    · have : Reads h en.key (keyPd k) [] := by
        rcases keyIs_shape p1 with ⟨i, t, rfl, e⟩ | ⟨x, t, rfl, e⟩
        · rw [e]; exact .int _ t
        · rw [e]; exact .str _ t
      exact ReadsAll.cons (as := []) (bs := []) this i1
    · rw [List.map_cons, List.map_cons, p2]
      exact ReadsAll.cons (as := []) (bs := []) (sc_reads rv h1) i2
def rReprA (K : PySem.W.Frag) : List V → Hp → VK → Prop := fun xs H Q => ∃ (v : V) (p : PyData), xs = [v] ∧ ((Dp K H v p ∧ p.hasDict = false) ∨ ∃ a ks q, v = .ref a ∧ Rd H a (.dK ks) ∧ pdV ks = some q ∧ p = .dict q) ∧ p.showable = true ∧ p.depth ≤ 50 ∧ p.shown.length ≤ sizeLine ∧ Q (.str p.shown) H
theorem cr_reprA (hu : X.A.units + 64 < cLine) (GD : X.A.guards = some []) : CallR X (.builtin "repr") (rReprA X.K) := by
  intro pins s σ H xs us Q I r h
  obtain ⟨v, p, rfl, hd, h1, h2, h3, q⟩ := h
  obtain ⟨u, rfl, ru⟩ := vals1 r
  obtain ⟨as, rd, hsm⟩ : ∃ as, Reads s.heap u p as ∧ (p.hasDict = true → sysModules ∉ as) := by
    rcases hd with ⟨hd, hn⟩ | ⟨a, ks, q, rfl, hR, hq, rfl⟩
    · obtain ⟨as, rd⟩ := Dp.reads I p _ _ hd ru
      exact ⟨as, rd, fun z => by rw [hn] at z; cases z⟩
    · cases ru
      obtain ⟨z, hs, vs, r0, o, es, ep, ho, hx, hdt, _, hp, _⟩ := hR.ok I.hok
      obtain ⟨i1, i2⟩ := kv_reads (h := s.heap) r0 hp hq
      refine ⟨_, Reads.dict ho hx.1 hdt i1 i2, fun _ hm => ?_⟩
      simp only [List.append_nil, List.mem_singleton] at hm
      exact beq_eq_false_iff_ne.mp hs hm.symm
  cases rd with
  | none => exact PySem.P.repr_of_none ⟨.str _, H, I.tok _, ⟨_, rfl⟩, q⟩
  | bool b => exact PySem.P.repr_of_bool ⟨.str _, H, I.tok _, ⟨_, rfl⟩, q⟩
  | int i t => exact PySem.P.repr_of_int (of_decide_eq_true h1) ⟨.str _, H, I.tok _, ⟨_, rfl⟩, q⟩
  | str x t => exact PySem.P.repr_of_str ⟨.str _, H, I.tok _, ⟨_, rfl⟩, q⟩ (hsz := h3)
  | list a b e d => exact repr_of_reads' (.list a b e d) h1 hsm GD (by omega) (fun _ _ z => z) (fun h' u tk hk => ⟨.str _, H, I.kept hk, ⟨_, rfl⟩, q⟩) h3
  | tuple a b e d => exact repr_of_reads' (.tuple a b e d) h1 hsm GD (by omega) (fun _ _ z => z) (fun h' u tk hk => ⟨.str _, H, I.kept hk, ⟨_, rfl⟩, q⟩) h3
  | dict a b e d f => exact repr_of_reads' (.dict a b e d f) h1 hsm GD (by omega) (fun _ _ z => z) (fun h' u tk hk => ⟨.str _, H, I.kept hk, ⟨_, rfl⟩, q⟩) h3
theorem x_reprA {a : Expr} {ea : E} {p : Pos} (n : Cn c Wx k X) (GD : X.A.guards = some []) (hm : X.mg "repr" = none) (ha : PA X [a] (rdL c Wx ea)) (hg : Gl X "repr" := by rfl) (he : starEach [a] X.env = (false, eval a X.env) :: starEach [] X.env := by rfl) (hpl : (backTo pos (starEach [] X.env)).any (·.1) = false := by rfl) :
    PE X (.Call (.Name "repr" p) [a] [] pos) (rdE c Wx (.call (pureG reprAnyD) ea)) := by
  refine x_bltB n (fun vs H Q E h => ?_) (cr_reprA n.hu GD) boot_repr' hm ha hg (by decide) (by decide) he hpl
  obtain ⟨F, xs, W, r, rr, S, hf, hQ⟩ := spG_pure h
  match xs, rr, hf with
  | [d], .cons (v := v) r1 .nil, hf =>
    simp only [reprAnyD] at hf
    rw [Option.bind_eq_some_iff] at hf
    obtain ⟨p, hp, hf⟩ := hf
    split at hf <;> cases hf
    rename_i hz
    refine ⟨v, p, rfl, ?_, hz.1, hz.2.2, by rw [← cap_eq]; exact hz.2.1, hQ _ F _ S (.str _)⟩
    by_cases hd : ∃ kvs, d = .dic false kvs
    · obtain ⟨kvs, rfl⟩ := hd
      have hp : (pdK kvs).map .dict = some p := hp
      rw [Option.map_eq_some_iff] at hp
      obtain ⟨q, hq, rfl⟩ := hp
      cases r1 with
      | dicK h1 h2 h3 => exact .inr ⟨_, _, q, rfl, Rd.mono S.sub h1, pdK_rep h2 h3 hq, rfl⟩
    · have hp : d.pd = some p := by
        cases d <;> try exact hp
        rename_i t kvs
        cases t
        · exact absurd ⟨_, rfl⟩ hd
        · exact hp
      exact .inl ⟨n.hk ▸ dp_mono S.sub (rep_dp _ _ _ _ hp r1), pyN_nod _ _ _ hp⟩
end
end Z

namespace Z
open PySem PySem.Spec PyProof.Rows L2
open Classical
noncomputable def lenSetD : List D → Option (Bool × D)
  | [.lst xs] => if ∃ l : List Str, xs = l.map .str ∧ l.Nodup ∧ l.length ≤ 4000 then some (false, .int xs.length) else none
  | _ => none
end Z

namespace Z
open PySem PySem.Spec PyProof.Rows L2
open Classical
/-- how many different ones stand among the first i -/
def dn (xs : List Str) : Nat → Nat
  | 0 => 0
  | i + 1 => if (xs.take i).any (· == xs.getD i Str.empty) then dn xs i else dn xs i + 1
theorem dn_le (xs : List Str) : ∀ i, dn xs i ≤ i
  | 0 => Nat.le_refl _
  | i + 1 => by
    have h := dn_le xs i
    unfold dn
    split <;> omega
theorem dn_nodup {xs : List Str} (h : xs.Nodup) : ∀ i, i ≤ xs.length → dn xs i = i
  | 0, _ => rfl
  | i + 1, hi => by
    have no : ¬ ((xs.take i).any (· == xs.getD i Str.empty)) = true := fun q => by
      obtain ⟨x, hx, e⟩ := List.any_eq_true.mp q
      obtain ⟨j, hj, ej⟩ := List.getElem_of_mem hx
      rw [List.length_take] at hj
      have hji : j < i := by omega
      rw [List.getElem_take] at ej
      have e2 : xs[j] = xs[i] := by
        rw [ej, eq_of_beq e, List.getD_eq_getElem?_getD, List.getElem?_eq_getElem hi, Option.getD_some]
      exact absurd e2 (List.pairwise_iff_getElem.mp h j i _ hi hji)
    unfold dn
    rw [if_neg no, dn_nodup h i (Nat.le_of_lt hi)]
section
variable {prog : Program} {w : World} {A : Around} {R : Result → Shared → Prop} {I : Addr} {fp wr : List Addr} {G : Array GenState → Array GenState → Prop} {n : Nat} {P : Nat → Value → Prop} {St : Nat → Shared → Prop}
theorem set_texts (W : WalksS prog w A.in1 I fp wr G n P St) (S : Addr) (hSf : S ∉ fp) (xs : List Str) (hsz : xs.length = n) (hb : n + 1 < scanBound) (hval : ∀ i v, P i v → ∃ t, v = .str (xs.getD i Str.empty) t) :
    ∀ (k i : Nat) (s : Shared), n - i = k → i ≤ n → St i s → s.heap.SetOf (strKind prog w) S (fun y => (xs.take i).any (· == y)) (dn xs i) →
      (∀ s', Moved (S :: wr) G s s' → s'.heap.SetOf (strKind prog w) S (fun y => (xs.take n).any (· == y)) (dn xs n) → R (.ok (.ret .none)) s') →
      codeAny (model prog w) A (.builtin "set.update.loop" ⟨[.ref S, .ref I], []⟩) R s := by
  have hSw : S ∉ wr := fun h => hSf (W.sub _ h)
  have hsub : ∀ b ∈ wr, b ∈ S :: wr := fun b hb => List.mem_cons_of_mem _ hb
  intro k
  induction k with
  | zero =>
    intro i s hk hi hst hS hR
    obtain rfl : i = n := by omega
    refine codeAny_builtin F.entry_set_update_loop ?_
    rw [Around.under_plainId F.plain_set_update_loop _]
    show wpAny _ A.in1 (pyNext (.ref I) >>= _) _ _ s
    refine wpAny_bind (W.done s _ _ hst fun s' hm => ?_)
    show wpAny _ A.in1 (ret Value.none) _ _ s'
    obtain ⟨o, es, ep, t, ho, rest⟩ := hS
    exact wpAny_pure (hR s' (hm.mono hsub) ⟨o, es, ep, t, hm.heap S _ hSw ho, rest⟩)
  | succ k ih =>
    intro i s hk hi hst hS hR
    have hlt : i < n := by omega
    refine codeAny_builtin F.entry_set_update_loop ?_
    rw [Around.under_plainId F.plain_set_update_loop _]
    show wpAny _ A.in1 (pyNext (.ref I) >>= _) _ _ s
    refine wpAny_bind (W.item i s _ _ hlt hst fun v s' hP hst' hm => ?_)
    obtain ⟨t, rfl⟩ := hval i v hP
    have hS' : s'.heap.SetOf (strKind prog w) S (fun y => (xs.take i).any (· == y)) (dn xs i) := by
      obtain ⟨o, es, ep, tb, ho, rest⟩ := hS
      exact ⟨o, es, ep, tb, hm.heap S _ hSw ho, rest⟩
    show wpAny _ A.in1 (holding [Value.str (xs.getD i Str.empty) t] (setAdd S (.str (xs.getD i Str.empty) t)) >>= _) _ _ s'
    refine wpAny_bind (wpAny_holding ?_)
    unfold setAdd
    refine wpAny_holding (wpAny_bind ((strKind prog w).pyHash (k := xs.getD i Str.empty) (strKind_is _ _ _ _) ?_))
    have hd := dn_le xs i
    refine wpAny_setAddHashed_of (knd := strKind prog w) (s := { s' with toks := s'.toks + 1 }) (strKind_is _ _ _ _) rfl hS' (by omega) fun h' hsb hS2 => ?_
    have hx : i < xs.length := by omega
    have hSi : h'.SetOf (strKind prog w) S (fun y => (xs.take (i + 1)).any (· == y)) (dn xs (i + 1)) := by
      refine SetOf_congr hS2 (fun y => ?_) (by rw [dn])
      rw [List.take_add_one, List.getElem?_eq_getElem hx, List.any_append, List.getD_eq_getElem?_getD, List.getElem?_eq_getElem hx]
      simp only [Option.toList_some, List.any_cons, List.any_nil, Bool.or_false, Option.getD_some]
      congr 1
      by_cases e : y = xs[i]
      · subst e; simp
      · have : (xs[i] == y) = false := by simpa [beq_iff_eq] using fun q : xs[i] = y => e q.symm
        simp [e, this]
    refine wpAny_pure ⟨plainId_quiet F.plain_set_update_loop _, ih (i + 1) _ (by omega) hlt (W.frame _ s' _ _ hst' (Nat.le_succ _) fun b hb o e => ?_) hSi fun s'' hm'' hS'' => ?_⟩
    · rw [hsb.2 b (fun h : b = S => hSf (by rw [← h]; exact hb))]; exact e
    · refine hR s'' (Moved.trans W.gtrans ((hm.mono hsub).then_heap (Nat.le_succ _) fun b o hb e => ?_) hm'') hS''
      rw [hsb.2 b (fun h : b = S => hb (by rw [h]; exact List.mem_cons_self))]; exact e
end
section
variable {prog : Program} {w : World} {A : Around} {E : Value → Shared → Prop} {s : Shared}
theorem set_of_texts {l : Addr} {items : Array Value} {xs : List Str} {Q : Value → Shared → Prop} (hh : A.handled = none) (hl : s.heap.IsList l items) (hi : StrsAre items.toList xs) (hb : xs.length + 1 < scanBound)
    (h : ∀ (h' : Heap) (tk : Nat), h'.SetOf (strKind prog w) s.heap.objs.size (fun y => (xs.take items.size).any (· == y)) (dn xs items.size) → (∀ b o, b < s.heap.objs.size → s.heap.get? b = some o → h'.get? b = some o) → Q (.ref s.heap.objs.size) { s with heap := h', toks := tk }) :
    wpAny (model prog w) A (call (.type "set") [.ref l]) Q E s := by
  obtain ⟨c, tl, hmro⟩ := F.called_set.mro
  have hmade := F.called_set.made
  have hsub := F.called_set.sub
  refine wpAny_call (codeAny_of_tree ?_)
  show wpAny _ _ (callAny (.type "set") _) _ _ _
  refine wpAny_pure ⟨Code.quiet_builtin _ (by decide +kernel), codeAny_builtin F.entry_type_call ?_⟩
  rw [Around.under_plain (weight_type_call_type "set" [.ref l] []) rfl]
  have h1 := F.called_set.notType
  have h2 := F.called_set.canCreate
  have hct := F.typeCall_set_1 (.ref l)
  repeat (any_goals (first | assumption | wp_step))

  refine codeAny_mono (code_set_new_1 (.ref l) (E := E) (Q₁ := fun obj s₁ => ∃ led : Bool, obj = .ref s.heap.objs.size ∧ s₁ = { s with heap := s.heap.push { cls := .type "set", dict := none, data := .set #[] 0 (.fresh 0 0 led) } }) fun led => ⟨led, rfl, rfl⟩) fun r s₁ hr => ?_
  match r, hr with
  | .error e, hr => exact hr
  | .ok (.ret obj), hr =>
    obtain ⟨led, rfl, rfl⟩ := hr
    generalize hob : ({ cls := .type "set", dict := none, data := .set #[] 0 (.fresh 0 0 led) } : Obj) = ob
    have hS : (s.heap.push ob).get? s.heap.objs.size = some ob := Heap.get?_push_size _ (by rw [← hob]; rfl)
    have hT : Shared.TypeIs { s with heap := s.heap.push ob } (.ref s.heap.objs.size) "set" := ⟨_, hS, by rw [← hob]⟩
    have hli := F.called_set.init.lookup
    have hbi := F.called_set.init.bind (.ref s.heap.objs.size)
    repeat (any_goals (first | assumption | wp_step))

    refine codeAny_mono (codeAny_call_builtin (R := wants (fun r s₂ => r = .none ∧ ∃ h' tk, s₂ = { s with heap := h', toks := tk } ∧
        h'.SetOf (strKind prog w) s.heap.objs.size (fun y => (xs.take items.size).any (· == y)) (dn xs items.size) ∧ (∀ b o, b < s.heap.objs.size → s.heap.get? b = some o → h'.get? b = some o)) E) F.called_set.init.plain F.entry_set_init (check_set_init_1 hT ?_)) fun r₂ s₂ hr₂ => ?_
    · obtain ⟨⟨ocls, odict, odata, oslots⟩, hol, hcl, nl, hdl⟩ := hl
      simp only at hcl hdl
      subst hcl; subst hdl
      have hol' : (s.heap.push ob).get? l = some { cls := .type "list", dict := odict, data := .seq items nl, slots := oslots } := Heap.get?_push_of_some _ hol
      have hsls := F.sub_list_set
      have hslf := F.sub_list_frozenset
      have hne : (Value.type "list" == Value.type "dict") = false := by decide
      have hl1 : (s.heap.push ob).IsList l items := ⟨_, hol', rfl, nl, rfl⟩
      subst hob
      unfold Builtin.«set.__init__» noKeywords Builtin.Frozenset.updateFrom
      generalize hPI : pyIter = PI
      wp_walk
      subst hPI

      refine wpAny_pyIter_list hl1 ?_
      refine wpAny_bind (wpAny_runValue ?_)
      have hlS : l < s.heap.objs.size := Heap.lt_size hol
      generalize hob : ({ cls := .type "set", dict := none, data := .set #[] 0 (.fresh 0 0 led) } : Obj) = ob at hS hl1 ⊢
      have hz : (s.heap.push ob).objs.size = s.heap.objs.size + 1 := Heap.size_push ..
      have hneI : l ≠ (s.heap.push ob).objs.size := Nat.ne_of_lt (by rw [hz]; exact Nat.lt_succ_of_lt hlS)
      have hSf : s.heap.objs.size ∉ [(s.heap.push ob).objs.size, l] := by
        simp only [List.mem_cons, List.not_mem_nil, or_false, not_or]
        exact ⟨Nat.ne_of_lt (by rw [hz]; exact Nat.lt_succ_self _), Nat.ne_of_gt hlS⟩
      have hsz : xs.length = items.size := by rw [← StrsAre.len_eq hi, Array.length_toList]
      have hsy : ∀ (i : Nat) (v : Value), items[i]? = some v → ∃ t, v = .str (xs.getD i Str.empty) t := fun i v hv => SS.strs_at hi i v (by rw [Array.getElem?_toList]; exact hv)
      refine set_texts ((Walks.list (by simp [hh]) _ l hneI items).toS) s.heap.objs.size hSf xs hsz (by omega) hsy (items.size - 0) 0 _ (by omega) (Nat.zero_le _) ⟨⟨_, Heap.get?_push_size _ rfl, rfl, rfl⟩, hl1.push _⟩ ?_ ?_
      · have hget : ((s.heap.push ob).push { cls := .type "list_iterator", data := .fields #[.ref l, .int 0 0] }).get? s.heap.objs.size = some ob := Heap.get?_push_of_some _ hS
        subst hob
        exact SetOf_congr ((setObjOf_fresh (knd := strKind prog w) led).setOf hget (by unfold scanBound; omega)) (fun _ => rfl) rfl
      · intro s' hm hS'
        obtain ⟨h', g', d', tk', os'⟩ := s'
        obtain rfl : g' = s.gens := hm.gens
        obtain rfl : d' = s.drawn := hm.drawn
        obtain rfl : os' = s.os := hm.os
        show wpAny _ _ _ _ _ _
        refine wpAny_pure ?_
        show wpAny _ _ (ret Value.none) _ _ _
        refine wpAny_pure ⟨rfl, h', tk', rfl, hS', fun b o hb e => ?_⟩
        exact hm.heap b o (by simp only [List.mem_cons, List.not_mem_nil, or_false, not_or]; exact ⟨Nat.ne_of_lt hb, Nat.ne_of_lt (by rw [hz]; exact Nat.lt_succ_of_lt hb)⟩) (Heap.get?_push_of_some _ (Heap.get?_push_of_some _ e))
    · match r₂, hr₂ with
      | .error e, hr₂ => exact hr₂
      | .ok (.ret r), hr₂ =>
        obtain ⟨rfl, h', tk, rfl, hS', hk'⟩ := hr₂
        repeat (any_goals (first | assumption | wp_step))
        exact h _ _ hS' hk'
end
section
variable {X : Cx}
theorem pe_lenSetT {a : Expr} {ta : TA} {p p2 q pos : Pos} (hc : X.calm = true) (hg : Gl X "len") (hm : X.mg "len" = none) (hg2 : Gl X "set") (hm2 : X.mg "set" = none) (ha : PA X [a] ta) (na : starEach [a] X.env = [(false, eval a X.env)]) :
    PE X (.Call (.Name "len" p) [.Call (.Name "set" p2) [a] [] q] [] pos) (fun σ H Q => ta σ H fun vs H1 => ∃ l, ∃ xs : List Str, vs = [.ref l] ∧ SqL X.K H1 l (xs.map V.str) ∧ xs.length ≤ 4000 ∧ Q (.int (dn xs xs.length : Nat)) H1) := by
  refine ⟨fun pins s σ H Q I h => ?_⟩
  refine Call_ (ld_blt I hg hm boot_len ?_)
  refine callWith_builtin1 (args_cons ?_ rfl) rfl rfl
  refine Call_ (ld_blt I hg2 hm2 boot_set ?_)
  refine callWith_type1 (thn (ha.run q pins s σ H _ I h) fun us s1 ⟨vs, H1, I1, r1, q1⟩ => ?_) na rfl
  obtain ⟨l, xs, rfl, hq, hl, q1⟩ := q1
  cases r1 with
  | cons r rr =>
    cases rr
    cases r
    obtain ⟨its, r, pl, hz⟩ := I1.list hq
    have hlen : its.toArray.size = xs.length := by rw [List.size_toArray, ← r.length, List.length_map]
    refine set_of_texts (I1.ok.hd hc) pl.isList (by simpa using L2.strsAre_of r) (by unfold scanBound; omega) fun h' tk hS hk => ?_
    refine args_nil ?_
    rw [hlen] at hS
    obtain ⟨o, es, ep, t, ho, hex, hd, _, _, _, hf, hn⟩ := hS
    have I2 : Inv X pins σ H1 { s1 with heap := h', toks := tk } := I1.kept fun b o e => hk b o (Heap.lt_size e) e
    have hdn := dn_le xs xs.length
    exact call_len_set ho hex hd hf (by rw [hn]; omega) ⟨.int (dn xs xs.length : Nat), H1, I2.tok _, ⟨_, by rw [hn]⟩, q1⟩
end
theorem rep_strs_inv {c : Pm} {F : Hp} : ∀ {l : List Str} {us : List V}, RepL c F us (l.map D.str) → us = l.map V.str
  | [], _, .nil => rfl
  | x :: l, _, .cons r t => by
    cases r
    rw [rep_strs_inv t]
    rfl
section
variable {c : Pm} {Wx : WX} {X : Cx} {pos : Pos} {k : Nat}
theorem x_lenSet {a : Expr} {ea : E} {p p2 q : Pos} (n : Cn c Wx k X) (hm : X.mg "len" = none) (hm2 : X.mg "set" = none) (ha : PA X [a] (rdL c Wx ea)) (hg : Gl X "len" := by rfl) (hg2 : Gl X "set" := by rfl) (na : starEach [a] X.env = [(false, eval a X.env)] := by rfl) :
    PE X (.Call (.Name "len" p) [.Call (.Name "set" p2) [a] [] q] [] pos) (rdE c Wx (.call (pureG lenSetD) ea)) := by
  refine pe_wk (pe_lenSetT n.calm hg hm hg2 hm2 ha na) fun σ H Q h => rdL_mono (call_ok h) fun vs H1 h3 => ?_
  obtain ⟨F, xs, W, r, rr, S, hf, hQ⟩ := spG_pure h3
  match xs, rr, hf with
  | [.lst zs], .cons r1 .nil, hf =>
    simp only [lenSetD] at hf
    split at hf <;> cases hf
    rename_i hl
    obtain ⟨l, rfl, hn, hz⟩ := hl
    obtain ⟨p, ws, rfl, e1, e2⟩ := r1.lstI
    obtain rfl := rep_strs_inv e2
    refine ⟨p, l, rfl, n.hk ▸ .inl (.inl (S.sub _ _ e1)), hz, ?_⟩
    rw [dn_nodup hn _ (Nat.le_refl _)]
    rw [List.length_map] at hQ
    exact hQ _ F _ S (.int _)
end
end Z

namespace Z
open PySem PySem.Spec PyProof.Rows L2
open PySem.W (Frag Looks findIn typeIn keepIn subIn nsIn mroIn clsIn codeIn kxs_mw ks_superObj ks_superIn ksFn ksEnv)
def eA (f : Str) (p1 p2 : Pos) : Arguments := { posonlyargs := [], args := [{ arg := "self", annotation := none, pos := p1 }, { arg := f, annotation := none, pos := p2 }], vararg := none, kwonlyargs := [], kw_defaults := [], kwarg := none, defaults := [] }
def eB (f m : Str) (j : Nat) (p0 p1 p2 p3 p4 p5 q1 q2 q3 q4 : Pos) : List Stmt :=
  [.Expr (.Call (.Attribute (.Call (.Name "super" p0) [] [] p1) "__init__" p2) [.Constant (.str m) j p3] [] p4) p5, .Assign [.Attribute (.Name "self" q1) f q2] (.Name f q3) q4]
structure ScOk (f : Str) (sc : Scope) : Prop where
  kind : sc.kind = .function
  co : sc.isCoroutine = false
  gen : sc.isGenerator = false
  sup : sc.names.lookup ("super" : Str) = some .globalImplicit
  cl : sc.names.lookup ("__class__" : Str) = some .free
  self : sc.names.lookup ("self" : Str) = some .local
  fld : sc.names.lookup f = some .local
  nocell : ∀ x ∈ sc.names, x.2 ≠ .cell
/-- what the written part says of the class at C, its __init__ at fI -/
structure OwnT (P : Program) (K : Frag) (mg : Str → Option Value) (x f : Str) (C fI : Addr) : Prop where
  gC : mg x = some (.ref C)
  noS : mg "super" = none
  cls : OexC K C
  noN : findIn K (.ref C) f = some none
  iC : findIn K (.ref C) "__init__" = some (some (.ref fI))
  tI : typeIn K (.ref fI) = some (.type "function")
  slf : mroIn K C (.ref C) = some true
  sup : ks_superIn K C C "__init__" = some (some (.builtin "ValueError.__init__"))
  ve : subIn K (.ref C) (.type "ValueError") = some true
  opq : nsIn K cStatics "thirdparty.any" = some none
  hf : f ≠ "self"
  hb : f = "at" ∨ f = "row" ∨ f = "limit"
  hd : (f == ("__debug__" : Str)) = false
  top : (P.main.scope.names.lookup ("super" : Str)).isSome = false
  fn : ∃ (oc : Value) (od : Option Addr) (qual : Str) (sc : Scope) (doc pm : Value) (an : Option Addr) (cda : Addr) (ct : Value) (cc : Addr) (osl : Array (Option Value)) (m : Str) (j : Nat) (p1 p2 a0 a1 a2 a3 a4 a5 b1 b2 b3 b4 : Pos),
    K.lookup fI = some ⟨oc, od, .func (ksFn "__init__" qual (eA f p1 p2) (eB f m j a0 a1 a2 a3 a4 a5 b1 b2 b3 b4) sc .none .none doc pm an (.ref cda) ct cc), osl⟩ ∧ codeIn K (.ref cda) qual = true ∧ ScOk f sc ∧ (a2.endLine == a4.line) = true ∧
    (∃ ccl cdd vs ccs file tf, K.lookup cda = some ⟨ccl, cdd, .fields vs, ccs⟩ ∧ vs[2]? = some (.str file tf) ∧ ((P.main.file : Str) == file) = true) ∧ ∃ cl cld csl, K.lookup cc = some ⟨cl, cld, .cell (some (.ref C)), csl⟩
/-- what __init__ leaves -/
structure OwnEnd (h h' : Heap) (x C dx t1 : Addr) (f : Str) (v : Value) : Prop where
  keep : ∀ b o, b ≠ x → h.get? b = some o → h'.get? b = some o
  obj : h'.get? x = some { cls := .ref C, dict := some dx, data := .fields #[.ref t1, .none, .none, .none, .bool false, .none] }
  dbig : h.objs.size ≤ dx
  dne : dx ≠ x
  ns : h'.Ns1 dx (fun y => if y = f then some v else none)
section
variable {P : Program} {w : World} {A : Around} {E : Value → Shared → Prop} {R : Result → Shared → Prop} {s : Shared} {K : Frag} {mg mb : Str → Option Value} {x f : Str} {C fI : Addr}
theorem in_but {h h' : Heap} {a : Addr} (X : K.In h) (hx : K.lookup a = none) (k : ∀ b o, b ≠ a → h.get? b = some o → h'.get? b = some o) : K.In h' := fun b o e =>
  k b o (fun z => by rw [z, hx] at e; cases e) (X b o e)
theorem at_cls {h : Heap} {cd : ClassData} (X : K.In h) (e : clsIn K C = some cd) : ∃ o, h.get? C = some o ∧ o.data = .cls cd := by
  unfold clsIn at e
  split at e
  · rename_i c d cd' sl ho
    cases e
    exact ⟨_, X _ _ ho, rfl⟩
  · cases e
/-- super().__init__(..): the wrapper of an instance, called -/
theorem call_wrap {u a t0 N0 : Addr} {nm q : Str} {bs bm : List Value} {hdct : Bool} {sn : List Str} {sub : List Value} {ab : Bool} {col : Option Bool} {dd : Option Addr} {k0 k1 k2 k3 k5 : Option Value} {rest : List Value} {Q : Value → Shared → Prop}
    (hC : s.heap.get? C = some (excClassObj nm q C N0 bs bm hdct sn sub ab col dd k0 k1 k2 k3 k5 "ValueError.__new__")) (he : s.heap.get? a = some (HandSPX.excO C t0)) (hu : s.heap.get? u = some (kxs_mw "ValueError.__init__" a)) (hz : rest.length ≤ sizeLine)
    (h : ∀ h' t1, (∀ b o, b ≠ a → s.heap.get? b = some o → h'.get? b = some o) → h'.get? a = some (HandSPX.excO C t1) → Q .none { s with heap := h' }) : wpAny (model P w) A (call (.ref u) rest) Q E s := by
  obtain ⟨hh, g, d, tk, os⟩ := s
  refine wpAny_call (codeAny_of_tree ?_)
  show wpAny _ A.in1 (callAny (.ref u) ⟨rest, []⟩) _ _ _
  simp only [callAny]
  refine wpAny_bind (wpAny_load hu ?_)
  simp only [kxs_mw, show (Value.type "method-wrapper" == Value.type "method" || Value.type "method-wrapper" == Value.type "builtin_function_or_method" || Value.type "method-wrapper" == Value.type "method-wrapper") = true by decide, if_true]
  refine PySem.W.KFB.if_so (by decide) ?_
  refine wpAny_bind (PySem.W.check_bound_init PySem.F.excBase_ValueError.toExcCallFacts hC he rfl ?_)
  refine wpAny_bind (wpAny_pure (wpAny_pure ?_))
  refine ⟨plainId_quiet PySem.F.excBase_ValueError.init.plain _, codeAny_builtin PySem.F.excBase_ValueError.initEntry ?_⟩
  exact PySem.W.exc_init_tree (cls := .ref C) (t0 := t0) (dv := none) (c2 := .none) (c3 := .none) (b4 := .bool false) he hz fun h' k e' _ => h h' _ k e'
theorem own_init (T : OwnT P K mg x f C fI) {a t0 : Addr} {v : Value} {args : Args} (X : K.In s.heap) (G : s.heap.Ns mainGlobals mg) (B : s.heap.Ns builtinsNs mb) (hmb : mb "super" = some (.type "super")) (hlim : s.heap.NoLimit)
    (hx : s.heap.get? a = some (HandSPX.excO C t0)) (hnx : K.lookup a = none) (hroom : A.depth < recursionLimit) (hb : ∀ fd : FuncData, (∃ p1 p2, fd.params = eA f p1 p2) → fd.defaults = .none → fd.kwdefaults = .none → BindsTo s fd args [("self", .ref a), (f, v)])
    (hq : ∀ h' tk dx t1, OwnEnd s.heap h' a C dx t1 f v → R (.ok (.ret .none)) { s with heap := h', toks := tk }) : codeAny (model P w) A (.call (.ref fI) args) R s := by
  obtain ⟨oc, od, qual, sc, doc, pm, an, cda, ct, cc, osl, m, j, p1, p2, a0, a1, a2, a3, a4, a5, b1, b2, b3, b4, ho, hcd, S, hline, ⟨ccl, cdd, vs, ccs, file, tf, hcode, hvs, hfile⟩, cl, cld, csl, hcell⟩ := T.fn
  obtain ⟨nm, q, N, bs, bm, sn, sub, ab, col, dd, k0, k1, k2, k3, k5, hC, hbm⟩ := T.cls.cls
  have hcl : clsIn K C = some { name := nm, bases := bs, mro := .ref C :: bm, ns := N, qualname := q, hasDict := true, slotNames := sn, subclasses := sub, abstract := ab, collection := col, hasDel := false } := by unfold clsIn; rw [hC] <;> rfl
  have hself : ([(("self" : Str), Value.ref a), (f, v)] : List (Str × Value)).reverse.lookup ("self" : Str) = some (Value.ref a) := by
    have e : (("self" : Str) == f) = false := by simpa using fun z : ("self" : Str) = f => T.hf z.symm
    simp [List.lookup, e]
  have hfld : ([(("self" : Str), Value.ref a), (f, v)] : List (Str × Value)).reverse.lookup f = some v := by simp [List.lookup]
  obtain ⟨hh, g, d, tk, os⟩ := s
  refine ks_codeAny_call_defAt (fd := ksFn "__init__" qual (eA f p1 p2) (eB f m j a0 a1 a2 a3 a4 a5 b1 b2 b3 b4) sc .none .none doc pm an (.ref cda) ct cc) (body := eB f m j a0 a1 a2 a3 a4 a5 b1 b2 b3 b4) (binds := [("self", .ref a), (f, v)]) hroom (X _ _ ho) rfl hlim (PySem.W.codeRec_of X hcd) rfl (hb _ ⟨p1, p2, rfl⟩ rfl rfl) S.nocell
    (fun y hy => by
      simp only [List.mem_cons, List.not_mem_nil, or_false] at hy
      rcases hy with rfl | rfl
      · exact S.self
      · exact S.fld) (fun h1 hns k1' => ?_) S.co S.gen S.kind
  have X1 : K.In h1 := X.keeps k1'
  have hx1 := k1' _ _ hx
  have L1 : hh.objs.size ≠ a := Nat.ne_of_gt (Heap.lt_size hx)
  refine ks_wpAt_execs_cons (ks_wpAt_Expr_any (ks_wpAt_MethodCall (pl := plainOf (.Call (.Name "super" a0) [] [] a1) (callEnv (ksFn "__init__" qual (eA f p1 p2) (eB f m j a0 a1 a2 a3 a4 a5 b1 b2 b3 b4) sc .none .none doc pm an (.ref cda) ct cc) hh.objs.size fI)) ?_ ?_) ?_ ?_)
  · refine ks_wpAt_super_base (env := callEnv (ksFn "__init__" qual (eA f p1 p2) (eB f m j a0 a1 a2 a3 a4 a5 b1 b2 b3 b4) sc .none .none doc pm an (.ref cda) ct cc) hh.objs.size fI) S.sup S.cl (by decide) rfl (X1 _ _ ho) rfl rfl rfl (X1 _ _ hcode) rfl hvs hfile T.top ?_
    refine PySem.W.ks_loadName_global S.kind S.sup (PySem.Calls.loadGlobal_builtin (G.keeps k1') T.noS (B.keeps k1') hmb ⟨rfl, ?_⟩)
    refine wpAny_loadName_free S.kind S.cl rfl ⟨_, X1 _ _ hcell, rfl⟩ ?_
    refine wpAny_loadName_local S.kind S.self hns hself ?_
    obtain ⟨oD, hD1, hD2⟩ := at_cls X1 hcl
    refine ks_wpAny_isType_cls hD1 hD2 ⟨rfl, ?_⟩
    refine ks_wpAny_call_super hD1 hD2 hx1 rfl (fun c e => by cases e) (PySem.W.looks_mroIn X1 T.slf) fun h2 hso k2 => ?_
    have X2 : K.In h2 := X1.keeps k2
    have hx2 := k2 _ _ hx1
    have hI : Looks (model P w) h2 (isInstance (.ref a) (.type "ValueError")) true := (show PySem.W.InstAt h2 a (HandSPX.excO C t0) C none from ⟨hx2, rfl, rfl, trivial⟩).type.andThen (PySem.W.looks_subIn X2 T.ve)
    refine PySem.W.kxs_getMethod PySem.W.kxs_ValueError hso (PySem.W.looks_opaque X2 T.opq) (l₀ := .ref C :: bm) (fun A Q E s k q => wpAny_bind ((PySem.W.looks_clsIn X2 hcl) A _ E s k (wpAny_pure q))) rfl X2 ?_ hI ?_ (by decide) ?_
    · have e := T.sup
      unfold ks_superIn at e
      rw [hcl] at e
      exact e
    · rintro rfl
      rw [hx1] at hD1
      cases hD1
      cases hD2
    have hu : (h2.push (kxs_mw "ValueError.__init__" a)).get? h2.objs.size = some (kxs_mw "ValueError.__init__" a) := Heap.get?_push_at rfl rfl
    have k3 : ∀ b o, h2.get? b = some o → (h2.push (kxs_mw "ValueError.__init__" a)).get? b = some o := fun b o e => Heap.get?_push_of_some _ e
    refine PySem.W.kxs_callWith (i := "ValueError.__init__") (x := a) rfl (PySem.Calls.evalArgs_plain (PySem.Calls.spliced_cons (wpAny_Constant_str (x := m) (k := j) (pos := a3) (PySem.Calls.spliced_nil ⟨hu, ?_⟩))))
    have X3 : K.In (h2.push (kxs_mw "ValueError.__init__" a)) := X2.keeps k3
    refine call_wrap (s := ⟨h2.push (kxs_mw "ValueError.__init__" a), _, _, _, _⟩) (X3 _ _ hC) (k3 _ _ hx2) hu (by rw [sizeLine_eq]; show 1 ≤ _; omega) fun h4 t4 k4 hx4 => ?_
    have kk : ∀ b o, b ≠ a → h1.get? b = some o → h4.get? b = some o := fun b o n e => k4 b o n (k3 b o (k2 b o e))
    have X4 : K.In h4 := in_but X3 hnx k4
    obtain ⟨oL, es, ep, hL, hr⟩ := hns
    have hns4 : h4.Ns hh.objs.size _ := ⟨oL, es, ep, kk _ _ L1 hL, hr⟩
    refine ks_wpAt_execs_cons (ks_wpAt_Assign_Attr ?_ ?_)
    · refine wpAt_of_wpAny (wpAny_Name (wpAny_loadName_local S.kind S.fld hns4 hfld ?_) T.hd)
      refine wpAny_Name (wpAny_loadName_local S.kind S.self hns4 hself ?_) (by decide)
      refine PySem.W.set_plain X4 (ox := HandSPX.excO C t4) (od := none) ⟨hx4, rfl, rfl, trivial⟩ T.cls.sa ?_
      refine HandSPX.exc_osa X4 hx4 hcl (show HandSPX.refsVE (.ref C :: bm) = true from hbm) rfl T.noN fun h5 tk5 dx k5 dn dne hx5 hn5 => ?_
      exact wpAt_of_wpAny (wpAny_execs_nil (hq h5 tk5 dx t4 ⟨fun b o n e => k5 b o n (kk b o n (k1' b o e)), hx5, Nat.le_trans (Nat.le_of_lt (Heap.lt_size (kk _ _ L1 hL))) dn, dne, hn5⟩))
    · rfl
  · have e := fun ov => mcall_line (o := .Call (.Name "super" a0) [] [] a1) (m := "__init__") (apos := a2) (pos := a4) (env := callEnv (ksFn "__init__" qual (eA f p1 p2) (eB f m j a0 a1 a2 a3 a4 a5 b1 b2 b3 b4) sc .none .none doc pm an (.ref cda) ct cc) hh.objs.size fI) (ov := ov) (n := 1) (args := backTo a4 (starEach [.Constant (.str m) j a3] (callEnv (ksFn "__init__" qual (eA f p1 p2) (eB f m j a0 a1 a2 a3 a4 a5 b1 b2 b3 b4) sc .none .none doc pm an (.ref cda) ct cc) hh.objs.size fI))) (kws := []) (by rfl) hline
    simp only [← e]
    rfl
  · show (sc.kind == .module && _) = false
    rw [S.kind]
    rfl
  · rfl
theorem own_bnd (hf : f = "at" ∨ f = "row" ∨ f = "limit") {fd : FuncData} (hp : ∃ p1 p2, fd.params = eA f p1 p2) (hd : fd.defaults = .none) (hk : fd.kwdefaults = .none) (u v : Value) :
    bindArgs fd ⟨[u, v], []⟩ = pure [(("self" : Str), u), (f, v)] ∧ bindArgs fd ⟨[u], [(f, v)]⟩ = pure [(("self" : Str), u), (f, v)] := by
  obtain ⟨p1, p2, ep⟩ := hp
  obtain ⟨n1, n2, n3, n4, n5, n6, n7, n8, n9, n10, n11, n12, n13, n14, n15⟩ := fd
  dsimp only at ep hd hk
  subst ep hd hk
  rcases hf with rfl | rfl | rfl <;> exact ⟨rfl, rfl⟩
theorem own_made (T : OwnT P K mg x f C fI) {v : Value} (X : K.In s.heap) (G : s.heap.Ns mainGlobals mg) (B : s.heap.Ns builtinsNs mb) (hmb : mb "super" = some (.type "super")) (hlim : s.heap.NoLimit) (hroom : A.depth + 1 < recursionLimit)
    (hq : ∀ h' tk e d t1, OwnEnd s.heap h' e C d t1 f v → (∀ b o, s.heap.get? b = some o → h'.get? b = some o) → s.heap.objs.size ≤ e → R (.ok (.ret (.ref e))) { s with heap := h', toks := tk }) : codeAny (model P w) A (.call (.ref C) ⟨[v], []⟩) R s := by
  obtain ⟨nm, q, N, bs, bm, sn, sub, ab, col, dd, k0, k1, k2, k3, k5, hC, hbm⟩ := T.cls.cls
  obtain ⟨hp, g, dr, tk, os⟩ := s
  have k : ∀ b o, hp.get? b = some o → ((hp.push (PySem.W.kdv_tup [v])).push (HandSPX.excO C hp.objs.size)).get? b = some o := fun b o e => Heap.get?_push_of_some _ (Heap.get?_push_of_some _ e)
  have hget : ((hp.push (PySem.W.kdv_tup [v])).push (HandSPX.excO C hp.objs.size)).get? (hp.objs.size + 1) = some (HandSPX.excO C hp.objs.size) := by heap_get
  have hnx : K.lookup (hp.objs.size + 1) = none := by
    cases e : K.lookup (hp.objs.size + 1) with
    | none => rfl
    | some o =>
      have z : hp.get? (hp.objs.size + 1) = some o := X _ _ e
      exact absurd (Nat.lt_of_succ_lt (Heap.lt_size z)) (Nat.lt_irrefl _)
  refine HandSPX.call_own PySem.F.excBase_ValueError (fun Y => HandSPX.refsVE_contains Y bm hbm) (X _ _ hC) (PySem.W.looks_findIn X T.iC) (fun self => PySem.W.bind_fn X self T.tI) (by rw [sizeLine_eq]; show 1 ≤ _; omega) ?_
  refine own_init (v := v) (s := ⟨(hp.push (PySem.W.kdv_tup [v])).push (HandSPX.excO C hp.objs.size), g, dr, tk, os⟩) T (X.keeps k) (G.keeps k) (B.keeps k) hmb (hlim.keeps k) hget hnx hroom (fun fd ⟨p1, p2, ep⟩ ed ek => ?_) fun h' tk' dx t1 ⟨k', hx, dn, dne, hns⟩ => ?_
  · exact .of_eq (own_bnd T.hb ⟨p1, p2, ep⟩ ed ek _ _).1
  · have old : ∀ b o, hp.get? b = some o → h'.get? b = some o := fun b o e => k' b o (Nat.ne_of_lt (Nat.lt_succ_of_lt (Heap.lt_size e))) (k b o e)
    have z : hp.objs.size ≤ dx := Nat.le_trans (by simp only [Heap.size_push]; omega) dn
    exact ⟨rfl, hq h' tk' (hp.objs.size + 1) dx t1 ⟨fun b o _ e => old b o e, hx, z, dne, hns⟩ old (Nat.le_succ _)⟩
end
section
variable {X : Cx} {x f : Str} {C fI : Addr} {p pos pos2 : Pos} {a : Expr}
theorem relO_one {v : V} {u : Value} (r : RelV v u) (g : Str) : RelO (List.lookup g [(f, v)]) (if g = f then some u else none) := by
  rw [lookup_put]
  by_cases e : g = f
  · rw [if_pos e, if_pos e]; exact r
  · rw [if_neg e, if_neg e]; exact True.intro
def tMkOne (C : Addr) (f : Str) (ta : TA) : L2.St → Hp → XK → Prop := fun σ H Q => ta σ H fun vs H1 => ∃ v, vs = [v] ∧ ∀ d, H1 d = none → Q (.ref C) (some d) (upd H1 d (.xd [(f, v)]))
theorem pmk_one {ta : TA} {k : Nat} (T : OwnT X.prog X.K X.mg x f C fI) (hr : Room (k + 1) X.A) (ha : PA X [a] ta) (hg : Gl X x) (hdb : (x == ("__debug__" : Str)) = false)
    (he : starEach [a] X.env = (false, eval a X.env) :: starEach [] X.env := by rfl) (hpl : (backTo pos (starEach [] X.env)).any (·.1) = false := by rfl) : PMk X (.Call (.Name x p) [a] [] pos) (tMkOne C f ta) := by
  intro pins s σ H Q I h
  refine wpAny_Call_Name_kw (ld_glob I hg T.gC ?_ hdb)
  refine PySem.W.callWith_K (h₀ := X.base) I.ok.mod.kin T.cls.kC (thn (ha.run pos pins s σ H _ I h) fun us s1 ⟨vs, H1, I1, r1, v, ev, q1⟩ => ⟨I1.kIn, ?_⟩) he hpl
  subst ev
  obtain ⟨u, rfl, ru⟩ := r1.one
  show wpAny _ _ (call (.ref C) [u]) _ _ _
  obtain ⟨mb, hB1, hB2⟩ := I1.mod.blt
  have hlim := I1.nolimit
  have G := I1.mod.glob.keeps I1.bk
  have B := hB1.keeps I1.bk
  obtain ⟨hp, g, dr, tk, os⟩ := s1
  refine wpAny_call (own_made T I1.kIn G B ((hB2 "super" (by decide)).trans (by first | rfl | decide +kernel)) hlim (by have := hr.dp; omega) fun h' tk' e d t1 M old new => ?_)
  show MkP X pins σ Q (.ref e) ⟨h', g, dr, tk', os⟩
  obtain ⟨G', g1, g2⟩ := restrict h' fun b => decide (b ≠ e)
  have gk : ∀ b, b ≠ e → G'.get? b = h'.get? b := fun b hb => g1 b (decide_eq_true hb)
  have ge : G'.get? e = none := g2 e (by simp)
  have up : ∀ b o, hp.get? b = some o → G'.get? b = some o := fun b o q => (gk b (Nat.ne_of_lt (Nat.lt_of_lt_of_le (Heap.lt_size q) new))).trans (old b o q)
  have ob : ObjOk X.prog X.w (upd H1 d (.xd [(f, v)])) G' d (.xd [(f, v)]) := ⟨_, M.ns.at (fun o q => (gk d M.dne).trans q), fun g => relO_one ru g⟩
  have J : Inv X pins σ (upd H1 d (.xd [(f, v)])) ⟨G', g, dr, tk', os⟩ := I1.laid (t' := tk') up M.dbig ob
  refine ⟨e, _, _, ⟨G', g, dr, tk', os⟩, _, .ref C, some d, rfl, J, fun b o q => ?_, ge, M.obj, ⟨rfl, rfl⟩, rfl, rfl, ?_, rfl, I1.bare, raises_own T.cls.exC T.cls.tyC, q1 d (I1.hok.fresh M.dbig)⟩
  · by_cases hb : b = e
    · have q' : G'.get? b = some o := q
      rw [hb, ge] at q'
      cases q'
    · exact (gk b hb).symm.trans q
  · rw [upd_ne (Ne.symm M.dne)]
    exact I1.hok.fresh new
end
section
variable {c : Pm} {Wx : WX} {X : Cx} {fu n k : Nat} {W W' W1 W2 W3 : Dr} {F0 H0 F H F' H' F1 H1 F2 H2 F3 H3 Hs : Hp} {ρ ρ' : En} {σ σ' : L2.St} {u w : V} {x y v : Vl} {Q : VK} {us : List V} {vs : List Vl} {pos : Pos}
theorem own_noimm {F H : Hp} {p : Addr} {d : D} (h : OwnAt c F H p d) : d.imm = false := by
  cases d <;> first | exact h.elim | rfl
theorem imm_rep (R : Rel c F0 H0 ρ σ F H W) (k : ValOk c ρ σ Hs F H u v) (m : v.d.imm = true) : Rep c F u v.d := by
  have r := k.rep R rfl fun F H p h => by rw [own_noimm h] at m; cases m
  have ht : ∀ i ∈ v.t, ∃ x, ρ[i]? = some (.own x) := fun i hi => k.own i (by
    unfold Vl.all
    cases v.k <;> simp [hi])
  obtain ⟨a1, a2⟩ := Fz_soft R ht
  exact Rep.soft a1 a2 r m
/-- an error class of the text with an __init__ of its own -/
structure OwnErr (c : Pm) (P : Program) (mg : Str → Option Value) (x f : Str) : Prop where
  ex : ∃ C fI, OwnT P c.K mg x f C fI ∧ c.cx x = some C
theorem z_raiseO {z f : Str} {a : Expr} {ea : E} {p pos2 : Pos} (n : Cn c Wx k X) (h : OwnErr c X.prog X.mg z f) (ha : PA X [a] (rdL c Wx ea)) (hk : 1 ≤ k := by decide) (hg : Gl X z := by rfl) (hdb : (z == ("__debug__" : Str)) = false := by decide)
    (he : starEach [a] X.env = (false, eval a X.env) :: starEach [] X.env := by rfl) (hpl : (backTo pos2 (starEach [] X.env)).any (·.1) = false := by rfl) :
    PS X (.Raise (some (.Call (.Name z p) [a] [] pos2)) none pos) (rdS c Wx fu (.raise z [f] ea)) := by
  obtain ⟨C, fI, T, hc⟩ := h.ex
  rw [← n.hk] at T
  refine ps_wk (ps_raise n.calm n.tk (pmk_one (k := 0) T (n.room.mono hk) ha hg hdb he hpl)) fun D σ H ⟨F0, H0, ρ, F, W, R, hP⟩ => ?_
  simp only [evS] at hP
  refine st_l R hP fun vs W1 us F1 H1 S1 A1 _ R1 hP => ?_
  by_cases hl : vs.length = [f].length ∧ Z.D.immF ([f].zip (ds vs)) = true
  · rw [if_pos hl] at hP
    obtain ⟨h1, h2⟩ := hl
    match vs, us, A1, h1, h2, hP with
    | [v], [u], .cons V _, _, h2, hP =>
      have m : v.d.imm = true := by
        have h2 : Z.D.immF [(f, v.d)] = true := h2
        simpa only [Z.D.immF, Bool.and_true] using h2
      refine ⟨u, rfl, fun d hd => ?_⟩
      have r := imm_rep R1 V m
      have S2 := R1.refl.makeF (o := .xd [(f, u)]) hd
      refine hP (.ref C) (some d) σ _ _ (R1.step S2) ⟨C, hc, rfl, ?_⟩
      have ne : ∀ q o, F1 q = some o → q ≠ d := fun q o e => ne_of_none (R1.stp.sub _ _ e) hd
      have up : Same F1 (upd F1 d (.xd [(f, u)])) := fun q o e => by rw [upd_ne (ne q o e)]; exact e
      exact ⟨h2, d, [(f, u)], rfl, upd_same, .cons (r.mono up) .nil⟩
  · rw [if_neg hl] at hP
    exact hP.elim
end
end Z

namespace Z
open PySem PySem.Spec PyProof.Rows L2 He
open PySem.W (Frag findIn typeIn keepIn subIn nsIn mroIn clsIn codeIn ks_superIn)
def argsB (f : Str) (a : Arguments) : Bool := match a with
  | ⟨[], [⟨s, none, _⟩, ⟨g, none, _⟩], none, [], [], none, []⟩ => decide (s = "self") && decide (g = f)
  | _ => false
theorem argsB_ok {f : Str} {a : Arguments} (h : argsB f a = true) : ∃ p1 p2, a = eA f p1 p2 := by
  unfold argsB at h
  split at h
  · obtain ⟨h1, h2⟩ := ba h
    obtain rfl := of_decide_eq_true h1
    obtain rfl := of_decide_eq_true h2
    exact ⟨_, _, rfl⟩
  · cases h
def bodyB (f : Str) (b : FuncBody) : Bool := match b with
  | .stmts [.Expr (.Call (.Attribute (.Call (.Name s _) [] [] _) i p2) [.Constant (.str _) _ _] [] p4) _, .Assign [.Attribute (.Name se _) g _] (.Name h _) _] =>
    decide (s = "super") && (decide (i = "__init__") && (decide (se = "self") && (decide (g = f) && (decide (h = f) && (p2.endLine == p4.line)))))
  | _ => false
theorem bodyB_ok {f : Str} {b : FuncBody} (h : bodyB f b = true) : ∃ m j a0 a1 a2 a3 a4 a5 b1 b2 b3 b4, b = .stmts (eB f m j a0 a1 a2 a3 a4 a5 b1 b2 b3 b4) ∧ (a2.endLine == a4.line) = true := by
  unfold bodyB at h
  split at h
  · obtain ⟨h1, h⟩ := ba h
    obtain ⟨h2, h⟩ := ba h
    obtain ⟨h3, h⟩ := ba h
    obtain ⟨h4, h⟩ := ba h
    obtain ⟨h5, h6⟩ := ba h
    obtain rfl := of_decide_eq_true h1
    obtain rfl := of_decide_eq_true h2
    obtain rfl := of_decide_eq_true h3
    obtain rfl := of_decide_eq_true h4
    obtain rfl := of_decide_eq_true h5
    exact ⟨_, _, _, _, _, _, _, _, _, _, _, _, rfl, h6⟩
  · cases h
def scB (f : Str) (s : Scope) : Bool := decide (s.kind = .function) && (!s.isCoroutine && (!s.isGenerator && (decide (s.names.lookup ("super" : Str) = some .globalImplicit) && (decide (s.names.lookup ("__class__" : Str) = some .free) &&
  (decide (s.names.lookup ("self" : Str) = some .local) && (decide (s.names.lookup f = some .local) && s.names.all fun q => !decide (q.2 = .cell)))))))
theorem scB_ok {f : Str} {s : Scope} (h : scB f s = true) : ScOk f s := by
  obtain ⟨h1, h⟩ := ba h
  obtain ⟨h2, h⟩ := ba h
  obtain ⟨h3, h⟩ := ba h
  obtain ⟨h4, h⟩ := ba h
  obtain ⟨h5, h⟩ := ba h
  obtain ⟨h6, h⟩ := ba h
  obtain ⟨h7, h8⟩ := ba h
  exact ⟨of_decide_eq_true h1, by simpa using h2, by simpa using h3, of_decide_eq_true h4, of_decide_eq_true h5, of_decide_eq_true h6, of_decide_eq_true h7, fun q hq => by simpa using List.all_eq_true.mp h8 q hq⟩
def clsB (K : Frag) (C : Addr) : Bool := match K.lookup C with
  | some ⟨.type t, _, .cls cd, sl⟩ => decide (t = "type") && (match cd.mro, sl.toList with
    | .ref C' :: bm, [_, _, _, _, some (.builtin n), _] => decide (C' = C) && (decide (n = "ValueError.__new__") && (!cd.hasDel && (cd.hasDict && HandSPX.refsVE bm)))
    | _, _ => false)
  | _ => false
theorem clsB_ok {K : Frag} {C : Addr} (h : clsB K C = true) : ∃ nm q N bs bm sn sub ab col dd k0 k1 k2 k3 k5, K.lookup C = some (excClassObj nm q C N bs bm true sn sub ab col dd k0 k1 k2 k3 k5 "ValueError.__new__") ∧ HandSPX.refsVE bm = true := by
  unfold clsB at h
  split at h
  · rename_i t dd cd sl e
    obtain ⟨h1, g⟩ := ba h
    have e0 := of_decide_eq_true h1
    subst e0
    clear h h1
    split at g
    · rename_i C' bm k0 k1 k2 k3 n k5 e1 e2
      obtain ⟨h2, h⟩ := ba g
      obtain ⟨h3, h⟩ := ba h
      obtain ⟨h4, h⟩ := ba h
      obtain ⟨h5, h6⟩ := ba h
      obtain rfl := of_decide_eq_true h2
      obtain rfl := of_decide_eq_true h3
      obtain ⟨nm, bs, mro, ns, qn, hd, sn, sb, ab, col, del⟩ := cd
      dsimp only at e1 h4 h5
      have h4 : del = false := by simpa using h4
      subst e1 h4 h5
      have es : sl = #[k0, k1, k2, k3, some (.builtin "ValueError.__new__"), k5] := by
        rw [← Array.toList_inj, e2]
      subst es
      exact ⟨_, _, _, _, _, _, _, _, _, _, _, _, _, _, _, e, h6⟩
    · cases g
  · cases h
def cellB (K : Frag) (C : Addr) (cl : List (Str × Addr)) : Bool := match cl with
  | [(n, cc)] => decide (n = "__class__") && (match K.lookup cc with
    | some ⟨_, _, .cell (some (.ref D)), _⟩ => decide (D = C)
    | _ => false)
  | _ => false
theorem cellB_ok {K : Frag} {C : Addr} {cl : List (Str × Addr)} (h : cellB K C cl = true) : ∃ cc, cl = [(("__class__" : Str), cc)] ∧ ∃ a b d, K.lookup cc = some ⟨a, b, .cell (some (.ref C)), d⟩ := by
  unfold cellB at h
  split at h
  · rename_i n cc
    obtain ⟨h1, h2⟩ := ba h
    obtain rfl := of_decide_eq_true h1
    split at h2
    · rename_i D _ e
      obtain rfl := of_decide_eq_true h2
      exact ⟨cc, rfl, _, _, _, e⟩
    · cases h2
  · cases h
def fileB (P : Program) (K : Frag) (c : Value) : Bool := match c with
  | .ref a => (match K.lookup a with
    | some ⟨_, _, .fields vs, _⟩ => (match (vs[2]? : Option Value) with
      | some (.str file _) => (P.main.file : Str) == file
      | _ => false)
    | _ => false)
  | _ => false
theorem fileB_ok {P : Program} {K : Frag} {c : Value} (h : fileB P K c = true) : ∃ a, c = .ref a ∧ ∃ ccl cdd vs ccs file tf, K.lookup a = some ⟨ccl, cdd, .fields vs, ccs⟩ ∧ vs[2]? = some (.str file tf) ∧ ((P.main.file : Str) == file) = true := by
  unfold fileB at h
  split at h
  · rename_i a
    split at h
    · rename_i vs _ e
      split at h
      · rename_i file tf e2
        exact ⟨a, rfl, _, _, vs, _, file, tf, e, e2, h⟩
      · cases h
    · cases h
  · cases h
def noneB (v : Value) : Bool := match v with
  | .none => true
  | _ => false
theorem noneB_ok {v : Value} (h : noneB v = true) : v = .none := by
  cases v <;> first | rfl | cases h
def initB (P : Program) (K : Frag) (C fI : Addr) (f : Str) : Bool := match K.lookup fI with
  | some ⟨_, _, .func fd, _⟩ => decide (fd.name = "__init__") && (argsB f fd.params && (bodyB f fd.body && (scB f fd.scope && (decide (fd.globals = mainGlobals) && (decide (fd.builtins = builtinsNs) &&
    (noneB fd.defaults && (noneB fd.kwdefaults && (cellB K C fd.closure && (codeIn K fd.code fd.qualname && fileB P K fd.code)))))))))
  | _ => false
def initOf (K : Frag) (C : Addr) : Addr := match findIn K (.ref C) "__init__" with
  | some (some (.ref a)) => a
  | _ => 0
def ownB (P : Program) (K : Frag) (q : Str × Str) : Bool :=
  clsB K (ga K q.1) && (eqO (findIn K (.ref (ga K q.1)) "__setattr__") (some (some (.builtin "object.__setattr__"))) && (decide (subIn K (.ref (ga K q.1)) (.type "BaseException") = some true) && (decide (typeIn K (.ref (ga K q.1)) = some (.type "type")) && (keepIn K (.ref (ga K q.1)) &&
  (eqO (findIn K (.ref (ga K q.1)) q.2) (some none) && (eqO (findIn K (.ref (ga K q.1)) "__init__") (some (some (.ref (initOf K (ga K q.1))))) && (decide (typeIn K (.ref (initOf K (ga K q.1))) = some (.type "function")) && (decide (mroIn K (ga K q.1) (.ref (ga K q.1)) = some true) &&
  (eqO (ks_superIn K (ga K q.1) (ga K q.1) "__init__") (some (some (.builtin "ValueError.__init__"))) && (decide (subIn K (.ref (ga K q.1)) (.type "ValueError") = some true) && (eqO (nsIn K cStatics "thirdparty.any") (some none) &&
  (!(P.main.scope.names.lookup ("super" : Str)).isSome && initB P K (ga K q.1) (initOf K (ga K q.1)) q.2))))))))))))
theorem ownT_of {P : Program} {K : Frag} {mg : Str → Option Value} {x f : Str} (h : ownB P K (x, f) = true) (hm : mg x = some (.ref (ga K x))) (hs : mg "super" = none) (hf : f = "at" ∨ f = "row" ∨ f = "limit") : ∃ fI, OwnT P K mg x f (ga K x) fI := by
  obtain ⟨h1, h⟩ := ba h
  obtain ⟨h2, h⟩ := ba h
  obtain ⟨h3, h⟩ := ba h
  obtain ⟨h4, h⟩ := ba h
  obtain ⟨h5, h⟩ := ba h
  obtain ⟨h6, h⟩ := ba h
  obtain ⟨h7, h⟩ := ba h
  obtain ⟨h8, h⟩ := ba h
  obtain ⟨h9, h⟩ := ba h
  obtain ⟨h10, h⟩ := ba h
  obtain ⟨h11, h⟩ := ba h
  obtain ⟨h12, h⟩ := ba h
  obtain ⟨h13, h⟩ := ba h
  refine ⟨initOf K (ga K x), hm, hs, ⟨clsB_ok h1, eqO_ok h2, of_decide_eq_true h3, of_decide_eq_true h4, h5⟩, eqO_ok h6, eqO_ok h7, of_decide_eq_true h8, of_decide_eq_true h9, eqO_ok h10, of_decide_eq_true h11, eqO_ok h12, ?_, hf, ?_, by simpa using h13, ?_⟩
  · rcases hf with rfl | rfl | rfl <;> decide
  · rcases hf with rfl | rfl | rfl <;> decide
  · unfold initB at h
    split at h
    · rename_i fd _ e
      obtain ⟨n1, n2, n3, n4, n5, n6, n7, n8, n9, n10, n11, n12, n13, n14, n15⟩ := fd
      obtain ⟨i1, h⟩ := ba h
      obtain ⟨i2, h⟩ := ba h
      obtain ⟨i3, h⟩ := ba h
      obtain ⟨i4, h⟩ := ba h
      obtain ⟨i5, h⟩ := ba h
      obtain ⟨i6, h⟩ := ba h
      obtain ⟨i7, h⟩ := ba h
      obtain ⟨i8, h⟩ := ba h
      obtain ⟨i9, h⟩ := ba h
      obtain ⟨i10, i11⟩ := ba h
      dsimp only at i1 i2 i3 i4 i5 i6 i7 i8 i9 i10 i11
      obtain rfl := of_decide_eq_true i1
      obtain ⟨p1, p2, rfl⟩ := argsB_ok i2
      obtain ⟨m, j, a0, a1, a2, a3, a4, a5, b1, b2, b3, b4, rfl, hl⟩ := bodyB_ok i3
      obtain rfl := of_decide_eq_true i5
      obtain rfl := of_decide_eq_true i6
      obtain rfl := noneB_ok i7
      obtain rfl := noneB_ok i8
      obtain ⟨cc, rfl, hc⟩ := cellB_ok i9
      obtain ⟨cda, rfl, hcd⟩ := fileB_ok i11
      exact ⟨_, _, _, _, _, _, _, cda, _, cc, _, m, j, p1, p2, a0, a1, a2, a3, a4, a5, b1, b2, b3, b4, e, i10, scB_ok i4, hl, hcd, hc⟩
    · cases h
theorem ownErr_of {P : Program} {K : Frag} {cas cxs : List Str} {tf : List Defn} {dl : List Addr} {d2 : Addr} {mg : Str → Option Value} {x f : Str} (h : ownB P K (x, f) = true) (hm : mg x = some (.ref (ga K x))) (hs : mg "super" = none) (hn : x ∈ cxs) (hf : f = "at" ∨ f = "row" ∨ f = "limit") :
    OwnErr (pmOf K cas cxs tf dl d2) P mg x f := by
  obtain ⟨fI, T⟩ := ownT_of h hm hs hf
  exact ⟨_, fI, T, pm_cx_mk hn⟩
/-- no class of errors has something named so -/
def exatB (cxs ats : List Str) (K : Frag) : Bool := cxs.all fun n => ats.all fun f => eqO (findIn K (.ref (ga K n)) f) (some none)
theorem exat_of {K : Frag} {cas cxs : List Str} {tf : List Defn} {dl : List Addr} {d2 : Addr} {ats : List Str} {f : Str} (h : exatB cxs ats K = true) (hf : f ∈ ats) : ∀ n C, (pmOf K cas cxs tf dl d2).cx n = some C → findIn K (.ref C) f = some none := fun n C e => by
  obtain ⟨m, rfl⟩ := pm_cx e
  exact eqO_ok (List.all_eq_true.mp (List.all_eq_true.mp h n m) f hf)
def obsY (n : Nat) (fa : List Fa) (fn : List DefD) (tf : List Defn) (ex : Frag → Bool) (g : Addr → Option Obj) : AlX := (obsT fa fn [] (frT g (asD g n ++ [cStatics, sysModules])), ex (frT g (asD g n ++ [cStatics, sysModules])) && tabsB g tf (frT g (asD g n ++ [cStatics, sysModules])))
theorem saysY_of {n : Nat} {fa : List Fa} {fn : List DefD} {tf : List Defn} {ex : Frag → Bool} {w : World} {h : Heap} (e : obsY n fa fn tf ex h.get? = valX fn [] w) : SaysX fa fn [] tf ex w h (frT h.get? (asD h.get? n ++ [cStatics, sysModules])) := by
  unfold obsY at e
  generalize asD h.get? n ++ [cStatics, sysModules] = as at e ⊢
  obtain ⟨h1, h2⟩ := ba (congrArg (fun z : AlX => z.2) e)
  have key : ∀ p ∈ tf, PySem.W.codeHdIn (frT h.get? as) (cT (frT h.get? as) p).1 (cT (frT h.get? as) p).2 = true ∧ ∃ o, h.get? (cT (frT h.get? as) p).2 = some o ∧ emptyTab o = true := fun p hp => by
    obtain ⟨h3, h4⟩ := ba (List.all_eq_true.mp h2 p hp)
    refine ⟨h3, ?_⟩
    revert h4
    cases h.get? (cT (frT h.get? as) p).2 with
    | none => exact fun h4 => by cases h4
    | some o => exact fun h4 => ⟨o, rfl, h4⟩
  refine ⟨congrArg (fun z : AlX => z.1) e, h1, fun p hp => (key p hp).1, fun p hp => ?_, fun p hp => ?_⟩ <;> obtain ⟨_, o, q, z⟩ := key p hp
  · exact frT_none q z
  · rw [q, emptyTab_eq z]
def hookY (n : Nat) (fa : List Fa) (fn : List DefD) (tf : List Defn) (ex : Frag → Bool) : PySem.W.Hook where
  α := AlX
  obs := fun s => obsY n fa fn tf ex s.heap.get?
  val := fun w => valX fn [] w
  says := (hookX n fa fn [] tf ex).says
  of := fun _ _ e => ⟨_, frT_in, saysY_of e⟩
  keeps := (hookX n fa fn [] tf ex).keeps
theorem obsY_eq {n : Nat} {fa : List Fa} {fn : List DefD} {tf : List Defn} {ex : Frag → Bool} {g : Addr → Option Obj} {s : Shared} (h : ∀ a, g a = s.heap.get? a) : obsY n fa fn tf ex g = (hookY n fa fn tf ex).obs s := by
  have e : g = s.heap.get? := funext h
  rw [e]
  rfl
end Z

namespace Z
open PySem PySem.Spec PyProof.Rows L2
open Classical
noncomputable def exAtD (f : Str) : List D → Option (Bool × D)
  | [.exc _ fs] => (fs.lookup f).map fun d => (false, d)
  | _ => none
section
variable {c : Pm} {Wx : WX} {X : Cx} {fu n k : Nat} {W W' W1 W2 W3 : Dr} {F0 H0 F H F' H' F1 H1 F2 H2 F3 H3 Hs : Hp} {ρ ρ' : En} {σ σ' : L2.St} {u w : V} {x y v : Vl} {Q : VK} {us : List V} {vs : List Vl} {pos : Pos}
theorem x_exat {f : Str} {a : Expr} {ea : E} (n : Cn c Wx k X) (kl : Kls c) (hc : ∀ m C, c.cx m = some C → PySem.W.findIn c.K (.ref C) f = some none) (ha : PE X a (rdE c Wx ea)) (hb : attributeBase a f X.env (eval a X.env) = eval a X.env := by rfl) :
    PE X (.Attribute a f pos) (rdE c Wx (.call (pureG (exAtD f)) (.cons ea .nil))) := by
  refine ⟨fun pins s σ H Q I h => ?_⟩
  refine attr_of hb (thn (ha.run pins s σ H _ I (call1_ok h)) fun u s1 ⟨x, H1, I1, rx, q⟩ => ?_)
  obtain ⟨F, xs, W, r, rr, S, hf, hQ⟩ := spG_pure q
  match xs, rr, hf with
  | [.exc nm fs], .cons r1 .nil, hf =>
    simp only [exAtD, Option.map_eq_some_iff] at hf
    obtain ⟨d, hd, rfl⟩ := hf
    cases r1 with
    | exc0 _ _ => cases hd
    | @exc1 a C dd nm gs fs h1 h2 h3 h4 _ =>
      obtain rfl : u = Value.ref a := rx
      obtain ⟨v, hv, rv⟩ := h4.look' hd
      have e := kl.exc _ _ h2
      have hno := hc _ _ h2
      rw [← n.hk] at e hno
      obtain ⟨⟨oe, vs, e1, ⟨e2, e3⟩, e4⟩, _, _⟩ := I1.hok a _ (S.sub _ _ h1)
      obtain ⟨mA, hns, hr⟩ := (show ObjOk X.prog X.w H1 s1.heap dd (.xd gs) from I1.hok dd _ (S.sub _ _ h3))
      obtain ⟨od, ho, hl⟩ := lookIn_ns hns
      obtain ⟨u, hu, ru⟩ := RelO.some_of (v := v) (o := mA f) (by rw [← hv]; exact hr f)
      have J : PySem.W.InstAt s1.heap a oe C (some od) := ⟨e1, e2, by unfold PySem.W.notCls; rw [e4] <;> rfl, by rw [e3]; exact ho⟩
      exact HandSPX.exc_get I1.kIn J e.hg e.hk e.hs (PySem.W.findObj_own e.hd hno rfl (by rw [hl, hu])) (handed_of ru) ⟨v, H1, I1.tok _, ru, hQ _ F _ S rv⟩
/-- z = x(lambda: y.append(e)), x the def that calls a job and gives its error -/
theorem z_capp {x a y z : Str} {i jz : Nat} {Ng : List Str} {st : Stmt} {CS : Addr} {params : Arguments} {e : Expr} {scope : Scope} {ea : E} {j : Nat} {p lpos p4 p5 p8 pos' posc : Pos} (n : Cn c Wx k X) (LA : LamAt c X) (CF : CauF c X.mg x a Ng st CS)
    (hb : ∀ (A : Around) (outer : List Env) (s : Shared) (H : Hp) (E : XK) (f c' : Addr), Cn c (fun cls dd _ H' => E cls dd H') j (LamX.lamCx X A outer s H E scope f c') → PE (LamX.lamCx X A outer s H E scope f c') e (rdE c (fun cls dd _ H' => E cls dd H') ea))
    (hlz : Loc X.env.scope z) (hvy : Vis scope y) (hNz : X.N[jz]? = some z := by rfl) (hNy : X.N[i]? = some y := by rfl) (hj : j + 2 ≤ k := by decide) (L : LamX.lamSB X.env.scope scope = true := by rfl) (hdef : defaultsOf params X.env = ([], []) := by rfl)
    (hbind : ∀ (q : Str) (cl : List (Str × Addr)) (pm cv ctv : Value), bindArgs (PySem.W.kla_fn "<lambda>" q params (.Call (.Attribute (.Name y p4) "append" p5) [e] [] p8) scope cl pm cv ctv) ⟨[], []⟩ = pure [] := by intros; rfl)
    (hg : Gl X x := by rfl) (hdb : (x == ("__debug__" : Str)) = false := by decide) (hd : (a == ("__debug__" : Str)) = false := by decide) (hcd : (a == ("__classdict__" : Str)) = false := by decide) (hdy : (y == ("__debug__" : Str)) = false := by decide) (hcy : (y == ("__classdict__" : Str)) = false := by decide)
    (hbase : ∀ env : Env, attributeBase (.Name y p4) "append" env (eval (.Name y p4) env) = eval (.Name y p4) env := by intros; rfl) (hline : (p5.endLine == p8.line) = true := by rfl)
    (hst : ∀ (A : Around) (outer : List Env) (s : Shared) (H : Hp) (E : XK) (f c' : Addr), starEach [e] (LamX.lamCx X A outer s H E scope f c').env = [(false, eval e (LamX.lamCx X A outer s H E scope f c').env)] := by intros; rfl)
    (hfw : ∀ (A : Around) (outer : List Env) (s : Shared) (H : Hp) (E : XK) (f c' : Addr), ((backTo p8 (starEach [e] (LamX.lamCx X A outer s H E scope f c').env)).all (fun x => !x.1) && (backToKw p8 (keywordEach [] (LamX.lamCx X A outer s H E scope f c').env)).all (fun x => x.1.isSome)
      && decide (([e] : List Expr).length + ([] : List Keyword).length + (if ([] : List Keyword).isEmpty then 0 else 1) < 30)) = true := by intros; rfl)
    (hsw : swapsWith (.Call (.Name x p) [.Lambda params (.Call (.Attribute (.Name y p4) "append" p5) [e] [] p8) scope lpos] [] posc) (some (.Name z pos')) pos.line X.env = pure false := by rfl) (hfn : X.fn z = true ∨ X.env.scope.names.lookup z = some .local := by exact .inl rfl) :
    PS X (.Assign [.Name z pos'] (.Call (.Name x p) [.Lambda params (.Call (.Attribute (.Name y p4) "append" p5) [e] [] p8) scope lpos] [] posc) pos) (rdS c Wx fu (.cpp i jz ea)) := by
  obtain ⟨g, fd, ⟨⟨oc, od, kV, doc, pm, an, cdv, ct, osl, rfl, lk, hcd2⟩, kp⟩, hm, hbd⟩ := CF.ex
  obtain ⟨cc, P, TB, hcode, hmT, hu⟩ := LA.ex
  rw [← n.hk] at lk hcd2 kp hbd
  refine ps_wk (ps_set (i := jz) n.nd hNz hlz (LamX.pe_lamcall (T := c.tb) (k := j) (t := fun E => tBM X.K "list" rAppend (tVar i) (tCons (rdE c (fun cls dd _ H' => E cls dd H') ea) tNil)) hg hm kp lk hcd2 hbd CF.sc CF.na CF.va (CF.give X g cdv _ n.hk rfl) TB hcode hmT hu (n.room.mono hj) (LamX.lamS_by L) hdef hbind
    (fun A outer s H E f c' hr => pe_bm (X := LamX.lamCx X A outer s H E scope f c') PySem.F.plainAttrs_list PySem.F.slot_list_append (by rfl) mt_append (pe_var (i := i) hNy hvy hdy hcy) (pa_cons (hb A outer s H E f c' (n.lam hr)) pa_nil (hst A outer s H E f c')) (hbase _) (hfw A outer s H E f c') hline (hst A outer s H E f c') (by rfl)) hdb hd hcd) hsw hfn) fun D σ H ⟨F0, H0, ρ, F, W, R, hP⟩ => ?_
  refine ⟨R.stp.tabs, fun H1 eN T1 => ?_⟩
  have S1 := ext_stp (T := True) R eN T1
  have R1 := R.step S1
  simp only [evS] at hP
  cases e0 : ρ[i]? with
  | none => rw [e0] at hP; exact hP.elim
  | some s =>
    rw [e0] at hP
    cases s with
    | un => exact hP.elim
    | slf _ _ _ => exact hP.elim
    | val d => exact hP.elim
    | own d =>
      cases d <;> try (exact hP.elim)
      rename_i xs
      simp only at hP
      obtain ⟨p, ws0, h1, h2, h3⟩ := own_lst R1 e0
      refine ⟨.ref p, h1, .inl ⟨rfl, ws0, .inl (.inl h2)⟩, F0, H0, ρ, F, W, R1, ?_⟩
      cases e2 : ev ea ρ W with
      | stk => rw [e2] at hP; exact hP.elim
      | ok v W2 =>
        rw [e2] at hP
        simp only at hP
        by_cases hl : v.k = .pl ∧ v.t = [] ∧ xs.length < cap
        · rw [if_pos hl] at hP
          obtain ⟨k1, k2, k3⟩ := hl
          refine fun u F2 H2 S2 V2 => ?_
          have R2 := R1.step S2
          obtain ⟨p', ws, h4, h5, h6⟩ := own_lst R2 e0
          rw [h1] at h4
          have q := L2.V.ref.inj (Option.some.inj (Option.some.inj h4))
          subst q
          have r := V2.at_
          rw [k1, k2, Fz_nil] at r
          refine ⟨p, ws, u, rfl, rfl, h5, by rw [h6.length, ← cap_eq]; exact k3, .non, rfl, ?_⟩
          have R3 := (R2.mut (o' := .lst (xs ++ [v.d])) e0 h1 ⟨_, upd_same, h6.append (.cons r .nil)⟩).setv (i := jz) (u := .non) (d := .non) .non
          exact hP _ _ _ R3 fun a o q => S2.f _ _ q
        · rw [if_neg hl] at hP; exact hP.elim
      | ex x W2 =>
        rw [e2] at hP
        cases x <;> try (exact hP.elim)
        rename_i nm fs
        refine fun cls dd F2 H2 S2 hx => ?_
        obtain ⟨C, g1, rfl, g2⟩ := hx
        refine ⟨n.hk ▸ CF.up _ _ g1, fun b hb => ?_⟩
        have R2 := R1.step S2
        have S3 := R2.refl.makeF (o := XO (.ref C) dd b) hb
        have ne : ∀ q o, F2 q = some o → q ≠ b := fun q o e => ne_of_none (R2.stp.sub _ _ e) hb
        have up : Same F2 (upd F2 b (XO (.ref C) dd b)) := fun q o e => by rw [upd_ne (ne q o e)]; exact e
        have r : Rep c (upd F2 b (XO (.ref C) dd b)) (.ref b) (.exc nm fs) := by
          cases fs with
          | nil =>
            simp only at g2
            subst g2
            exact .exc0 upd_same g1
          | cons q fs =>
            simp only at g2
            obtain ⟨m, d, gs, rfl, k1, k2⟩ := g2
            exact .exc1 upd_same g1 (up _ _ k1) (k2.mono up) (by simp)
        exact hP _ _ _ ((R2.step S3).setv (i := jz) r) fun a o q => S3.f _ _ (S2.f _ _ q)
end
end Z

namespace Z
open PySem PySem.Spec PyProof.Rows L2
/-- x, k times -/
def repS (x : Str) (k : Int) : Str := if k < 1 then Str.empty else if (k == 1 || x.length == 0) = true then x else ⟨(List.replicate k.toNat x.cps).foldl (· ++ ·) #[]⟩
def repSD : List D → Option (Bool × D)
  | [.str a, .int k] => if 0 ≤ k ∧ k ≤ 1000 ∧ a.length ≤ 10000 then some (false, .str (repS a k)) else none
  | _ => none
theorem fold_size (a : Array Nat) : ∀ (n : Nat) (acc : Array Nat), ((List.replicate n a).foldl (· ++ ·) acc).size = acc.size + n * a.size
  | 0, acc => by simp
  | n + 1, acc => by
    rw [List.replicate_succ, List.foldl_cons, fold_size a n, Array.size_append, Nat.add_mul]
    omega
theorem repS_len (x : Str) (k : Int) : (repS x k).length ≤ x.length * k.toNat := by
  unfold repS
  split
  · exact Nat.zero_le _
  · rename_i h
    have h1 : 1 ≤ k.toNat := by omega
    split
    · calc x.length = x.length * 1 := (Nat.mul_one _).symm
        _ ≤ x.length * k.toNat := Nat.mul_le_mul_left _ h1
    · show (Array.size _) ≤ _
      rw [fold_size]
      have : x.cps.size = x.length := rfl
      simp [this, Nat.mul_comm]
section
variable {c : Pm} {Wx : WX} {X : Cx} {pos : Pos} {k : Nat}
def rRepS : V → V → Hp → VK → Prop := fun x y H Q => ∃ (a : Str) (k : Int), x = .str a ∧ y = .int k ∧ 0 ≤ k ∧ k ≤ 1000 ∧ a.length ≤ 10000 ∧ Q (.str (repS a k)) H
theorem op_repS : OpR X (binaryOp .Mult) rRepS := by
  intro pins s σ H x y v u Q I rx ry h
  obtain ⟨a, k, rfl, rfl, h0, h1, ha, q⟩ := h
  obtain ⟨t, rfl⟩ := rx
  obtain ⟨t', rfl⟩ := ry
  have len := repS_len a k
  have big : a.length * k.toNat ≤ 10000000 := Nat.le_trans (Nat.mul_le_mul ha (show k.toNat ≤ 1000 by omega)) (by decide)
  refine PySem.P.mul_str (by
      rw [decide_eq_false (by omega), decide_eq_false (by omega)] <;> rfl) (fun h2 _ => ?_) (fun _ _ => ?_) ?_
  · have e : (a.length : Int) ≤ 10000 := by omega
    have : (10000 : Int) ≤ (2 ^ 63 - 1) / k := Int.le_ediv_of_mul_le (by omega) (by omega)
    omega
  · show Builtin.Str.tooLong _ = false
    unfold Builtin.Str.tooLong
    exact decide_eq_false (by rw [sizeLine_eq]; omega)
  · unfold repS at q len
    by_cases c1 : k < 1
    · rw [if_pos c1] at q ⊢
      exact ⟨by rw [sizeLine_eq]; exact Nat.zero_le _, .str _, H, I.tok _, ⟨_, rfl⟩, q⟩
    · rw [if_neg c1] at q len ⊢
      by_cases c2 : (k == 1 || a.length == 0) = true
      · rw [if_pos c2] at q ⊢
        exact ⟨.str a, H, I, ⟨t, rfl⟩, q⟩
      · rw [if_neg c2] at q len ⊢
        exact ⟨by rw [sizeLine_eq]; omega, .str _, H, I.tok _, ⟨_, rfl⟩, q⟩
theorem x_repS {a b : Expr} {ea eb : E} (n : Cn c Wx k X) (ha : PE X a (rdE c Wx ea)) (hb : PE X b (rdE c Wx eb)) : PE X (.BinOp a .Mult b pos) (rdE c Wx (.call (pureG repSD) (.cons ea (.cons eb .nil)))) := by
  refine pe_wk (pe_op op_repS ha hb) fun σ H Q h => rdE_mono (call2_ok h) fun x H1 h => rdE_mono h fun y H2 h => ?_
  obtain ⟨F', xs, W', z, r, S, hf, hQ⟩ := spG_pure h
  obtain _ | ⟨r1, _ | ⟨r2, _ | _⟩⟩ := r
  rename_i d1 d2
  cases d1 <;> cases d2 <;> try (cases hf)
  rename_i x i
  have hf : (if 0 ≤ i ∧ i ≤ 1000 ∧ x.length ≤ 10000 then some (false, D.str (repS x i)) else none) = some z := hf
  split at hf <;> cases hf
  rename_i hz
  cases r1
  exact ⟨x, i, rfl, r2.intI, hz.1, hz.2.1, hz.2.2, hQ _ F' H2 S (.str _)⟩
end
end Z

namespace Z
open PySem PySem.Spec PyProof.Rows L2
def mkE0D (x : Str) : List D → Option (Bool × D) := fun _ => some (false, .exc x [])
def mkE1D (x f : Str) : List D → Option (Bool × D)
  | [d] => some (false, .exc x [(f, d)])
  | _ => none
section
variable {c : Pm} {Wx : WX} {X : Cx} {fu n k : Nat} {W W' W1 W2 W3 : Dr} {F0 H0 F H F' H' F1 H1 F2 H2 F3 H3 Hs : Hp} {ρ ρ' : En} {σ σ' : L2.St} {u w : V} {x y v : Vl} {Q : VK} {us : List V} {vs : List Vl} {pos : Pos}
theorem xo_new {P : Program} {w : World} {H : Hp} {h : Heap} {a : Addr} {oe : Obj} {vs : Array Value} {cls : Value} {d : Option Addr} (e : h.get? a = some oe) (z : Zc cls d oe) (hd : oe.data = .fields vs) : ObjOk P w H h a (XO cls d a) :=
  ⟨⟨oe, vs, e, z, hd⟩, ⟨oe, e⟩, fun _ _ ⟨o, v, q, r⟩ k => ⟨o, v, k o q, r⟩⟩
/-- an error that is made and kept -/
theorem pe_mkv {e : Expr} {t : L2.St → Hp → XK → Prop} (h : PMk X e t) : PE X e (fun σ H Q => t σ H fun cls d H' => ∀ a, H' a = none → Q (.ref a) (upd H' a (XO cls d a))) := by
  refine ⟨fun pins s σ H Q I q => thn (h pins s σ H _ I q) fun u s' hu => ?_⟩
  obtain ⟨a, oe, vs, sI, H', cls, d, rfl, J, k, hne, ha, hz, hd, h1, na, os, ag, r, q⟩ := hu
  refine ⟨.ref a, upd H' a (XO cls d a), ?_, rfl, q a na⟩
  obtain ⟨hI, gI, dI, tI, oI⟩ := sI
  obtain ⟨h', g', d', t', os'⟩ := s'
  exact J.call' (ch := []) os (Un.laidN k hne na) (J.hok.laidN k na (xo_new ha hz hd)) ag fun b z => absurd z (by simp)
theorem x_mkE {z m : Str} {j : Nat} {p p2 pos2 : Pos} (n : Cn c Wx k X) (h : RaiseF c X.mg z) (hg : Gl X z := by rfl) (hdb : (z == ("__debug__" : Str)) = false := by decide) :
    PE X (.Call (.Name z p) [.Constant (.str m) j p2] [] pos2) (rdE c Wx (.call (pureG (mkE0D z)) .nil)) := by
  obtain ⟨C, B, ni, ii, bm, h1, h2, h3, h4, h5, h6, h7⟩ := h.ex
  rw [← n.hk] at h2 h4 h5 h6
  refine pe_wk (pe_mkv (pmk_own h1 h2 h3 h4 (raises_own h5 h6) hg hdb)) fun σ H Q ⟨F0, H0, ρ, F, W, R, hP⟩ => ?_
  simp only [ev, evL, Out.ok_bind] at hP
  have A : ArgOk c ρ σ H F H [] [] := .nil
  have q := call_end (g := pureG (mkE0D z)) R R.refl A (t := []) (fun i h => by cases h) hP
  obtain ⟨F', xs, W', r, _, S, hf, hQ⟩ := spG_pure (c := c) (us := []) (f := mkE0D z) ⟨_, [], W, .nil, ((Ft_rel R R R.refl A).frz (t := []) (fun i h => by cases h)).stp.refl, q⟩
  cases hf
  intro a ha
  exact hQ _ _ _ (S.makeF (o := XO (.ref C) none a) ha) (.exc0 upd_same h7)
theorem x_mkO {z f : Str} {a : Expr} {ea : E} {p : Pos} (n : Cn c Wx k X) (h : OwnErr c X.prog X.mg z f) (ha : PA X [a] (rdL c Wx ea)) (hk : 1 ≤ k := by decide) (hg : Gl X z := by rfl) (hdb : (z == ("__debug__" : Str)) = false := by decide)
    (he : starEach [a] X.env = (false, eval a X.env) :: starEach [] X.env := by rfl) (hpl : (backTo pos (starEach [] X.env)).any (·.1) = false := by rfl) :
    PE X (.Call (.Name z p) [a] [] pos) (rdE c Wx (.call (pureG (mkE1D z f)) ea)) := by
  obtain ⟨C, fI, T, hc⟩ := h.ex
  rw [← n.hk] at T
  refine pe_wk (pe_mkv (pmk_one (k := 0) T (n.room.mono hk) ha hg hdb he hpl)) fun σ H Q h => rdL_mono (call_ok h) fun vs H1 q => ?_
  obtain ⟨F, xs, W, r, rr, S, hf, hQ⟩ := spG_pure q
  match xs, rr, hf with
  | [d], .cons (v := v) r1 .nil, hf =>
    cases hf
    refine ⟨v, rfl, fun dd hd b hb => ?_⟩
    have S2 := S.makeF (o := .xd [(f, v)]) hd
    have ne : ∀ q o, F q = some o → q ≠ dd := fun q o e => ne_of_none (S.sub _ _ e) hd
    have up : Same F (upd F dd (.xd [(f, v)])) := fun q o e => by rw [upd_ne (ne q o e)]; exact e
    have S3 := S2.trans (S2.refl.makeF (o := XO (.ref C) (some dd) b) hb)
    have hbd : dd ≠ b := ne_of_none upd_same hb
    refine hQ (.ref b) _ _ S3 (.exc1 upd_same hc ((upd_ne hbd).trans upd_same) (.cons ?_ .nil) (by simp))
    refine (r1.mono up).mono fun q o e => ?_
    rw [upd_ne (ne_of_none (S2.sub _ _ e) hb)]
    exact e
end
end Z

namespace Z
open PySem PySem.Spec PyProof.Rows L2
open PySem.W (Frag Looks findIn)
section
variable {M : Model} {A : Around} {E : Value → Shared → Prop} {h : Heap} {g : Array GenState} {d : Drawn} {t : Nat} {os : OsState}
variable {nm q : Str} {C N : Addr} {bs bm bmB : List Value} {hdct : Bool} {sn : List Str} {sub : List Value} {ab : Bool} {col : Option Bool} {dd : Option Addr} {k0 k1 k2 k3 k5 : Option Value} {B newId initId : String}
theorem check_newK (F : ExcBaseFacts B newId initId bmB) (hT : ∀ X : String, bm.contains (.type X) = bmB.contains (.type X)) {kw : List (Str × Value)} {Q : Unit → Shared → Prop}
    (hC : h.get? C = some (excClassObj nm q C N bs bm hdct sn sub ab col dd k0 k1 k2 k3 k5 newId)) (hq : Q () ⟨h, g, d, t, os⟩) : wpAny M A (checkBuiltinCall newId ⟨[.ref C], kw⟩) Q E ⟨h, g, d, t, os⟩ := by
  have hb : (Value.ref C :: bm).contains (.type B) = true := by rw [List.contains_cons, hT, F.hasB, Bool.or_true]
  have star := F.noStar
  simp only [checkBuiltinCall, F.newKind, F.newSplit, F.newRow]
  repeat (first | refine wpAny_loadPart_at hC ?_ | (refine wpAny_isSubtype_exc hC ?_; rw [hb]) | refine wpAny_staticBase_exc hC ?_ | refine wpAny_madeBy_exc hC ?_ | simp only [bne_self_eq_false, Bool.false_eq_true, if_false] | wp_step)
  exact hq
end
section
variable {prog : Program} {w : World} {A : Around} {E : Value → Shared → Prop} {R : Result → Shared → Prop} {h : Heap} {g : Array GenState} {d : Drawn} {t : Nat} {os : OsState}
variable {nm q : Str} {C N : Addr} {bs bm bmB : List Value} {hdct : Bool} {sn : List Str} {sub : List Value} {ab : Bool} {col : Option Bool} {dd : Option Addr} {k0 k1 k2 k3 k5 : Option Value} {B newId initId : String} {kw : List (Str × Value)}
theorem new_K (F : ExcBaseFacts B newId initId bmB) (hT : ∀ X : String, bm.contains (.type X) = bmB.contains (.type X))
    (hC : h.get? C = some (excClassObj nm q C N bs bm hdct sn sub ab col dd k0 k1 k2 k3 k5 newId))
    (hq : R (.ok (.ret (.ref (h.objs.size + 1)))) ⟨(h.push { cls := .type "tuple", data := .seq #[] }).push (HandSPX.excO C h.objs.size), g, d, t, os⟩) :
    codeAny (model prog w) A (.builtin newId ⟨[.ref C], kw⟩) R ⟨h, g, d, t, os⟩ := by
  have ends := F.ends
  have cB : (Value.ref C :: bm).contains (.type B) = true := by rw [List.contains_cons, hT, F.hasB, Bool.or_true]
  have cA : (Value.ref C :: bm).contains (.type "AttributeError") = false := by rw [List.contains_cons, hT, F.noAttr]; rfl
  have cN : (Value.ref C :: bm).contains (.type "NameError") = false := by rw [List.contains_cons, hT, F.noName]; rfl
  refine codeAny_builtinAt F.entry ?_
  unfold Builtin.«BaseException.__new__»
  refine PySem.wpAt_bind ?_
  show PySem.wpAt _ _ _ (stack >>= _) _ _ _
  refine PySem.wpAt_bind (PySem.wpAt_stack fun p below => PySem.wpAt_of_wpAny ?_)
  wp_walk
  refine PySem.wpAt_of_wpAny ?_
  rw [F.owner]
  repeat (first | with_reducible refine wpAny_madeHere_exc F.canon hC ?_ | with_reducible refine wpAny_loadPart_at hC ?_ | (with_reducible refine wpAny_isSubtype_exc hC ?_; first | rw [cB] | rw [cA] | rw [cN]) | wp_step)
  show R _ _
  rw [Heap.size_push]
  exact hq
theorem type_callK (F : ExcBaseFacts B newId initId bmB) (hT : ∀ X : String, bm.contains (.type X) = bmB.contains (.type X)) {fI : Addr} {Q : Fin → Shared → Prop}
    (hC : h.get? C = some (excClassObj nm q C N bs bm hdct sn sub ab col dd k0 k1 k2 k3 k5 newId))
    (hi : Looks (model prog w) h (typeLookup (.ref C) "__init__") (some (.ref fI))) (hb : ∀ self, Looks (model prog w) h (bindSpecial (.ref fI) self) (.ref fI, [self]))
    (hq : codeAny (model prog w) A (.call (.ref fI) ⟨[.ref (h.objs.size + 1)], kw⟩)
      (fun r s' => match r with | .ok (.ret v) => v = .none ∧ Q (.done (.ret (.ref (h.objs.size + 1)))) s' | .ok _ => False | .error e => E e s')
      ⟨(h.push { cls := .type "tuple", data := .seq #[] }).push (HandSPX.excO C h.objs.size), g, d, t, os⟩) :
    wpAny (model prog w) A (Builtin.«type.__call__» ⟨[.ref C], kw⟩) Q E ⟨h, g, d, t, os⟩ := by
  repeat (first | with_reducible refine wpAny_loadPart_at hC ?_ | with_reducible refine wpAny_madeBy_exc hC ?_ | wp_step)
  refine codeAny_call_builtin_code (Code.quiet_builtin _ F.quiet) (check_newK F hT hC ?_)
  refine new_K F hT hC ?_
  show wpAny _ _ _ _ _ _
  have k : ∀ b o, h.get? b = some o → ((h.push { cls := .type "tuple", data := .seq #[] }).push (HandSPX.excO C h.objs.size)).get? b = some o := fun b o e => Heap.get?_push_of_some _ (Heap.get?_push_of_some _ e)
  have C1 := k _ _ hC
  have hget : ((h.push { cls := .type "tuple", data := .seq #[] }).push (HandSPX.excO C h.objs.size)).get? (h.objs.size + 1) = some (HandSPX.excO C h.objs.size) := by heap_get
  have cC : (Value.ref C :: bm).contains (.ref C) = true := by simp
  have i1 := hi.keeps k
  have b1 := (hb (.ref (h.objs.size + 1))).keeps k
  unfold isInstance
  repeat (first | with_reducible refine wpAny_loadPart_at hget ?_ | (with_reducible refine wpAny_isSubtype_exc C1 ?_; rw [cC]) | wp_step)
  show wpAny _ _ (typeLookup (.ref C) _) _ _ _
  refine i1.at ?_
  refine wpAny_holding (wpAny_bind (b1.at ?_))
  refine wpAny_bind (wpAny_call (codeAny_mono hq fun r s' z => ?_))
  rcases r with e | (v | _ | _ | _) <;> first | exact z | exact z.elim | skip
  obtain ⟨rfl, z⟩ := z
  first
    | exact wpAny_pure (wpAny_pure z)
    | (wp_walk; exact z)
theorem check_typeK {M : Model} {A : Around} {E : Value → Shared → Prop} {Q : Unit → Shared → Prop} (hC : h.get? C = some (excClassObj nm q C N bs bm hdct sn sub ab col dd k0 k1 k2 k3 k5 newId))
    (hq : Q () ⟨h, g, d, t, os⟩) : wpAny M A (checkBuiltinCall "type.__call__" ⟨[.ref C], kw⟩) Q E ⟨h, g, d, t, os⟩ := by
  have f3 := tc_sub
  have hT : (⟨h, g, d, t, os⟩ : Shared).TypeIs (.ref C) "type" := ⟨_, hC, rfl⟩
  simp only [checkBuiltinCall, tc_kind, tc_split]
  repeat (any_goals (first | assumption | with_reducible refine wpAny_loadPart_at hC ?_ | with_reducible refine wpAny_onRaise ?_ | with_reducible refine wpAny_map ?_ | wp_step))
theorem call_K (F : ExcBaseFacts B newId initId bmB) (hT : ∀ X : String, bm.contains (.type X) = bmB.contains (.type X)) {fI : Addr}
    (hC : h.get? C = some (excClassObj nm q C N bs bm hdct sn sub ab col dd k0 k1 k2 k3 k5 newId))
    (hi : Looks (model prog w) h (typeLookup (.ref C) "__init__") (some (.ref fI))) (hb : ∀ self, Looks (model prog w) h (bindSpecial (.ref fI) self) (.ref fI, [self]))
    (hq : codeAny (model prog w) (A.under (.builtin "type.__call__" ⟨[.ref C], kw⟩)) (.call (.ref fI) ⟨[.ref (h.objs.size + 1)], kw⟩) (PySem.W.InitBack (h.objs.size + 1) R)
      ⟨(h.push { cls := .type "tuple", data := .seq #[] }).push (HandSPX.excO C h.objs.size), g, d, t, os⟩) :
    codeAny (model prog w) A (.call (.ref C) ⟨[], kw⟩) R ⟨h, g, d, t, os⟩ := by
  have f1 := tc_lookup
  have f2 := tc_bind (.ref C)
  have hTy : (⟨h, g, d, t, os⟩ : Shared).TypeIs (.ref C) "type" := ⟨_, hC, rfl⟩
  refine codeAny_of_tree ?_
  show wpAny _ _ (callAny (.ref C) _) _ _ _
  repeat (any_goals (first | assumption | with_reducible refine wpAny_loadPart_at hC ?_ | wp_step))
  refine ⟨rfl, ?_⟩
  refine codeAny_call_builtin_at (Code.quiet_builtin _ (by decide +kernel)) entry_typeCall (check_typeK hC (type_callK F hT hC hi hb ?_))
  refine codeAny_mono hq fun r s' z => ?_
  rcases r with e | (v | _ | _ | _) <;> exact z
end
section
variable {P : Program} {w : World} {A : Around} {R : Result → Shared → Prop} {s : Shared} {K : Frag} {mg mb : Str → Option Value} {x f : Str} {C fI : Addr}
theorem own_madeK (T : OwnT P K mg x f C fI) {v : Value} (X : K.In s.heap) (G : s.heap.Ns mainGlobals mg) (B : s.heap.Ns builtinsNs mb) (hmb : mb "super" = some (.type "super")) (hlim : s.heap.NoLimit) (hroom : A.depth + 1 < recursionLimit)
    (hq : ∀ h' tk e d t1, OwnEnd s.heap h' e C d t1 f v → (∀ b o, s.heap.get? b = some o → h'.get? b = some o) → s.heap.objs.size ≤ e → R (.ok (.ret (.ref e))) { s with heap := h', toks := tk }) : codeAny (model P w) A (.call (.ref C) ⟨[], [(f, v)]⟩) R s := by
  obtain ⟨nm, q, N, bs, bm, sn, sub, ab, col, dd, k0, k1, k2, k3, k5, hC, hbm⟩ := T.cls.cls
  obtain ⟨hp, g, dr, tk, os⟩ := s
  have k : ∀ b o, hp.get? b = some o → ((hp.push { cls := .type "tuple", data := .seq #[] }).push (HandSPX.excO C hp.objs.size)).get? b = some o := fun b o e => Heap.get?_push_of_some _ (Heap.get?_push_of_some _ e)
  have hget : ((hp.push { cls := .type "tuple", data := .seq #[] }).push (HandSPX.excO C hp.objs.size)).get? (hp.objs.size + 1) = some (HandSPX.excO C hp.objs.size) := by heap_get
  have hnx : K.lookup (hp.objs.size + 1) = none := by
    cases e : K.lookup (hp.objs.size + 1) with
    | none => rfl
    | some o =>
      have z : hp.get? (hp.objs.size + 1) = some o := X _ _ e
      exact absurd (Nat.lt_of_succ_lt (Heap.lt_size z)) (Nat.lt_irrefl _)
  refine call_K PySem.F.excBase_ValueError (fun Y => HandSPX.refsVE_contains Y bm hbm) (X _ _ hC) (PySem.W.looks_findIn X T.iC) (fun self => PySem.W.bind_fn X self T.tI) ?_
  refine own_init (v := v) (s := ⟨(hp.push { cls := .type "tuple", data := .seq #[] }).push (HandSPX.excO C hp.objs.size), g, dr, tk, os⟩) T (X.keeps k) (G.keeps k) (B.keeps k) hmb (hlim.keeps k) hget hnx hroom (fun fd ⟨p1, p2, ep⟩ ed ek => .of_eq (own_bnd T.hb ⟨p1, p2, ep⟩ ed ek _ _).2) fun h' tk' dx t1 ⟨k', hx, dn, dne, hns⟩ => ?_
  have old : ∀ b o, hp.get? b = some o → h'.get? b = some o := fun b o e => k' b o (Nat.ne_of_lt (Nat.lt_succ_of_lt (Heap.lt_size e))) (k b o e)
  have z : hp.objs.size ≤ dx := Nat.le_trans (by simp only [Heap.size_push]; omega) dn
  exact ⟨rfl, hq h' tk' (hp.objs.size + 1) dx t1 ⟨fun b o _ e => old b o e, hx, z, dne, hns⟩ old (Nat.le_succ _)⟩
end
section
variable {X : Cx} {x f : Str} {C fI : Addr} {p pos : Pos}
theorem pmk_oneK {ta : TA} {k : Nat} {kws : List Keyword} (T : OwnT X.prog X.K X.mg x f C fI) (hr : Room (k + 1) X.A) (ha : PK X kws ta) (hg : Gl X x) (hdb : (x == ("__debug__" : Str)) = false)
    (hall : (backToKw pos (keywordEach kws X.env)).all (·.1.isSome) = true) (hks : (backToKw pos (keywordEach kws X.env)).filterMap (·.1) = [f])
    (hpl : ((backTo pos (starEach [] X.env)).any (·.1) || (backToKw pos (keywordEach kws X.env)).any (·.1.isNone)) = false) : PMk X (.Call (.Name x p) [] kws pos) (tMkOne C f ta) := by
  intro pins s σ H Q I h
  refine wpAny_Call_Name_kw (ld_glob I hg T.gC ?_ hdb)
  refine PySem.W.callWith_KW0 (h₀ := X.base) I.ok.mod.kin T.cls.kC hall (thn (ha.run pos pins s σ H _ I h) fun us s1 ⟨vs, H1, I1, r1, v, ev, q1⟩ => ⟨I1.kIn, ?_⟩) hpl
  subst ev
  obtain ⟨u, rfl, ru⟩ := r1.one
  rw [hks]
  show wpAny _ _ (call (.ref C) [] [(f, u)]) _ _ _
  obtain ⟨mb, hB1, hB2⟩ := I1.mod.blt
  have hlim := I1.nolimit
  have G := I1.mod.glob.keeps I1.bk
  have B := hB1.keeps I1.bk
  obtain ⟨hp, g, dr, tk, os⟩ := s1
  refine wpAny_call (own_madeK T I1.kIn G B ((hB2 "super" (by decide)).trans (by first | rfl | decide +kernel)) hlim (by have := hr.dp; omega) fun h' tk' e d t1 M old new => ?_)
  show MkP X pins σ Q (.ref e) ⟨h', g, dr, tk', os⟩
  obtain ⟨G', g1, g2⟩ := restrict h' fun b => decide (b ≠ e)
  have gk : ∀ b, b ≠ e → G'.get? b = h'.get? b := fun b hb => g1 b (decide_eq_true hb)
  have ge : G'.get? e = none := g2 e (by simp)
  have up : ∀ b o, hp.get? b = some o → G'.get? b = some o := fun b o q => (gk b (Nat.ne_of_lt (Nat.lt_of_lt_of_le (Heap.lt_size q) new))).trans (old b o q)
  have ob : ObjOk X.prog X.w (upd H1 d (.xd [(f, v)])) G' d (.xd [(f, v)]) := ⟨_, M.ns.at (fun o q => (gk d M.dne).trans q), fun g => relO_one ru g⟩
  have J : Inv X pins σ (upd H1 d (.xd [(f, v)])) ⟨G', g, dr, tk', os⟩ := I1.laid (t' := tk') up M.dbig ob
  refine ⟨e, _, _, ⟨G', g, dr, tk', os⟩, _, .ref C, some d, rfl, J, fun b o q => ?_, ge, M.obj, ⟨rfl, rfl⟩, rfl, rfl, ?_, rfl, I1.bare, raises_own T.cls.exC T.cls.tyC, q1 d (I1.hok.fresh M.dbig)⟩
  · by_cases hb : b = e
    · have q' : G'.get? b = some o := q
      rw [hb, ge] at q'
      cases q'
    · exact (gk b hb).symm.trans q
  · rw [upd_ne (Ne.symm M.dne)]
    exact I1.hok.fresh new
end
section
variable {c : Pm} {Wx : WX} {X : Cx} {k : Nat} {pos : Pos}
theorem mk_one_ok {z f : Str} {C : Addr} {ea : E} {ta : TA} {σ : L2.St} {H : Hp} {Q : VK} (hc : c.cx z = some C) (h : rdE c Wx (.call (pureG (mkE1D z f)) ea) σ H Q) (m : ∀ Q2, rdL c Wx ea σ H Q2 → ta σ H Q2) :
    tMkOne C f ta σ H fun cls d H' => ∀ a, H' a = none → Q (.ref a) (upd H' a (XO cls d a)) := by
  refine m _ (rdL_mono (call_ok h) fun vs H1 q => ?_)
  obtain ⟨F, xs, W, r, rr, S, hf, hQ⟩ := spG_pure q
  match xs, rr, hf with
  | [d], .cons (v := v) r1 .nil, hf =>
    cases hf
    refine ⟨v, rfl, fun dd hd b hb => ?_⟩
    have S2 := S.makeF (o := .xd [(f, v)]) hd
    have ne : ∀ q o, F q = some o → q ≠ dd := fun q o e => ne_of_none (S.sub _ _ e) hd
    have up : Same F (upd F dd (.xd [(f, v)])) := fun q o e => by rw [upd_ne (ne q o e)]; exact e
    have S3 := S2.trans (S2.refl.makeF (o := XO (.ref C) (some dd) b) hb)
    have hbd : dd ≠ b := ne_of_none upd_same hb
    refine hQ (.ref b) _ _ S3 (.exc1 upd_same hc ((upd_ne hbd).trans upd_same) (.cons ?_ .nil) (by simp))
    refine (r1.mono up).mono fun q o e => ?_
    rw [upd_ne (ne_of_none (S2.sub _ _ e) hb)]
    exact e
theorem x_mkOK {z f : Str} {ea : E} {kws : List Keyword} {p : Pos} (n : Cn c Wx k X) (h : OwnErr c X.prog X.mg z f) (ha : PK X kws (rdL c Wx ea)) (hk : 1 ≤ k := by decide) (hg : Gl X z := by rfl) (hdb : (z == ("__debug__" : Str)) = false := by decide)
    (hall : (backToKw pos (keywordEach kws X.env)).all (·.1.isSome) = true := by rfl) (hks : (backToKw pos (keywordEach kws X.env)).filterMap (·.1) = [f] := by rfl)
    (hpl : ((backTo pos (starEach [] X.env)).any (·.1) || (backToKw pos (keywordEach kws X.env)).any (·.1.isNone)) = false := by rfl) :
    PE X (.Call (.Name z p) [] kws pos) (rdE c Wx (.call (pureG (mkE1D z f)) ea)) := by
  obtain ⟨C, fI, T, hc⟩ := h.ex
  rw [← n.hk] at T
  exact pe_wk (pe_mkv (pmk_oneK (k := 0) T (n.room.mono hk) ha hg hdb hall hks hpl)) fun σ H Q h => mk_one_ok hc h fun _ q => q
end
end Z

namespace Z
open PySem PySem.Spec PyProof.Rows L2
open Classical
def pdDs : List D → Option (List PyData)
  | [] => some []
  | .dic false kvs :: r => match pdK kvs, pdDs r with
    | some q, some ps => some (.dict q :: ps)
    | _, _ => none
  | _ => none
def pdVs (H : Hp) : List V → List PyData → Prop
  | [], [] => True
  | .ref a :: r, .dict q :: ps => (∃ ks, Rd H a (.dK ks) ∧ pdV ks = some q) ∧ pdVs H r ps
  | _, _ => False
noncomputable def reprBD : List D → Option (Bool × D)
  | [.lst xs] => match reprAnyD [.lst xs] with
    | some r => some r
    | none => (pdDs xs).bind fun ps => if (PyData.list ps).showable = true ∧ (PyData.list ps).shown.length ≤ cap ∧ (PyData.list ps).depth ≤ 50 then some (false, .str (PyData.list ps).shown) else none
  | xs => reprAnyD xs
/-- the table of the modules is a dict -/
def SysD (K : PySem.W.Frag) : Prop := ∃ o, K.lookup sysModules = some o ∧ o.cls = .type "dict"
def sysB (K : PySem.W.Frag) : Bool := match K.lookup sysModules with
  | some ⟨.type t, _, _, _⟩ => decide (t = "dict")
  | _ => false
theorem sysB_ok {K : PySem.W.Frag} (h : sysB K = true) : SysD K := by
  unfold sysB at h
  split at h
  · rename_i t _ _ _ e
    exact ⟨_, e, congrArg Value.type (of_decide_eq_true h)⟩
  · cases h
section
variable {c : Pm} {Wx : WX} {X : Cx} {F : Hp} {pos : Pos} {k : Nat}
theorem vs_reads {pins : List (Addr × Obj)} {σ : L2.St} {H : Hp} {s : Shared} (I : Inv X pins σ H s) : ∀ {xs : List V} {us : List Value} {ps : List PyData}, Vals xs us → pdVs H xs ps → ∃ as, ReadsAll s.heap us ps as ∧ sysModules ∉ as
  | [], _, [], .nil, _ => ⟨[], .nil, by simp⟩
  | [], _, _ :: _, .nil, h => h.elim
  | .ref a :: xs, _, .dict q :: ps, .cons r rs, ⟨⟨ks, hR, hq⟩, h⟩ => by
    cases r
    obtain ⟨as, i1, i2⟩ := vs_reads I rs h
    obtain ⟨z, hs, vs, r0, o, es, ep, ho, hx, hdt, _, hp, _⟩ := hR.ok I.hok
    obtain ⟨j1, j2⟩ := kv_reads (h := s.heap) r0 hp hq
    refine ⟨_, .cons (Reads.dict ho hx.1 hdt j1 j2) i1, fun hm => ?_⟩
    simp only [List.append_nil, List.cons_append, List.nil_append, List.mem_cons] at hm
    rcases hm with hm | hm
    · exact beq_eq_false_iff_ne.mp hs hm.symm
    · exact i2 hm
theorem vs_rep : ∀ {us : List V} {xs : List D} {ps : List PyData}, RepL c F us xs → pdDs xs = some ps → pdVs F us ps
  | _, [], _, .nil, h => by cases h; trivial
  | u :: us, .dic false kvs :: xs, ps, .cons r rs, h => by
    simp only [pdDs] at h
    cases h1 : pdK kvs <;> cases h2 : pdDs xs <;> rw [h1, h2] at h <;> simp only at h <;> try (cases h; done)
    cases h
    cases r with
    | dicK a1 a2 a3 => exact ⟨⟨_, a1, pdK_rep a2 a3 h1⟩, vs_rep rs h2⟩
theorem pdVs_mono {F H : Hp} (s : Same F H) : ∀ {us : List V} {ps : List PyData}, pdVs F us ps → pdVs H us ps
  | [], [], _ => trivial
  | .ref _ :: us, .dict _ :: ps, ⟨⟨ks, a, b⟩, h⟩ => ⟨⟨ks, Rd.mono s a, b⟩, pdVs_mono s h⟩
def rReprB (K : PySem.W.Frag) : List V → Hp → VK → Prop := fun xs H Q => rReprA K xs H Q ∨ ∃ (a : Addr) (vs : List V) (ps : List PyData), xs = [.ref a] ∧ SqL K H a vs ∧ pdVs H vs ps ∧ (PyData.list ps).showable = true ∧ (PyData.list ps).depth ≤ 50 ∧ (PyData.list ps).shown.length ≤ sizeLine ∧ Q (.str (PyData.list ps).shown) H
theorem cr_reprB (hu : X.A.units + 64 < cLine) (GD : X.A.guards = some []) (sy : SysD X.K) : CallR X (.builtin "repr") (rReprB X.K) := by
  intro pins s σ H xs us Q I r h
  rcases h with h | ⟨a, vs, ps, rfl, hq, hv, h1, h2, h3, q⟩
  · exact cr_reprA hu GD pins s σ H xs us Q I r h
  obtain ⟨u, rfl, ru⟩ := vals1 r
  cases ru
  obtain ⟨its, rv, pl, hz⟩ := I.list hq
  obtain ⟨as, hr, hs⟩ := vs_reads I rv hv
  obtain ⟨o, ho, hc, n, hd⟩ := pl.isList
  have hsm : sysModules ∉ a :: as := fun hm => by
    rcases List.mem_cons.mp hm with e | e
    · obtain ⟨o2, l2, c2⟩ := sy
      have g2 := I.kIn _ _ l2
      rw [e, ho] at g2
      cases g2
      rw [hc] at c2
      exact absurd c2 (by decide)
    · exact hs e
  have rd : Reads s.heap (.ref a) (.list ps) (a :: as) := Reads.list ho hc hd (by simpa using hr)
  exact repr_of_reads' rd h1 (fun _ => hsm) GD (by omega) (fun _ _ z => z) (fun h' u tk hk => ⟨.str _, H, I.kept hk, ⟨_, rfl⟩, q⟩) h3
theorem reprA_rd {vs : List V} {xs : List D} {r : Bool × D} {H : Hp} {Q : VK} {W : Dr} (S : Stp c W F H F H) (rr : RepL c F vs xs) (hf : reprAnyD xs = some r) (hQ : ∀ u F' H', Stp c W F H F' H' → ResOk c H F' H' u r → Q u H') : rReprA c.K vs H Q := by
  match xs, rr, hf with
  | [d], .cons (v := v) r1 .nil, hf =>
    simp only [reprAnyD] at hf
    rw [Option.bind_eq_some_iff] at hf
    obtain ⟨p, hp, hf⟩ := hf
    split at hf <;> cases hf
    rename_i hz
    refine ⟨v, p, rfl, ?_, hz.1, hz.2.2, by rw [← cap_eq]; exact hz.2.1, hQ _ F _ S (.str _)⟩
    by_cases hd : ∃ kvs, d = .dic false kvs
    · obtain ⟨kvs, rfl⟩ := hd
      have hp : (pdK kvs).map .dict = some p := hp
      rw [Option.map_eq_some_iff] at hp
      obtain ⟨q, hq, rfl⟩ := hp
      cases r1 with
      | dicK h1 h2 h3 => exact .inr ⟨_, _, q, rfl, Rd.mono S.sub h1, pdK_rep h2 h3 hq, rfl⟩
    · have hp : d.pd = some p := by
        cases d <;> try exact hp
        rename_i t kvs
        cases t
        · exact absurd ⟨_, rfl⟩ hd
        · exact hp
      exact .inl ⟨dp_mono S.sub (rep_dp _ _ _ _ hp r1), pyN_nod _ _ _ hp⟩
theorem x_reprB {a : Expr} {ea : E} {p : Pos} (n : Cn c Wx k X) (GD : X.A.guards = some []) (sy : SysD c.K) (hm : X.mg "repr" = none) (ha : PA X [a] (rdL c Wx ea)) (hg : Gl X "repr" := by rfl) (he : starEach [a] X.env = (false, eval a X.env) :: starEach [] X.env := by rfl) (hpl : (backTo pos (starEach [] X.env)).any (·.1) = false := by rfl) :
    PE X (.Call (.Name "repr" p) [a] [] pos) (rdE c Wx (.call (pureG reprBD) ea)) := by
  rw [← n.hk] at sy
  refine x_bltB n (fun vs H Q E h => ?_) (cr_reprB n.hu GD sy) boot_repr' hm ha hg (by decide) (by decide) he hpl
  obtain ⟨F, xs, W, r, rr, S, hf, hQ⟩ := spG_pure h
  by_cases e : reprAnyD xs = some r
  · exact .inl (n.hk ▸ reprA_rd S rr e hQ)
  · match xs, rr, hf with
    | [.lst ys], .cons r1 .nil, hf =>
      simp only [reprBD] at hf
      split at hf
      · rename_i q
        cases hf
        exact absurd q e
      · rw [Option.bind_eq_some_iff] at hf
        obtain ⟨ps, hp, hf⟩ := hf
        split at hf <;> cases hf
        rename_i hz
        obtain ⟨b, ws, rfl, e1, e2⟩ := r1.lstI
        exact .inr ⟨b, ws, ps, rfl, n.hk ▸ .inl (.inl (S.sub _ _ e1)), pdVs_mono S.sub (vs_rep e2 hp), hz.1, hz.2.2, by rw [← cap_eq]; exact hz.2.1, hQ _ F _ S (.str _)⟩
    | [], _, hf => exact absurd hf e
    | _ :: _ :: _, _, hf =>
      simp only [reprBD] at hf
      exact absurd hf e
    | [.non], _, hf => exact absurd hf e
    | [.bl _], _, hf => exact absurd hf e
    | [.int _], _, hf => exact absurd hf e
    | [.str _], _, hf => exact absurd hf e
    | [.tup _], _, hf => exact absurd hf e
    | [.dic _ _], _, hf => exact absurd hf e
    | [.ins _ _], _, hf => exact absurd hf e
    | [.exc _ _], _, hf => exact absurd hf e
    | [.drw], _, hf => exact absurd hf e
    | [.fn _], _, hf => exact absurd hf e
    | [.scr _], _, hf => exact absurd hf e
end
end Z

namespace Z
open PySem
noncomputable section
def B__law_mixed_1 : S := (.seq (.asg 4 (.bin .Mod (.bi .int (.cons (.bin .Add (.bin .Add (.bin .Mult (.var 4) (.cst (.int 48271))) (.var 5)) (.var 1)) .nil)) (.var 3)))
  .skip)
def B__law_mixed_2 : S := (.seq (.asg 4 (.bin .Add (.bin .Mult (.cst (.int 57731)) (.var 1)) (.bin .FloorDiv (.var 3) (.cst (.int 29)))))
  (.seq (.for (.nm 5) (.wk (.drc (.var 0))) B__law_mixed_1)
  (.seq (.asg 2 (.bin .Add (.bin .Mult (.var 2) (.cst (.int 2147483647))) (.bin .Mod (.bi .int (.cons (.bin .Pow (.var 4) (.cst (.int 5))) .nil)) (.var 3))))
  .skip)))
def B__law_mixed : S := (.seq (.par [1, 2] (.cons (.bin .Add (.drg true (.var 0)) (.cst (.int 1))) (.cons (.cst (.int 0)) .nil)))
  (.seq (.drs true 0 (.var 1))
  (.seq (.for (.nm 3) (.wk (.lst (.cons (.cst (.int 2147483629)) (.cons (.cst (.int 2147483587)) (.cons (.cst (.int 2147483579)) (.cons (.cst (.int 2147483563)) .nil)))))) B__law_mixed_2)
  (.seq (.ret (.var 2))
  .skip))))
def G__law_mixed : G := run 1000000 6 1 B__law_mixed
def B__law_take : S := (.seq (.iff (.tv (.cmp .Eq (.drg false (.var 0)) (.cst (.int 0)))) (.seq (.drs false 0 (.ite (.tv (.drn (.var 0))) (.drp (.var 0)) (.call G__law_mixed (.cons (.var 0) .nil))))
  .skip) .skip)
  (.seq (.asg 2 (.bin .Mod (.bi .int (.cons (.drg false (.var 0)) .nil)) (.var 1)))
  (.seq (.drs false 0 (.bin .FloorDiv (.drg false (.var 0)) (.var 1)))
  (.seq (.ret (.var 2))
  .skip))))
def G__law_take : G := run 1000000 3 2 B__law_take
def B__law_pick : S := (.seq (.ret (.ix (.var 1) (.call G__law_take (.cons (.var 0) (.cons (.bi .len (.cons (.var 1) .nil)) .nil)))))
  .skip)
def G__law_pick : G := run 1000000 2 2 B__law_pick
def T__law_shuffled_1 : E := (.tv (.cmp .NotEq (.var 2) (.lst .nil)))
def B__law_shuffled_2 : S := (.seq (.popp 3 2 (.cons (.call G__law_take (.cons (.var 0) (.cons (.bi .len (.cons (.var 2) .nil)) .nil))) .nil))
  .skip)
def B__law_shuffled : S := (.seq (.par [2, 3] (.cons (.bi .list (.cons (.var 1) .nil)) (.cons (.lst .nil) .nil)))
  (.seq (.whl T__law_shuffled_1 B__law_shuffled_2)
  (.seq (.ret (.var 3))
  .skip)))
def G__law_shuffled : G := run 1000000 4 2 B__law_shuffled
def B__law_hues : S := (.seq (.ret (.sl (.call G__law_shuffled (.cons (.var 0) (.cons (.lst (.cons (.cst (.str "a")) (.cons (.cst (.str "b")) (.cons (.cst (.str "c")) (.cons (.cst (.str "x")) (.cons (.cst (.str "ab")) (.cons (.cst (.str "ba")) (.cons (.cst (.str "zz")) (.cons (.cst (.str "zzzz")) (.cons (.cst (.str "zzzy")) (.cons (.cst (.str "aaab")) (.cons (.cst (.str "aaaa")) (.cons (.cst (.str "q")) .nil))))))))))))) .nil))) .no (.pt (.var 1))))
  .skip)
def G__law_hues : G := run 1000000 2 2 B__law_hues
def E__law_lines_1 : E := (.tup (.cons (.call G__law_pick (.cons (.var 0) (.cons (.var 1) .nil))) .nil))
def B__law_lines_2 : S := (.seq (.asg 7 (.call G__law_take (.cons (.var 0) (.cons (.var 4) .nil))))
  (.seq (.setix 5 (.var 7) (.bin .Add (.ix (.var 5) (.var 7)) (.tup (.cons (.call G__law_pick (.cons (.var 0) (.cons (.var 1) .nil))) .nil))))
  .skip))
def B__law_lines : S := (.seq (.asg 4 (.bin .Add (.cst (.int 1)) (.call G__law_take (.cons (.var 0) (.cons (.var 2) .nil)))))
  (.seq (.asg 5 (.lc E__law_lines_1 (.nm 6) (.rng (.cons (.var 4) .nil)) .nil [6]))
  (.seq (.for (.nm 6) (.rng (.cons (.call G__law_take (.cons (.var 0) (.cons (.bin .Add (.bin .Sub (.var 3) (.var 4)) (.cst (.int 1))) .nil))) .nil)) B__law_lines_2)
  (.seq (.ret (.var 5))
  .skip))))
def G__law_lines : G := run 1000000 8 4 B__law_lines
def E__law_sealed_lines_1 : E := (.bi .len (.cons (.var 9) .nil))
def E__law_sealed_lines_2 : E := (.call G__law_pick (.cons (.var 0) (.cons (.var 3) .nil)))
def B__law_sealed_lines_3 : S := (.seq (.par [4, 5] (.cons (.call G__law_take (.cons (.var 0) (.cons (.bi .len (.cons (.var 2) .nil)) .nil))) (.cons (.bin .Sub (.var 1) (.bi .sum (.cons (.lc E__law_sealed_lines_1 (.nm 9) (.wk (.var 2)) .nil [9]) .nil))) .nil)))
  (.seq (.asg 6 (.bi .tuple (.cons (.lc E__law_sealed_lines_2 (.nm 8) (.rng (.cons (.call G__law_take (.cons (.var 0) (.cons (.bi .max (.cons (.bin .FloorDiv (.var 5) (.cst (.int 2))) (.cons (.cst (.int 1)) .nil))) .nil))) .nil)) .nil [8]) .nil)))
  (.seq (.asg 7 (.bin .Add (.cst (.int 1)) (.call G__law_take (.cons (.var 0) (.cons (.bi .len (.cons (.ix (.var 2) (.var 4)) .nil)) .nil)))))
  (.seq (.setix 2 (.var 4) (.bin .Add (.bin .Add (.sl (.ix (.var 2) (.var 4)) .no (.pt (.var 7))) (.var 6)) (.sl (.ix (.var 2) (.var 4)) (.pt (.var 7)) .no)))
  .skip))))
def B__law_sealed_lines : S := (.seq (.asg 2 (.call G__law_lines (.cons (.var 0) (.cons (.lst (.cons (.cst (.str "a")) (.cons (.cst (.str "b")) (.cons (.cst (.str "x")) .nil)))) (.cons (.cst (.int 3)) (.cons (.bin .FloorDiv (.var 1) (.cst (.int 2))) .nil))))))
  (.seq (.for (.nm 3) (.wk (.lst (.cons (.lst (.cons (.cst (.str "c")) (.cons (.cst (.str "d")) .nil))) (.cons (.lst (.cons (.cst (.str "e")) (.cons (.cst (.str "f")) (.cons (.cst (.str "g")) .nil)))) .nil)))) B__law_sealed_lines_3)
  (.seq (.ret (.var 2))
  .skip)))
def G__law_sealed_lines : G := run 1000000 10 2 B__law_sealed_lines
def B__law_some_lines : S := (.seq (.iff (.tv (.cmp .Eq (.call G__law_take (.cons (.var 0) (.cons (.cst (.int 3)) .nil))) (.cst (.int 0)))) (.seq (.ret (.call G__law_sealed_lines (.cons (.var 0) (.cons (.var 1) .nil))))
  .skip) .skip)
  (.seq (.ret (.call G__law_lines (.cons (.var 0) (.cons (.call G__law_hues (.cons (.var 0) (.cons (.bin .Add (.cst (.int 1)) (.call G__law_take (.cons (.var 0) (.cons (.cst (.int 4)) .nil)))) .nil))) (.cons (.cst (.int 3)) (.cons (.var 1) .nil))))))
  .skip))
def G__law_some_lines : G := run 1000000 2 2 B__law_some_lines
def B__law_wide_lines : S := (.seq (.iff (.tv (.cmp .Gt (.call G__law_take (.cons (.var 0) (.cons (.cst (.int 3)) .nil))) (.cst (.int 0)))) (.seq (.ret (.call G__law_some_lines (.cons (.var 0) (.cons (.bi .min (.cons (.var 1) (.cons (.cst (.int 14)) .nil))) .nil))))
  .skip) .skip)
  (.seq (.ret (.call G__law_lines (.cons (.var 0) (.cons (.call G__law_hues (.cons (.var 0) (.cons (.bin .Add (.cst (.int 1)) (.call G__law_take (.cons (.var 0) (.cons (.cst (.int 5)) .nil)))) .nil))) (.cons (.cst (.int 8)) (.cons (.var 1) .nil))))))
  .skip))
def G__law_wide_lines : G := run 1000000 2 2 B__law_wide_lines
def E_is_color_1 : E := (.cmp .In (.var 1) (.gl (.str "abcdefghijklmnopqrstuvwxyz")))
def B_is_color : S := (.seq (.iff (.or (.not (.tv (.isi (.var 0) [.str]))) (.not (.tv (.chn .LtE .LtE (.cst (.int 1)) (.bi .len (.cons (.var 0) .nil)) (.gl (.int 4)))))) (.seq (.ret (.cst (.bl false)))
  .skip) .skip)
  (.seq (.ret (.bi .all (.cons (.lc E_is_color_1 (.nm 1) (.wk (.var 0)) .nil [1]) .nil)))
  .skip))
def G_is_color : G := run 1000000 2 1 B_is_color
def E_is_thread_1 : E := (.call G_is_color (.cons (.var 1) .nil))
def B_is_thread : S := (.seq (.ret (.and (.isi (.var 0) [.tuple]) (.and (.cmp .Gt (.bi .len (.cons (.var 0) .nil)) (.cst (.int 0))) (.bi .all (.cons (.lc E_is_thread_1 (.nm 1) (.wk (.var 0)) .nil [1]) .nil)))))
  .skip)
def G_is_thread : G := run 1000000 2 1 B_is_thread
def E_beads_in_1 : E := (.bi .len (.cons (.var 1) .nil))
def B_beads_in : S := (.seq (.ret (.bi .sum (.cons (.lc E_beads_in_1 (.nm 1) (.wk (.var 0)) .nil [1]) .nil)))
  .skip)
def G_beads_in : G := run 1000000 2 1 B_beads_in
def E_are_threads_1 : E := (.call G_is_thread (.cons (.var 1) .nil))
def B_are_threads : S := (.seq (.iff (.or (.not (.tv (.isi (.var 0) [.list, .tuple]))) (.not (.tv (.chn .LtE .LtE (.cst (.int 1)) (.bi .len (.cons (.var 0) .nil)) (.gl (.int 8)))))) (.seq (.ret (.cst (.bl false)))
  .skip) .skip)
  (.seq (.ret (.and (.bi .all (.cons (.lc E_are_threads_1 (.nm 1) (.wk (.var 0)) .nil [1]) .nil)) (.cmp .LtE (.call G_beads_in (.cons (.var 0) .nil)) (.gl (.int 60)))))
  .skip))
def G_are_threads : G := run 1000000 2 1 B_are_threads
def B_State___init__ : S := (.seq (.iff (.not (.tv (.call G_are_threads (.cons (.var 1) .nil)))) (.seq (.raise "NoState" [] .nil)
  .skip) .skip)
  (.seq (.fld 0 "s_lines" (.bi .tuple (.cons (.var 1) .nil)))
  .skip))
def GI_State (p : Nat) : G := runC 1000000 2 2 p "State" B_State___init__
def G_State : G := fun xs W => GI_State 0 xs W
def B_State_threads : S := (.seq (.ret (.bi .list (.cons (.attr (.var 0) "s_lines") .nil)))
  .skip)
def G_State_threads : G := run 1000000 1 1 B_State_threads
def Ty_State : Ty := .cls "State" []
def B_need_state : S := (.seq (.iff (.not (.tv (.isi (.var 0) [Ty_State]))) (.seq (.raise "NoState" [] .nil)
  .skip) .skip)
  .skip)
def G_need_state : G := run 1000000 1 1 B_need_state
def B_lines_of : S := (.seq (.ret (.bi .list (.cons (.attr (.var 0) "s_lines") .nil)))
  .skip)
def G_lines_of : G := run 1000000 1 1 B_lines_of
def B_is_integer : S := (.seq (.ret (.and (.isi (.var 0) [.int]) (.not (.isi (.var 0) [.bool]))))
  .skip)
def G_is_integer : G := run 1000000 1 1 B_is_integer
def B_is_index : S := (.seq (.ret (.and (.call G_is_integer (.cons (.var 0) .nil)) (.chn .LtE .Lt (.cst (.int 0)) (.var 0) (.var 1))))
  .skip)
def G_is_index : G := run 1000000 2 2 B_is_index
def B_need_thread : S := (.seq (.iff (.not (.tv (.call G_is_index (.cons (.var 1) (.cons (.bi .len (.cons (.var 0) .nil)) .nil))))) (.seq (.raise "NoThread" [] .nil)
  .skip) .skip)
  .skip)
def G_need_thread : G := run 1000000 2 2 B_need_thread
def B_need_bead : S := (.seq (.iff (.not (.tv (.call G_is_index (.cons (.var 1) (.cons (.bi .len (.cons (.var 0) .nil)) .nil))))) (.seq (.raise "NoBead" [] .nil)
  .skip) .skip)
  .skip)
def G_need_bead : G := run 1000000 2 2 B_need_bead
def B_need_places : S := (.seq (.expr (.call G_need_thread (.cons (.var 0) (.cons (.var 1) .nil))))
  (.seq (.expr (.call G_need_thread (.cons (.var 0) (.cons (.var 3) .nil))))
  (.seq (.iff (.tv (.cmp .Eq (.var 1) (.var 3))) (.seq (.raise "NoSwap" [] .nil)
  .skip) .skip)
  (.seq (.expr (.call G_need_bead (.cons (.ix (.var 0) (.var 1)) (.cons (.var 2) .nil))))
  (.seq (.expr (.call G_need_bead (.cons (.ix (.var 0) (.var 3)) (.cons (.var 4) .nil))))
  .skip)))))
def G_need_places : G := run 1000000 5 5 B_need_places
def B_traded : S := (.seq (.asg 5 (.bi .list (.cons (.var 0) .nil)))
  (.seq (.setix 5 (.var 1) (.bin .Add (.sl (.ix (.var 0) (.var 1)) .no (.pt (.bin .Add (.var 2) (.cst (.int 1))))) (.sl (.ix (.var 0) (.var 3)) (.pt (.bin .Add (.var 4) (.cst (.int 1)))) .no)))
  (.seq (.setix 5 (.var 3) (.bin .Add (.sl (.ix (.var 0) (.var 3)) .no (.pt (.bin .Add (.var 4) (.cst (.int 1))))) (.sl (.ix (.var 0) (.var 1)) (.pt (.bin .Add (.var 2) (.cst (.int 1)))) .no)))
  (.seq (.ret (.var 5))
  .skip))))
def G_traded : G := run 1000000 6 5 B_traded
def B_swapped : S := (.seq (.expr (.call G_need_state (.cons (.var 0) .nil)))
  (.seq (.asg 5 (.call G_lines_of (.cons (.var 0) .nil)))
  (.seq (.expr (.call G_need_places (.cons (.var 5) (.cons (.var 1) (.cons (.var 2) (.cons (.var 3) (.cons (.var 4) .nil)))))))
  (.seq (.iff (.tv (.cmp .NotEq (.ix (.ix (.var 5) (.var 1)) (.var 2)) (.ix (.ix (.var 5) (.var 3)) (.var 4)))) (.seq (.raise "NoSwap" [] .nil)
  .skip) .skip)
  (.seq (.ret (.call G_State (.cons (.call G_traded (.cons (.var 5) (.cons (.var 1) (.cons (.var 2) (.cons (.var 3) (.cons (.var 4) .nil)))))) .nil)))
  .skip)))))
def G_swapped : G := run 1000000 6 5 B_swapped
def B__law_traded : S := (.seq (.unp [2, 3, 4, 5] (.var 1))
  (.seq (.asg 6 (.bi .list (.cons (.var 0) .nil)))
  (.seq (.setix 6 (.var 2) (.bin .Add (.sl (.ix (.var 0) (.var 2)) .no (.pt (.bin .Add (.var 3) (.cst (.int 1))))) (.sl (.ix (.var 0) (.var 4)) (.pt (.bin .Add (.var 5) (.cst (.int 1)))) .no)))
  (.seq (.setix 6 (.var 4) (.bin .Add (.sl (.ix (.var 0) (.var 4)) .no (.pt (.bin .Add (.var 5) (.cst (.int 1))))) (.sl (.ix (.var 0) (.var 2)) (.pt (.bin .Add (.var 3) (.cst (.int 1)))) .no)))
  (.seq (.ret (.var 6))
  .skip)))))
def G__law_traded : G := run 1000000 7 2 B__law_traded
def T__law_deeds_1 : E := (.cons (.tv (.cmp .Eq (.ix (.ix (.var 0) (.var 4)) (.var 6)) (.ix (.ix (.var 0) (.var 2)) (.var 3)))) .nil)
def E__law_deeds_2 : E := (.tup (.cons (.var 2) (.cons (.var 3) (.cons (.var 4) (.cons (.var 6) .nil)))))
def B__law_deeds_3 : S := (.seq (.asg 5 (.lc (.var 6) (.nm 6) (.rng (.cons (.bi .len (.cons (.ix (.var 0) (.var 4)) .nil)) .nil)) T__law_deeds_1 [6]))
  (.seq (.asg 1 (.bin .Add (.var 1) (.lc E__law_deeds_2 (.nm 6) (.wk (.var 5)) .nil [6])))
  .skip))
def B__law_deeds_4 : S := (.seq (.for (.nm 4) (.rng (.cons (.bin .Add (.var 2) (.cst (.int 1))) (.cons (.bi .len (.cons (.var 0) .nil)) .nil))) B__law_deeds_3)
  .skip)
def B__law_deeds_5 : S := (.seq (.for (.nm 3) (.rng (.cons (.bi .len (.cons (.ix (.var 0) (.var 2)) .nil)) .nil)) B__law_deeds_4)
  .skip)
def B__law_deeds : S := (.seq (.asg 1 (.lst .nil))
  (.seq (.for (.nm 2) (.rng (.cons (.bi .len (.cons (.var 0) .nil)) .nil)) B__law_deeds_5)
  (.seq (.ret (.var 1))
  .skip)))
def G__law_deeds : G := run 1000000 7 1 B__law_deeds
def B__law_is_spot : S := (.seq (.ret (.and (.isi (.var 0) [.int]) (.and (.not (.isi (.var 0) [.bool])) (.chn .LtE .Lt (.cst (.int 0)) (.var 0) (.var 1)))))
  .skip)
def G__law_is_spot : G := run 1000000 2 2 B__law_is_spot
def B__law_due : S := (.seq (.unp [2, 3, 4, 5] (.var 1))
  (.seq (.iff (.or (.not (.tv (.call G__law_is_spot (.cons (.var 2) (.cons (.bi .len (.cons (.var 0) .nil)) .nil))))) (.not (.tv (.call G__law_is_spot (.cons (.var 4) (.cons (.bi .len (.cons (.var 0) .nil)) .nil)))))) (.seq (.ret (.cst (.str "thread")))
  .skip) .skip)
  (.seq (.iff (.tv (.cmp .Eq (.var 2) (.var 4))) (.seq (.ret (.cst (.str "swap")))
  .skip) .skip)
  (.seq (.iff (.or (.not (.tv (.call G__law_is_spot (.cons (.var 3) (.cons (.bi .len (.cons (.ix (.var 0) (.var 2)) .nil)) .nil))))) (.not (.tv (.call G__law_is_spot (.cons (.var 5) (.cons (.bi .len (.cons (.ix (.var 0) (.var 4)) .nil)) .nil)))))) (.seq (.ret (.cst (.str "bead")))
  .skip) .skip)
  (.seq (.ret (.ite (.tv (.cmp .NotEq (.ix (.ix (.var 0) (.var 2)) (.var 3)) (.ix (.ix (.var 0) (.var 4)) (.var 5)))) (.cst (.str "swap")) (.cst (.str ""))))
  .skip)))))
def G__law_due : G := run 1000000 6 2 B__law_due
def Ty_NoState : Ty := .cls "NoState" []
def Ty_NoThread : Ty := .cls "NoThread" []
def Ty_NoBead : Ty := .cls "NoBead" []
def Ty_NoSwap : Ty := .cls "NoSwap" []
def B__law_told : S := (.seq (.iff (.tv (.cmp .Is (.var 0) (.cst .non))) (.seq (.ret (.cst (.str "")))
  .skip) .skip)
  (.seq (.asg 1 (.lst (.cons (.isi (.var 0) [Ty_NoState]) (.cons (.isi (.var 0) [Ty_NoThread]) (.cons (.isi (.var 0) [Ty_NoBead]) .nil)))))
  (.seq (.app 1 (.isi (.var 0) [Ty_NoSwap]))
  (.seq (.ret (.ite (.tv (.cmp .Eq (.bm .count (.var 1) (.cons (.cst (.bl true)) .nil)) (.cst (.int 1)))) (.ix (.lst (.cons (.cst (.str "state")) (.cons (.cst (.str "thread")) (.cons (.cst (.str "bead")) (.cons (.cst (.str "swap")) .nil))))) (.bm .index (.var 1) (.cons (.cst (.bl true)) .nil))) (.cst (.str "other"))))
  .skip))))
def G__law_told : G := run 1000000 2 1 B__law_told
def T__law_entered_1 : E := (.cons (.tv (.cmp .In (.ix (.var 3) (.var 5)) (.var 1))) .nil)
def T__law_entered_2 : E := (.cons (.or (.tv (.cmp .Eq (.var 5) (.cst (.int 0)))) (.tv (.cmp .NotIn (.ix (.var 3) (.bin .Sub (.var 5) (.cst (.int 1)))) (.var 1)))) .nil)
def B__law_entered_3 : S := (.kl [] (.seq (.asg 4 (.lc (.var 5) (.nm 5) (.rng (.cons (.bi .len (.cons (.var 3) .nil)) .nil)) T__law_entered_1 [5]))
  (.seq (.asg 2 (.bin .Add (.var 2) (.bi .len (.cons (.lc (.var 5) (.nm 5) (.wk (.var 4)) T__law_entered_2 [5]) .nil))))
  .skip)) [4, 3])
def B__law_entered : S := (.seq (.asg 2 (.cst (.int 0)))
  (.seq (.kl [] (.for (.nm 3) (.wk (.var 0)) B__law_entered_3) [1, 4, 3, 0])
  (.seq (.ret (.var 2))
  .skip)))
def G__law_entered : G := run 1000000 6 2 B__law_entered
def E__law_lots_1 : E := (.bin .Add (.var 3) (.tup (.cons (.var 2) .nil)))
def B__law_lots_2 : S := (.kl [] (.seq (.asg 1 (.bin .Add (.var 1) (.lc E__law_lots_1 (.nm 3) (.wk (.var 1)) .nil [3])))
  .skip) [2])
def T__law_lots_3 : E := (.cons (.tv (.cmp .NotEq (.var 3) (.tup .nil))) .nil)
def B__law_lots : S := (.seq (.asg 1 (.lst (.cons (.tup .nil) .nil)))
  (.seq (.kl [] (.for (.nm 2) (.wk (.call (pureG sortAnyD) (.cons (.var 0) .nil))) B__law_lots_2) [2, 0])
  (.seq (.ret (.call (pureG sortAnyD) (.cons (.lc (.var 3) (.nm 3) (.wk (.var 1)) T__law_lots_3 [3]) .nil)))
  .skip)))
def G__law_lots : G := run 1000000 4 1 B__law_lots
def B__law_all_hues_1 : S := (.kl [] (.seq (.setk 1 (.var 3) (.cst (.bl true)))
  .skip) [3])
def B__law_all_hues_2 : S := (.kl [] (.seq (.kl [3] (.for (.nm 3) (.wk (.var 2)) B__law_all_hues_1) [3, 2])
  .skip) [3, 2])
def B__law_all_hues : S := (.seq (.asg 1 (.call (pureG newDicD) .nil))
  (.seq (.kl [] (.for (.nm 2) (.wk (.var 0)) B__law_all_hues_2) [3, 2, 0])
  (.seq (.ret (.call (pureG sortAnyD) (.cons (.var 1) .nil)))
  .skip)))
def G__law_all_hues : G := run 1000000 4 1 B__law_all_hues
def T__law_closed_lots_1 : E := (.cons (.tv (.cmp .Eq (.call G__law_entered (.cons (.var 0) (.cons (.var 1) .nil))) (.cst (.int 1)))) .nil)
def B__law_closed_lots : S := (.seq (.ret (.lc (.var 1) (.nm 1) (.wk (.call G__law_lots (.cons (.call G__law_all_hues (.cons (.var 0) .nil)) .nil))) T__law_closed_lots_1 [1]))
  .skip)
def G__law_closed_lots : G := run 1000000 2 1 B__law_closed_lots
def B_count_beads_1 : S := (.kl [] (.seq (.setk 1 (.var 3) (.bin .Add (.op isDicD (pureG dget2D) (.var 1) (.cons (.var 3) (.cons (.cst (.int 0)) .nil))) (.cst (.int 1))))
  .skip) [3])
def B_count_beads_2 : S := (.kl [] (.seq (.kl [3] (.for (.nm 3) (.wk (.var 2)) B_count_beads_1) [3, 2])
  .skip) [3, 2])
def B_count_beads : S := (.seq (.asg 1 (.call (pureG newDicD) .nil))
  (.seq (.kl [] (.for (.nm 2) (.wk (.var 0)) B_count_beads_2) [3, 2, 0])
  (.seq (.ret (.var 1))
  .skip)))
def G_count_beads : G := run 1000000 4 1 B_count_beads
def B_sealed_runs_1 : S := (.kl [] (.seq (.asg 9 (.ix (.var 4) (.bin .Sub (.var 8) (.cst (.int 1)))))
  (.seq (.iff (.tv (.call (pureG (dinD true)) (.cons (.var 9) (.cons (.var 6) .nil)))) (.seq (.setk 6 (.var 9) (.cst (.bl true)))
  (.seq (.asg 7 (.bin .Add (.var 7) (.call (pureG dixD) (.cons (.var 1) (.cons (.var 9) .nil)))))
  .skip)) .skip)
  (.seq (.iff (.tv (.cmp .Eq (.var 7) (.bin .Sub (.var 8) (.var 5)))) (.seq (.app 2 (.tup (.cons (.bi .tuple (.cons (.call (pureG sortAnyD) (.cons (.var 6) .nil)) .nil)) (.cons (.var 3) (.cons (.var 5) (.cons (.var 8) .nil))))))
  .skip) .skip)
  .skip))) [9, 8])
def B_sealed_runs_2 : S := (.kl [] (.seq (.par [6, 7] (.cons (.call (pureG newDicD) .nil) (.cons (.cst (.int 0)) .nil)))
  (.seq (.kl [9, 8] (.for (.nm 8) (.rng (.cons (.bin .Add (.var 5) (.cst (.int 1))) (.cons (.bin .Add (.bi .len (.cons (.var 4) .nil)) (.cst (.int 1))) .nil))) B_sealed_runs_1) [9, 6, 5, 8, 7])
  .skip)) [9, 6, 5, 8, 7])
def B_sealed_runs_3 : S := (.kl [] (.seq (.kl [9, 6, 5, 8, 7] (.for (.nm 5) (.rng (.cons (.bi .len (.cons (.var 4) .nil)) .nil)) B_sealed_runs_2) [9, 3, 4, 6, 5, 8, 7])
  .skip) [9, 3, 4, 6, 5, 8, 7])
def B_sealed_runs : S := (.seq (.par [1, 2] (.cons (.call G_count_beads (.cons (.var 0) .nil)) (.cons (.lst .nil) .nil)))
  (.seq (.kl [] (.for (.tp [3, 4]) (.enu (.var 0)) B_sealed_runs_3) [9, 1, 3, 4, 0, 6, 5, 8, 7])
  (.seq (.ret (.var 2))
  .skip)))
def G_sealed_runs : G := run 1000000 10 1 B_sealed_runs
def B__law_is_index : S := (.seq (.ret (.and (.isi (.var 0) [.int]) (.and (.not (.isi (.var 0) [.bool])) (.chn .LtE .Lt (.cst (.int 0)) (.var 0) (.var 1)))))
  .skip)
def G__law_is_index : G := run 1000000 2 2 B__law_is_index
def B__law_odd : S := (.seq (.asg 1 (.lst (.cons (.cst .non) (.cons (.cst (.bl true)) (.cons (.cst (.bl false)) (.cons (.neg (.cst (.int 1))) (.cons (.bin .Pow (.cst (.int 10)) (.cst (.int 40))) (.cons (.cst (.str "")) (.cons (.cst (.str "A")) (.cons (.cst (.str "abcde")) (.cons (.cst (.str "a b")) (.cons (.tup .nil) (.cons (.lst .nil) (.cons (.cst (.dic false [])) (.cons (.tup (.cons (.cst (.str "A")) .nil)) (.cons (.tup (.cons (.cst (.str "abcde")) .nil)) (.cons (.tup (.cons (.cst (.str "a")) (.cons (.cst (.int 1)) .nil))) .nil)))))))))))))))))
  (.seq (.ret (.call G__law_pick (.cons (.var 0) (.cons (.bin .Add (.var 1) (.lst (.cons (.tup (.cons (.cst .non) .nil)) (.cons (.lst (.cons (.cst (.str "a")) .nil)) (.cons (.cst (.dic false [(.str "a", .int 1)])) (.cons (.tup (.cons (.tup .nil) .nil)) (.cons (.lst (.cons (.tup .nil) .nil)) (.cons (.lst (.cons (.tup (.cons (.cst (.str "a")) (.cons (.cst (.str "")) .nil))) .nil)) (.cons (.cst (.str "1")) (.cons (.tup (.cons (.cst (.str "a")) (.cons (.tup (.cons (.cst (.str "a")) .nil)) .nil))) (.cons (.lst (.cons (.cst (.str "A")) .nil)) .nil))))))))))) .nil))))
  .skip))
def G__law_odd : G := run 1000000 2 1 B__law_odd
def B_mate_of : S := (.seq (.ret (.bin .Add (.bin .Sub (.bi .len (.cons (.ix (.var 0) (.var 3)) .nil)) (.bi .len (.cons (.ix (.var 0) (.var 1)) .nil))) (.var 2)))
  .skip)
def G_mate_of : G := run 1000000 4 4 B_mate_of
def B_swapped_level : S := (.seq (.expr (.call G_need_state (.cons (.var 0) .nil)))
  (.seq (.asg 4 (.call G_lines_of (.cons (.var 0) .nil)))
  (.seq (.expr (.call G_need_thread (.cons (.var 4) (.cons (.var 1) .nil))))
  (.seq (.expr (.call G_need_thread (.cons (.var 4) (.cons (.var 3) .nil))))
  (.seq (.iff (.tv (.cmp .Eq (.var 1) (.var 3))) (.seq (.raise "NoSwap" [] .nil)
  .skip) .skip)
  (.seq (.expr (.call G_need_bead (.cons (.ix (.var 4) (.var 1)) (.cons (.var 2) .nil))))
  (.seq (.asg 5 (.call G_mate_of (.cons (.var 4) (.cons (.var 1) (.cons (.var 2) (.cons (.var 3) .nil))))))
  (.seq (.iff (.or (.tv (.cmp .Lt (.var 5) (.cst (.int 0)))) (.tv (.cmp .NotEq (.ix (.ix (.var 4) (.var 1)) (.var 2)) (.ix (.ix (.var 4) (.var 3)) (.var 5))))) (.seq (.raise "NoSwap" [] .nil)
  .skip) .skip)
  (.seq (.ret (.call G_State (.cons (.call G_traded (.cons (.var 4) (.cons (.var 1) (.cons (.var 2) (.cons (.var 3) (.cons (.var 5) .nil)))))) .nil)))
  .skip)))))))))
def G_swapped_level : G := run 1000000 6 4 B_swapped_level
def T_maximal_runs_1 : E := (.cons (.and (.tv (.cmp .Eq (.ix (.var 4) (.cst (.int 1))) (.ix (.var 2) (.cst (.int 1))))) (.and (.tv (.cmp .LtE (.ix (.var 4) (.cst (.int 2))) (.ix (.var 2) (.cst (.int 2))))) (.tv (.cmp .LtE (.ix (.var 2) (.cst (.int 3))) (.ix (.var 4) (.cst (.int 3))))))) .nil)
def T_maximal_runs_2 : E := (.cons (.or (.tv (.cmp .NotEq (.ix (.var 4) (.cst (.int 1))) (.ix (.var 2) (.cst (.int 1))))) (.or (.tv (.cmp .Lt (.ix (.var 4) (.cst (.int 2))) (.ix (.var 2) (.cst (.int 2))))) (.tv (.cmp .Lt (.ix (.var 2) (.cst (.int 3))) (.ix (.var 4) (.cst (.int 3))))))) .nil)
def B_maximal_runs_3 : S := (.kl [] (.seq (.asg 3 (.lc (.var 4) (.nm 4) (.wk (.var 1)) T_maximal_runs_1 [4]))
  (.seq (.iff (.tv (.cmp .Eq (.var 3) (.lst .nil))) (.seq (.asg 1 (.lc (.var 4) (.nm 4) (.wk (.var 1)) T_maximal_runs_2 [4]))
  (.seq (.app 1 (.var 2))
  .skip)) .skip)
  .skip)) [3, 2])
def B_maximal_runs : S := (.seq (.asg 1 (.lst .nil))
  (.seq (.kl [] (.for (.nm 2) (.wk (.call G_sealed_runs (.cons (.var 0) .nil))) B_maximal_runs_3) [0, 3, 2])
  (.seq (.ret (.call (pureG sortAnyD) (.cons (.var 1) .nil)))
  .skip)))
def G_maximal_runs : G := run 1000000 5 1 B_maximal_runs
def E_maximal_in_1 : E := (.ix (.var 1) (.cst (.int 0)))
def B_maximal_in : S := (.seq (.ret (.lc E_maximal_in_1 (.nm 1) (.wk (.call G_maximal_runs (.cons (.var 0) .nil))) .nil [1]))
  .skip)
def G_maximal_in : G := run 1000000 2 1 B_maximal_in
def B_maximal_sealed : S := (.seq (.expr (.call G_need_state (.cons (.var 0) .nil)))
  (.seq (.ret (.call G_maximal_in (.cons (.call G_lines_of (.cons (.var 0) .nil)) .nil)))
  .skip))
def G_maximal_sealed : G := run 1000000 1 1 B_maximal_sealed
def T__law_greatest_lots_1 : E := (.cons (.tv (.cmp .NotIn (.var 4) (.var 3))) .nil)
def T__law_greatest_lots_2 : E := (.cons (.and (.tv (.cmp .NotEq (.var 3) (.var 2))) (.tv (.cmp .Eq (.lc (.var 4) (.nm 4) (.wk (.var 2)) T__law_greatest_lots_1 [4]) (.lst .nil)))) .nil)
def B__law_greatest_lots_3 : S := (.kl [] (.seq (.iff (.tv (.cmp .Eq (.lc (.var 3) (.nm 3) (.wk (.var 0)) T__law_greatest_lots_2 [3]) (.lst .nil))) (.seq (.app 1 (.var 2))
  .skip) .skip)
  .skip) [2])
def B__law_greatest_lots : S := (.seq (.asg 1 (.lst .nil))
  (.seq (.kl [] (.for (.nm 2) (.wk (.var 0)) B__law_greatest_lots_3) [2, 0])
  (.seq (.ret (.var 1))
  .skip)))
def G__law_greatest_lots : G := run 1000000 5 1 B__law_greatest_lots
end
end Z
namespace Qk01
open PySem Z
noncomputable section
def Ty_ThreadError : Ty := .cls "ThreadError" ["NoState", "NoThread", "NoBead", "NoSwap", "NoExchange", "NotSealed", "NoNumber", "BadDeed", "BadText", "TooMany"]
def Ty_NoExchange : Ty := .cls "NoExchange" []
def Ty_NotSealed : Ty := .cls "NotSealed" []
def Ty_NoNumber : Ty := .cls "NoNumber" []
def Ty_BadDeed : Ty := .cls "BadDeed" []
def Ty_BadText : Ty := .cls "BadText" []
def Ty_TooMany : Ty := .cls "TooMany" []
def Ty_ValueError : Ty := .cls "ValueError" ["ThreadError", "NoState", "NoThread", "NoBead", "NoSwap", "NoExchange", "NotSealed", "NoNumber", "BadDeed", "BadText", "TooMany"]
def B__law_marks : S := (.seq (.asg 1 (.lst (.cons (.isi (.var 0) [Ty_NoState]) (.cons (.isi (.var 0) [Ty_NoThread]) (.cons (.isi (.var 0) [Ty_NoBead]) .nil)))))
  (.seq (.asg 1 (.bin .Add (.var 1) (.lst (.cons (.isi (.var 0) [Ty_NoSwap]) (.cons (.isi (.var 0) [Ty_NoExchange]) (.cons (.isi (.var 0) [Ty_NotSealed]) .nil))))))
  (.seq (.asg 1 (.bin .Add (.var 1) (.lst (.cons (.isi (.var 0) [Ty_NoNumber]) (.cons (.isi (.var 0) [Ty_BadDeed]) (.cons (.isi (.var 0) [Ty_BadText]) .nil))))))
  (.seq (.ret (.bin .Add (.var 1) (.lst (.cons (.isi (.var 0) [Ty_TooMany]) .nil))))
  .skip))))
def G__law_marks : G := run 1000000 2 1 B__law_marks
def E__law_are_apart_1 : E := (.cmp .Eq (.var 3) (.var 1))
def B__law_are_apart_2 : S := (.kl [] (.seq (.iff (.tv (.cmp .NotEq (.call G__law_marks (.cons (.var 2) .nil)) (.lc E__law_are_apart_1 (.nm 3) (.rng (.cons (.cst (.int 10)) .nil)) .nil [3]))) (.seq (.ret (.cst (.bl false)))
  .skip) .skip)
  (.seq (.iff (.or (.not (.tv (.isi (.var 2) [Ty_ThreadError]))) (.not (.tv (.isi (.var 2) [Ty_ValueError])))) (.seq (.ret (.cst (.bl false)))
  .skip) .skip)
  .skip)) [2, 1])
def B__law_are_apart : S := (.seq (.kl [] (.for (.tp [1, 2]) (.enu (.var 0)) B__law_are_apart_2) [2, 0, 1])
  (.seq (.ret (.cst (.bl true)))
  .skip))
def G__law_are_apart : G := run 1000000 4 1 B__law_are_apart
def B_law_1 : S := (.kl [] (.seq (.iff (.or (.not (.tv (.call G__law_are_apart (.cons (.bin .Add (.var 4) (.var 6)) .nil)))) (.tv (.cmp .NotEq (.call (pureG reprBD) (.cons (.lst (.cons (.call (pureG (exAtD "at")) (.cons (.ix (.var 6) (.cst (.int 0))) .nil)) (.cons (.call (pureG (exAtD "row")) (.cons (.ix (.var 6) (.cst (.int 1))) .nil)) (.cons (.call (pureG (exAtD "limit")) (.cons (.ix (.var 6) (.cst (.int 2))) .nil)) .nil)))) .nil)) (.call (pureG reprBD) (.cons (.bin .Mult (.lst (.cons (.var 3) .nil)) (.cst (.int 3))) .nil))))) (.seq (.ret (.cst (.bl false)))
  .skip) .skip)
  .skip) [6])
def B_law_2 : S := (.kl [] (.seq (.asg 3 (.call G__law_odd (.cons (.var 1) .nil)))
  (.seq (.asg 4 (.lst (.cons (.call (pureG (mkE0D "NoState")) .nil) (.cons (.call (pureG (mkE0D "NoThread")) .nil) (.cons (.call (pureG (mkE0D "NoBead")) .nil) (.cons (.call (pureG (mkE0D "NoSwap")) .nil) (.cons (.call (pureG (mkE0D "NoExchange")) .nil) (.cons (.call (pureG (mkE0D "NotSealed")) .nil) (.cons (.call (pureG (mkE0D "NoNumber")) .nil) .nil)))))))))
  (.seq (.asg 5 (.lst (.cons (.call (pureG (mkE1D "BadDeed" "at")) (.cons (.var 3) .nil)) (.cons (.call (pureG (mkE1D "BadText" "row")) (.cons (.var 3) .nil)) (.cons (.call (pureG (mkE1D "TooMany" "limit")) (.cons (.var 3) .nil)) .nil)))))
  (.seq (.kl [6] (.for (.nm 6) (.wk (.lst (.cons (.lst (.cons (.call (pureG (mkE1D "BadDeed" "at")) (.cons (.var 3) .nil)) (.cons (.call (pureG (mkE1D "BadText" "row")) (.cons (.var 3) .nil)) (.cons (.call (pureG (mkE1D "TooMany" "limit")) (.cons (.var 3) .nil)) .nil)))) (.cons (.var 5) .nil)))) B_law_1) [5, 3, 4, 6])
  (.seq (.iff (.or (.tv (.isi (.call (pureG (mkE0D "ThreadError")) .nil) [Ty_NoState])) (.tv (.cmp .NotEq (.call G__law_marks (.cons (.call (pureG (mkE0D "ThreadError")) .nil) .nil)) (.bin .Mult (.lst (.cons (.cst (.bl false)) .nil)) (.cst (.int 10)))))) (.seq (.ret (.cst (.bl false)))
  .skip) .skip)
  .skip))))) [5, 3, 4, 6, 2])
def B_law : S := (.seq (.kl [] (.for (.nm 2) (.rng (.cons (.bin .Add (.cst (.int 2)) (.bi .min (.cons (.bi .len (.cons (.var 0) .nil)) (.cons (.cst (.int 6)) .nil)))) .nil)) B_law_2) [1, 5, 3, 4, 0, 6, 2])
  (.seq (.ret (.cst (.bl true)))
  .skip))
/-- what the law is worth -/
def RunOk : Prop := ∀ ns : List Int, ns.length ≤ 63 → ∃ ρ' W', evS 1000000 B_law (law0 6 1 ns) (dr0 ns) = .rt ⟨.bl true, .pl, []⟩ ρ' W'
end
end Qk01
namespace Qk01
open PySem PySem.Spec PyProof.Rows L2 Z
def top (i : Nat) : Stmt := PySem.Challenge.pw_tradedtails_k01_errors_by_hand.main.body.getD i (.Pass ⟨0, 0, 0, 0⟩)
structure Tx (c : Pm) (mg : Str → Option Value) : Prop where
  kl : Kls c
  n_ValueError : mg "ValueError" = none
  n_enumerate : mg "enumerate" = none
  n_int : mg "int" = none
  n_isinstance : mg "isinstance" = none
  n_len : mg "len" = none
  n_min : mg "min" = none
  n_range : mg "range" = none
  n_repr : mg "repr" = none
  m_BadDeed : mg "BadDeed" = some (.ref (He.ga c.K "BadDeed"))
  is_BadDeed : IsF c Ty_BadDeed (.ref (He.ga c.K "BadDeed"))
  m_BadText : mg "BadText" = some (.ref (He.ga c.K "BadText"))
  is_BadText : IsF c Ty_BadText (.ref (He.ga c.K "BadText"))
  m_NoBead : mg "NoBead" = some (.ref (He.ga c.K "NoBead"))
  is_NoBead : IsF c Ty_NoBead (.ref (He.ga c.K "NoBead"))
  m_NoExchange : mg "NoExchange" = some (.ref (He.ga c.K "NoExchange"))
  is_NoExchange : IsF c Ty_NoExchange (.ref (He.ga c.K "NoExchange"))
  m_NoNumber : mg "NoNumber" = some (.ref (He.ga c.K "NoNumber"))
  is_NoNumber : IsF c Ty_NoNumber (.ref (He.ga c.K "NoNumber"))
  m_NoState : mg "NoState" = some (.ref (He.ga c.K "NoState"))
  is_NoState : IsF c Ty_NoState (.ref (He.ga c.K "NoState"))
  m_NoSwap : mg "NoSwap" = some (.ref (He.ga c.K "NoSwap"))
  is_NoSwap : IsF c Ty_NoSwap (.ref (He.ga c.K "NoSwap"))
  m_NoThread : mg "NoThread" = some (.ref (He.ga c.K "NoThread"))
  is_NoThread : IsF c Ty_NoThread (.ref (He.ga c.K "NoThread"))
  m_NotSealed : mg "NotSealed" = some (.ref (He.ga c.K "NotSealed"))
  is_NotSealed : IsF c Ty_NotSealed (.ref (He.ga c.K "NotSealed"))
  m_ThreadError : mg "ThreadError" = some (.ref (He.ga c.K "ThreadError"))
  is_ThreadError : IsF c Ty_ThreadError (.ref (He.ga c.K "ThreadError"))
  m_TooMany : mg "TooMany" = some (.ref (He.ga c.K "TooMany"))
  is_TooMany : IsF c Ty_TooMany (.ref (He.ga c.K "TooMany"))
  is_ValueError : IsF c Ty_ValueError (.type "ValueError")
  r_NoBead : RaiseF c mg "NoBead"
  r_NoExchange : RaiseF c mg "NoExchange"
  r_NoNumber : RaiseF c mg "NoNumber"
  r_NoState : RaiseF c mg "NoState"
  r_NoSwap : RaiseF c mg "NoSwap"
  r_NoThread : RaiseF c mg "NoThread"
  r_NotSealed : RaiseF c mg "NotSealed"
  r_ThreadError : RaiseF c mg "ThreadError"
  sys : SysD c.K
  xat_at : ∀ m C, c.cx m = some C → PySem.W.findIn c.K (.ref C) "at" = some none
  xat_limit : ∀ m C, c.cx m = some C → PySem.W.findIn c.K (.ref C) "limit" = some none
  xat_row : ∀ m C, c.cx m = some C → PySem.W.findIn c.K (.ref C) "row" = some none
variable {c : Pm} {P : Program} {w : World} {mg : Str → Option Value} {base : Heap}
abbrev s__law_marks : Stmt := top 18
theorem sc__law_marks : FnScope ["_law_error", "_law_found"] ["_law_error"] (defScope s__law_marks) := ⟨rfl, rfl, rfl, by decide +kernel, rfl, by decide +kernel, by decide +kernel⟩
theorem ok__law_marks {f : Addr} {fd : FuncData} (Fu : Fun c.K "_law_marks" "_law_marks" s__law_marks f fd) (T : Tx c mg) : FnOk P w c.K mg base (L2.CX P w) 1 f fd ["_law_error"] (spG c G__law_marks) :=
  fn_ok Fu sc__law_marks fun cdv A outer s H E hr tk => have n := Cn.fn rfl sc__law_marks hr tk; (s_cons (z_set 1 n (e_lst (x_cons (x_isi n T.kl T.is_NoState (.own _) (x_var 0 n (.inl rfl)) (x_cls n T.m_NoState) T.n_isinstance) (x_cons (x_isi n T.kl T.is_NoThread (.own _) (x_var 0 n (.inl rfl)) (x_cls n T.m_NoThread) T.n_isinstance) (x_cons (x_isi n T.kl T.is_NoBead (.own _) (x_var 0 n (.inl rfl)) (x_cls n T.m_NoBead) T.n_isinstance) l_nil)))) (.inl rfl))
  (s_cons (z_set 1 n (x_bin (bin_add n.hk) (x_var 1 n (.inl rfl)) (e_lst (x_cons (x_isi n T.kl T.is_NoSwap (.own _) (x_var 0 n (.inl rfl)) (x_cls n T.m_NoSwap) T.n_isinstance) (x_cons (x_isi n T.kl T.is_NoExchange (.own _) (x_var 0 n (.inl rfl)) (x_cls n T.m_NoExchange) T.n_isinstance) (x_cons (x_isi n T.kl T.is_NotSealed (.own _) (x_var 0 n (.inl rfl)) (x_cls n T.m_NotSealed) T.n_isinstance) l_nil))))) (.inl rfl))
  (s_cons (z_set 1 n (x_bin (bin_add n.hk) (x_var 1 n (.inl rfl)) (e_lst (x_cons (x_isi n T.kl T.is_NoNumber (.own _) (x_var 0 n (.inl rfl)) (x_cls n T.m_NoNumber) T.n_isinstance) (x_cons (x_isi n T.kl T.is_BadDeed (.own _) (x_var 0 n (.inl rfl)) (x_cls n T.m_BadDeed) T.n_isinstance) (x_cons (x_isi n T.kl T.is_BadText (.own _) (x_var 0 n (.inl rfl)) (x_cls n T.m_BadText) T.n_isinstance) l_nil))))) (.inl rfl))
  (s_cons (s_ret (x_bin (bin_add n.hk) (x_var 1 n (.inl rfl)) (e_lst (x_cons (x_isi n T.kl T.is_TooMany (.own _) (x_var 0 n (.inl rfl)) (x_cls n T.m_TooMany) T.n_isinstance) l_nil))))
  s_nil))))
abbrev s__law_mixed : Stmt := top 14
theorem sc__law_mixed : FnScope ["_law_draw", "_law_turn", "_law_found", "_law_prime", "_law_blend", "_law_cell"] ["_law_draw"] (defScope s__law_mixed) := ⟨rfl, rfl, rfl, by decide +kernel, rfl, by decide +kernel, by decide +kernel⟩
theorem ok__law_mixed {f : Addr} {fd : FuncData} (Fu : Fun c.K "_law_mixed" "_law_mixed" s__law_mixed f fd) (T : Tx c mg) : FnOk P w c.K mg base (L2.CX P w) 1 f fd ["_law_draw"] (spG c G__law_mixed) :=
  fn_ok Fu sc__law_mixed fun cdv A outer s H E hr tk => have n := Cn.fn rfl sc__law_mixed hr tk; (s_cons (z_par 1 2 n (x_cons (x_bin (bin_add n.hk) (x_drg true n (x_var 0 n (.inl rfl))) e_int) (x_cons e_int l_nil)))
  (s_cons (z_drs true 0 n (x_var 1 n (.inl rfl)) (.inl rfl))
  (s_cons (z_for (own := [3]) n (passes_of rfl) (x_wk n (e_lst (x_cons e_int (x_cons e_int (x_cons e_int (x_cons e_int l_nil))))) (pi_str (e_lst (x_cons e_int (x_cons e_int (x_cons e_int (x_cons e_int l_nil))))))) (pg_name n.nd rfl (.inl rfl) (.inl rfl)) (g_nm (by decide)) (s_cons (z_set 4 n (x_bin (bin_add n.hk) (x_bin (bin_mul n.hk) e_int (x_var 1 n (.inl rfl))) (x_bin (bin_div) (x_var 3 n (.inl rfl)) e_int)) (.inl rfl))
  (s_cons (z_for (own := [5]) n (passes_of rfl) (x_wk n (x_drc n (x_var 0 n (.inl rfl))) (pi_str (x_drc n (x_var 0 n (.inl rfl))))) (pg_name n.nd rfl (.inl rfl) (.inl rfl)) (g_nm (by decide)) (s_cons (z_set 4 n (x_bin (bin_mod) (x_int n T.n_int (x_cons (x_bin (bin_add n.hk) (x_bin (bin_add n.hk) (x_bin (bin_mul n.hk) (x_var 4 n (.inl rfl)) e_int) (x_var 5 n (.inl rfl))) (x_var 1 n (.inl rfl))) l_nil)) (x_var 3 n (.inl rfl))) (.inl rfl))
  s_nil))
  (s_cons (z_set 2 n (x_bin (bin_add n.hk) (x_bin (bin_mul n.hk) (x_var 2 n (.inl rfl)) e_int) (x_bin (bin_mod) (x_int n T.n_int (x_cons (x_bin (bin_pow) (x_var 4 n (.inl rfl)) e_int) l_nil)) (x_var 3 n (.inl rfl)))) (.inl rfl))
  s_nil))))
  (s_cons (s_ret (x_var 2 n (.inl rfl)))
  s_nil))))
abbrev s__law_are_apart : Stmt := top 19
theorem sc__law_are_apart : FnScope ["_law_errors", "_law_spot", "_law_error", "_law_other"] ["_law_errors"] (defScope s__law_are_apart) := ⟨rfl, rfl, rfl, by decide +kernel, rfl, by decide +kernel, by decide +kernel⟩
theorem ok__law_are_apart {f : Addr} {fd : FuncData} (Fu : Fun c.K "_law_are_apart" "_law_are_apart" s__law_are_apart f fd) (T : Tx c mg) (C__law_marks : Cal c P w c.K mg base 1 "_law_marks" ["_law_error"] G__law_marks) : FnOk P w c.K mg base (L2.CX P w) 2 f fd ["_law_errors"] (spG c G__law_are_apart) :=
  fn_ok Fu sc__law_are_apart fun cdv A outer s H E hr tk => have n := Cn.fn rfl sc__law_are_apart hr tk; (s_cons (z_kl [] [2, 0, 1] (z_for (own := [1, 2]) n (passes_of rfl) (x_enuA n T.n_enumerate (x_var 0 n (.inl rfl))) (y_tp n (pg_tup n.calm (pgs_cons (pg_name n.nd rfl (.inr rfl) (.inl rfl)) (pgs_cons (pg_name n.nd rfl (.inl rfl) (.inl rfl)) pgs_nil)))) (g_tp (by decide) rfl) (z_kls [] [2, 1] (s_cons (s_if (y_cmp n (x_call n C__law_marks (x_cons (x_var 2 n (.inl rfl)) l_nil)) (x_lc (own := [("_law_other", 3)]) n (x_rng1 n T.n_range (x_cons e_int l_nil)) (g_nm (by decide)) (by rfl) (fun _ _ _ _ _ => (pg_name (n.blk).nd rfl (.inl rfl) (.inr rfl))) (fun _ _ _ _ _ => a_nilT) (fun _ _ _ _ _ => (x_cmp (n.blk) (x_var 3 (n.blk) (.inl rfl)) (x_var 1 (n.blk) (.inr (.inl rfl))))))) (s_cons (s_ret e_bl)
  s_nil) s_nil)
  (s_cons (s_if (w_or (t_not (y_val (x_isi n T.kl T.is_ThreadError (.own _) (x_var 2 n (.inl rfl)) (x_cls n T.m_ThreadError) T.n_isinstance))) (w_or1 (t_not (y_val (x_isi n T.kl T.is_ValueError (.ty "ValueError") (x_var 2 n (.inl rfl)) (x_ty n T.n_ValueError boot_ValueError) T.n_isinstance))))).pt (s_cons (s_ret e_bl)
  s_nil) s_nil)
  s_nil)))))
  (s_cons (s_ret e_bl)
  s_nil))
abbrev s__law_take : Stmt := top 15
theorem sc__law_take : FnScope ["_law_draw", "_law_total", "_law_found"] ["_law_draw", "_law_total"] (defScope s__law_take) := ⟨rfl, rfl, rfl, by decide +kernel, rfl, by decide +kernel, by decide +kernel⟩
theorem ok__law_take {f : Addr} {fd : FuncData} (Fu : Fun c.K "_law_take" "_law_take" s__law_take f fd) (T : Tx c mg) (C__law_mixed : Cal c P w c.K mg base 1 "_law_mixed" ["_law_draw"] G__law_mixed) : FnOk P w c.K mg base (L2.CX P w) 2 f fd ["_law_draw", "_law_total"] (spG c G__law_take) :=
  fn_ok Fu sc__law_take fun cdv A outer s H E hr tk => have n := Cn.fn rfl sc__law_take hr tk; (s_cons (s_if (y_cmp n (x_drg false n (x_var 0 n (.inl rfl))) e_int) (s_cons (z_drs false 0 n (e_ite (y_drn n (x_var 0 n (.inl rfl))) (x_drp n (x_var 0 n (.inl rfl))) (x_call n C__law_mixed (x_cons (x_var 0 n (.inl rfl)) l_nil))) (.inl rfl))
  s_nil) s_nil)
  (s_cons (z_set 2 n (x_bin (bin_mod) (x_int n T.n_int (x_cons (x_drg false n (x_var 0 n (.inl rfl))) l_nil)) (x_var 1 n (.inl rfl))) (.inl rfl))
  (s_cons (z_drs false 0 n (x_bin (bin_div) (x_drg false n (x_var 0 n (.inl rfl))) (x_var 1 n (.inl rfl))) (.inl rfl))
  (s_cons (s_ret (x_var 2 n (.inl rfl)))
  s_nil))))
abbrev s__law_pick : Stmt := top 16
theorem sc__law_pick : FnScope ["_law_draw", "_law_some"] ["_law_draw", "_law_some"] (defScope s__law_pick) := ⟨rfl, rfl, rfl, by decide +kernel, rfl, by decide +kernel, by decide +kernel⟩
theorem ok__law_pick {f : Addr} {fd : FuncData} (Fu : Fun c.K "_law_pick" "_law_pick" s__law_pick f fd) (T : Tx c mg) (C__law_take : Cal c P w c.K mg base 2 "_law_take" ["_law_draw", "_law_total"] G__law_take) : FnOk P w c.K mg base (L2.CX P w) 3 f fd ["_law_draw", "_law_some"] (spG c G__law_pick) :=
  fn_ok Fu sc__law_pick fun cdv A outer s H E hr tk => have n := Cn.fn rfl sc__law_pick hr tk; (s_cons (s_ret (x_ix n (x_var 1 n (.inl rfl)) (x_call n C__law_take (x_cons (x_var 0 n (.inl rfl)) (x_cons (x_len n T.n_len (x_cons (x_var 1 n (.inl rfl)) l_nil)) l_nil)))))
  s_nil)
abbrev s__law_odd : Stmt := top 17
theorem sc__law_odd : FnScope ["_law_draw", "_law_some"] ["_law_draw"] (defScope s__law_odd) := ⟨rfl, rfl, rfl, by decide +kernel, rfl, by decide +kernel, by decide +kernel⟩
theorem ok__law_odd {f : Addr} {fd : FuncData} (Fu : Fun c.K "_law_odd" "_law_odd" s__law_odd f fd) (T : Tx c mg) (C__law_pick : Cal c P w c.K mg base 3 "_law_pick" ["_law_draw", "_law_some"] G__law_pick) : FnOk P w c.K mg base (L2.CX P w) 4 f fd ["_law_draw"] (spG c G__law_odd) :=
  fn_ok Fu sc__law_odd fun cdv A outer s H E hr tk => have n := Cn.fn rfl sc__law_odd hr tk; (s_cons (z_set 1 n (e_lst (x_cons e_non (x_cons e_bl (x_cons e_bl (x_cons (e_neg e_int) (x_cons (x_bin (bin_pow) e_int e_int) (x_cons e_str (x_cons e_str (x_cons e_str (x_cons e_str (x_cons (e_tup l_nil) (x_cons (e_lst l_nil) (x_cons e_dic0 (x_cons (e_tup (x_cons e_str l_nil)) (x_cons (e_tup (x_cons e_str l_nil)) (x_cons (e_tup (x_cons e_str (x_cons e_int l_nil))) l_nil)))))))))))))))) (.inl rfl))
  (s_cons (s_ret (x_call n C__law_pick (x_cons (x_var 0 n (.inl rfl)) (x_cons (x_bin (bin_add n.hk) (x_var 1 n (.inl rfl)) (e_lst (x_cons (e_tup (x_cons e_non l_nil)) (x_cons (e_lst (x_cons e_str l_nil)) (x_cons e_dic1 (x_cons (e_tup (x_cons (e_tup l_nil) l_nil)) (x_cons (e_lst (x_cons (e_tup l_nil) l_nil)) (x_cons (e_lst (x_cons (e_tup (x_cons e_str (x_cons e_str l_nil))) l_nil)) (x_cons e_str (x_cons (e_tup (x_cons e_str (x_cons (e_tup (x_cons e_str l_nil)) l_nil))) (x_cons (e_lst (x_cons e_str l_nil)) l_nil))))))))))) l_nil))))
  s_nil))
abbrev s_law : Stmt := top 20
theorem sc_law : FnScope ["_law_script", "_law_draw", "_law_turn", "_law_odd_here", "_law_plain", "_law_named", "_law_told"] ["_law_script"] (defScope s_law) := ⟨rfl, rfl, rfl, by decide +kernel, rfl, by decide +kernel, by decide +kernel⟩
theorem rest_law {fd : FuncData} (T : Tx c mg) (C__law_are_apart : Cal c P w c.K mg base 2 "_law_are_apart" ["_law_errors"] G__law_are_apart) (C__law_marks : Cal c P w c.K mg base 1 "_law_marks" ["_law_error"] G__law_marks) (C__law_odd : Cal c P w c.K mg base 4 "_law_odd" ["_law_draw"] G__law_odd) (OE_BadDeed : OwnErr c P mg "BadDeed" "at") (OE_BadText : OwnErr c P mg "BadText" "row") (OE_TooMany : OwnErr c P mg "TooMany" "limit") {cdv : Value} {A : Around} {outer : List Env} {s : Shared} {H : Hp} {E : XK} {f : Addr} (hcd : fd.code = cdv) (hgd : A.guards = some []) (hr : Room 4 (A.deeper (envOfC "law" (defScope s_law) s.heap.objs.size f cdv)))
    (tk : Takes (cxOf (L2.CX P w) P w c.K mg base ["_law_script", "_law_draw", "_law_turn", "_law_odd_here", "_law_plain", "_law_named", "_law_told"] "law" (defScope s_law) f cdv A outer s H E) (fun cls dd _ H' => E cls dd H')) : PSs (cxOf (L2.CX P w) P w c.K mg base ["_law_script", "_law_draw", "_law_turn", "_law_odd_here", "_law_plain", "_law_named", "_law_told"] "law" (defScope s_law) f cdv A outer s H E) (defBody s_law).tail (rdS c (fun cls dd _ H' => E cls dd H') 1000000 B_law) :=
  have n := Cn.fn rfl sc_law hr tk; have GD : (cxOf (L2.CX P w) P w c.K mg base ["_law_script", "_law_draw", "_law_turn", "_law_odd_here", "_law_plain", "_law_named", "_law_told"] "law" (defScope s_law) f cdv A outer s H E).A.guards = some [] := hgd; (s_cons (z_kl [] [1, 5, 3, 4, 0, 6, 2] (z_for (own := [2]) n (passes_of rfl) (x_rng1 n T.n_range (x_cons (x_bin (bin_add n.hk) e_int (x_min n T.n_min (x_cons (x_len n T.n_len (x_cons (x_var 0 n (.inl rfl)) l_nil)) (x_cons e_int l_nil)))) l_nil)) (pg_name n.nd rfl (.inl rfl) (.inl rfl)) (g_nm (by decide)) (z_kls [] [5, 3, 4, 6, 2] (s_cons (z_set 3 n (x_call n C__law_odd (x_cons (x_var 1 n (.inl rfl)) l_nil)) (.inl rfl))
  (s_cons (z_set 4 n (e_lst (x_cons (x_mkE n T.r_NoState) (x_cons (x_mkE n T.r_NoThread) (x_cons (x_mkE n T.r_NoBead) (x_cons (x_mkE n T.r_NoSwap) (x_cons (x_mkE n T.r_NoExchange) (x_cons (x_mkE n T.r_NotSealed) (x_cons (x_mkE n T.r_NoNumber) l_nil)))))))) (.inl rfl))
  (s_cons (z_set 5 n (e_lst (x_cons (x_mkOK n OE_BadDeed (k_cons (x_var 3 n (.inl rfl)) k_nil)) (x_cons (x_mkOK n OE_BadText (k_cons (x_var 3 n (.inl rfl)) k_nil)) (x_cons (x_mkOK n OE_TooMany (k_cons (x_var 3 n (.inl rfl)) k_nil)) l_nil)))) (.inl rfl))
  (s_cons (z_kl [6] [5, 3, 4, 6] (z_for (own := [6]) n (passes_of rfl) (x_wk n (e_lst (x_cons (e_lst (x_cons (x_mkO n OE_BadDeed (x_cons (x_var 3 n (.inl rfl)) l_nil)) (x_cons (x_mkO n OE_BadText (x_cons (x_var 3 n (.inl rfl)) l_nil)) (x_cons (x_mkO n OE_TooMany (x_cons (x_var 3 n (.inl rfl)) l_nil)) l_nil)))) (x_cons (x_var 5 n (.inl rfl)) l_nil))) (pi_str (e_lst (x_cons (e_lst (x_cons (x_mkO n OE_BadDeed (x_cons (x_var 3 n (.inl rfl)) l_nil)) (x_cons (x_mkO n OE_BadText (x_cons (x_var 3 n (.inl rfl)) l_nil)) (x_cons (x_mkO n OE_TooMany (x_cons (x_var 3 n (.inl rfl)) l_nil)) l_nil)))) (x_cons (x_var 5 n (.inl rfl)) l_nil))))) (pg_name n.nd rfl (.inl rfl) (.inl rfl)) (g_nm (by decide)) (z_kls [] [6] (s_cons (s_if (w_or (t_not (y_val (x_call n C__law_are_apart (x_cons (x_bin (bin_add n.hk) (x_var 4 n (.inl rfl)) (x_var 6 n (.inl rfl))) l_nil)))) (w_or1 (y_cmp n (x_reprB n GD T.sys T.n_repr (x_cons (e_lst (x_cons (x_exat n T.kl T.xat_at (x_ix n (x_var 6 n (.inl rfl)) e_int)) (x_cons (x_exat n T.kl T.xat_row (x_ix n (x_var 6 n (.inl rfl)) e_int)) (x_cons (x_exat n T.kl T.xat_limit (x_ix n (x_var 6 n (.inl rfl)) e_int)) l_nil)))) l_nil)) (x_reprB n GD T.sys T.n_repr (x_cons (x_bin (bin_mul n.hk) (e_lst (x_cons (x_var 3 n (.inl rfl)) l_nil)) e_int) l_nil))))).pt (s_cons (s_ret e_bl)
  s_nil) s_nil)
  s_nil))))
  (s_cons (s_if (w_or (y_val (x_isi n T.kl T.is_NoState (.own _) (x_mkE n T.r_ThreadError) (x_cls n T.m_NoState) T.n_isinstance)) (w_or1 (y_cmp n (x_call n C__law_marks (x_cons (x_mkE n T.r_ThreadError) l_nil)) (x_bin (bin_mul n.hk) (e_lst (x_cons e_bl l_nil)) e_int)))).pt (s_cons (s_ret e_bl)
  s_nil) s_nil)
  s_nil))))))))
  (s_cons (s_ret e_bl)
  s_nil))
abbrev s__law_begun : Stmt := top 13
theorem sc__law_begun : FnScope ["_law_script", "_law_wide", "_law_cell"] ["_law_script"] (defScope s__law_begun) := ⟨rfl, rfl, rfl, by decide +kernel, rfl, by decide +kernel, by decide +kernel⟩
theorem ok__law_begun {f : Addr} {fd : FuncData} (Fu : Fun c.K "_law_begun" "_law_begun" s__law_begun f fd) (ha : mg "abs" = none) (hi : mg "int" = none) : FnOk P w c.K mg base (L2.CX P w) 1 f fd ["_law_script"] (spBegun c) :=
  Fu.okX sc__law_begun (fun vs H Q E h => by obtain ⟨s, ns, rfl, _⟩ := h; rfl) fun cdv A outer s H vs Q E hr h => ⟨_, (have n : Cn c.bare WXF 0 (cxOf (L2.CX P w) P w c.K mg base ["_law_script", "_law_wide", "_law_cell"] "_law_begun" (defScope s__law_begun) f cdv A outer s H E) := ⟨rfl, rfl, sc__law_begun.nd, L2.takes0, hr⟩;
    pss_cons (z_setLc 1 (own := [("_law_cell", 2)]) n (x_wk n (x_var 0 n (.inl rfl)) (pi_str (x_var 0 n (.inl rfl)))) (g_nm (by decide)) (by rfl) (fun _ _ _ _ _ => (pg_name (n.blk).nd rfl (.inl rfl) (.inr rfl))) (fun _ _ _ _ _ => (a_oneT (y_cmp (n.blk) (x_abs (n.blk) ha (x_cons (x_var 2 (n.blk) (.inl rfl)) l_nil)) (x_bin (bin_pow) e_int e_int)))) (fun _ _ _ _ _ => (x_bin (bin_sub) (x_abs (n.blk) ha (x_cons (x_var 2 (n.blk) (.inl rfl)) l_nil)) (x_bin (bin_pow) e_int e_int)))) (pss_one (ps_ret (pe_disp (pps_cons pe_str (x_var 1 n (.inl rfl)) (pps_cons pe_str (x_lc (own := [("_law_cell", 2)]) n (x_wk n (x_var 0 n (.inl rfl)) (pi_str (x_var 0 n (.inl rfl)))) (g_nm (by decide)) (by rfl) (fun _ _ _ _ _ => (pg_name (n.blk).nd rfl (.inl rfl) (.inr rfl))) (fun _ _ _ _ _ => a_nilT) (fun _ _ _ _ _ => (x_bin (bin_mod) (x_int (n.blk) hi (x_cons (x_abs (n.blk) ha (x_cons (x_var 2 (n.blk) (.inl rfl)) l_nil)) l_nil)) e_int))) (pps_cons pe_str pe_int (pps_cons pe_str pe_int pps_nil)))) rfl rfl (by decide) (by decide))))), begun_ok (fu := 1000000) h⟩
def cas : List Str := []
def cxs : List Str := ["ThreadError", "NoState", "NoThread", "NoBead", "NoSwap", "NoExchange", "NotSealed", "NoNumber", "BadDeed", "BadText", "TooMany"]
def ats : List Str := []
def tys : List Ty := [Ty_BadDeed, Ty_BadText, Ty_NoBead, Ty_NoExchange, Ty_NoNumber, Ty_NoState, Ty_NoSwap, Ty_NoThread, Ty_NotSealed, Ty_ThreadError, Ty_TooMany, Ty_ValueError]
def tf : List He.Defn := []
def d__law_marks : He.DefD := ⟨("_law_marks", none), "_law_marks", "_law_marks", defArgs s__law_marks, defBody s__law_marks, defScope s__law_marks, [], []⟩
def d__law_mixed : He.DefD := ⟨("_law_mixed", none), "_law_mixed", "_law_mixed", defArgs s__law_mixed, defBody s__law_mixed, defScope s__law_mixed, [], []⟩
def d__law_are_apart : He.DefD := ⟨("_law_are_apart", none), "_law_are_apart", "_law_are_apart", defArgs s__law_are_apart, defBody s__law_are_apart, defScope s__law_are_apart, [], []⟩
def d__law_take : He.DefD := ⟨("_law_take", none), "_law_take", "_law_take", defArgs s__law_take, defBody s__law_take, defScope s__law_take, [], []⟩
def d__law_pick : He.DefD := ⟨("_law_pick", none), "_law_pick", "_law_pick", defArgs s__law_pick, defBody s__law_pick, defScope s__law_pick, [], []⟩
def d__law_odd : He.DefD := ⟨("_law_odd", none), "_law_odd", "_law_odd", defArgs s__law_odd, defBody s__law_odd, defScope s__law_odd, [], []⟩
def d_law : He.DefD := ⟨("law", none), "law", "law", defArgs s_law, defBody s_law, defScope s_law, [], []⟩
def d__law_begun : He.DefD := ⟨("_law_begun", none), "_law_begun", "_law_begun", defArgs s__law_begun, defBody s__law_begun, defScope s__law_begun, [], []⟩
def fa0 : List He.Fa := [.free "ValueError", .free "enumerate", .free "int", .free "isinstance", .free "len", .free "min", .free "range", .free "repr", .glo "BadDeed", .glo "BadText", .glo "NoBead", .glo "NoExchange", .glo "NoNumber", .glo "NoState", .glo "NoSwap", .glo "NoThread", .glo "NotSealed", .glo "ThreadError", .glo "TooMany", .exc "NoBead", .exc "NoExchange", .exc "NoNumber", .exc "NoState", .exc "NoSwap", .exc "NoThread", .exc "NotSealed", .exc "ThreadError", .glo "_law_marks", .glo "_law_mixed", .glo "_law_are_apart", .glo "_law_take", .glo "_law_pick", .glo "_law_odd", .glo "law", .glo "_law_begun", .free "super", .free "abs"]
def fa : List He.Fa := fa0
def fn : List He.DefD := [d__law_marks, d__law_mixed, d__law_are_apart, d__law_take, d__law_pick, d__law_odd, d_law, d__law_begun]
def owns : List (Str × Str) := [("BadDeed", "at"), ("BadText", "row"), ("TooMany", "limit")]
def xats : List Str := ["at", "limit", "row"]
def ex0 : PySem.W.Frag → Bool := fun K => Z.exB cas cxs ats tys "ThreadError" tf K && (Z.exatB cxs xats K && Z.sysB K)
def ex : PySem.W.Frag → Bool := fun K => ex0 K && owns.all (Z.ownB (PySem.W.OpenLaw.prog PySem.Challenge.rw_tradedtails_k01_errors_by_hand) K)
abbrev cc (K : PySem.W.Frag) (dl : List Addr) (d2 : Addr) : Pm := pmOf K cas cxs tf dl d2
section
variable {K : PySem.W.Frag} {h : Heap} {dl : List Addr} {d2 : Addr}
theorem mem_fa {x : He.Fa} (h : x ∈ fa) (c : He.SaysD fa fn K) : x.ok K = true := c.facts h
theorem glob_int {mg : Str → Option Value} (KX : K.In h) (G : h.Ns mainGlobals mg) {x : Str} {i : Int} (c : (He.Fa.int x i).ok K = true) : ∃ uu, mg x = some uu ∧ RelV (.int i) uu := by obtain ⟨t, e⟩ := He.int_ok KX G c; exact ⟨_, e, ⟨t, rfl⟩⟩
theorem glob_str {mg : Str → Option Value} (KX : K.In h) (G : h.Ns mainGlobals mg) {x z : Str} (c : (He.Fa.str x z).ok K = true) : ∃ uu, mg x = some uu ∧ RelV (.str z) uu := by obtain ⟨t, e⟩ := He.str_ok KX G c; exact ⟨_, e, ⟨t, rfl⟩⟩
theorem tx_mk {mg : Str → Option Value} (KX : K.In h) (G : h.Ns mainGlobals mg) (c : He.SaysD fa fn K) (e : ex0 K = true) : Tx (cc K dl d2) mg where
  kl := ex_kls (ba_ e).1
  n_ValueError := He.free_ok KX G (c.fact 0 (f := .free "ValueError") rfl)
  n_enumerate := He.free_ok KX G (c.fact 1 (f := .free "enumerate") rfl)
  n_int := He.free_ok KX G (c.fact 2 (f := .free "int") rfl)
  n_isinstance := He.free_ok KX G (c.fact 3 (f := .free "isinstance") rfl)
  n_len := He.free_ok KX G (c.fact 4 (f := .free "len") rfl)
  n_min := He.free_ok KX G (c.fact 5 (f := .free "min") rfl)
  n_range := He.free_ok KX G (c.fact 6 (f := .free "range") rfl)
  n_repr := He.free_ok KX G (c.fact 7 (f := .free "repr") rfl)
  m_BadDeed := He.glo_ok KX G (c.fact 8 (f := .glo "BadDeed") rfl)
  is_BadDeed := ex_is (ba_ e).1 (t := Ty_BadDeed) (List.mem_cons_self)
  m_BadText := He.glo_ok KX G (c.fact 9 (f := .glo "BadText") rfl)
  is_BadText := ex_is (ba_ e).1 (t := Ty_BadText) (List.mem_cons_of_mem _ (List.mem_cons_self))
  m_NoBead := He.glo_ok KX G (c.fact 10 (f := .glo "NoBead") rfl)
  is_NoBead := ex_is (ba_ e).1 (t := Ty_NoBead) (List.mem_cons_of_mem _ (List.mem_cons_of_mem _ (List.mem_cons_self)))
  m_NoExchange := He.glo_ok KX G (c.fact 11 (f := .glo "NoExchange") rfl)
  is_NoExchange := ex_is (ba_ e).1 (t := Ty_NoExchange) (List.mem_cons_of_mem _ (List.mem_cons_of_mem _ (List.mem_cons_of_mem _ (List.mem_cons_self))))
  m_NoNumber := He.glo_ok KX G (c.fact 12 (f := .glo "NoNumber") rfl)
  is_NoNumber := ex_is (ba_ e).1 (t := Ty_NoNumber) (List.mem_cons_of_mem _ (List.mem_cons_of_mem _ (List.mem_cons_of_mem _ (List.mem_cons_of_mem _ (List.mem_cons_self)))))
  m_NoState := He.glo_ok KX G (c.fact 13 (f := .glo "NoState") rfl)
  is_NoState := ex_is (ba_ e).1 (t := Ty_NoState) (List.mem_cons_of_mem _ (List.mem_cons_of_mem _ (List.mem_cons_of_mem _ (List.mem_cons_of_mem _ (List.mem_cons_of_mem _ (List.mem_cons_self))))))
  m_NoSwap := He.glo_ok KX G (c.fact 14 (f := .glo "NoSwap") rfl)
  is_NoSwap := ex_is (ba_ e).1 (t := Ty_NoSwap) (List.mem_cons_of_mem _ (List.mem_cons_of_mem _ (List.mem_cons_of_mem _ (List.mem_cons_of_mem _ (List.mem_cons_of_mem _ (List.mem_cons_of_mem _ (List.mem_cons_self)))))))
  m_NoThread := He.glo_ok KX G (c.fact 15 (f := .glo "NoThread") rfl)
  is_NoThread := ex_is (ba_ e).1 (t := Ty_NoThread) (List.mem_cons_of_mem _ (List.mem_cons_of_mem _ (List.mem_cons_of_mem _ (List.mem_cons_of_mem _ (List.mem_cons_of_mem _ (List.mem_cons_of_mem _ (List.mem_cons_of_mem _ (List.mem_cons_self))))))))
  m_NotSealed := He.glo_ok KX G (c.fact 16 (f := .glo "NotSealed") rfl)
  is_NotSealed := ex_is (ba_ e).1 (t := Ty_NotSealed) (List.mem_cons_of_mem _ (List.mem_cons_of_mem _ (List.mem_cons_of_mem _ (List.mem_cons_of_mem _ (List.mem_cons_of_mem _ (List.mem_cons_of_mem _ (List.mem_cons_of_mem _ (List.mem_cons_of_mem _ (List.mem_cons_self)))))))))
  m_ThreadError := He.glo_ok KX G (c.fact 17 (f := .glo "ThreadError") rfl)
  is_ThreadError := ex_is (ba_ e).1 (t := Ty_ThreadError) (List.mem_cons_of_mem _ (List.mem_cons_of_mem _ (List.mem_cons_of_mem _ (List.mem_cons_of_mem _ (List.mem_cons_of_mem _ (List.mem_cons_of_mem _ (List.mem_cons_of_mem _ (List.mem_cons_of_mem _ (List.mem_cons_of_mem _ (List.mem_cons_self))))))))))
  m_TooMany := He.glo_ok KX G (c.fact 18 (f := .glo "TooMany") rfl)
  is_TooMany := ex_is (ba_ e).1 (t := Ty_TooMany) (List.mem_cons_of_mem _ (List.mem_cons_of_mem _ (List.mem_cons_of_mem _ (List.mem_cons_of_mem _ (List.mem_cons_of_mem _ (List.mem_cons_of_mem _ (List.mem_cons_of_mem _ (List.mem_cons_of_mem _ (List.mem_cons_of_mem _ (List.mem_cons_of_mem _ (List.mem_cons_self)))))))))))
  is_ValueError := isU_VE ▸ ex_is (ba_ e).1 (t := Ty_ValueError) (List.mem_cons_of_mem _ (List.mem_cons_of_mem _ (List.mem_cons_of_mem _ (List.mem_cons_of_mem _ (List.mem_cons_of_mem _ (List.mem_cons_of_mem _ (List.mem_cons_of_mem _ (List.mem_cons_of_mem _ (List.mem_cons_of_mem _ (List.mem_cons_of_mem _ (List.mem_cons_of_mem _ (List.mem_cons_self))))))))))))
  r_NoBead := raiseF_of (c.fact 19 (f := .exc "NoBead") rfl) (He.glo_ok KX G (c.fact 10 (f := .glo "NoBead") rfl)) (by decide) PySem.F.excBase_ValueError
  r_NoExchange := raiseF_of (c.fact 20 (f := .exc "NoExchange") rfl) (He.glo_ok KX G (c.fact 11 (f := .glo "NoExchange") rfl)) (by decide) PySem.F.excBase_ValueError
  r_NoNumber := raiseF_of (c.fact 21 (f := .exc "NoNumber") rfl) (He.glo_ok KX G (c.fact 12 (f := .glo "NoNumber") rfl)) (by decide) PySem.F.excBase_ValueError
  r_NoState := raiseF_of (c.fact 22 (f := .exc "NoState") rfl) (He.glo_ok KX G (c.fact 13 (f := .glo "NoState") rfl)) (by decide) PySem.F.excBase_ValueError
  r_NoSwap := raiseF_of (c.fact 23 (f := .exc "NoSwap") rfl) (He.glo_ok KX G (c.fact 14 (f := .glo "NoSwap") rfl)) (by decide) PySem.F.excBase_ValueError
  r_NoThread := raiseF_of (c.fact 24 (f := .exc "NoThread") rfl) (He.glo_ok KX G (c.fact 15 (f := .glo "NoThread") rfl)) (by decide) PySem.F.excBase_ValueError
  r_NotSealed := raiseF_of (c.fact 25 (f := .exc "NotSealed") rfl) (He.glo_ok KX G (c.fact 16 (f := .glo "NotSealed") rfl)) (by decide) PySem.F.excBase_ValueError
  r_ThreadError := raiseF_of (c.fact 26 (f := .exc "ThreadError") rfl) (He.glo_ok KX G (c.fact 17 (f := .glo "ThreadError") rfl)) (by decide) PySem.F.excBase_ValueError
  sys := sysB_ok (ba_ (ba_ e).2).2
  xat_at := exat_of (ba_ (ba_ e).2).1 (by decide)
  xat_limit := exat_of (ba_ (ba_ e).2).1 (by decide)
  xat_row := exat_of (ba_ (ba_ e).2).1 (by decide)
theorem fu__law_marks (c : He.SaysD fa fn K) : ∃ fd, Fun K "_law_marks" "_law_marks" s__law_marks (He.fAd K d__law_marks.at_) fd ∧ Binds K fd ["_law_error"] [] := by
  obtain ⟨fd, F⟩ := c.def_ 0 (d := d__law_marks) rfl
  exact ⟨fd, fun_of F, FunD.bindsN (ps := ["_law_error"]) F fun _ _ _ _ _ _ us hl => match us, hl with | [_], _ => rfl⟩
theorem fu__law_mixed (c : He.SaysD fa fn K) : ∃ fd, Fun K "_law_mixed" "_law_mixed" s__law_mixed (He.fAd K d__law_mixed.at_) fd ∧ Binds K fd ["_law_draw"] [] := by
  obtain ⟨fd, F⟩ := c.def_ 1 (d := d__law_mixed) rfl
  exact ⟨fd, fun_of F, FunD.bindsN (ps := ["_law_draw"]) F fun _ _ _ _ _ _ us hl => match us, hl with | [_], _ => rfl⟩
theorem fu__law_are_apart (c : He.SaysD fa fn K) : ∃ fd, Fun K "_law_are_apart" "_law_are_apart" s__law_are_apart (He.fAd K d__law_are_apart.at_) fd ∧ Binds K fd ["_law_errors"] [] := by
  obtain ⟨fd, F⟩ := c.def_ 2 (d := d__law_are_apart) rfl
  exact ⟨fd, fun_of F, FunD.bindsN (ps := ["_law_errors"]) F fun _ _ _ _ _ _ us hl => match us, hl with | [_], _ => rfl⟩
theorem fu__law_take (c : He.SaysD fa fn K) : ∃ fd, Fun K "_law_take" "_law_take" s__law_take (He.fAd K d__law_take.at_) fd ∧ Binds K fd ["_law_draw", "_law_total"] [] := by
  obtain ⟨fd, F⟩ := c.def_ 3 (d := d__law_take) rfl
  exact ⟨fd, fun_of F, FunD.bindsN (ps := ["_law_draw", "_law_total"]) F fun _ _ _ _ _ _ us hl => match us, hl with | [_, _], _ => rfl⟩
theorem fu__law_pick (c : He.SaysD fa fn K) : ∃ fd, Fun K "_law_pick" "_law_pick" s__law_pick (He.fAd K d__law_pick.at_) fd ∧ Binds K fd ["_law_draw", "_law_some"] [] := by
  obtain ⟨fd, F⟩ := c.def_ 4 (d := d__law_pick) rfl
  exact ⟨fd, fun_of F, FunD.bindsN (ps := ["_law_draw", "_law_some"]) F fun _ _ _ _ _ _ us hl => match us, hl with | [_, _], _ => rfl⟩
theorem fu__law_odd (c : He.SaysD fa fn K) : ∃ fd, Fun K "_law_odd" "_law_odd" s__law_odd (He.fAd K d__law_odd.at_) fd ∧ Binds K fd ["_law_draw"] [] := by
  obtain ⟨fd, F⟩ := c.def_ 5 (d := d__law_odd) rfl
  exact ⟨fd, fun_of F, FunD.bindsN (ps := ["_law_draw"]) F fun _ _ _ _ _ _ us hl => match us, hl with | [_], _ => rfl⟩
theorem fu_law (c : He.SaysD fa fn K) : ∃ fd, Fun K "law" "law" s_law (He.fAd K d_law.at_) fd ∧ Binds K fd ["_law_script"] [] := by
  obtain ⟨fd, F⟩ := c.def_ 6 (d := d_law) rfl
  exact ⟨fd, fun_of F, FunD.bindsN (ps := ["_law_script"]) F fun _ _ _ _ _ _ us hl => match us, hl with | [_], _ => rfl⟩
theorem fu__law_begun (c : He.SaysD fa fn K) : ∃ fd, Fun K "_law_begun" "_law_begun" s__law_begun (He.fAd K d__law_begun.at_) fd ∧ Binds K fd ["_law_script"] [] := by
  obtain ⟨fd, F⟩ := c.def_ 7 (d := d__law_begun) rfl
  exact ⟨fd, fun_of F, FunD.bindsN (ps := ["_law_script"]) F fun _ _ _ _ _ _ us hl => match us, hl with | [_], _ => rfl⟩
end
theorem ok_law {K : PySem.W.Frag} {h : Heap} (KX : K.In h) (G : h.Ns mainGlobals mg) (c : He.SaysD fa fn K) (e : ex0 K = true) (own : owns.all (Z.ownB P K) = true) (TBs : ∀ p ∈ tf.map (He.cT K), LamX.TabB base mg p.1 p.2) {fd : FuncData} (Fl : Fun K "law" "law" s_law (He.fAd K d_law.at_) fd)
    (run : RunOk) : ∀ (A : Around) (outer : List Env) (s : Shared) (H : Hp) (v : V) (Q : VK) (E : XK) (cdv : Value), A.guards = some [] → fd.code = cdv → Room 4 (A.deeper (envOfC "law" (defScope s_law) s.heap.objs.size (He.fAd K d_law.at_) cdv)) → spLaw (pmOf K cas cxs tf [] 0) [v] H Q E → ∃ t, PSs (cxOf (L2.CX P w) P w K mg base ["_law_script", "_law_draw", "_law_turn", "_law_odd_here", "_law_plain", "_law_named", "_law_told"] "law" (defScope s_law) (He.fAd K d_law.at_) cdv A outer s H E) (defBody s_law) t ∧ t { nx := fun _ H' => Q .non H', rt := Q } (L2.start ["_law_script", "_law_draw", "_law_turn", "_law_odd_here", "_law_plain", "_law_named", "_law_told"] [v]) H := by
  obtain ⟨fd__law_marks, F__law_marks, b__law_marks⟩ := fu__law_marks c
  obtain ⟨fd__law_mixed, F__law_mixed, b__law_mixed⟩ := fu__law_mixed c
  obtain ⟨fd__law_are_apart, F__law_are_apart, b__law_are_apart⟩ := fu__law_are_apart c
  obtain ⟨fd__law_take, F__law_take, b__law_take⟩ := fu__law_take c
  obtain ⟨fd__law_pick, F__law_pick, b__law_pick⟩ := fu__law_pick c
  obtain ⟨fd__law_odd, F__law_odd, b__law_odd⟩ := fu__law_odd c
  obtain ⟨fd__law_begun, F__law_begun, b__law_begun⟩ := fu__law_begun c
  refine fun A outer s H v Q E cdv hgd hcd hr h => ⟨_, pss_cons (ps_set (i := 1) sc_law.nd rfl (.inl rfl) (pe_callS (ok__law_begun (c := cc K [] 0) (base := base) (P := P) (w := w) F__law_begun (He.free_ok KX G (c.fact 36 (f := .free "abs") rfl)) (He.free_ok KX G (c.fact 2 (f := .free "int") rfl))) (hr.mono (by decide)) rfl (He.glo_ok KX G (c.fact 34 (f := .glo "_law_begun") rfl)) F__law_begun.kp b__law_begun (fun σ => passAt (takes_of rfl rfl rfl rfl) σ) (pa_cons (pe_var (i := 0) rfl (.inl rfl) (by decide) (by decide)) pa_nil) (by decide) rfl rfl) rfl (.inl rfl)) (pss_ex3 fun a0 a1 a2 => ?_), frame_ok rfl (by decide) (by decide) h run⟩
  have T : Tx (cc K [a0, a1] a2) mg := tx_mk KX G c e
  have OE_BadDeed : OwnErr (cc K [a0, a1] a2) P mg "BadDeed" "at" := ownErr_of (List.all_eq_true.mp own ("BadDeed", "at") (by simp [owns])) (He.glo_ok KX G (c.fact 8 (f := .glo "BadDeed") rfl)) (He.free_ok KX G (c.fact 35 (f := .free "super") rfl)) (by decide) (by decide)
  have OE_BadText : OwnErr (cc K [a0, a1] a2) P mg "BadText" "row" := ownErr_of (List.all_eq_true.mp own ("BadText", "row") (by simp [owns])) (He.glo_ok KX G (c.fact 9 (f := .glo "BadText") rfl)) (He.free_ok KX G (c.fact 35 (f := .free "super") rfl)) (by decide) (by decide)
  have OE_TooMany : OwnErr (cc K [a0, a1] a2) P mg "TooMany" "limit" := ownErr_of (List.all_eq_true.mp own ("TooMany", "limit") (by simp [owns])) (He.glo_ok KX G (c.fact 18 (f := .glo "TooMany") rfl)) (He.free_ok KX G (c.fact 35 (f := .free "super") rfl)) (by decide) (by decide)
  have O__law_marks := ok__law_marks (c := cc K [a0, a1] a2) (P := P) (w := w) (base := base) F__law_marks T 
  have C__law_marks : Cal (cc K [a0, a1] a2) P w K mg base 1 "_law_marks" ["_law_error"] G__law_marks := ⟨_, fd__law_marks, He.glo_ok KX G (c.fact 27 (f := .glo "_law_marks") rfl), F__law_marks.kp, b__law_marks, O__law_marks⟩
  have O__law_mixed := ok__law_mixed (c := cc K [a0, a1] a2) (P := P) (w := w) (base := base) F__law_mixed T 
  have C__law_mixed : Cal (cc K [a0, a1] a2) P w K mg base 1 "_law_mixed" ["_law_draw"] G__law_mixed := ⟨_, fd__law_mixed, He.glo_ok KX G (c.fact 28 (f := .glo "_law_mixed") rfl), F__law_mixed.kp, b__law_mixed, O__law_mixed⟩
  have O__law_are_apart := ok__law_are_apart (c := cc K [a0, a1] a2) (P := P) (w := w) (base := base) F__law_are_apart T C__law_marks
  have C__law_are_apart : Cal (cc K [a0, a1] a2) P w K mg base 2 "_law_are_apart" ["_law_errors"] G__law_are_apart := ⟨_, fd__law_are_apart, He.glo_ok KX G (c.fact 29 (f := .glo "_law_are_apart") rfl), F__law_are_apart.kp, b__law_are_apart, O__law_are_apart⟩
  have O__law_take := ok__law_take (c := cc K [a0, a1] a2) (P := P) (w := w) (base := base) F__law_take T C__law_mixed
  have C__law_take : Cal (cc K [a0, a1] a2) P w K mg base 2 "_law_take" ["_law_draw", "_law_total"] G__law_take := ⟨_, fd__law_take, He.glo_ok KX G (c.fact 30 (f := .glo "_law_take") rfl), F__law_take.kp, b__law_take, O__law_take⟩
  have O__law_pick := ok__law_pick (c := cc K [a0, a1] a2) (P := P) (w := w) (base := base) F__law_pick T C__law_take
  have C__law_pick : Cal (cc K [a0, a1] a2) P w K mg base 3 "_law_pick" ["_law_draw", "_law_some"] G__law_pick := ⟨_, fd__law_pick, He.glo_ok KX G (c.fact 31 (f := .glo "_law_pick") rfl), F__law_pick.kp, b__law_pick, O__law_pick⟩
  have O__law_odd := ok__law_odd (c := cc K [a0, a1] a2) (P := P) (w := w) (base := base) F__law_odd T C__law_pick
  have C__law_odd : Cal (cc K [a0, a1] a2) P w K mg base 4 "_law_odd" ["_law_draw"] G__law_odd := ⟨_, fd__law_odd, He.glo_ok KX G (c.fact 32 (f := .glo "_law_odd") rfl), F__law_odd.kp, b__law_odd, O__law_odd⟩
  exact rest_law (c := cc K [a0, a1] a2) T C__law_are_apart C__law_marks C__law_odd OE_BadDeed OE_BadText OE_TooMany hcd hgd hr (takes_of rfl rfl rfl rfl)
theorem law_at {K : PySem.W.Frag} {h : Heap} {fl : Addr} (KX : K.In h) (G : h.Ns mainGlobals mg) (hm : mg "law" = some (.ref fl)) (c : He.SaysD fa fn K) (e : ex K = true) (run : RunOk) (hP : P = PySem.W.OpenLaw.prog PySem.Challenge.rw_tradedtails_k01_errors_by_hand) :
    ∃ (fd : FuncData) (N : List Str) (st : Stmt) (z qual : Str), (∀ (s : Shared) (u : Value), BindsTo s fd ⟨[u], []⟩ [("_law_script", u)]) ∧ Fun K z qual st fl fd ∧ FnScope N ["_law_script"] (defScope st) ∧ ∀ base : Heap, K.In base → base.Ns mainGlobals mg → (∀ p ∈ tf.map (He.cT K), LamX.TabB base mg p.1 p.2) → ∀ (A : Around) (outer : List Env) (s : Shared) (H : Hp) (v : V) (Q : VK) (E : XK) (cdv : Value), A.guards = some [] → fd.code = cdv → Room 4 (A.deeper (envOfC qual (defScope st) s.heap.objs.size fl cdv)) → spLaw (pmOf K cas cxs tf [] 0) [v] H Q E → ∃ t, PSs (cxOf (L2.CX P w) P w K mg base N qual (defScope st) fl cdv A outer s H E) (defBody st) t ∧ t { nx := fun _ H' => Q .non H', rt := Q } (L2.start N [v]) H := by
  obtain ⟨fd, F⟩ := c.def_ 6 (d := d_law) rfl
  have e2 := hm.symm.trans (He.glo_ok KX G (c.fact 33 (f := .glo "law") rfl))
  cases e2
  have b := FunD.bindsA (ps := ["_law_script"]) F fun _ _ _ _ _ _ us hl => match us, hl with | [_], _ => rfl
  exact ⟨fd, ["_law_script", "_law_draw", "_law_turn", "_law_odd_here", "_law_plain", "_law_named", "_law_told"], s_law, "law", "law", fun s v => b s [v] rfl, fun_of F, sc_law, fun base _ _ TBs => ok_law (P := P) (w := w) (base := base) KX G c (ba_ e).1 (by subst hP; exact (ba_ e).2) TBs (fun_of F) run⟩
end Qk01
namespace Z
open PySem
@[simp] theorem vl_nil {d : D} : vl d [] = ⟨d, .pl, []⟩ := by unfold vl; split <;> rfl
@[simp] theorem vf_nil {d : D} : vf d [] = ⟨d, .fr, []⟩ := by unfold vf; split <;> rfl
theorem vl_imm {d : D} {t : List Nat} (h : d.imm = true) : vl d t = ⟨d, .pl, []⟩ := by unfold vl; rw [if_pos h]
theorem vf_imm {d : D} {t : List Nat} (h : d.kids = true) : vf d t = ⟨d, .fr, []⟩ := by unfold vf; rw [if_pos h]
theorem vl_int {i : Int} {t : List Nat} : vl (.int i) t = ⟨.int i, .pl, []⟩ := vl_imm rfl
theorem vl_str {i : Str} {t : List Nat} : vl (.str i) t = ⟨.str i, .pl, []⟩ := vl_imm rfl
theorem vl_bl {i : Bool} {t : List Nat} : vl (.bl i) t = ⟨.bl i, .pl, []⟩ := vl_imm rfl
theorem vl_non {t : List Nat} : vl .non t = ⟨.non, .pl, []⟩ := vl_imm rfl
@[simp] theorem frz_nil {ρ : En} : frz ρ [] = ρ := by
  unfold frz
  refine List.ext_getElem? fun i => ?_
  rw [List.getElem?_mapIdx]
  cases h : ρ[i]? with
  | none => rfl
  | some s => cases s <;> simp
theorem frz_one {ρ : En} {i : Nat} {d : D} (h : ρ[i]? = some (.own d)) : frz ρ [i] = ρ.set i (.val d) := by
  unfold frz
  refine List.ext_getElem? fun j => ?_
  rw [List.getElem?_mapIdx]
  by_cases e : i = j
  · subst e
    have hl : i < ρ.length := (List.getElem?_eq_some_iff.mp h).1
    rw [List.getElem?_set_self hl, h]
    simp
  · rw [List.getElem?_set_ne e]
    cases q : ρ[j]? with
    | none => rfl
    | some s =>
      have e' : ¬ j = i := fun z => e z.symm
      cases s <;> simp [e']
theorem nd2 {i j : Nat} : [i, j].Nodup ↔ ¬ i = j := by simp
/-- a turn of a for, an element of a comprehension -/
noncomputable def forOne (fu : Nat) (b : S) (pt : Pat) : D → En → Dr → SOut := fun x ρ W => ofS (bindP pt x ρ) fun ρ' => evS fu b ρ' W
noncomputable def lcOne (el tst : E) (pt : Pat) (own : List Nat) (ρ : En) : D → Dr → Out (Option Vl) := fun x W => ofO (bindP pt x (wip ρ own)) fun ρ' => (evA tst ρ' W).bind fun b W => if b then (ev el ρ' W).bind fun v W => .ok (some v) W else .ok none W
theorem evS_for {fu : Nat} {pt : Pat} {src : E} {b : S} {ρ : En} {W : Dr} : evS fu (.for pt src b) ρ W = (evI src ρ W).st ρ fun p W => forGo (forOne fu b pt) p.xs (frz ρ (p.me ++ p.t)) W := (Eq.refl _).trans rfl
theorem ev_lc {el tst src : E} {pt : Pat} {own : List Nat} {ρ : En} {W : Dr} : ev (.lc el pt src tst own) ρ W = (evI src ρ W).bind fun p W => match p.t with
    | [] => lcGo (lcOne el tst pt own ρ) p.xs [] [] W
    | _ => .stk := by simp only [ev]; rfl
theorem lcOne_nm {el : E} {i : Nat} {own : List Nat} {ρ : En} {x : D} {W : Dr} : lcOne el .nil (.nm i) own ρ x W = (ev el ((wip ρ own).set i (.val x)) W).bind fun v W => .ok (some v) W := by simp [lcOne, bindP, ofO, evA, Out.bind]
theorem lcOne_ok {el : E} {i : Nat} {own : List Nat} {ρ : En} {x : D} {W W' : Dr} {v : Vl} (h : ev el ((wip ρ own).set i (.val x)) W = .ok v W') : lcOne el .nil (.nm i) own ρ x W = .ok (some v) W' := by rw [lcOne_nm, h]; rfl

theorem for_inv {f : D → En → Dr → SOut} (I : Nat → En → Dr → Prop) : ∀ (xs : List D) (k : Nat) {ρ : En} {W : Dr}, I k ρ W →
    (∀ i x ρ W, xs[i]? = some x → I (k + i) ρ W → ∃ ρ' W', (f x ρ W = .nx ρ' W' ∨ f x ρ W = .ct ρ' W') ∧ I (k + i + 1) ρ' W') → ∃ ρ' W', forGo f xs ρ W = .nx ρ' W' ∧ I (k + xs.length) ρ' W'
  | [], k, ρ, W, h0, _ => ⟨ρ, W, rfl, h0⟩
  | x :: xs, k, ρ, W, h0, h => by
    obtain ⟨ρ1, W1, e, h1⟩ := h 0 x ρ W rfl h0
    obtain ⟨ρ2, W2, e2, h2⟩ := for_inv I xs (k + 1) h1 fun i y ρ W hy hi => by
      have := h (i + 1) y ρ W (by simpa using hy) (by rw [show k + (i + 1) = k + 1 + i by omega]; exact hi)
      rw [show k + 1 + i + 1 = k + (i + 1) + 1 by omega]
      exact this
    refine ⟨ρ2, W2, ?_, by rw [List.length_cons, show k + (xs.length + 1) = k + 1 + xs.length by omega]; exact h2⟩
    rcases e with e | e <;> simp only [forGo, e, e2]
/-- a loop whose turns go on -/
theorem for_inv0 {f : D → En → Dr → SOut} {xs : List D} (I : Nat → En → Dr → Prop) {ρ : En} {W : Dr} (h0 : I 0 ρ W)
    (h : ∀ i x ρ W, xs[i]? = some x → I i ρ W → ∃ ρ' W', (f x ρ W = .nx ρ' W' ∨ f x ρ W = .ct ρ' W') ∧ I (i + 1) ρ' W') : ∃ ρ' W', forGo f xs ρ W = .nx ρ' W' ∧ I xs.length ρ' W' := by
  obtain ⟨ρ', W', e, q⟩ := for_inv I xs 0 h0 fun i x ρ W hx hi => by
    rw [Nat.zero_add] at hi ⊢
    exact h i x ρ W hx hi
  rw [Nat.zero_add] at q
  exact ⟨ρ', W', e, q⟩
/-- a while: n turns at most -/
theorem whl_inv {c : En → Dr → Out Bool} {f : En → Dr → SOut} (I : Nat → En → Dr → Prop)
    (h : ∀ n ρ W, I n ρ W → (∃ W', c ρ W = .ok false W' ∧ I 0 ρ W') ∨ ∃ m W', n = m + 1 ∧ c ρ W = .ok true W' ∧ ∃ ρ'' W'', (f ρ W' = .nx ρ'' W'' ∨ f ρ W' = .ct ρ'' W'') ∧ I m ρ'' W'') : ∀ (n fu : Nat) {ρ : En} {W : Dr}, I n ρ W → n < fu → ∃ ρ' W', whlGo c f fu ρ W = .nx ρ' W' ∧ I 0 ρ' W'
  | n, 0, _, _, _, hl => by omega
  | n, fu + 1, ρ, W, h0, hl => by
    rcases h n ρ W h0 with ⟨W', e, q⟩ | ⟨m, W', rfl, e, ρ2, W2, e2, q⟩
    · exact ⟨ρ, W', by simp only [whlGo, e, Out.st]; rfl, q⟩
    · obtain ⟨ρ3, W3, e3, q3⟩ := whl_inv I h m fu q (by omega)
      refine ⟨ρ3, W3, ?_, q3⟩
      rcases e2 with e2 | e2 <;> simp only [whlGo, e, Out.st, if_true, e2, e3]
/-- a comprehension whose elements are got one by one -/
theorem lc_inv {one : D → Dr → Out (Option Vl)} (I : Nat → List D → Dr → Prop) : ∀ (xs : List D) (k : Nat) {acc : List D} {W : Dr}, I k acc W → acc.length + xs.length ≤ cap →
    (∀ i x acc W, xs[i]? = some x → I (k + i) acc W → (∃ W', one x W = .ok none W' ∧ I (k + i + 1) acc W') ∨ ∃ v W', one x W = .ok (some v) W' ∧ v.all = [] ∧ I (k + i + 1) (acc ++ [v.d]) W') → ∃ ys W', lcGo one xs acc [] W = .ok ⟨.lst ys, .fr, []⟩ W' ∧ I (k + xs.length) ys W'
  | [], k, acc, W, h0, _, _ => ⟨acc, W, by simp [lcGo], h0⟩
  | x :: xs, k, acc, W, h0, hl, h => by
    have step : ∀ i y acc W, xs[i]? = some y → I (k + 1 + i) acc W → (∃ W', one y W = .ok none W' ∧ I (k + 1 + i + 1) acc W') ∨ ∃ v W', one y W = .ok (some v) W' ∧ v.all = [] ∧ I (k + 1 + i + 1) (acc ++ [v.d]) W' := fun i y acc W hy hi => by
      have := h (i + 1) y acc W (by simpa using hy) (by rw [show k + (i + 1) = k + 1 + i by omega]; exact hi)
      rw [show k + 1 + i + 1 = k + (i + 1) + 1 by omega]
      exact this
    rw [List.length_cons] at hl
    have el : k + (x :: xs).length = k + 1 + xs.length := by rw [List.length_cons]; omega
    rcases h 0 x acc W rfl h0 with ⟨W1, e, q⟩ | ⟨v, W1, e, hv, q⟩
    · obtain ⟨ys, W2, e2, q2⟩ := lc_inv I xs (k + 1) q (by omega) step
      exact ⟨ys, W2, by simp only [lcGo, e, e2], by rw [el]; exact q2⟩
    · obtain ⟨ys, W2, e2, q2⟩ := lc_inv I xs (k + 1) q (by simp; omega) step
      refine ⟨ys, W2, ?_, by rw [el]; exact q2⟩
      simp only [lcGo, e, hv, List.append_nil]
      rw [if_pos (by omega)]
      exact e2
theorem lc_inv0 {one : D → Dr → Out (Option Vl)} {xs : List D} (I : Nat → List D → Dr → Prop) {W : Dr} (h0 : I 0 [] W) (hl : xs.length ≤ cap)
    (h : ∀ i x acc W, xs[i]? = some x → I i acc W → (∃ W', one x W = .ok none W' ∧ I (i + 1) acc W') ∨ ∃ v W', one x W = .ok (some v) W' ∧ v.all = [] ∧ I (i + 1) (acc ++ [v.d]) W') : ∃ ys W', lcGo one xs [] [] W = .ok ⟨.lst ys, .fr, []⟩ W' ∧ I xs.length ys W' := by
  obtain ⟨ys, W', e, q⟩ := lc_inv I xs 0 h0 (by simpa using hl) fun i x acc W hx hi => by
    rw [Nat.zero_add] at hi ⊢
    exact h i x acc W hx hi
  rw [Nat.zero_add] at q
  exact ⟨ys, W', e, q⟩
/-- a comprehension that draws nothing: a map of a filter -/
theorem lc_map {one : D → Dr → Out (Option Vl)} {g : D → Option D} {W : Dr} : ∀ (xs : List D) {acc : List D}, acc.length + xs.length ≤ cap → (∀ x ∈ xs, ∃ o, one x W = .ok o W ∧ o.map (·.d) = g x ∧ ∀ v, o = some v → v.all = []) →
    lcGo one xs acc [] W = .ok ⟨.lst (acc ++ xs.filterMap g), .fr, []⟩ W
  | [], acc, _, _ => by simp [lcGo]
  | x :: xs, acc, hl, h => by
    obtain ⟨o, e, e2, e3⟩ := h x List.mem_cons_self
    rw [List.length_cons] at hl
    have ih := fun acc' h' => lc_map (one := one) (g := g) (W := W) xs (acc := acc') h' fun y hy => h y (List.mem_cons_of_mem _ hy)
    cases o with
    | none =>
      simp only [lcGo, e]
      rw [ih acc (by omega)]
      simp only [Option.map_none] at e2
      simp [List.filterMap_cons, ← e2]
    | some v =>
      simp only [lcGo, e, e3 v rfl, List.append_nil]
      rw [if_pos (by omega), ih _ (by simp; omega)]
      simp only [Option.map_some] at e2
      simp [List.filterMap_cons, ← e2]
theorem rng_len {n : Nat} : ((List.range n).map fun k : Nat => D.int (k : Int)).length = n := by simp
theorem rng_at {n i : Nat} {x : D} (h : ((List.range n).map fun k : Nat => D.int (k : Int))[i]? = some x) : x = .int i ∧ i < n := by
  rw [List.getElem?_map, Option.map_eq_some_iff] at h
  obtain ⟨j, h1, rfl⟩ := h
  have hi : i < n := by simpa using (List.getElem?_eq_some_iff.mp h1).1
  rw [List.getElem?_range hi] at h1
  cases h1
  exact ⟨rfl, hi⟩
theorem rngD1 {n : Int} (h0 : 0 ≤ n) (h : n < 2 ^ 62) : rngD [.int n] = some ((List.range n.toNat).map fun k : Nat => .int (k : Int)) := by
  simp only [rngD, big_eq]; rw [if_pos ⟨by omega, h⟩]
theorem rngD2 {a b : Int} (h0 : -(2 ^ 62) ≤ a) (h1 : a < 2 ^ 62) (h2 : -(2 ^ 62) ≤ b) (h : b < 2 ^ 62) : rngD [.int a, .int b] = some ((List.range (b - a).toNat).map fun k : Nat => .int (a + k)) := by
  simp only [rngD, big_eq]; rw [if_pos ⟨h0, h1, h2, h⟩]
theorem rngN {n : Nat} (h : n < 2 ^ 40) : rngD [.int n] = some ((List.range n).map fun k : Nat => .int (k : Int)) := by
  have := rngD1 (n := (n : Int)) (by omega) (by omega)
  rwa [Int.toNat_natCast] at this
theorem atD_nat {α : Type} {xs : List α} {i : Nat} (h : i < xs.length) : atD xs (i : Int) = some xs[i] := by
  unfold atD L2.atI L2.ixN
  rw [if_pos (by omega), if_pos (by omega)]
  simp [h]
theorem atD_int {α : Type} {xs : List α} {i : Int} (h0 : 0 ≤ i) (h : i < xs.length) : atD xs i = some (xs[i.toNat]'(by omega)) := by
  obtain ⟨n, rfl⟩ := Int.eq_ofNat_of_zero_le h0
  exact atD_nat (by omega)
theorem atD_mem {α : Type} {xs : List α} {i : Int} (h0 : 0 ≤ i) (h : i < xs.length) : ∃ x ∈ xs, atD xs i = some x ∧ xs[i.toNat]? = some x := by
  rw [atD_int h0 h]
  exact ⟨_, List.getElem_mem _, rfl, List.getElem?_eq_getElem _⟩
theorem ixOf_nat {n i : Nat} (h : i < n) : ixOf n (i : Int) = some i := by
  unfold ixOf L2.ixN
  rw [if_pos (by omega), if_pos (by omega)]
  simp
theorem ixOf_int {n : Nat} {i : Int} (h0 : 0 ≤ i) (h : i < n) : ixOf n i = some i.toNat := by
  obtain ⟨m, rfl⟩ := Int.eq_ofNat_of_zero_le h0
  exact ixOf_nat (by omega)
theorem cut_to {α : Type} {xs : List α} {k : Int} (h : 0 ≤ k) : cutD xs none (some k) = xs.take k.toNat := by
  obtain ⟨n, rfl⟩ := Int.eq_ofNat_of_zero_le h
  unfold cutD
  rw [show ((n : Int)) = ((n : Nat) : Int) from rfl, HT.sIx_nat, HT.sIx_none]
  simp
theorem cut_from {α : Type} {xs : List α} {k : Int} (h : 0 ≤ k) : cutD xs (some k) none = xs.drop k.toNat := by
  obtain ⟨n, rfl⟩ := Int.eq_ofNat_of_zero_le h
  unfold cutD
  rw [HT.sIx_nat, HT.sIx_none, Int.toNat_natCast]
  by_cases q : n ≤ xs.length
  · rw [Nat.min_eq_left q, List.take_of_length_le (by simp)]
  · rw [Nat.min_eq_right (by omega)]
    simp [List.drop_eq_nil_of_le (show xs.length ≤ n by omega)]
theorem imm_strs : ∀ l : List Str, D.immL (l.map .str) = true
  | [] => by simp [D.immL]
  | _ :: l => by simp [D.immL, D.imm, imm_strs l]
theorem immL_iff : ∀ l : List D, D.immL l = true ↔ ∀ x ∈ l, x.imm = true
  | [] => by simp [D.immL]
  | x :: l => by simp [D.immL, immL_iff l]
def Pd (n : Nat) (x : D) : Prop := ∃ p, D.pyN n x = some p
theorem pyNL_of {n : Nat} : ∀ {xs : List D}, (∀ x ∈ xs, Pd n x) → ∃ ps, D.pyNL n xs = some ps ∧ ps.length = xs.length
  | [], _ => ⟨[], by simp [D.pyNL], rfl⟩
  | x :: xs, h => by
    obtain ⟨p, hp⟩ := h x List.mem_cons_self
    obtain ⟨ps, h1, h2⟩ := pyNL_of fun y hy => h y (List.mem_cons_of_mem _ hy)
    exact ⟨p :: ps, by simp [D.pyNL, hp, h1], by simp [h2]⟩
theorem eq_nil {xs : List D} (h : ∀ x ∈ xs, Pd 11 x) : D.eq (.lst xs) (.lst []) = some xs.isEmpty := by
  obtain ⟨ps, h1, h2⟩ := pyNL_of h
  simp only [D.eq, D.pd, D.pyN, h1, Option.map_some, D.pyNL]
  cases xs with
  | nil =>
    simp only [List.length_nil, List.length_eq_zero_iff] at h2
    subst h2
    rfl
  | cons x xs =>
    cases ps with
    | nil => simp at h2
    | cons p ps => rfl
theorem pd_str {n : Nat} {s : Str} : Pd n (.str s) := by cases n <;> exact ⟨_, by simp only [D.pyN]; rfl⟩
theorem pd_int {n : Nat} {s : Int} : Pd n (.int s) := by cases n <;> exact ⟨_, by simp only [D.pyN]; rfl⟩
theorem pd_bl {n : Nat} {s : Bool} : Pd n (.bl s) := by cases n <;> exact ⟨_, by simp only [D.pyN]; rfl⟩
theorem pd_non {n : Nat} : Pd n .non := by cases n <;> exact ⟨_, by simp only [D.pyN]; rfl⟩
theorem pd_tup {n : Nat} {xs : List D} (h : ∀ x ∈ xs, Pd n x) : Pd (n + 1) (.tup xs) := by
  obtain ⟨ps, h1, _⟩ := pyNL_of h
  exact ⟨_, by simp only [D.pyN, h1, Option.map_some]; rfl⟩
theorem pd_lst {n : Nat} {xs : List D} (h : ∀ x ∈ xs, Pd n x) : Pd (n + 1) (.lst xs) := by
  obtain ⟨ps, h1, _⟩ := pyNL_of h
  exact ⟨_, by simp only [D.pyN, h1, Option.map_some]; rfl⟩
/-- the names' places are told by what is behind -/
theorem for_pre {α : Type} (dec : α → D) (enc : List α → En) {f : D → En → Dr → SOut} {W : Dr} : ∀ {r p : List α}, (∀ q x r', p ++ r = q ++ x :: r' → p.length ≤ q.length → f (dec x) (enc q) W = .nx (enc (q ++ [x])) W ∨ f (dec x) (enc q) W = .ct (enc (q ++ [x])) W) →
    forGo f (r.map dec) (enc p) W = .nx (enc (p ++ r)) W
  | [], p, _ => by simp [forGo]
  | x :: r, p, h => by
    have e := h p x r rfl (Nat.le_refl _)
    have ih := for_pre dec enc (r := r) (p := p ++ [x]) fun q y r' e1 e2 => h q y r' (by simpa using e1) (by simp at e2; omega)
    rw [List.map_cons]
    rcases e with e | e <;> simp only [forGo, e, ih, List.append_assoc, List.singleton_append]
theorem for_pre0 {α : Type} (dec : α → D) (enc : List α → En) {f : D → En → Dr → SOut} {W : Dr} {xs : List α} (h : ∀ q x r, xs = q ++ x :: r → f (dec x) (enc q) W = .nx (enc (q ++ [x])) W ∨ f (dec x) (enc q) W = .ct (enc (q ++ [x])) W) :
    forGo f (xs.map dec) (enc []) W = .nx (enc xs) W := by
  have := for_pre dec enc (f := f) (W := W) (r := xs) (p := []) fun q x r e _ => h q x r (by simpa using e)
  simpa using this
/-- a loop that may return: the first x with P x -/
theorem for_ret {α : Type} (dec : α → D) (enc : List α → En) (P : α → Bool) (v : α → Vl) {f : D → En → Dr → SOut} {W : Dr} {xs : List α} (h : ∀ q x r, xs = q ++ x :: r → q.all (fun y => !P y) = true → if P x = true then ∃ ρ', f (dec x) (enc q) W = .rt (v x) ρ' W else f (dec x) (enc q) W = .nx (enc (q ++ [x])) W) :
    match xs.find? P with
    | some x => ∃ ρ', forGo f (xs.map dec) (enc []) W = .rt (v x) ρ' W
    | none => forGo f (xs.map dec) (enc []) W = .nx (enc xs) W := by
  suffices H : ∀ (r p : List α), xs = p ++ r → p.all (fun y => !P y) = true → match r.find? P with
    | some x => ∃ ρ', forGo f (r.map dec) (enc p) W = .rt (v x) ρ' W
    | none => forGo f (r.map dec) (enc p) W = .nx (enc (p ++ r)) W from by
      have := H xs [] rfl rfl
      simpa using this
  intro r
  induction r with
  | nil => intro p _ _; simp [forGo]
  | cons x r ih =>
    intro p e hp
    have hx := h p x r e hp
    by_cases hP : P x = true
    · rw [if_pos hP] at hx
      obtain ⟨ρ', hx⟩ := hx
      rw [List.find?_cons_of_pos hP]
      exact ⟨ρ', by simp only [List.map_cons, forGo, hx]⟩
    · rw [if_neg hP] at hx
      have hP' : P x = false := by simpa using hP
      rw [List.find?_cons_of_neg hP]
      have := ih (p ++ [x]) (by simp [e]) (by simp only [List.all_append, hp, List.all_cons, hP', List.all_nil]; rfl)
      simp only [List.map_cons, forGo, hx]
      simpa using this
theorem lc_dec {α : Type} (dec : α → D) (g : α → Option D) {one : D → Dr → Out (Option Vl)} {W : Dr} {xs : List α} (hl : xs.length ≤ cap) (h : ∀ x ∈ xs, ∃ o, one (dec x) W = .ok o W ∧ o.map (·.d) = g x ∧ ∀ v, o = some v → v.all = []) :
    lcGo one (xs.map dec) [] [] W = .ok ⟨.lst (xs.filterMap g), .fr, []⟩ W := by
  suffices H : ∀ (ys : List α) {acc : List D}, acc.length + ys.length ≤ cap → (∀ x ∈ ys, x ∈ xs) → lcGo one (ys.map dec) acc [] W = .ok ⟨.lst (acc ++ ys.filterMap g), .fr, []⟩ W from by
    have := H xs (acc := []) (by simpa using hl) fun _ h => h
    simpa using this
  intro ys
  induction ys with
  | nil => intro acc _ _; simp [lcGo]
  | cons x ys ih =>
    intro acc hl2 hs
    obtain ⟨o, e, e2, e3⟩ := h x (hs x List.mem_cons_self)
    rw [List.length_cons] at hl2
    cases o with
    | none =>
      simp only [List.map_cons, lcGo, e]
      rw [ih (by omega) fun y hy => hs y (List.mem_cons_of_mem _ hy)]
      simp only [Option.map_none] at e2
      simp [List.filterMap_cons, ← e2]
    | some v =>
      simp only [List.map_cons, lcGo, e, e3 v rfl, List.append_nil]
      rw [if_pos (by omega), ih (by simp; omega) fun y hy => hs y (List.mem_cons_of_mem _ hy)]
      simp only [Option.map_some] at e2
      simp [List.filterMap_cons, ← e2]
/-- [dec x for x in xs if p x] -/
theorem lc_filter {α : Type} (dec : α → D) (p : α → Bool) {one : D → Dr → Out (Option Vl)} {W : Dr} {xs : List α} (hl : xs.length ≤ cap) (h : ∀ x ∈ xs, ∃ v, one (dec x) W = .ok (if p x = true then some v else none) W ∧ v.d = dec x ∧ v.all = []) :
    lcGo one (xs.map dec) [] [] W = .ok ⟨.lst ((xs.filter p).map dec), .fr, []⟩ W := by
  rw [lc_dec dec (fun x => if p x = true then some (dec x) else none) hl fun x hx => ?_]
  · congr 3
    clear h hl
    induction xs with
    | nil => rfl
    | cons x xs ih =>
      by_cases q : p x = true
      · simp [q, ih]
      · simp [q, ih]
  · obtain ⟨v, e, e2, e3⟩ := h x hx
    refine ⟨_, e, ?_, fun w hw => ?_⟩
    · split
      · simp [e2]
      · rfl
    · split at hw
      · cases hw; exact e3
      · cases hw
/-- [f x for x in xs] -/
theorem lc_each {α : Type} (dec : α → D) (g : α → D) {one : D → Dr → Out (Option Vl)} {W : Dr} {xs : List α} (hl : xs.length ≤ cap) (h : ∀ x ∈ xs, ∃ v, one (dec x) W = .ok (some v) W ∧ v.d = g x ∧ v.all = []) :
    lcGo one (xs.map dec) [] [] W = .ok ⟨.lst (xs.map g), .fr, []⟩ W := by
  rw [lc_dec dec (fun x => some (g x)) hl fun x hx => ?_]
  · simp
  · obtain ⟨v, e, e2, e3⟩ := h x hx
    exact ⟨_, e, by simp [e2], fun w hw => by cases hw; exact e3⟩
end Z

namespace Z
open PySem
/-- the draws' state behind at most T of them -/
structure Wd (T : Nat) (W : Dr) : Prop where
  t0 : 0 ≤ W.turn
  t1 : W.turn ≤ (T : Int)
  rs : 0 ≤ W.rest
  wd : ∀ x ∈ W.wide, 0 ≤ x
  cl : ∀ x ∈ W.cells, 0 ≤ x ∧ x < 2147483629
theorem Wd.mono {T T' : Nat} {W : Dr} (h : Wd T W) (l : T ≤ T') : Wd T' W := ⟨h.t0, by have := h.t1; omega, h.rs, h.wd, h.cl⟩
theorem wd0 (ns : List Int) : Wd 0 (dr0 ns) := by
  refine ⟨Int.le_refl _, Int.le_refl _, Int.le_refl _, fun x hx => ?_, fun x hx => ?_⟩
  · obtain ⟨i, _, e⟩ := List.mem_filterMap.mp (show x ∈ wideOf ns from hx)
    split at e <;> cases e
    omega
  · obtain ⟨i, _, e⟩ := List.mem_map.mp (show x ∈ cellsOf ns from hx)
    subst e
    omega
theorem pow_small {b : Int} (h0 : 0 ≤ b) (h : b < 2 ^ 60) : b.natAbs < 2 ^ 64 := by omega
theorem mixed1 {t f p c b : Int} {s5 : Sl} {W : Dr} (hp : 0 < p) : evS 1000000 B__law_mixed_1 ([.val .drw, .val (.int t), .val (.int f), .val (.int p), .val (.int b), s5].set 5 (.val (.int c))) W = .nx [.val .drw, .val (.int t), .val (.int f), .val (.int p), .val (.int ((b * 48271 + c + t) % p)), .val (.int c)] W := by
  unfold B__law_mixed_1
  simp [wip, SOut.wp, vl_int, vl_str, vl_bl, vl_non, nd2, Nat.reduceLeDiff, Nat.reduceEqDiff, not_false_eq_true, and_self, and_true, true_and, putAll, big_eq, ↓evS_for, ↓ev_lc, evS, evT, evA, ev, evL, evO, evI, Out.bind, Out.st, ofS, ofO, D.isBl, vo, put, Vl.isFr, Vl.all, biD, ds, ts, sets, List.flatMap_cons, List.flatMap_nil, List.map_cons, List.map_nil, List.append_nil, List.nil_append, vl_nil, vf_nil, frz_nil, List.getElem?_cons_zero, List.getElem?_cons_succ, List.set_cons_zero, List.set_cons_succ, Bool.false_eq_true, if_false, if_true, reduceIte, List.length_cons, List.length_nil, Nat.reduceAdd, Nat.reduceSub, List.replicate, List.cons_append, List.replicate_succ, List.replicate_zero, Option.map_some, Option.map_none, Bool.not_true, Bool.not_false, List.singleton_append, binD, intD, hp]
theorem mixed2 {t f p : Int} {s3 s4 s5 : Sl} {W : Dr} (hp : 0 < p) (hp2 : p ≤ 2147483629) (hf : 0 ≤ f) (ht : 0 ≤ t) (ht2 : t ≤ 2 ^ 41) :
    ∃ f' s4' s5', 0 ≤ f' ∧ evS 1000000 B__law_mixed_2 ([.val .drw, .val (.int t), .val (.int f), s3, s4, s5].set 3 (.val (.int p))) W = .nx [.val .drw, .val (.int t), .val (.int f'), .val (.int p), s4', s5'] W := by
  obtain ⟨ρ', W', e, b', s5', rfl, e2, h1, h2⟩ := for_inv0 (f := forOne 1000000 B__law_mixed_1 (.nm 5)) (xs := W.cells.map .int) (ρ := [.val .drw, .val (.int t), .val (.int f), .val (.int p), .val (.int (57731 * t + p / 29)), s5]) (W := W)
    (I := fun _ ρ V => ∃ b s5, ρ = [.val .drw, .val (.int t), .val (.int f), .val (.int p), .val (.int b), s5] ∧ V = W ∧ 0 ≤ b ∧ b < 2 ^ 60) ⟨_, _, rfl, rfl, by omega, by omega⟩ (fun i x ρ V hx ⟨b, s5, e1, e2, h1, h2⟩ => by
      subst e1 e2
      rw [List.getElem?_map, Option.map_eq_some_iff] at hx
      obtain ⟨c, hc, rfl⟩ := hx
      refine ⟨_, _, .inl (mixed1 hp), _, _, rfl, rfl, ?_⟩
      have := Int.emod_nonneg (b * 48271 + c + t) (b := p) (by omega)
      have := Int.emod_lt_of_pos (b * 48271 + c + t) hp
      omega)
  subst e2
  have hb : b'.natAbs < 2 ^ 64 := pow_small h1 h2
  have hq : (0 : Int) ≤ b' ^ 5 % p := Int.emod_nonneg _ (by omega)
  refine ⟨f * 2147483647 + b' ^ 5 % p, .val (.int b'), s5', by omega, ?_⟩
  unfold B__law_mixed_2
  simp [wip, SOut.wp, vl_int, vl_str, vl_bl, vl_non, nd2, Nat.reduceLeDiff, Nat.reduceEqDiff, not_false_eq_true, and_self, and_true, true_and, putAll, big_eq, ↓evS_for, ↓ev_lc, evS, evT, evA, ev, evL, evO, evI, Out.bind, Out.st, ofS, ofO, D.isBl, vo, put, Vl.isFr, Vl.all, biD, ds, ts, sets, List.flatMap_cons, List.flatMap_nil, List.map_cons, List.map_nil, List.append_nil, List.nil_append, vl_nil, vf_nil, frz_nil, List.getElem?_cons_zero, List.getElem?_cons_succ, List.set_cons_zero, List.set_cons_succ, Bool.false_eq_true, if_false, if_true, reduceIte, List.length_cons, List.length_nil, Nat.reduceAdd, Nat.reduceSub, List.replicate, List.cons_append, List.replicate_succ, List.replicate_zero, Option.map_some, Option.map_none, Bool.not_true, Bool.not_false, List.singleton_append, binD, intD, D.items, e, hp, hb]
theorem mixed_ok {T : Nat} {W : Dr} (h : Wd T W) (hT : T ≤ 1099511627776) : ∃ r, 0 ≤ r ∧ G__law_mixed [.drw] W = .ok (false, .int r) { W with turn := W.turn + 1 } := by
  have ht := h.t0; have ht1 := h.t1
  obtain ⟨ρ', W', e, f', s3, s4, s5, rfl, e2, h1⟩ := for_inv0 (f := forOne 1000000 B__law_mixed_2 (.nm 3)) (xs := [.int 2147483629, .int 2147483587, .int 2147483579, .int 2147483563]) (ρ := [.val .drw, .val (.int (W.turn + 1)), .val (.int 0), .un, .un, .un]) (W := { W with turn := W.turn + 1 })
    (I := fun _ ρ V => ∃ f s3 s4 s5, ρ = [.val .drw, .val (.int (W.turn + 1)), .val (.int f), s3, s4, s5] ∧ V = { W with turn := W.turn + 1 } ∧ 0 ≤ f) ⟨0, _, _, _, rfl, rfl, by omega⟩ (fun i x ρ V hx ⟨f, s3, s4, s5, e1, e2, h1⟩ => by
      subst e1 e2
      obtain ⟨p, rfl, hp, hp2⟩ : ∃ p, x = .int p ∧ 0 < p ∧ p ≤ 2147483629 := by
        have := List.mem_of_getElem? hx
        simp only [List.mem_cons, List.not_mem_nil, or_false] at this
        rcases this with rfl | rfl | rfl | rfl <;> exact ⟨_, rfl, by omega, by omega⟩
      obtain ⟨f', s4', s5', hf', e⟩ := mixed2 (s3 := s3) (s4 := s4) (s5 := s5) (W := { W with turn := W.turn + 1 }) hp hp2 h1 (t := W.turn + 1) (by omega) (by omega)
      exact ⟨_, _, .inl e, f', _, s4', s5', rfl, rfl, hf'⟩)
  subst e2
  refine ⟨f', h1, ?_⟩
  unfold G__law_mixed Z.run B__law_mixed
  simp [wip, SOut.wp, vl_int, vl_str, vl_bl, vl_non, nd2, Nat.reduceLeDiff, Nat.reduceEqDiff, not_false_eq_true, and_self, and_true, true_and, putAll, big_eq, ↓evS_for, ↓ev_lc, evS, evT, evA, ev, evL, evO, evI, Out.bind, Out.st, ofS, ofO, D.isBl, vo, put, Vl.isFr, Vl.all, biD, ds, ts, sets, List.flatMap_cons, List.flatMap_nil, List.map_cons, List.map_nil, List.append_nil, List.nil_append, vl_nil, vf_nil, frz_nil, List.getElem?_cons_zero, List.getElem?_cons_succ, List.set_cons_zero, List.set_cons_succ, Bool.false_eq_true, if_false, if_true, reduceIte, List.length_cons, List.length_nil, Nat.reduceAdd, Nat.reduceSub, List.replicate, List.cons_append, List.replicate_succ, List.replicate_zero, Option.map_some, Option.map_none, Bool.not_true, Bool.not_false, List.singleton_append, binD, putAll, D.items, e, cap]
theorem take_ok {T : Nat} {n : Int} {W : Dr} (h : Wd T W) (hT : T ≤ 1099511627776) (hn : 0 < n) (hn2 : n < 1073741824) : ∃ r W', 0 ≤ r ∧ r < n ∧ Wd (T + 1) W' ∧ G__law_take [.drw, .int n] W = .ok (false, .int r) W' := by
  have ht := h.t0; have ht1 := h.t1; have hr := h.rs
  have key : ∀ (W1 : Dr), Wd (T + 1) W1 → G__law_take [.drw, .int n] W = .ok (false, .int (W1.rest % n)) { W1 with rest := W1.rest / n } → ∃ r W', 0 ≤ r ∧ r < n ∧ Wd (T + 1) W' ∧ G__law_take [.drw, .int n] W = .ok (false, .int r) W' := fun W1 h1 e =>
    ⟨W1.rest % n, { W1 with rest := W1.rest / n }, Int.emod_nonneg _ (by omega), Int.emod_lt_of_pos _ hn, ⟨h1.t0, h1.t1, Int.ediv_nonneg h1.rs (by omega), h1.wd, h1.cl⟩, e⟩
  by_cases h0 : W.rest = 0
  · cases hw : W.wide with
    | nil =>
      obtain ⟨r, h1, e⟩ := mixed_ok h hT
      refine key { W with turn := W.turn + 1, rest := r } ⟨by simp only; omega, by simp only; omega, h1, h.wd, h.cl⟩ ?_
      unfold G__law_take Z.run B__law_take
      simp [wip, SOut.wp, vl_int, vl_str, vl_bl, vl_non, nd2, Nat.reduceLeDiff, Nat.reduceEqDiff, not_false_eq_true, and_self, and_true, true_and, putAll, big_eq, ↓evS_for, ↓ev_lc, evS, evT, evA, ev, evL, evO, evI, Out.bind, Out.st, ofS, ofO, D.isBl, vo, put, Vl.isFr, Vl.all, biD, ds, ts, sets, List.flatMap_cons, List.flatMap_nil, List.map_cons, List.map_nil, List.append_nil, List.nil_append, vl_nil, vf_nil, frz_nil, List.getElem?_cons_zero, List.getElem?_cons_succ, List.set_cons_zero, List.set_cons_succ, Bool.false_eq_true, if_false, if_true, reduceIte, List.length_cons, List.length_nil, Nat.reduceAdd, Nat.reduceSub, List.replicate, List.cons_append, List.replicate_succ, List.replicate_zero, Option.map_some, Option.map_none, Bool.not_true, Bool.not_false, List.singleton_append, cmpD, D.eq, D.pyN, PyData.eqv, binD, intD, h0, hw, e, hn, hn2]
    | cons w ws =>
      refine key { W with wide := ws, rest := w } ⟨ht, by simp only; omega, h.wd w (by rw [hw]; simp), fun x hx => h.wd x (by rw [hw]; exact List.mem_cons_of_mem _ hx), h.cl⟩ ?_
      unfold G__law_take Z.run B__law_take
      simp [wip, SOut.wp, vl_int, vl_str, vl_bl, vl_non, nd2, Nat.reduceLeDiff, Nat.reduceEqDiff, not_false_eq_true, and_self, and_true, true_and, putAll, big_eq, ↓evS_for, ↓ev_lc, evS, evT, evA, ev, evL, evO, evI, Out.bind, Out.st, ofS, ofO, D.isBl, vo, put, Vl.isFr, Vl.all, biD, ds, ts, sets, List.flatMap_cons, List.flatMap_nil, List.map_cons, List.map_nil, List.append_nil, List.nil_append, vl_nil, vf_nil, frz_nil, List.getElem?_cons_zero, List.getElem?_cons_succ, List.set_cons_zero, List.set_cons_succ, Bool.false_eq_true, if_false, if_true, reduceIte, List.length_cons, List.length_nil, Nat.reduceAdd, Nat.reduceSub, List.replicate, List.cons_append, List.replicate_succ, List.replicate_zero, Option.map_some, Option.map_none, Bool.not_true, Bool.not_false, List.singleton_append, cmpD, D.eq, D.pyN, PyData.eqv, binD, intD, h0, hw, hn, hn2]
  · refine key W (h.mono (by omega)) ?_
    unfold G__law_take Z.run B__law_take
    simp [wip, SOut.wp, vl_int, vl_str, vl_bl, vl_non, nd2, Nat.reduceLeDiff, Nat.reduceEqDiff, not_false_eq_true, and_self, and_true, true_and, putAll, big_eq, ↓evS_for, ↓ev_lc, evS, evT, evA, ev, evL, evO, evI, Out.bind, Out.st, ofS, ofO, D.isBl, vo, put, Vl.isFr, Vl.all, biD, ds, ts, sets, List.flatMap_cons, List.flatMap_nil, List.map_cons, List.map_nil, List.append_nil, List.nil_append, vl_nil, vf_nil, frz_nil, List.getElem?_cons_zero, List.getElem?_cons_succ, List.set_cons_zero, List.set_cons_succ, Bool.false_eq_true, if_false, if_true, reduceIte, List.length_cons, List.length_nil, Nat.reduceAdd, Nat.reduceSub, List.replicate, List.cons_append, List.replicate_succ, List.replicate_zero, Option.map_some, Option.map_none, Bool.not_true, Bool.not_false, List.singleton_append, cmpD, D.eq, D.pyN, PyData.eqv, binD, intD, h0, hn, hn2]
theorem pick_ok {T : Nat} {xs : List D} {W : Dr} (h : Wd T W) (hT : T ≤ 1099511627776) (hn : xs ≠ []) (hn2 : xs.length < 1073741824) : ∃ x W', x ∈ xs ∧ Wd (T + 1) W' ∧ G__law_pick [.drw, .lst xs] W = .ok (false, x) W' := by
  have hl : 0 < xs.length := List.length_pos_iff.mpr hn
  obtain ⟨r, W', h1, h2, h3, e⟩ := take_ok (n := (xs.length : Int)) h hT (by omega) (by omega)
  obtain ⟨x, hx, e2, _⟩ := atD_mem (xs := xs) h1 h2
  refine ⟨x, W', hx, h3, ?_⟩
  unfold G__law_pick Z.run B__law_pick
  simp [wip, SOut.wp, vl_int, vl_str, vl_bl, vl_non, nd2, Nat.reduceLeDiff, Nat.reduceEqDiff, not_false_eq_true, and_self, and_true, true_and, putAll, big_eq, ↓evS_for, ↓ev_lc, evS, evT, evA, ev, evL, evO, evI, Out.bind, Out.st, ofS, ofO, D.isBl, vo, put, Vl.isFr, Vl.all, biD, ds, ts, sets, List.flatMap_cons, List.flatMap_nil, List.map_cons, List.map_nil, List.append_nil, List.nil_append, vl_nil, vf_nil, frz_nil, List.getElem?_cons_zero, List.getElem?_cons_succ, List.set_cons_zero, List.set_cons_succ, Bool.false_eq_true, if_false, if_true, reduceIte, List.length_cons, List.length_nil, Nat.reduceAdd, Nat.reduceSub, List.replicate, List.cons_append, List.replicate_succ, List.replicate_zero, Option.map_some, Option.map_none, Bool.not_true, Bool.not_false, List.singleton_append, lenD, ixD, e, e2]
theorem pickT_ok {T : Nat} {xs : List D} {W : Dr} (h : Wd T W) (hT : T ≤ 1099511627776) (hn : xs ≠ []) (hn2 : xs.length < 1073741824) : ∃ x W', x ∈ xs ∧ Wd (T + 1) W' ∧ G__law_pick [.drw, .tup xs] W = .ok (false, x) W' := by
  have hl : 0 < xs.length := List.length_pos_iff.mpr hn
  obtain ⟨r, W', h1, h2, h3, e⟩ := take_ok (n := (xs.length : Int)) h hT (by omega) (by omega)
  obtain ⟨x, hx, e2, _⟩ := atD_mem (xs := xs) h1 h2
  refine ⟨x, W', hx, h3, ?_⟩
  unfold G__law_pick Z.run B__law_pick
  simp [wip, SOut.wp, vl_int, vl_str, vl_bl, vl_non, nd2, Nat.reduceLeDiff, Nat.reduceEqDiff, not_false_eq_true, and_self, and_true, true_and, putAll, big_eq, ↓evS_for, ↓ev_lc, evS, evT, evA, ev, evL, evO, evI, Out.bind, Out.st, ofS, ofO, D.isBl, vo, put, Vl.isFr, Vl.all, biD, ds, ts, sets, List.flatMap_cons, List.flatMap_nil, List.map_cons, List.map_nil, List.append_nil, List.nil_append, vl_nil, vf_nil, frz_nil, List.getElem?_cons_zero, List.getElem?_cons_succ, List.set_cons_zero, List.set_cons_succ, Bool.false_eq_true, if_false, if_true, reduceIte, List.length_cons, List.length_nil, Nat.reduceAdd, Nat.reduceSub, List.replicate, List.cons_append, List.replicate_succ, List.replicate_zero, Option.map_some, Option.map_none, Bool.not_true, Bool.not_false, List.singleton_append, lenD, ixD, e, e2]
theorem perm_erase {α : Type} : ∀ (l : List α) {i : Nat} (h : i < l.length), (l[i] :: l.eraseIdx i).Perm l
  | [], i, h => by simp at h
  | x :: l, 0, h => by simp
  | x :: l, i + 1, h => by
    have h' : i < l.length := by simpa using h
    simp only [List.getElem_cons_succ, List.eraseIdx_cons_succ]
    exact (List.Perm.swap x l[i] (l.eraseIdx i)).trans ((perm_erase l h').cons x)
/-- some things in another order -/
theorem shuffled_ok {T : Nat} {xs : List D} {W : Dr} (h : Wd T W) (hT : T + xs.length ≤ 1099511627776) (hp : ∀ x ∈ xs, Pd 11 x) (hl : xs.length < 999999) : ∃ ys W', ys.Perm xs ∧ Wd (T + xs.length) W' ∧ G__law_shuffled [.drw, .lst xs] W = .ok (true, .lst ys) W' := by
  obtain ⟨ρ', W', e, left, found, rfl, hn, hperm, hw⟩ := whl_inv (c := evT T__law_shuffled_1) (f := evS 1000000 B__law_shuffled_2)
    (fun n ρ V => ∃ left found, ρ = [.val .drw, .val (.lst xs), .own (.lst left), .own (.lst found)] ∧ left.length = n ∧ (left ++ found).Perm xs ∧ Wd (T + (xs.length - n)) V) (fun n ρ V ⟨left, found, e1, e2, e3, e4⟩ => by
      subst e1
      have hpl : ∀ x ∈ left, Pd 11 x := fun x hx => hp x (e3.subset (List.mem_append_left _ hx))
      have hlen : left.length + found.length = xs.length := by rw [← e3.length_eq, List.length_append]
      have hc : evT T__law_shuffled_1 [.val .drw, .val (.lst xs), .own (.lst left), .own (.lst found)] V = .ok (!left.isEmpty) V := by
        simp [T__law_shuffled_1, wip, SOut.wp, vl_int, vl_str, vl_bl, vl_non, nd2, Nat.reduceLeDiff, Nat.reduceEqDiff, not_false_eq_true, and_self, and_true, true_and, putAll, big_eq, ↓evS_for, ↓ev_lc, evS, evT, evA, ev, evL, evO, evI, Out.bind, Out.st, ofS, ofO, D.isBl, vo, put, Vl.isFr, Vl.all, biD, ds, ts, sets, List.flatMap_cons, List.flatMap_nil, List.map_cons, List.map_nil, List.append_nil, List.nil_append, vl_nil, vf_nil, frz_nil, List.getElem?_cons_zero, List.getElem?_cons_succ, List.set_cons_zero, List.set_cons_succ, Bool.false_eq_true, if_false, if_true, reduceIte, List.length_cons, List.length_nil, Nat.reduceAdd, Nat.reduceSub, List.replicate, List.cons_append, List.replicate_succ, List.replicate_zero, Option.map_some, Option.map_none, Bool.not_true, Bool.not_false, List.singleton_append, cmpD, eq_nil hpl]
      cases left with
      | nil =>
        refine .inl ⟨V, hc, [], found, rfl, rfl, e3, ?_⟩
        simp only [List.length_nil] at e2
        rw [← e2] at e4
        exact e4
      | cons y0 l0 =>
        generalize hL : y0 :: l0 = left at *
        have h0 : 0 < left.length := by rw [← hL]; simp
        refine .inr ⟨n - 1, V, by omega, by rw [hc, ← hL]; rfl, ?_⟩
        obtain ⟨r, W', h1, h2, h3, e⟩ := take_ok (n := (left.length : Int)) e4 (by omega) (by omega) (by omega)
        have hr : r.toNat < left.length := by omega
        refine ⟨[.val .drw, .val (.lst xs), .own (.lst (left.eraseIdx r.toNat)), .own (.lst (found ++ [left[r.toNat]]))], W', .inl ?_, _, _, rfl, ?_, ?_, ?_⟩
        · unfold B__law_shuffled_2
          have hcap : found.length < cap := by unfold cap; omega
          have hb : -9223372036854775808 ≤ r ∧ r < 9223372036854775808 := ⟨by omega, by omega⟩
          simp [wip, SOut.wp, vl_int, vl_str, vl_bl, vl_non, nd2, Nat.reduceLeDiff, Nat.reduceEqDiff, not_false_eq_true, and_self, and_true, true_and, putAll, big_eq, ↓evS_for, ↓ev_lc, evS, evT, evA, ev, evL, evO, evI, Out.bind, Out.st, ofS, ofO, D.isBl, vo, put, Vl.isFr, Vl.all, biD, ds, ts, sets, List.flatMap_cons, List.flatMap_nil, List.map_cons, List.map_nil, List.append_nil, List.nil_append, vl_nil, vf_nil, frz_nil, List.getElem?_cons_zero, List.getElem?_cons_succ, List.set_cons_zero, List.set_cons_succ, Bool.false_eq_true, if_false, if_true, reduceIte, List.length_cons, List.length_nil, Nat.reduceAdd, Nat.reduceSub, List.replicate, List.cons_append, List.replicate_succ, List.replicate_zero, Option.map_some, Option.map_none, Bool.not_true, Bool.not_false, List.singleton_append, lenD, e, popD, ixOf_int h1 h2, List.getElem?_eq_getElem hr, hcap, hb]
        · rw [List.length_eraseIdx_of_lt hr]; omega
        · refine List.Perm.trans ?_ e3
          refine (List.perm_append_comm (l₁ := left.eraseIdx r.toNat)).trans ?_
          rw [List.append_assoc]
          refine (List.perm_append_comm (l₁ := found)).trans ?_
          refine List.Perm.append_right found ?_
          exact perm_erase _ hr
        · exact h3.mono (by omega))
    xs.length 1000000 (ρ := [.val .drw, .val (.lst xs), .own (.lst xs), .own (.lst [])]) (W := W) ⟨xs, [], rfl, rfl, by rw [List.append_nil], h.mono (by omega)⟩ (by omega)
  have : left = [] := List.length_eq_zero_iff.mp hn
  subst this
  refine ⟨found, W', hperm, hw.mono (by omega), ?_⟩
  unfold G__law_shuffled Z.run B__law_shuffled
  simp [wip, SOut.wp, vl_int, vl_str, vl_bl, vl_non, nd2, Nat.reduceLeDiff, Nat.reduceEqDiff, not_false_eq_true, and_self, and_true, true_and, putAll, big_eq, ↓evS_for, ↓ev_lc, evS, evT, evA, ev, evL, evO, evI, Out.bind, Out.st, ofS, ofO, D.isBl, vo, put, Vl.isFr, Vl.all, biD, ds, ts, sets, List.flatMap_cons, List.flatMap_nil, List.map_cons, List.map_nil, List.append_nil, List.nil_append, vl_nil, vf_nil, frz_nil, List.getElem?_cons_zero, List.getElem?_cons_succ, List.set_cons_zero, List.set_cons_succ, Bool.false_eq_true, if_false, if_true, reduceIte, List.length_cons, List.length_nil, Nat.reduceAdd, Nat.reduceSub, List.replicate, List.cons_append, List.replicate_succ, List.replicate_zero, Option.map_some, Option.map_none, Bool.not_true, Bool.not_false, List.singleton_append, listD, putAll, cap, e]
def hues0 : List Str := ["a", "b", "c", "x", "ab", "ba", "zz", "zzzz", "zzzy", "aaab", "aaaa", "q"]
def hues1 : List Str := ["a", "b", "c", "x", "ab", "ba", "zz", "zzzz", "zzzy", "aaab", "aaaa", "q", "d", "e", "f", "g"]
def sts (l : List Str) : List D := l.map .str
def th (l : List Str) : D := .tup (sts l)
def ths (ls : List (List Str)) : List D := ls.map th
theorem sts_mem {l : List Str} {x : D} (h : x ∈ sts l) : ∃ s ∈ l, x = .str s := by
  obtain ⟨s, h1, rfl⟩ := List.mem_map.mp h
  exact ⟨s, h1, rfl⟩
theorem sts_of : ∀ {xs : List D} {l : List Str}, (∀ x ∈ xs, x ∈ sts l) → ∃ k, xs = sts k ∧ ∀ s ∈ k, s ∈ l
  | [], _, _ => ⟨[], rfl, fun _ h => by cases h⟩
  | x :: xs, l, h => by
    obtain ⟨s, hs, rfl⟩ := sts_mem (h x List.mem_cons_self)
    obtain ⟨k, rfl, hk⟩ := sts_of fun y hy => h y (List.mem_cons_of_mem _ hy)
    exact ⟨s :: k, rfl, fun t ht => (List.mem_cons.mp ht).elim (fun e => e ▸ hs) (hk t)⟩
theorem sts_inj : ∀ {l k : List Str}, sts l = sts k → l = k
  | [], [], _ => rfl
  | [], _ :: _, h => by cases h
  | _ :: _, [], h => by cases h
  | x :: l, y :: k, h => by
    have h' := List.cons.inj h
    cases h'.1
    rw [sts_inj h'.2]
theorem sts_perm {xs : List D} {l : List Str} (h : xs.Perm (sts l)) : ∃ k, xs = sts k ∧ k.Perm l := by
  obtain ⟨k, rfl, hk⟩ := sts_of fun x hx => h.subset hx
  refine ⟨k, rfl, ?_⟩
  have := h.map fun d => match d with | .str s => s | _ => default
  simpa [sts, List.map_map, Function.comp_def] using this
theorem pd_sts {n : Nat} {l : List Str} : ∀ x ∈ sts l, Pd n x := fun x hx => by
  obtain ⟨s, _, rfl⟩ := sts_mem hx
  exact pd_str
theorem imm_th {l : List Str} : (th l).imm = true := by simp only [th, D.imm]; exact imm_strs l
theorem hues_ok {T : Nat} {n : Int} {W : Dr} (h : Wd T W) (hT : T ≤ 1099511627000) (hn : 0 ≤ n) (h2 : n ≤ 12) : ∃ k W', k.length = n.toNat ∧ (∀ s ∈ k, s ∈ hues0) ∧ k.Nodup ∧ Wd (T + 12) W' ∧ G__law_hues [.drw, .int n] W = .ok (true, .lst (sts k)) W' := by
  obtain ⟨ys, W', hp, hw, e⟩ := shuffled_ok (xs := sts hues0) h (by simp [sts, hues0]; omega) pd_sts (by simp [sts, hues0])
  obtain ⟨k, rfl, hk⟩ := sts_perm hp
  refine ⟨k.take n.toNat, W', ?_, fun s hs => hk.subset (List.mem_of_mem_take hs), ?_, by simpa [sts, hues0] using hw, ?_⟩
  · have := hk.length_eq
    simp only [hues0, List.length_cons, List.length_nil] at this
    rw [List.length_take]; omega
  · exact (List.Pairwise.sublist (List.take_sublist _ _) (hk.nodup_iff.mpr (by decide +kernel)))
  · unfold G__law_hues Z.run B__law_hues
    have : sts hues0 = [.str "a", .str "b", .str "c", .str "x", .str "ab", .str "ba", .str "zz", .str "zzzz", .str "zzzy", .str "aaab", .str "aaaa", .str "q"] := rfl
    rw [this] at e
    simp [wip, SOut.wp, vl_int, vl_str, vl_bl, vl_non, nd2, Nat.reduceLeDiff, Nat.reduceEqDiff, not_false_eq_true, and_self, and_true, true_and, putAll, big_eq, ↓evS_for, ↓ev_lc, evS, evT, evA, ev, evL, evO, evI, Out.bind, Out.st, ofS, ofO, D.isBl, vo, put, Vl.isFr, Vl.all, biD, ds, ts, sets, List.flatMap_cons, List.flatMap_nil, List.map_cons, List.map_nil, List.append_nil, List.nil_append, vl_nil, vf_nil, frz_nil, List.getElem?_cons_zero, List.getElem?_cons_succ, List.set_cons_zero, List.set_cons_succ, Bool.false_eq_true, if_false, if_true, reduceIte, List.length_cons, List.length_nil, Nat.reduceAdd, Nat.reduceSub, List.replicate, List.cons_append, List.replicate_succ, List.replicate_zero, Option.map_some, Option.map_none, Bool.not_true, Bool.not_false, List.singleton_append, cap, e, slD, cut_to hn]
    simp [sts, List.map_take]
/-- threads over some colors, at most so many beads -/
structure Lns (P : Str → Prop) (most beads : Nat) (ls : List (List Str)) : Prop where
  one : 1 ≤ ls.length
  most : ls.length ≤ most
  ne : ∀ l ∈ ls, l ≠ []
  of : ∀ l ∈ ls, ∀ s ∈ l, P s
  sum : (ls.map List.length).sum ≤ beads
def tD (ls : List (List Str)) : List D := ls.map th
theorem sum_set {ls : List (List Str)} {i : Nat} {l : List Str} (h : i < ls.length) : ((ls.set i l).map List.length).sum + ls[i].length = (ls.map List.length).sum + l.length := by
  induction ls generalizing i with
  | nil => simp at h
  | cons a ls ih =>
    cases i with
    | zero => simp; omega
    | succ i =>
      have := ih (i := i) (by simpa using h)
      simp only [List.set_cons_succ, List.map_cons, List.sum_cons, List.getElem_cons_succ]
      omega
theorem lines1 {T : Nat} {hs : List Str} {m b : D} {n : Int} {s5 s7 : Sl} {x : D} {W : Dr} (h : Wd T W) (hT : T ≤ 1099511627776) (hn : hs ≠ []) (hn2 : hs.length < 1073741824) :
    ∃ s W', s ∈ hs ∧ Wd (T + 1) W' ∧ ev E__law_lines_1 ((wip [.val .drw, .val (.lst (sts hs)), .val m, .val b, .val (.int n), s5, .un, s7] [6]).set 6 (.val x)) W = .ok ⟨th [s], .pl, []⟩ W' := by
  obtain ⟨y, W', h1, h2, e⟩ := pick_ok (xs := sts hs) h hT (by simpa [sts] using hn) (by simpa [sts] using hn2)
  obtain ⟨s, hs, rfl⟩ := sts_mem h1
  refine ⟨s, W', hs, h2, ?_⟩
  have e' : th [s] = .tup [.str s] := rfl
  rw [e']
  unfold E__law_lines_1
  simp [wip, SOut.wp, vl_int, vl_str, vl_bl, vl_non, nd2, Nat.reduceLeDiff, Nat.reduceEqDiff, not_false_eq_true, and_self, and_true, true_and, putAll, big_eq, ↓evS_for, ↓ev_lc, evS, evT, evA, ev, evL, evO, evI, Out.bind, Out.st, ofS, ofO, D.isBl, vo, put, Vl.isFr, Vl.all, biD, ds, ts, sets, List.flatMap_cons, List.flatMap_nil, List.map_cons, List.map_nil, List.append_nil, List.nil_append, vl_nil, vf_nil, frz_nil, List.getElem?_cons_zero, List.getElem?_cons_succ, List.set_cons_zero, List.set_cons_succ, Bool.false_eq_true, if_false, if_true, reduceIte, List.length_cons, List.length_nil, Nat.reduceAdd, Nat.reduceSub, List.replicate, List.cons_append, List.replicate_succ, List.replicate_zero, Option.map_some, Option.map_none, Bool.not_true, Bool.not_false, List.singleton_append, wip, e, cap]
theorem lines2 {T : Nat} {hs : List Str} {m b x : D} {ls : List (List Str)} {s7 : Sl} {s6 : Sl} {W : Dr} (h : Wd T W) (hT : T + 1 ≤ 1099511627776) (hn : hs ≠ []) (hn2 : hs.length < 1073741824) (hl : 1 ≤ ls.length) (hl2 : ls.length < 1000) (hl3 : ∀ l ∈ ls, l.length ≤ 1000) :
    ∃ i s W', ∃ hi : i < ls.length, s ∈ hs ∧ Wd (T + 2) W' ∧ forOne 1000000 B__law_lines_2 (.nm 6) x [.val .drw, .val (.lst (sts hs)), .val m, .val b, .val (.int ls.length), .own (.lst (tD ls)), s6, s7] W =
      .nx [.val .drw, .val (.lst (sts hs)), .val m, .val b, .val (.int ls.length), .own (.lst (tD (ls.set i (ls[i] ++ [s])))), .val x, .val (.int i)] W' := by
  obtain ⟨r, W1, r0, r1, hw, e⟩ := take_ok (n := (ls.length : Int)) h (by omega) (by omega) (by omega)
  obtain ⟨i, rfl⟩ := Int.eq_ofNat_of_zero_le r0
  have hi : i < ls.length := by omega
  obtain ⟨y, W2, h1, h2, e2⟩ := pick_ok (xs := sts hs) hw (by omega) (by simpa [sts] using hn) (by simpa [sts] using hn2)
  obtain ⟨s, hs, rfl⟩ := sts_mem h1
  refine ⟨i, s, W2, hi, hs, h2, ?_⟩
  have hi2 : i < (tD ls).length := by simpa [tD] using hi
  have e3 : ixD (.lst (tD ls)) (.int i) = some (th ls[i]) := by
    simp only [ixD]
    rw [atD_nat hi2]
    simp [tD]
  have hz : ls[i].length + 1 ≤ 16777216 := by have := hl3 ls[i] (List.getElem_mem _); omega
  have e4 : binD .Add (th ls[i]) (.tup [.str s]) = some (false, th (ls[i] ++ [s])) := by
    simp [binD, th, sts, hz]
  have e5 : ixOf (tD ls).length (i : Int) = some i := ixOf_nat hi2
  show evS 1000000 B__law_lines_2 _ _ = _
  unfold B__law_lines_2
  simp [wip, SOut.wp, vl_int, vl_str, vl_bl, vl_non, nd2, Nat.reduceLeDiff, Nat.reduceEqDiff, not_false_eq_true, and_self, and_true, true_and, putAll, big_eq, ↓evS_for, ↓ev_lc, evS, evT, evA, ev, evL, evO, evI, Out.bind, Out.st, ofS, ofO, D.isBl, vo, put, Vl.isFr, Vl.all, biD, ds, ts, sets, List.flatMap_cons, List.flatMap_nil, List.map_cons, List.map_nil, List.append_nil, List.nil_append, vl_nil, vf_nil, frz_nil, List.getElem?_cons_zero, List.getElem?_cons_succ, List.set_cons_zero, List.set_cons_succ, Bool.false_eq_true, if_false, if_true, reduceIte, List.length_cons, List.length_nil, Nat.reduceAdd, Nat.reduceSub, List.replicate, List.cons_append, List.replicate_succ, List.replicate_zero, Option.map_some, Option.map_none, Bool.not_true, Bool.not_false, List.singleton_append, e, e2, e3, e4, e5, cap, imm_th]
  simp [tD, List.map_set]
theorem sum_ge {ls : List (List Str)} {l : List Str} (h : l ∈ ls) : l.length ≤ (ls.map List.length).sum := by
  induction ls with
  | nil => cases h
  | cons a ls ih =>
    rcases List.mem_cons.mp h with rfl | h
    · simp
    · have := ih h
      simp only [List.map_cons, List.sum_cons]
      omega
theorem lines_ok {T most beads : Nat} {hs : List Str} {W : Dr} (h : Wd T W) (hT : T + 200 ≤ 1099511627776) (hn : hs ≠ []) (hn2 : hs.length < 1000) (hm : 1 ≤ most) (hm2 : most ≤ 20) (hb : most ≤ beads) (hb2 : beads ≤ 60) :
    ∃ ls W', Lns (· ∈ hs) most beads ls ∧ Wd (T + 200) W' ∧ G__law_lines [.drw, .lst (sts hs), .int most, .int beads] W = .ok (true, .lst (tD ls)) W' := by
  obtain ⟨r, W1, r0, r1, hw, e1⟩ := take_ok (n := (most : Int)) h (by omega) (by omega) (by omega)
  obtain ⟨n, hnn⟩ := Int.eq_ofNat_of_zero_le (show 0 ≤ 1 + r by omega)
  -- the first beads
  obtain ⟨ys, W2, e2, ls, rfl, l1, l2, hw2⟩ := lc_inv0 (one := lcOne E__law_lines_1 .nil (.nm 6) [6] [.val .drw, .val (.lst (sts hs)), .val (.int most), .val (.int beads), .val (.int n), .un, .un, .un]) (xs := (List.range n).map fun k : Nat => .int (k : Int)) (W := W1)
    (fun k acc V => ∃ ls : List (List Str), acc = tD ls ∧ ls.length = k ∧ (∀ l ∈ ls, ∃ s ∈ hs, l = [s]) ∧ Wd (T + 1 + k) V) ⟨[], rfl, rfl, (fun _ h => by cases h), hw⟩ (by simp [cap]; omega) (fun k x acc V hx ⟨ls, e3, e4, e5, e6⟩ => by
      subst e3
      obtain ⟨rfl, hk⟩ := rng_at hx
      obtain ⟨s, W', hs, h2, e⟩ := lines1 (m := .int most) (b := .int beads) (n := n) (s5 := .un) (s7 := .un) (x := .int k) e6 (by omega) hn (by omega)
      refine .inr ⟨_, W', lcOne_ok e, rfl, ls ++ [[s]], by simp [tD], by simp [e4], fun l hl => ?_, h2.mono (by omega)⟩
      rcases List.mem_append.mp hl with hl | hl
      · exact e5 l hl
      · exact ⟨s, hs, by simpa using hl⟩)
  rw [rng_len] at l1 hw2
  have hsum : (ls.map List.length).sum = n := by
    rw [← l1]
    clear l1 e2
    induction ls with
    | nil => rfl
    | cons a ls ih =>
      obtain ⟨s, _, rfl⟩ := l2 a List.mem_cons_self
      have := ih fun l hl => l2 l (List.mem_cons_of_mem _ hl)
      simp only [List.map_cons, List.sum_cons, this, List.length_cons, List.length_nil]
      omega
  -- the others
  obtain ⟨r2, W3, r20, r21, hw3, e3⟩ := take_ok (n := (beads : Int) - n + 1) hw2 (by omega) (by omega) (by omega)
  obtain ⟨m, rfl⟩ := Int.eq_ofNat_of_zero_le r20
  obtain ⟨ρ', W4, e4, ls', s6, s7, rfl, q1, q2, q3, hw4⟩ := for_inv0 (f := forOne 1000000 B__law_lines_2 (.nm 6)) (xs := (List.range m).map fun k : Nat => .int (k : Int)) (ρ := [.val .drw, .val (.lst (sts hs)), .val (.int most), .val (.int beads), .val (.int n), .own (.lst (tD ls)), .un, .un]) (W := W3)
    (fun k ρ V => ∃ (ls : List (List Str)) (s6 s7 : Sl), ρ = [.val .drw, .val (.lst (sts hs)), .val (.int most), .val (.int beads), .val (.int n), .own (.lst (tD ls)), s6, s7] ∧ ls.length = n ∧ (∀ l ∈ ls, l ≠ [] ∧ ∀ s ∈ l, s ∈ hs) ∧ (ls.map List.length).sum = n + k ∧ Wd (T + 1 + n + 1 + 2 * k) V)
    ⟨ls, .un, .un, rfl, l1, fun l hl => by obtain ⟨s, hs, rfl⟩ := l2 l hl; exact ⟨by simp, fun t ht => by rw [List.mem_singleton.mp ht]; exact hs⟩, hsum, hw3⟩ (fun k x ρ V hx ⟨ls, s6, s7, e5, e6, e7, e8, e9⟩ => by
      subst e5
      obtain ⟨rfl, hk⟩ := rng_at hx
      obtain ⟨i, s, W', hi, hs, h2, e⟩ := lines2 (m := .int most) (b := .int beads) (x := .int k) (ls := ls) (s6 := s6) (s7 := s7) e9 (by omega) hn (by omega) (by omega) (by omega) (fun l hl => by have := sum_ge hl; omega)
      rw [e6] at e
      refine ⟨_, W', .inl e, _, _, _, rfl, by simp [e6], fun l hl => ?_, ?_, h2.mono (by omega)⟩
      · rcases List.mem_or_eq_of_mem_set hl with hl | rfl
        · exact e7 l hl
        · refine ⟨by simp, fun t ht => ?_⟩
          rcases List.mem_append.mp ht with ht | ht
          · exact (e7 _ (List.getElem_mem hi)).2 t ht
          · rw [List.mem_singleton.mp ht]; exact hs
      · have := sum_set (l := ls[i] ++ [s]) hi
        simp only [List.length_append, List.length_cons, List.length_nil] at this
        omega)
  rw [rng_len] at q3 hw4
  refine ⟨ls', W4, ⟨by omega, by omega, fun l hl => (q2 l hl).1, fun l hl => (q2 l hl).2, by omega⟩, hw4.mono (by omega), ?_⟩
  unfold G__law_lines Z.run B__law_lines
  have g1 : rngD [.int n] = some ((List.range n).map fun k : Nat => .int (k : Int)) := by
    have := rngD1 (n := (n : Int)) (by omega) (by omega)
    rwa [Int.toNat_natCast] at this
  have g2 : rngD [.int m] = some ((List.range m).map fun k : Nat => .int (k : Int)) := by
    have := rngD1 (n := (m : Int)) (by omega) (by omega)
    rwa [Int.toNat_natCast] at this
  simp only [wip, SOut.wp, vl_int, vl_str, vl_bl, vl_non, nd2, Nat.reduceLeDiff, Nat.reduceEqDiff, not_false_eq_true, and_self, and_true, true_and, putAll, big_eq, ↓evS_for, ↓ev_lc, evS, evT, evA, ev, evL, evO, evI, Out.bind, Out.st, ofS, ofO, D.isBl, vo, put, Vl.isFr, Vl.all, biD, ds, ts, sets, List.flatMap_cons, List.flatMap_nil, List.map_cons, List.map_nil, List.append_nil, List.nil_append, vl_nil, vf_nil, frz_nil, List.getElem?_cons_zero, List.getElem?_cons_succ, List.set_cons_zero, List.set_cons_succ, Bool.false_eq_true, if_false, if_true, reduceIte, List.length_cons, List.length_nil, Nat.reduceAdd, Nat.reduceSub, List.replicate, List.cons_append, List.replicate_succ, List.replicate_zero, Option.map_some, Option.map_none, Bool.not_true, Bool.not_false, List.singleton_append, binD, e1, hnn, g1, e2, e3, g2, e4]
end Z

namespace Z
open PySem
theorem len_th {l : List Str} : lenD [th l] = some (false, .int l.length) := by simp [lenD, th, sts]
theorem ints_map : ∀ l : List Int, D.ints (l.map .int) = some l
  | [] => rfl
  | x :: l => by simp [D.ints, ints_map l]
theorem lens_eq {el : E} {pt : Pat} {own : List Nat} {ρ : En} {W : Dr} {ls : List (List Str)} (hl : ls.length ≤ cap) (h : ∀ l, lcOne el .nil pt own ρ (th l) W = .ok (some ⟨.int l.length, .pl, []⟩) W) :
    lcGo (lcOne el .nil pt own ρ) (tD ls) [] [] W = .ok ⟨.lst ((ls.map fun l => (l.length : Int)).map .int), .fr, []⟩ W := by
  rw [lc_map (g := fun x => match x with | .tup xs => some (.int xs.length) | _ => none) (tD ls) (by simpa [tD] using hl) fun x hx => ?_]
  · simp [tD, th, sts, List.filterMap_map, Function.comp_def, List.filterMap_eq_map']
  · obtain ⟨l, _, rfl⟩ := List.mem_map.mp hx
    exact ⟨_, h l, by simp [th, sts], fun v hv => by cases hv; rfl⟩
theorem sum_cast : ∀ ls : List (List Str), (ls.map fun l => (l.length : Int)).sum = ((ls.map List.length).sum : Nat)
  | [] => rfl
  | a :: ls => by simp [sum_cast ls]
theorem sealed3 {T : Nat} {b : Nat} {hs : List Str} {ls : List (List Str)} {s3 s4 s5 s6 s7 s8 s9 : Sl} {W : Dr} (h : Wd T W) (hT : T + 100 ≤ 1099511627776) (hn : hs ≠ []) (hn2 : hs.length < 1000) (hh : ∀ s ∈ hs, s ∈ hues1) (hb : b ≤ 60) (hl : Lns (· ∈ hues1) 3 b ls) :
    ∃ ls' s4' s5' s6' s7' s8' s9' W', Lns (· ∈ hues1) 3 b ls' ∧ Wd (T + 100) W' ∧ forOne 1000000 B__law_sealed_lines_3 (.nm 3) (.lst (sts hs)) [.val .drw, .val (.int b), .own (.lst (tD ls)), s3, s4, s5, s6, s7, s8, s9] W =
      .nx [.val .drw, .val (.int b), .own (.lst (tD ls')), .val (.lst (sts hs)), s4', s5', s6', s7', s8', s9'] W' := by
  obtain ⟨r, W1, r0, r1, hw, e1⟩ := take_ok (n := (ls.length : Int)) h (by omega) (by have := hl.one; omega) (by have := hl.most; omega)
  obtain ⟨i, rfl⟩ := Int.eq_ofNat_of_zero_le r0
  have hi : i < ls.length := by omega
  have hi2 : i < (tD ls).length := by simpa [tD] using hi
  have hs1 := hl.sum
  have hcap : ls.length ≤ cap := by have := hl.most; unfold cap; omega
  obtain ⟨room, hroom⟩ : ∃ n : Nat, (b : Int) - ((ls.map List.length).sum : Nat) = n := ⟨b - (ls.map List.length).sum, by omega⟩
  have l1 := lens_eq (ls := ls) (el := E__law_sealed_lines_1) (pt := .nm 9) (own := [9]) (ρ := [.val .drw, .val (.int b), .own (.lst (tD ls)), .val (.lst (sts hs)), s4, s5, s6, s7, s8, s9]) (W := W1) hcap fun l => by
    refine lcOne_ok ?_
    unfold E__law_sealed_lines_1
    simp [wip, SOut.wp, vl_int, vl_str, vl_bl, vl_non, nd2, Nat.reduceLeDiff, Nat.reduceEqDiff, not_false_eq_true, and_self, and_true, true_and, putAll, big_eq, ↓evS_for, ↓ev_lc, evS, evT, evA, ev, evL, evO, evI, Out.bind, Out.st, ofS, ofO, D.isBl, vo, put, Vl.isFr, Vl.all, biD, ds, ts, sets, List.flatMap_cons, List.flatMap_nil, List.map_cons, List.map_nil, List.append_nil, List.nil_append, vl_nil, vf_nil, frz_nil, List.getElem?_cons_zero, List.getElem?_cons_succ, List.set_cons_zero, List.set_cons_succ, Bool.false_eq_true, if_false, if_true, reduceIte, List.length_cons, List.length_nil, Nat.reduceAdd, Nat.reduceSub, List.replicate, List.cons_append, List.replicate_succ, List.replicate_zero, Option.map_some, Option.map_none, Bool.not_true, Bool.not_false, List.singleton_append, wip, len_th]
  obtain ⟨mx, hmx, hmx1, hmx2⟩ : ∃ n : Nat, maxD2 [.int ((room : Int) / 2), .int 1] = some (false, .int n) ∧ 1 ≤ n ∧ (n ≤ room / 2 ∨ n = 1) := by
    by_cases q : (1 : Int) > (room : Int) / 2
    · exact ⟨1, by simp only [maxD2, if_pos q]; rfl, by omega, .inr rfl⟩
    · refine ⟨room / 2, ?_, by omega, .inl (Nat.le_refl _)⟩
      simp only [maxD2, if_neg q]
      rfl
  obtain ⟨r2, W2, r20, r21, hw2, e2⟩ := take_ok (n := (mx : Int)) hw (by omega) (by omega) (by omega)
  obtain ⟨m, rfl⟩ := Int.eq_ofNat_of_zero_le r20
  obtain ⟨ys, W3, e3, run, rfl, hr1, hr2, hw3⟩ := lc_inv0 (one := lcOne E__law_sealed_lines_2 .nil (.nm 8) [8] [.val .drw, .val (.int b), .own (.lst (tD ls)), .val (.lst (sts hs)), .val (.int i), .val (.int room), s6, s7, s8, s9]) (xs := (List.range m).map fun k : Nat => .int (k : Int)) (W := W2)
    (fun k acc V => ∃ l : List Str, acc = sts l ∧ l.length = k ∧ (∀ s ∈ l, s ∈ hs) ∧ Wd (T + 2 + k) V) ⟨[], rfl, rfl, (fun _ h => by cases h), hw2⟩ (by simp [cap]; omega) (fun k x acc V hx ⟨l, e3, e4, e5, e6⟩ => by
      subst e3
      obtain ⟨rfl, hk⟩ := rng_at hx
      obtain ⟨y, W', h1, h2, e⟩ := pick_ok (xs := sts hs) e6 (by omega) (by simpa [sts] using hn) (by simp [sts]; omega)
      obtain ⟨s, hs', rfl⟩ := sts_mem h1
      refine .inr ⟨⟨.str s, .pl, []⟩, W', lcOne_ok ?_, rfl, l ++ [s], by simp [sts], by simp [e4], fun t ht => ?_, h2.mono (by omega)⟩
      · unfold E__law_sealed_lines_2
        simp [wip, SOut.wp, vl_int, vl_str, vl_bl, vl_non, nd2, Nat.reduceLeDiff, Nat.reduceEqDiff, not_false_eq_true, and_self, and_true, true_and, putAll, big_eq, ↓evS_for, ↓ev_lc, evS, evT, evA, ev, evL, evO, evI, Out.bind, Out.st, ofS, ofO, D.isBl, vo, put, Vl.isFr, Vl.all, biD, ds, ts, sets, List.flatMap_cons, List.flatMap_nil, List.map_cons, List.map_nil, List.append_nil, List.nil_append, vl_nil, vf_nil, frz_nil, List.getElem?_cons_zero, List.getElem?_cons_succ, List.set_cons_zero, List.set_cons_succ, Bool.false_eq_true, if_false, if_true, reduceIte, List.length_cons, List.length_nil, Nat.reduceAdd, Nat.reduceSub, List.replicate, List.cons_append, List.replicate_succ, List.replicate_zero, Option.map_some, Option.map_none, Bool.not_true, Bool.not_false, List.singleton_append, wip, e]
      · rcases List.mem_append.mp ht with ht | ht
        · exact e5 t ht
        · rw [List.mem_singleton.mp ht]; exact hs')
  rw [rng_len] at hr1 hw3
  have hli : ls[i] ≠ [] := hl.ne _ (List.getElem_mem hi)
  have hlp : 0 < ls[i].length := List.length_pos_iff.mpr hli
  have hle : ls[i].length ≤ 60 := by have := sum_ge (List.getElem_mem hi (l := ls)); omega
  obtain ⟨r4, W4, r40, r41, hw4, e4⟩ := take_ok (n := (ls[i].length : Int)) hw3 (by omega) (by omega) (by omega)
  obtain ⟨at_, hat⟩ := Int.eq_ofNat_of_zero_le (show 0 ≤ 1 + r4 by omega)
  have e5 : ixD (.lst (tD ls)) (.int i) = some (th ls[i]) := by
    simp only [ixD]
    rw [atD_nat hi2]
    simp [tD]
  have e6 : ixOf (tD ls).length (i : Int) = some i := ixOf_nat hi2
  have c1 : slD (th ls[i]) none (some (at_ : Int)) = some (false, th (ls[i].take at_)) := by
    simp only [slD, th]
    rw [cut_to (by omega)]
    simp [sts, List.map_take]
  have c2 : slD (th ls[i]) (some (at_ : Int)) none = some (false, th (ls[i].drop at_)) := by
    simp only [slD, th]
    rw [cut_from (by omega)]
    simp [sts, List.map_drop]
  have c3 : binD .Add (th (ls[i].take at_)) (th run) = some (false, th (ls[i].take at_ ++ run)) := by
    simp only [binD, th]
    rw [if_pos (by simp [sts]; omega)]
    simp [sts]
  have c4 : binD .Add (th (ls[i].take at_ ++ run)) (th (ls[i].drop at_)) = some (false, th (ls[i].take at_ ++ run ++ ls[i].drop at_)) := by
    simp only [binD, th]
    rw [if_pos (by simp [sts]; omega)]
    simp [sts]
  have g2 := rngN (n := m) (by omega)
  have hlen : (ls[i].take at_ ++ run ++ ls[i].drop at_).length = ls[i].length + m := by
    simp; omega
  refine ⟨ls.set i (ls[i].take at_ ++ run ++ ls[i].drop at_), .val (.int i), .val (.int room), .val (th run), .val (.int at_), s8, s9, W4, ⟨by simpa using hl.one, by simpa using hl.most, fun l hl' => ?_, fun l hl' s hs' => ?_, ?_⟩, hw4.mono (by omega), ?_⟩
  · rcases List.mem_or_eq_of_mem_set hl' with hl' | rfl
    · exact hl.ne l hl'
    · intro z
      have := congrArg List.length z
      rw [hlen, List.length_nil] at this
      omega
  · rcases List.mem_or_eq_of_mem_set hl' with hl' | rfl
    · exact hl.of l hl' s hs'
    · rcases List.mem_append.mp hs' with hs' | hs'
      · rcases List.mem_append.mp hs' with hs' | hs'
        · exact hl.of _ (List.getElem_mem hi) s (List.mem_of_mem_take hs')
        · exact hh s (hr2 s hs')
      · exact hl.of _ (List.getElem_mem hi) s (List.mem_of_mem_drop hs')
  · have := sum_set (l := ls[i].take at_ ++ run ++ ls[i].drop at_) hi
    rw [hlen] at this
    omega
  · have hten : tD (ls.set i (ls[i].take at_ ++ run ++ ls[i].drop at_)) = (tD ls).set i (th (ls[i].take at_ ++ run ++ ls[i].drop at_)) := by simp [tD, List.map_set]
    rw [hten]
    have hlt : (tD ls).length = ls.length := by simp [tD]
    have hb1 : binD .Sub (.int b) (.int ((ls.map List.length).sum : Nat)) = some (false, .int room) := by simp only [binD, hroom]
    have hb2 : binD .FloorDiv (.int room) (.int 2) = some (false, .int ((room : Int) / 2)) := by simp [binD, big_eq]
    have hb3 : binD .Add (.int 1) (.int r4) = some (false, .int at_) := by simp only [binD, hat]
    have hsm : sumD [.lst ((ls.map fun l => (l.length : Int)).map .int)] = some (false, .int ((ls.map List.length).sum : Nat)) := by simp only [sumD, ints_map, Option.map_some, sum_cast]
    have htp : tupleD [.lst (sts run)] = some (false, th run) := rfl
    have hln : lenD [.lst (tD ls)] = some (false, .int ls.length) := by simp [lenD, hlt]
    show evS 1000000 B__law_sealed_lines_3 _ _ = _
    unfold B__law_sealed_lines_3
    simp only [wip, SOut.wp, vl_int, vl_str, vl_bl, vl_non, nd2, Nat.reduceLeDiff, Nat.reduceEqDiff, not_false_eq_true, and_self, and_true, true_and, putAll, big_eq, ↓evS_for, ↓ev_lc, evS, evT, evA, ev, evL, evO, evI, Out.bind, Out.st, ofS, ofO, D.isBl, vo, put, Vl.isFr, Vl.all, biD, ds, ts, sets, List.flatMap_cons, List.flatMap_nil, List.map_cons, List.map_nil, List.append_nil, List.nil_append, vl_nil, vf_nil, frz_nil, List.getElem?_cons_zero, List.getElem?_cons_succ, List.set_cons_zero, List.set_cons_succ, Bool.false_eq_true, if_false, if_true, reduceIte, List.length_cons, List.length_nil, Nat.reduceAdd, Nat.reduceSub, List.replicate, List.cons_append, List.replicate_succ, List.replicate_zero, Option.map_some, Option.map_none, Bool.not_true, Bool.not_false, List.singleton_append, hln, e1, D.items, l1, hsm, hb1, hb2, hmx, e2, g2, e3, htp, e5, len_th, e4, hb3, c1, c2, c3, c4, e6]
theorem Lns.imp {P Q : Str → Prop} {m b m' b' : Nat} {ls : List (List Str)} (h : Lns P m b ls) (k : ∀ s, P s → Q s) (hm : m ≤ m') (hb : b ≤ b') : Lns Q m' b' ls := ⟨h.one, by have := h.most; omega, h.ne, fun l hl s hs => k s (h.of l hl s hs), by have := h.sum; omega⟩
theorem hues01 : ∀ s ∈ hues0, s ∈ hues1 := by decide +kernel
theorem sealed_lines_ok {T b : Nat} {W : Dr} (h : Wd T W) (hT : T + 500 ≤ 1099511627776) (hb : 6 ≤ b) (hb2 : b ≤ 60) :
    ∃ ls W', Lns (· ∈ hues1) 3 b ls ∧ Wd (T + 400) W' ∧ G__law_sealed_lines [.drw, .int b] W = .ok (true, .lst (tD ls)) W' := by
  obtain ⟨ls, W1, l1, hw, e1⟩ := lines_ok (most := 3) (beads := b / 2) (hs := ["a", "b", "x"]) h (by omega) (by simp) (by simp) (by omega) (by omega) (by omega) (by omega)
  obtain ⟨ρ', W2, e2, ls', s3, s4, s5, s6, s7, s8, s9, rfl, l2, hw2⟩ := for_inv0 (f := forOne 1000000 B__law_sealed_lines_3 (.nm 3)) (xs := [.lst (sts ["c", "d"]), .lst (sts ["e", "f", "g"])]) (ρ := [.val .drw, .val (.int b), .own (.lst (tD ls)), .un, .un, .un, .un, .un, .un, .un]) (W := W1)
    (fun k ρ V => ∃ ls s3 s4 s5 s6 s7 s8 s9, ρ = [.val .drw, .val (.int b), .own (.lst (tD ls)), s3, s4, s5, s6, s7, s8, s9] ∧ Lns (· ∈ hues1) 3 b ls ∧ Wd (T + 200 + 100 * k) V)
    ⟨ls, .un, .un, .un, .un, .un, .un, .un, rfl, l1.imp (by decide +kernel) (by omega) (by omega), hw⟩ (fun k x ρ V hx ⟨ls, s3, s4, s5, s6, s7, s8, s9, e, l, hv⟩ => by
      subst e
      have hk : k < 2 := by have := (List.getElem?_eq_some_iff.mp hx).1; simpa using this
      obtain ⟨hs, rfl, h1, h2, h3⟩ : ∃ hs : List Str, x = .lst (sts hs) ∧ hs ≠ [] ∧ hs.length < 1000 ∧ ∀ s ∈ hs, s ∈ hues1 := by
        have := List.mem_of_getElem? hx
        simp only [List.mem_cons, List.not_mem_nil, or_false] at this
        rcases this with rfl | rfl
        · exact ⟨_, rfl, by simp, by simp, by decide +kernel⟩
        · exact ⟨_, rfl, by simp, by simp, by decide +kernel⟩
      obtain ⟨ls', t4, t5, t6, t7, t8, t9, W', q1, q2, q3⟩ := sealed3 (s3 := s3) (s4 := s4) (s5 := s5) (s6 := s6) (s7 := s7) (s8 := s8) (s9 := s9) hv (by omega) h1 h2 h3 hb2 l
      exact ⟨_, W', .inl q3, ls', _, t4, t5, t6, t7, t8, t9, rfl, q1, q2.mono (by omega)⟩)
  simp only [List.length_cons, List.length_nil] at hw2
  refine ⟨ls', W2, l2, hw2.mono (by omega), ?_⟩
  have hb1 : binD .FloorDiv (.int b) (.int 2) = some (false, .int ((b / 2 : Nat) : Int)) := by simp [binD, big_eq]
  have t1 : sts ["a", "b", "x"] = [.str "a", .str "b", .str "x"] := rfl
  have t2 : sts ["c", "d"] = [.str "c", .str "d"] := rfl
  have t3 : sts ["e", "f", "g"] = [.str "e", .str "f", .str "g"] := rfl
  rw [t1] at e1
  rw [t2, t3] at e2
  have e1' : G__law_lines [.drw, .lst [.str "a", .str "b", .str "x"], .int 3, .int ((b / 2 : Nat) : Int)] W = .ok (true, .lst (tD ls)) W1 := e1
  unfold G__law_sealed_lines Z.run B__law_sealed_lines
  simp only [wip, SOut.wp, vl_int, vl_str, vl_bl, vl_non, nd2, Nat.reduceLeDiff, Nat.reduceEqDiff, not_false_eq_true, and_self, and_true, true_and, putAll, big_eq, ↓evS_for, ↓ev_lc, evS, evT, evA, ev, evL, evO, evI, Out.bind, Out.st, ofS, ofO, D.isBl, vo, put, Vl.isFr, Vl.all, biD, ds, ts, sets, List.flatMap_cons, List.flatMap_nil, List.map_cons, List.map_nil, List.append_nil, List.nil_append, vl_nil, vf_nil, frz_nil, List.getElem?_cons_zero, List.getElem?_cons_succ, List.set_cons_zero, List.set_cons_succ, Bool.false_eq_true, if_false, if_true, reduceIte, List.length_cons, List.length_nil, Nat.reduceAdd, Nat.reduceSub, List.replicate, List.cons_append, List.replicate_succ, List.replicate_zero, Option.map_some, Option.map_none, Bool.not_true, Bool.not_false, List.singleton_append, cap, hb1, e1', D.items, e2]
theorem some_lines_ok {T b : Nat} {W : Dr} (h : Wd T W) (hT : T + 1000 ≤ 1099511627776) (hb : 6 ≤ b) (hb2 : b ≤ 60) :
    ∃ ls W', Lns (· ∈ hues1) 3 b ls ∧ Wd (T + 500) W' ∧ G__law_some_lines [.drw, .int b] W = .ok (true, .lst (tD ls)) W' := by
  obtain ⟨r, W1, r0, r1, hw, e1⟩ := take_ok (n := 3) h (by omega) (by omega) (by omega)
  by_cases hr : r = 0
  · subst hr
    obtain ⟨ls, W2, l1, hw2, e2⟩ := sealed_lines_ok hw (by omega) hb hb2
    refine ⟨ls, W2, l1, hw2.mono (by omega), ?_⟩
    have hc : cmpD .Eq (.int 0) (.int 0) = some true := rfl
    unfold G__law_some_lines Z.run B__law_some_lines
    simp only [wip, SOut.wp, vl_int, vl_str, vl_bl, vl_non, nd2, Nat.reduceLeDiff, Nat.reduceEqDiff, not_false_eq_true, and_self, and_true, true_and, putAll, big_eq, ↓evS_for, ↓ev_lc, evS, evT, evA, ev, evL, evO, evI, Out.bind, Out.st, ofS, ofO, D.isBl, vo, put, Vl.isFr, Vl.all, biD, ds, ts, sets, List.flatMap_cons, List.flatMap_nil, List.map_cons, List.map_nil, List.append_nil, List.nil_append, vl_nil, vf_nil, frz_nil, List.getElem?_cons_zero, List.getElem?_cons_succ, List.set_cons_zero, List.set_cons_succ, Bool.false_eq_true, if_false, if_true, reduceIte, List.length_cons, List.length_nil, Nat.reduceAdd, Nat.reduceSub, List.replicate, List.cons_append, List.replicate_succ, List.replicate_zero, Option.map_some, Option.map_none, Bool.not_true, Bool.not_false, List.singleton_append, e1, hc, e2]
  · obtain ⟨r2, W2, r20, r21, hw2, e2⟩ := take_ok (n := 4) hw (by omega) (by omega) (by omega)
    obtain ⟨k, W3, k1, k2, k3, hw3, e3⟩ := hues_ok (n := 1 + r2) hw2 (by omega) (by omega) (by omega)
    obtain ⟨ls, W4, l1, hw4, e4⟩ := lines_ok (most := 3) (beads := b) (hs := k) hw3 (by omega) (fun z => by rw [z, List.length_nil] at k1; omega) (by omega) (by omega) (by omega) (by omega) hb2
    refine ⟨ls, W4, l1.imp (fun s hs => hues01 s (k2 s hs)) (by omega) (by omega), hw4.mono (by omega), ?_⟩
    have hc : cmpD .Eq (.int r) (.int 0) = some false := by simp [cmpD, D.eq, D.pyN, PyData.eqv, hr]
    have hb1 : binD .Add (.int 1) (.int r2) = some (false, .int (1 + r2)) := rfl
    have e4' : G__law_lines [.drw, .lst (sts k), .int 3, .int b] W3 = .ok (true, .lst (tD ls)) W4 := e4
    unfold G__law_some_lines Z.run B__law_some_lines
    simp only [wip, SOut.wp, vl_int, vl_str, vl_bl, vl_non, nd2, Nat.reduceLeDiff, Nat.reduceEqDiff, not_false_eq_true, and_self, and_true, true_and, putAll, big_eq, ↓evS_for, ↓ev_lc, evS, evT, evA, ev, evL, evO, evI, Out.bind, Out.st, ofS, ofO, D.isBl, vo, put, Vl.isFr, Vl.all, biD, ds, ts, sets, List.flatMap_cons, List.flatMap_nil, List.map_cons, List.map_nil, List.append_nil, List.nil_append, vl_nil, vf_nil, frz_nil, List.getElem?_cons_zero, List.getElem?_cons_succ, List.set_cons_zero, List.set_cons_succ, Bool.false_eq_true, if_false, if_true, reduceIte, List.length_cons, List.length_nil, Nat.reduceAdd, Nat.reduceSub, List.replicate, List.cons_append, List.replicate_succ, List.replicate_zero, Option.map_some, Option.map_none, Bool.not_true, Bool.not_false, List.singleton_append, e1, hc, e2, hb1, e3, e4']
theorem wide_lines_ok {T b : Nat} {W : Dr} (h : Wd T W) (hT : T + 1500 ≤ 1099511627776) (hb : 8 ≤ b) (hb2 : b ≤ 60) :
    ∃ ls W', Lns (· ∈ hues1) 8 b ls ∧ Wd (T + 600) W' ∧ G__law_wide_lines [.drw, .int b] W = .ok (true, .lst (tD ls)) W' := by
  obtain ⟨r, W1, r0, r1, hw, e1⟩ := take_ok (n := 3) h (by omega) (by omega) (by omega)
  by_cases hr : r = 0
  · subst hr
    obtain ⟨r2, W2, r20, r21, hw2, e2⟩ := take_ok (n := 5) hw (by omega) (by omega) (by omega)
    obtain ⟨k, W3, k1, k2, k3, hw3, e3⟩ := hues_ok (n := 1 + r2) hw2 (by omega) (by omega) (by omega)
    obtain ⟨ls, W4, l1, hw4, e4⟩ := lines_ok (most := 8) (beads := b) (hs := k) hw3 (by omega) (fun z => by rw [z, List.length_nil] at k1; omega) (by omega) (by omega) (by omega) (by omega) hb2
    refine ⟨ls, W4, l1.imp (fun s hs => hues01 s (k2 s hs)) (by omega) (by omega), hw4.mono (by omega), ?_⟩
    have hc : cmpD .Gt (.int 0) (.int 0) = some false := rfl
    have hb1 : binD .Add (.int 1) (.int r2) = some (false, .int (1 + r2)) := rfl
    have e4' : G__law_lines [.drw, .lst (sts k), .int 8, .int b] W3 = .ok (true, .lst (tD ls)) W4 := e4
    unfold G__law_wide_lines Z.run B__law_wide_lines
    simp only [wip, SOut.wp, vl_int, vl_str, vl_bl, vl_non, nd2, Nat.reduceLeDiff, Nat.reduceEqDiff, not_false_eq_true, and_self, and_true, true_and, putAll, big_eq, ↓evS_for, ↓ev_lc, evS, evT, evA, ev, evL, evO, evI, Out.bind, Out.st, ofS, ofO, D.isBl, vo, put, Vl.isFr, Vl.all, biD, ds, ts, sets, List.flatMap_cons, List.flatMap_nil, List.map_cons, List.map_nil, List.append_nil, List.nil_append, vl_nil, vf_nil, frz_nil, List.getElem?_cons_zero, List.getElem?_cons_succ, List.set_cons_zero, List.set_cons_succ, Bool.false_eq_true, if_false, if_true, reduceIte, List.length_cons, List.length_nil, Nat.reduceAdd, Nat.reduceSub, List.replicate, List.cons_append, List.replicate_succ, List.replicate_zero, Option.map_some, Option.map_none, Bool.not_true, Bool.not_false, List.singleton_append, e1, hc, e2, hb1, e3, e4']
  · obtain ⟨m, hm, hm1, hm2⟩ : ∃ m : Nat, minD2 [.int b, .int 14] = some (false, .int m) ∧ 8 ≤ m ∧ m ≤ b := by
      by_cases q : (14 : Int) < b
      · exact ⟨14, by simp only [minD2, if_pos q]; rfl, by omega, by omega⟩
      · exact ⟨b, by simp only [minD2, if_neg q], hb, Nat.le_refl _⟩
    obtain ⟨ls, W2, l1, hw2, e2⟩ := some_lines_ok (b := m) hw (by omega) (by omega) (by omega)
    refine ⟨ls, W2, l1.imp (fun _ h => h) (by omega) (by omega), hw2.mono (by omega), ?_⟩
    have hc : cmpD .Gt (.int r) (.int 0) = some true := by simp only [cmpD]; rw [decide_eq_true (by omega)]
    unfold G__law_wide_lines Z.run B__law_wide_lines
    simp only [wip, SOut.wp, vl_int, vl_str, vl_bl, vl_non, nd2, Nat.reduceLeDiff, Nat.reduceEqDiff, not_false_eq_true, and_self, and_true, true_and, putAll, big_eq, ↓evS_for, ↓ev_lc, evS, evT, evA, ev, evL, evO, evI, Out.bind, Out.st, ofS, ofO, D.isBl, vo, put, Vl.isFr, Vl.all, biD, ds, ts, sets, List.flatMap_cons, List.flatMap_nil, List.map_cons, List.map_nil, List.append_nil, List.nil_append, vl_nil, vf_nil, frz_nil, List.getElem?_cons_zero, List.getElem?_cons_succ, List.set_cons_zero, List.set_cons_succ, Bool.false_eq_true, if_false, if_true, reduceIte, List.length_cons, List.length_nil, Nat.reduceAdd, Nat.reduceSub, List.replicate, List.cons_append, List.replicate_succ, List.replicate_zero, Option.map_some, Option.map_none, Bool.not_true, Bool.not_false, List.singleton_append, e1, hc, hm, e2]
end Z

namespace Z
open PySem
def abc : Str := "abcdefghijklmnopqrstuvwxyz"
def isLetter (c : Nat) : Bool := !(Builtin.Str.occurrences abc ⟨#[c]⟩ 0 abc.length 1).isEmpty
def isColor (s : Str) : Bool := decide (1 ≤ s.length) && decide (s.length ≤ 4) && s.cps.toList.all isLetter
theorem hue_color : ∀ s ∈ hues1, isColor s = true := by decide +kernel
mutual
/-- data of the usual kinds, no texts beyond measure -/
def D.gd : D → Bool
  | .str s => decide (s.length ≤ 16777216)
  | .tup xs => D.gdL xs && decide (xs.length ≤ 16777216)
  | .lst xs => D.gdL xs && decide (xs.length ≤ 16777216)
  | .non => true
  | .bl _ => true
  | .int _ => true
  | .dic false _ => true
  | .ins _ _ => true
  | .exc _ [] => true
  | _ => false
def D.gdL : List D → Bool
  | [] => true
  | x :: xs => D.gd x && D.gdL xs
end
theorem gdL_iff : ∀ {xs : List D}, D.gdL xs = true ↔ ∀ x ∈ xs, x.gd = true
  | [] => by simp [D.gdL]
  | x :: xs => by simp [D.gdL, gdL_iff (xs := xs)]
theorem gd_typed {x : D} (h : x.gd = true) : x.typed = true := by
  cases x
  case exc c fs =>
    cases fs with
    | nil => rfl
    | cons _ _ => simp [D.gd] at h
  case dic t kvs =>
    cases t
    · rfl
    · simp [D.gd] at h
  all_goals first | rfl | (simp [D.gd] at h; done)
def isColorD : D → Bool
  | .str s => isColor s
  | _ => false
def isThreadD : D → Bool
  | .tup xs => !xs.isEmpty && xs.all isColorD
  | _ => false
theorem bls_map : ∀ l : List Bool, D.bls (l.map .bl) = some l
  | [] => rfl
  | x :: l => by simp [D.bls, bls_map l]
theorem lc_bools {el : E} {pt : Pat} {own : List Nat} {ρ : En} {W : Dr} {xs : List D} {p : D → Bool} (hl : xs.length ≤ 16777216) (h : ∀ x ∈ xs, lcOne el .nil pt own ρ x W = .ok (some ⟨.bl (p x), .pl, []⟩) W) :
    lcGo (lcOne el .nil pt own ρ) xs [] [] W = .ok ⟨.lst ((xs.map p).map .bl), .fr, []⟩ W := by
  rw [lc_map (g := fun x => some (.bl (p x))) xs (by simpa [cap] using hl) fun x hx => ⟨_, h x hx, rfl, fun v hv => by cases hv; rfl⟩]
  simp [List.filterMap_eq_map', Function.comp_def]
theorem all_map {p : D → Bool} {xs : List D} : allD [.lst ((xs.map p).map .bl)] = some (false, .bl (xs.all p)) := by
  simp only [allD, bls_map, Option.map_some]
  simp [List.all_map, Function.comp_def]
theorem is_color_ok {x : D} {W : Dr} (h : x.gd = true) : G_is_color [x] W = .ok (false, .bl (isColorD x)) W := by
  have ht := gd_typed h
  cases x
  case str s =>
    have hs : s.length ≤ 16777216 := by simpa [D.gd] using h
    have l1 := lc_bools (el := E_is_color_1) (pt := .nm 1) (own := [1]) (ρ := [.val (.str s), .un]) (W := W) (xs := s.cps.toList.map fun c => .str ⟨#[c]⟩) (p := fun d => match d with | .str t => !(Builtin.Str.occurrences abc t 0 abc.length 1).isEmpty | _ => false)
      (by rw [List.length_map]; exact hs) fun y hy => by
        obtain ⟨c, _, rfl⟩ := List.mem_map.mp hy
        refine lcOne_ok ?_
        unfold E_is_color_1
        simp only [wip, SOut.wp, vl_int, vl_str, vl_bl, vl_non, nd2, Nat.reduceLeDiff, Nat.reduceEqDiff, not_false_eq_true, and_self, and_true, true_and, putAll, big_eq, ↓evS_for, ↓ev_lc, evS, evT, evA, ev, evL, evO, evI, Out.bind, Out.st, ofS, ofO, D.isBl, vo, put, Vl.isFr, Vl.all, biD, ds, ts, sets, List.flatMap_cons, List.flatMap_nil, List.map_cons, List.map_nil, List.append_nil, List.nil_append, vl_nil, vf_nil, frz_nil, List.getElem?_cons_zero, List.getElem?_cons_succ, List.set_cons_zero, List.set_cons_succ, Bool.false_eq_true, if_false, if_true, reduceIte, List.length_cons, List.length_nil, Nat.reduceAdd, Nat.reduceSub, List.replicate, List.cons_append, List.replicate_succ, List.replicate_zero, Option.map_some, Option.map_none, Bool.not_true, Bool.not_false, List.singleton_append, wip]
        rfl
    have hc : cmpD .LtE (.int 1) (.int s.length) = some (decide (1 ≤ s.length)) := by
      simp only [cmpD]; congr 1; exact decide_eq_decide.mpr (by omega)
    have hc2 : cmpD .LtE (.int s.length) (.int 4) = some (decide (s.length ≤ 4)) := by
      simp only [cmpD]; congr 1; exact decide_eq_decide.mpr (by omega)
    have hlen : lenD [.str s] = some (false, .int s.length) := by simp only [lenD]; exact if_pos hs
    have hit : (D.str s).items = some (s.cps.toList.map fun c => .str ⟨#[c]⟩) := rfl
    have hall : (s.cps.toList.map fun c => D.str ⟨#[c]⟩).all (fun d => match d with | .str t => !(Builtin.Str.occurrences abc t 0 abc.length 1).isEmpty | _ => false) = s.cps.toList.all isLetter := by
      rw [List.all_map]; rfl
    have hty : [Ty.str].any (isD1 (.str s)) = true := rfl
    unfold G_is_color Z.run B_is_color
    cases h1 : decide (1 ≤ s.length) with
    | false => simp only [wip, SOut.wp, vl_int, vl_str, vl_bl, vl_non, nd2, Nat.reduceLeDiff, Nat.reduceEqDiff, not_false_eq_true, and_self, and_true, true_and, putAll, big_eq, ↓evS_for, ↓ev_lc, evS, evT, evA, ev, evL, evO, evI, Out.bind, Out.st, ofS, ofO, D.isBl, vo, put, Vl.isFr, Vl.all, biD, ds, ts, sets, List.flatMap_cons, List.flatMap_nil, List.map_cons, List.map_nil, List.append_nil, List.nil_append, vl_nil, vf_nil, frz_nil, List.getElem?_cons_zero, List.getElem?_cons_succ, List.set_cons_zero, List.set_cons_succ, Bool.false_eq_true, if_false, if_true, reduceIte, List.length_cons, List.length_nil, Nat.reduceAdd, Nat.reduceSub, List.replicate, List.cons_append, List.replicate_succ, List.replicate_zero, Option.map_some, Option.map_none, Bool.not_true, Bool.not_false, List.singleton_append, ht, hty, hlen, hc, h1, isColorD, isColor, Bool.false_and]
    | true =>
      cases h2 : decide (s.length ≤ 4) with
      | false => simp only [wip, SOut.wp, vl_int, vl_str, vl_bl, vl_non, nd2, Nat.reduceLeDiff, Nat.reduceEqDiff, not_false_eq_true, and_self, and_true, true_and, putAll, big_eq, ↓evS_for, ↓ev_lc, evS, evT, evA, ev, evL, evO, evI, Out.bind, Out.st, ofS, ofO, D.isBl, vo, put, Vl.isFr, Vl.all, biD, ds, ts, sets, List.flatMap_cons, List.flatMap_nil, List.map_cons, List.map_nil, List.append_nil, List.nil_append, vl_nil, vf_nil, frz_nil, List.getElem?_cons_zero, List.getElem?_cons_succ, List.set_cons_zero, List.set_cons_succ, Bool.false_eq_true, if_false, if_true, reduceIte, List.length_cons, List.length_nil, Nat.reduceAdd, Nat.reduceSub, List.replicate, List.cons_append, List.replicate_succ, List.replicate_zero, Option.map_some, Option.map_none, Bool.not_true, Bool.not_false, List.singleton_append, ht, hty, hlen, hc, h1, hc2, h2, isColorD, isColor, Bool.false_and, Bool.and_false]
      | true => simp only [wip, SOut.wp, vl_int, vl_str, vl_bl, vl_non, nd2, Nat.reduceLeDiff, Nat.reduceEqDiff, not_false_eq_true, and_self, and_true, true_and, putAll, big_eq, ↓evS_for, ↓ev_lc, evS, evT, evA, ev, evL, evO, evI, Out.bind, Out.st, ofS, ofO, D.isBl, vo, put, Vl.isFr, Vl.all, biD, ds, ts, sets, List.flatMap_cons, List.flatMap_nil, List.map_cons, List.map_nil, List.append_nil, List.nil_append, vl_nil, vf_nil, frz_nil, List.getElem?_cons_zero, List.getElem?_cons_succ, List.set_cons_zero, List.set_cons_succ, Bool.false_eq_true, if_false, if_true, reduceIte, List.length_cons, List.length_nil, Nat.reduceAdd, Nat.reduceSub, List.replicate, List.cons_append, List.replicate_succ, List.replicate_zero, Option.map_some, Option.map_none, Bool.not_true, Bool.not_false, List.singleton_append, ht, hty, hlen, hc, h1, hc2, h2, hit, l1, all_map, hall, isColorD, isColor, Bool.true_and]
  all_goals
    have hty : ∀ b, [Ty.str].any (isD1 b) = isD1 b .str := fun b => by simp
    unfold G_is_color Z.run B_is_color
    simp only [wip, SOut.wp, vl_int, vl_str, vl_bl, vl_non, nd2, Nat.reduceLeDiff, Nat.reduceEqDiff, not_false_eq_true, and_self, and_true, true_and, putAll, big_eq, ↓evS_for, ↓ev_lc, evS, evT, evA, ev, evL, evO, evI, Out.bind, Out.st, ofS, ofO, D.isBl, vo, put, Vl.isFr, Vl.all, biD, ds, ts, sets, List.flatMap_cons, List.flatMap_nil, List.map_cons, List.map_nil, List.append_nil, List.nil_append, vl_nil, vf_nil, frz_nil, List.getElem?_cons_zero, List.getElem?_cons_succ, List.set_cons_zero, List.set_cons_succ, Bool.false_eq_true, if_false, if_true, reduceIte, List.length_cons, List.length_nil, Nat.reduceAdd, Nat.reduceSub, List.replicate, List.cons_append, List.replicate_succ, List.replicate_zero, Option.map_some, Option.map_none, Bool.not_true, Bool.not_false, List.singleton_append, ht, hty, isD1, isColorD]
theorem is_thread_ok {x : D} {W : Dr} (h : x.gd = true) : G_is_thread [x] W = .ok (false, .bl (isThreadD x)) W := by
  have ht := gd_typed h
  have hty : ∀ b, [Ty.tuple].any (isD1 b) = isD1 b .tuple := fun b => by simp
  cases x
  case tup xs =>
    have h2 := h
    simp only [D.gd, Bool.and_eq_true, gdL_iff, decide_eq_true_eq] at h2
    have l1 := lc_bools (el := E_is_thread_1) (pt := .nm 1) (own := [1]) (ρ := [.val (.tup xs), .un]) (W := W) (xs := xs) (p := isColorD) h2.2 fun y hy => by
      refine lcOne_ok ?_
      unfold E_is_thread_1
      simp only [wip, SOut.wp, vl_int, vl_str, vl_bl, vl_non, nd2, Nat.reduceLeDiff, Nat.reduceEqDiff, not_false_eq_true, and_self, and_true, true_and, putAll, big_eq, ↓evS_for, ↓ev_lc, evS, evT, evA, ev, evL, evO, evI, Out.bind, Out.st, ofS, ofO, D.isBl, vo, put, Vl.isFr, Vl.all, biD, ds, ts, sets, List.flatMap_cons, List.flatMap_nil, List.map_cons, List.map_nil, List.append_nil, List.nil_append, vl_nil, vf_nil, frz_nil, List.getElem?_cons_zero, List.getElem?_cons_succ, List.set_cons_zero, List.set_cons_succ, Bool.false_eq_true, if_false, if_true, reduceIte, List.length_cons, List.length_nil, Nat.reduceAdd, Nat.reduceSub, List.replicate, List.cons_append, List.replicate_succ, List.replicate_zero, Option.map_some, Option.map_none, Bool.not_true, Bool.not_false, List.singleton_append, wip, is_color_ok (h2.1 y hy)]
    have hlen : lenD [.tup xs] = some (false, .int xs.length) := rfl
    have hc : cmpD .Gt (.int xs.length) (.int 0) = some (!xs.isEmpty) := by
      simp only [cmpD]
      cases xs with
      | nil => rfl
      | cons _ _ => simp
    have hit : (D.tup xs).items = some xs := rfl
    unfold G_is_thread Z.run B_is_thread
    cases he : xs.isEmpty with
    | true => simp only [wip, SOut.wp, vl_int, vl_str, vl_bl, vl_non, nd2, Nat.reduceLeDiff, Nat.reduceEqDiff, not_false_eq_true, and_self, and_true, true_and, putAll, big_eq, ↓evS_for, ↓ev_lc, evS, evT, evA, ev, evL, evO, evI, Out.bind, Out.st, ofS, ofO, D.isBl, vo, put, Vl.isFr, Vl.all, biD, ds, ts, sets, List.flatMap_cons, List.flatMap_nil, List.map_cons, List.map_nil, List.append_nil, List.nil_append, vl_nil, vf_nil, frz_nil, List.getElem?_cons_zero, List.getElem?_cons_succ, List.set_cons_zero, List.set_cons_succ, Bool.false_eq_true, if_false, if_true, reduceIte, List.length_cons, List.length_nil, Nat.reduceAdd, Nat.reduceSub, List.replicate, List.cons_append, List.replicate_succ, List.replicate_zero, Option.map_some, Option.map_none, Bool.not_true, Bool.not_false, List.singleton_append, ht, hty, isD1, hlen, hc, he, isThreadD, Bool.false_and]
    | false => simp only [wip, SOut.wp, vl_int, vl_str, vl_bl, vl_non, nd2, Nat.reduceLeDiff, Nat.reduceEqDiff, not_false_eq_true, and_self, and_true, true_and, putAll, big_eq, ↓evS_for, ↓ev_lc, evS, evT, evA, ev, evL, evO, evI, Out.bind, Out.st, ofS, ofO, D.isBl, vo, put, Vl.isFr, Vl.all, biD, ds, ts, sets, List.flatMap_cons, List.flatMap_nil, List.map_cons, List.map_nil, List.append_nil, List.nil_append, vl_nil, vf_nil, frz_nil, List.getElem?_cons_zero, List.getElem?_cons_succ, List.set_cons_zero, List.set_cons_succ, Bool.false_eq_true, if_false, if_true, reduceIte, List.length_cons, List.length_nil, Nat.reduceAdd, Nat.reduceSub, List.replicate, List.cons_append, List.replicate_succ, List.replicate_zero, Option.map_some, Option.map_none, Bool.not_true, Bool.not_false, List.singleton_append, ht, hty, isD1, hlen, hc, he, hit, l1, all_map, isThreadD, Bool.true_and]
  all_goals
    unfold G_is_thread Z.run B_is_thread
    simp only [wip, SOut.wp, vl_int, vl_str, vl_bl, vl_non, nd2, Nat.reduceLeDiff, Nat.reduceEqDiff, not_false_eq_true, and_self, and_true, true_and, putAll, big_eq, ↓evS_for, ↓ev_lc, evS, evT, evA, ev, evL, evO, evI, Out.bind, Out.st, ofS, ofO, D.isBl, vo, put, Vl.isFr, Vl.all, biD, ds, ts, sets, List.flatMap_cons, List.flatMap_nil, List.map_cons, List.map_nil, List.append_nil, List.nil_append, vl_nil, vf_nil, frz_nil, List.getElem?_cons_zero, List.getElem?_cons_succ, List.set_cons_zero, List.set_cons_succ, Bool.false_eq_true, if_false, if_true, reduceIte, List.length_cons, List.length_nil, Nat.reduceAdd, Nat.reduceSub, List.replicate, List.cons_append, List.replicate_succ, List.replicate_zero, Option.map_some, Option.map_none, Bool.not_true, Bool.not_false, List.singleton_append, ht, hty, isD1, isThreadD]
def dlen : D → Nat
  | .tup l => l.length
  | _ => 0
def beadsD (xs : List D) : Nat := (xs.map dlen).sum
theorem beads_sum {xs : List D} : sumD [.lst ((xs.map fun x => (dlen x : Int)).map .int)] = some (false, .int (beadsD xs : Nat)) := by
  have : ∀ xs : List D, (xs.map fun x => (dlen x : Int)).sum = (beadsD xs : Nat) := fun xs => by
    induction xs with
    | nil => rfl
    | cons x xs ih =>
      simp only [beadsD, List.map_cons, List.sum_cons] at ih ⊢
      omega
  simp only [sumD, ints_map, Option.map_some, this]
theorem beads_ok {x : D} {xs : List D} {W : Dr} (hx : x.items = some xs) (hs : ∀ s, x ≠ .str s) (hl : xs.length ≤ 16777216) (h : ∀ y ∈ xs, isThreadD y = true) : G_beads_in [x] W = .ok (false, .int (beadsD xs : Nat)) W := by
  have l1 : lcGo (lcOne E_beads_in_1 .nil (.nm 1) [1] [.val x, .un]) xs [] [] W = .ok ⟨.lst ((xs.map fun x => (dlen x : Int)).map .int), .fr, []⟩ W := by
    rw [lc_map (g := fun y => some (.int (dlen y))) xs (by simpa [cap] using hl) fun y hy => ?_]
    · simp [List.filterMap_eq_map', Function.comp_def]
    · have hy' := h y hy
      cases y <;> simp only [isThreadD] at hy' <;> try (cases hy')
      rename_i l
      refine ⟨_, lcOne_ok (v := ⟨.int l.length, .pl, []⟩) ?_, rfl, fun v hv => by cases hv; rfl⟩
      unfold E_beads_in_1
      have : lenD [.tup l] = some (false, .int l.length) := rfl
      simp only [wip, SOut.wp, vl_int, vl_str, vl_bl, vl_non, nd2, Nat.reduceLeDiff, Nat.reduceEqDiff, not_false_eq_true, and_self, and_true, true_and, putAll, big_eq, ↓evS_for, ↓ev_lc, evS, evT, evA, ev, evL, evO, evI, Out.bind, Out.st, ofS, ofO, D.isBl, vo, put, Vl.isFr, Vl.all, biD, ds, ts, sets, List.flatMap_cons, List.flatMap_nil, List.map_cons, List.map_nil, List.append_nil, List.nil_append, vl_nil, vf_nil, frz_nil, List.getElem?_cons_zero, List.getElem?_cons_succ, List.set_cons_zero, List.set_cons_succ, Bool.false_eq_true, if_false, if_true, reduceIte, List.length_cons, List.length_nil, Nat.reduceAdd, Nat.reduceSub, List.replicate, List.cons_append, List.replicate_succ, List.replicate_zero, Option.map_some, Option.map_none, Bool.not_true, Bool.not_false, List.singleton_append, wip, this]
  unfold G_beads_in Z.run B_beads_in
  simp only [wip, SOut.wp, vl_int, vl_str, vl_bl, vl_non, nd2, Nat.reduceLeDiff, Nat.reduceEqDiff, not_false_eq_true, and_self, and_true, true_and, putAll, big_eq, ↓evS_for, ↓ev_lc, evS, evT, evA, ev, evL, evO, evI, Out.bind, Out.st, ofS, ofO, D.isBl, vo, put, Vl.isFr, Vl.all, biD, ds, ts, sets, List.flatMap_cons, List.flatMap_nil, List.map_cons, List.map_nil, List.append_nil, List.nil_append, vl_nil, vf_nil, frz_nil, List.getElem?_cons_zero, List.getElem?_cons_succ, List.set_cons_zero, List.set_cons_succ, Bool.false_eq_true, if_false, if_true, reduceIte, List.length_cons, List.length_nil, Nat.reduceAdd, Nat.reduceSub, List.replicate, List.cons_append, List.replicate_succ, List.replicate_zero, Option.map_some, Option.map_none, Bool.not_true, Bool.not_false, List.singleton_append, hx, l1, beads_sum]
def areD : D → Bool
  | .lst xs => decide (1 ≤ xs.length) && decide (xs.length ≤ 8) && xs.all isThreadD && decide (beadsD xs ≤ 60)
  | .tup xs => decide (1 ≤ xs.length) && decide (xs.length ≤ 8) && xs.all isThreadD && decide (beadsD xs ≤ 60)
  | _ => false
theorem are_aux {x : D} {xs : List D} {W : Dr} (h : x.gd = true) (hx : x = .lst xs ∨ x = .tup xs) : G_are_threads [x] W = .ok (false, .bl (decide (1 ≤ xs.length) && decide (xs.length ≤ 8) && xs.all isThreadD && decide (beadsD xs ≤ 60))) W := by
  have ht := gd_typed h
  have h2 : (∀ y ∈ xs, y.gd = true) ∧ xs.length ≤ 16777216 := by
    rcases hx with rfl | rfl <;> simpa only [D.gd, Bool.and_eq_true, gdL_iff, decide_eq_true_eq] using h
  have hlen : lenD [x] = some (false, .int xs.length) := by rcases hx with rfl | rfl <;> rfl
  have hit : x.items = some xs := by rcases hx with rfl | rfl <;> rfl
  have hty : [Ty.list, Ty.tuple].any (isD1 x) = true := by rcases hx with rfl | rfl <;> rfl
  have hns : ∀ s, x ≠ .str s := fun s z => by rcases hx with rfl | rfl <;> cases z
  have l1 := lc_bools (el := E_are_threads_1) (pt := .nm 1) (own := [1]) (ρ := [.val x, .un]) (W := W) (xs := xs) (p := isThreadD) h2.2 fun y hy => by
    refine lcOne_ok ?_
    unfold E_are_threads_1
    simp only [wip, SOut.wp, vl_int, vl_str, vl_bl, vl_non, nd2, Nat.reduceLeDiff, Nat.reduceEqDiff, not_false_eq_true, and_self, and_true, true_and, putAll, big_eq, ↓evS_for, ↓ev_lc, evS, evT, evA, ev, evL, evO, evI, Out.bind, Out.st, ofS, ofO, D.isBl, vo, put, Vl.isFr, Vl.all, biD, ds, ts, sets, List.flatMap_cons, List.flatMap_nil, List.map_cons, List.map_nil, List.append_nil, List.nil_append, vl_nil, vf_nil, frz_nil, List.getElem?_cons_zero, List.getElem?_cons_succ, List.set_cons_zero, List.set_cons_succ, Bool.false_eq_true, if_false, if_true, reduceIte, List.length_cons, List.length_nil, Nat.reduceAdd, Nat.reduceSub, List.replicate, List.cons_append, List.replicate_succ, List.replicate_zero, Option.map_some, Option.map_none, Bool.not_true, Bool.not_false, List.singleton_append, wip, is_thread_ok (h2.1 y hy)]
  have hc : cmpD .LtE (.int 1) (.int xs.length) = some (decide (1 ≤ xs.length)) := by
    simp only [cmpD]; congr 1; exact decide_eq_decide.mpr (by omega)
  have hc2 : cmpD .LtE (.int xs.length) (.int 8) = some (decide (xs.length ≤ 8)) := by
    simp only [cmpD]; congr 1; exact decide_eq_decide.mpr (by omega)
  have hc3 : cmpD .LtE (.int (beadsD xs : Nat)) (.int 60) = some (decide (beadsD xs ≤ 60)) := by
    simp only [cmpD]; congr 1; exact decide_eq_decide.mpr (by omega)
  unfold G_are_threads Z.run B_are_threads
  cases h1 : decide (1 ≤ xs.length) with
  | false => simp only [wip, SOut.wp, vl_int, vl_str, vl_bl, vl_non, nd2, Nat.reduceLeDiff, Nat.reduceEqDiff, not_false_eq_true, and_self, and_true, true_and, putAll, big_eq, ↓evS_for, ↓ev_lc, evS, evT, evA, ev, evL, evO, evI, Out.bind, Out.st, ofS, ofO, D.isBl, vo, put, Vl.isFr, Vl.all, biD, ds, ts, sets, List.flatMap_cons, List.flatMap_nil, List.map_cons, List.map_nil, List.append_nil, List.nil_append, vl_nil, vf_nil, frz_nil, List.getElem?_cons_zero, List.getElem?_cons_succ, List.set_cons_zero, List.set_cons_succ, Bool.false_eq_true, if_false, if_true, reduceIte, List.length_cons, List.length_nil, Nat.reduceAdd, Nat.reduceSub, List.replicate, List.cons_append, List.replicate_succ, List.replicate_zero, Option.map_some, Option.map_none, Bool.not_true, Bool.not_false, List.singleton_append, ht, hty, hlen, hc, h1, Bool.false_and]
  | true =>
    cases h3 : decide (xs.length ≤ 8) with
    | false => simp only [wip, SOut.wp, vl_int, vl_str, vl_bl, vl_non, nd2, Nat.reduceLeDiff, Nat.reduceEqDiff, not_false_eq_true, and_self, and_true, true_and, putAll, big_eq, ↓evS_for, ↓ev_lc, evS, evT, evA, ev, evL, evO, evI, Out.bind, Out.st, ofS, ofO, D.isBl, vo, put, Vl.isFr, Vl.all, biD, ds, ts, sets, List.flatMap_cons, List.flatMap_nil, List.map_cons, List.map_nil, List.append_nil, List.nil_append, vl_nil, vf_nil, frz_nil, List.getElem?_cons_zero, List.getElem?_cons_succ, List.set_cons_zero, List.set_cons_succ, Bool.false_eq_true, if_false, if_true, reduceIte, List.length_cons, List.length_nil, Nat.reduceAdd, Nat.reduceSub, List.replicate, List.cons_append, List.replicate_succ, List.replicate_zero, Option.map_some, Option.map_none, Bool.not_true, Bool.not_false, List.singleton_append, ht, hty, hlen, hc, h1, hc2, h3, Bool.false_and, Bool.and_false]
    | true =>
      cases h4 : xs.all isThreadD with
      | false => simp only [wip, SOut.wp, vl_int, vl_str, vl_bl, vl_non, nd2, Nat.reduceLeDiff, Nat.reduceEqDiff, not_false_eq_true, and_self, and_true, true_and, putAll, big_eq, ↓evS_for, ↓ev_lc, evS, evT, evA, ev, evL, evO, evI, Out.bind, Out.st, ofS, ofO, D.isBl, vo, put, Vl.isFr, Vl.all, biD, ds, ts, sets, List.flatMap_cons, List.flatMap_nil, List.map_cons, List.map_nil, List.append_nil, List.nil_append, vl_nil, vf_nil, frz_nil, List.getElem?_cons_zero, List.getElem?_cons_succ, List.set_cons_zero, List.set_cons_succ, Bool.false_eq_true, if_false, if_true, reduceIte, List.length_cons, List.length_nil, Nat.reduceAdd, Nat.reduceSub, List.replicate, List.cons_append, List.replicate_succ, List.replicate_zero, Option.map_some, Option.map_none, Bool.not_true, Bool.not_false, List.singleton_append, ht, hty, hlen, hc, h1, hc2, h3, hit, l1, all_map, h4, Bool.false_and, Bool.and_false]
      | true =>
        have hb := beads_ok (W := W) hit hns h2.2 fun y hy => List.all_eq_true.mp h4 y hy
        simp only [wip, SOut.wp, vl_int, vl_str, vl_bl, vl_non, nd2, Nat.reduceLeDiff, Nat.reduceEqDiff, not_false_eq_true, and_self, and_true, true_and, putAll, big_eq, ↓evS_for, ↓ev_lc, evS, evT, evA, ev, evL, evO, evI, Out.bind, Out.st, ofS, ofO, D.isBl, vo, put, Vl.isFr, Vl.all, biD, ds, ts, sets, List.flatMap_cons, List.flatMap_nil, List.map_cons, List.map_nil, List.append_nil, List.nil_append, vl_nil, vf_nil, frz_nil, List.getElem?_cons_zero, List.getElem?_cons_succ, List.set_cons_zero, List.set_cons_succ, Bool.false_eq_true, if_false, if_true, reduceIte, List.length_cons, List.length_nil, Nat.reduceAdd, Nat.reduceSub, List.replicate, List.cons_append, List.replicate_succ, List.replicate_zero, Option.map_some, Option.map_none, Bool.not_true, Bool.not_false, List.singleton_append, ht, hty, hlen, hc, h1, hc2, h3, hit, l1, all_map, h4, hb, hc3, Bool.true_and]
theorem are_threads_ok {x : D} {W : Dr} (h : x.gd = true) : G_are_threads [x] W = .ok (false, .bl (areD x)) W := by
  have ht := gd_typed h
  cases x
  case lst xs => exact are_aux h (.inl rfl)
  case tup xs => exact are_aux h (.inr rfl)
  all_goals
    have hty : ∀ b, [Ty.list, Ty.tuple].any (isD1 b) = (isD1 b .list || isD1 b .tuple) := fun b => by simp
    unfold G_are_threads Z.run B_are_threads
    simp only [wip, SOut.wp, vl_int, vl_str, vl_bl, vl_non, nd2, Nat.reduceLeDiff, Nat.reduceEqDiff, not_false_eq_true, and_self, and_true, true_and, putAll, big_eq, ↓evS_for, ↓ev_lc, evS, evT, evA, ev, evL, evO, evI, Out.bind, Out.st, ofS, ofO, D.isBl, vo, put, Vl.isFr, Vl.all, biD, ds, ts, sets, List.flatMap_cons, List.flatMap_nil, List.map_cons, List.map_nil, List.append_nil, List.nil_append, vl_nil, vf_nil, frz_nil, List.getElem?_cons_zero, List.getElem?_cons_succ, List.set_cons_zero, List.set_cons_succ, Bool.false_eq_true, if_false, if_true, reduceIte, List.length_cons, List.length_nil, Nat.reduceAdd, Nat.reduceSub, List.replicate, List.cons_append, List.replicate_succ, List.replicate_zero, Option.map_some, Option.map_none, Bool.not_true, Bool.not_false, List.singleton_append, ht, hty, isD1, areD, Bool.or_false]
/-- a state over some threads -/
def stD (xs : List D) : D := .ins "State" [("s_lines", .tup xs)]
theorem State_ok {x : D} {xs : List D} {W : Dr} (h : x.gd = true) (hx : x = .lst xs ∨ x = .tup xs) (ha : areD x = true) : G_State [x] W = .ok (false, stD xs) W := by
  have e := are_threads_ok (W := W) h
  rw [ha] at e
  have ht : tupleD [x] = some (false, .tup xs) := by rcases hx with rfl | rfl <;> rfl
  unfold G_State GI_State Z.runC B_State___init__
  simp only [wip, SOut.wp, vl_int, vl_str, vl_bl, vl_non, nd2, Nat.reduceLeDiff, Nat.reduceEqDiff, not_false_eq_true, and_self, and_true, true_and, putAll, big_eq, ↓evS_for, ↓ev_lc, evS, evT, evA, ev, evL, evO, evI, Out.bind, Out.st, ofS, ofO, D.isBl, vo, put, Vl.isFr, Vl.all, biD, ds, ts, sets, List.flatMap_cons, List.flatMap_nil, List.map_cons, List.map_nil, List.append_nil, List.nil_append, vl_nil, vf_nil, frz_nil, List.getElem?_cons_zero, List.getElem?_cons_succ, List.set_cons_zero, List.set_cons_succ, Bool.false_eq_true, if_false, if_true, reduceIte, List.length_cons, List.length_nil, Nat.reduceAdd, Nat.reduceSub, List.replicate, List.cons_append, List.replicate_succ, List.replicate_zero, Option.map_some, Option.map_none, Bool.not_true, Bool.not_false, List.singleton_append, e, ht, putFD, Sl.noSlf, List.all_cons, List.all_nil, Bool.and_true]
  simp [stD]
theorem State_no {x : D} {W : Dr} (h : x.gd = true) (ha : areD x = false) : G_State [x] W = .ex (.exc "NoState" []) W := by
  have e := are_threads_ok (W := W) h
  rw [ha] at e
  unfold G_State GI_State Z.runC B_State___init__
  simp only [wip, SOut.wp, vl_int, vl_str, vl_bl, vl_non, nd2, Nat.reduceLeDiff, Nat.reduceEqDiff, not_false_eq_true, and_self, and_true, true_and, putAll, big_eq, ↓evS_for, ↓ev_lc, evS, evT, evA, ev, evL, evO, evI, Out.bind, Out.st, ofS, ofO, D.isBl, vo, put, Vl.isFr, Vl.all, biD, ds, ts, sets, List.flatMap_cons, List.flatMap_nil, List.map_cons, List.map_nil, List.append_nil, List.nil_append, vl_nil, vf_nil, frz_nil, List.getElem?_cons_zero, List.getElem?_cons_succ, List.set_cons_zero, List.set_cons_succ, Bool.false_eq_true, if_false, if_true, reduceIte, List.length_cons, List.length_nil, Nat.reduceAdd, Nat.reduceSub, List.replicate, List.cons_append, List.replicate_succ, List.replicate_zero, Option.map_some, Option.map_none, Bool.not_true, Bool.not_false, List.singleton_append, e]
end Z

namespace Z
open PySem
def isInt : D → Bool
  | .int _ => true
  | _ => false
def isIx (x : D) (n : Nat) : Bool := match x with
  | .int i => decide (0 ≤ i) && decide (i < n)
  | _ => false
theorem isIx_of {x : D} {n : Nat} (h : isIx x n = true) : ∃ i : Nat, x = .int i ∧ i < n := by
  cases x <;> simp only [isIx] at h <;> try (cases h)
  rename_i i
  simp only [Bool.and_eq_true, decide_eq_true_eq] at h
  obtain ⟨m, rfl⟩ := Int.eq_ofNat_of_zero_le h.1
  exact ⟨m, rfl, by omega⟩
theorem isIx_mk {i n : Nat} (h : i < n) : isIx (.int i) n = true := by simp [isIx, h]
theorem is_integer_ok {x : D} {W : Dr} (h : x.typed = true) : G_is_integer [x] W = .ok (false, .bl (isInt x)) W := by
  have h1 : [Ty.int].any (isD1 x) = isD1 x .int := by simp
  have h2 : [Ty.bool].any (isD1 x) = isD1 x .bool := by simp
  unfold G_is_integer Z.run B_is_integer
  cases x <;> first | (simp [D.typed] at h; done) | simp only [wip, SOut.wp, vl_int, vl_str, vl_bl, vl_non, nd2, Nat.reduceLeDiff, Nat.reduceEqDiff, not_false_eq_true, and_self, and_true, true_and, putAll, big_eq, ↓evS_for, ↓ev_lc, evS, evT, evA, ev, evL, evO, evI, Out.bind, Out.st, ofS, ofO, D.isBl, vo, put, Vl.isFr, Vl.all, biD, ds, ts, sets, List.flatMap_cons, List.flatMap_nil, List.map_cons, List.map_nil, List.append_nil, List.nil_append, vl_nil, vf_nil, frz_nil, List.getElem?_cons_zero, List.getElem?_cons_succ, List.set_cons_zero, List.set_cons_succ, Bool.false_eq_true, if_false, if_true, reduceIte, List.length_cons, List.length_nil, Nat.reduceAdd, Nat.reduceSub, List.replicate, List.cons_append, List.replicate_succ, List.replicate_zero, Option.map_some, Option.map_none, Bool.not_true, Bool.not_false, List.singleton_append, h, h1, h2, isD1, isInt]
theorem le0 {i : Int} : cmpD .LtE (.int 0) (.int i) = some (decide (0 ≤ i)) := rfl
theorem ltN {i j : Int} : cmpD .Lt (.int i) (.int j) = some (decide (i < j)) := rfl
theorem is_index_ok {x : D} {n : Nat} {W : Dr} (h : x.typed = true) : G_is_index [x, .int n] W = .ok (false, .bl (isIx x n)) W := by
  have e := is_integer_ok (W := W) h
  unfold G_is_index Z.run B_is_index
  cases x <;> simp only [isInt] at e
  case int i =>
    cases h1 : decide (0 ≤ i) with
    | false => simp only [wip, SOut.wp, vl_int, vl_str, vl_bl, vl_non, nd2, Nat.reduceLeDiff, Nat.reduceEqDiff, not_false_eq_true, and_self, and_true, true_and, putAll, big_eq, ↓evS_for, ↓ev_lc, evS, evT, evA, ev, evL, evO, evI, Out.bind, Out.st, ofS, ofO, D.isBl, vo, put, Vl.isFr, Vl.all, biD, ds, ts, sets, List.flatMap_cons, List.flatMap_nil, List.map_cons, List.map_nil, List.append_nil, List.nil_append, vl_nil, vf_nil, frz_nil, List.getElem?_cons_zero, List.getElem?_cons_succ, List.set_cons_zero, List.set_cons_succ, Bool.false_eq_true, if_false, if_true, reduceIte, List.length_cons, List.length_nil, Nat.reduceAdd, Nat.reduceSub, List.replicate, List.cons_append, List.replicate_succ, List.replicate_zero, Option.map_some, Option.map_none, Bool.not_true, Bool.not_false, List.singleton_append, e, le0, h1, isIx, Bool.false_and]
    | true => simp only [wip, SOut.wp, vl_int, vl_str, vl_bl, vl_non, nd2, Nat.reduceLeDiff, Nat.reduceEqDiff, not_false_eq_true, and_self, and_true, true_and, putAll, big_eq, ↓evS_for, ↓ev_lc, evS, evT, evA, ev, evL, evO, evI, Out.bind, Out.st, ofS, ofO, D.isBl, vo, put, Vl.isFr, Vl.all, biD, ds, ts, sets, List.flatMap_cons, List.flatMap_nil, List.map_cons, List.map_nil, List.append_nil, List.nil_append, vl_nil, vf_nil, frz_nil, List.getElem?_cons_zero, List.getElem?_cons_succ, List.set_cons_zero, List.set_cons_succ, Bool.false_eq_true, if_false, if_true, reduceIte, List.length_cons, List.length_nil, Nat.reduceAdd, Nat.reduceSub, List.replicate, List.cons_append, List.replicate_succ, List.replicate_zero, Option.map_some, Option.map_none, Bool.not_true, Bool.not_false, List.singleton_append, e, le0, ltN, h1, isIx, Bool.true_and]
  all_goals simp only [wip, SOut.wp, vl_int, vl_str, vl_bl, vl_non, nd2, Nat.reduceLeDiff, Nat.reduceEqDiff, not_false_eq_true, and_self, and_true, true_and, putAll, big_eq, ↓evS_for, ↓ev_lc, evS, evT, evA, ev, evL, evO, evI, Out.bind, Out.st, ofS, ofO, D.isBl, vo, put, Vl.isFr, Vl.all, biD, ds, ts, sets, List.flatMap_cons, List.flatMap_nil, List.map_cons, List.map_nil, List.append_nil, List.nil_append, vl_nil, vf_nil, frz_nil, List.getElem?_cons_zero, List.getElem?_cons_succ, List.set_cons_zero, List.set_cons_succ, Bool.false_eq_true, if_false, if_true, reduceIte, List.length_cons, List.length_nil, Nat.reduceAdd, Nat.reduceSub, List.replicate, List.cons_append, List.replicate_succ, List.replicate_zero, Option.map_some, Option.map_none, Bool.not_true, Bool.not_false, List.singleton_append, e, isIx]
theorem is_spot_ok {x : D} {n : Nat} {W : Dr} (h : x.typed = true) : G__law_is_spot [x, .int n] W = .ok (false, .bl (isIx x n)) W := by
  have t1 : [Ty.int].any (isD1 x) = isD1 x .int := by simp
  have t2 : [Ty.bool].any (isD1 x) = isD1 x .bool := by simp
  unfold G__law_is_spot Z.run B__law_is_spot
  cases x <;> first | (simp [D.typed] at h; done) | skip
  case int i =>
    cases h1 : decide (0 ≤ i) with
    | false => simp only [wip, SOut.wp, vl_int, vl_str, vl_bl, vl_non, nd2, Nat.reduceLeDiff, Nat.reduceEqDiff, not_false_eq_true, and_self, and_true, true_and, putAll, big_eq, ↓evS_for, ↓ev_lc, evS, evT, evA, ev, evL, evO, evI, Out.bind, Out.st, ofS, ofO, D.isBl, vo, put, Vl.isFr, Vl.all, biD, ds, ts, sets, List.flatMap_cons, List.flatMap_nil, List.map_cons, List.map_nil, List.append_nil, List.nil_append, vl_nil, vf_nil, frz_nil, List.getElem?_cons_zero, List.getElem?_cons_succ, List.set_cons_zero, List.set_cons_succ, Bool.false_eq_true, if_false, if_true, reduceIte, List.length_cons, List.length_nil, Nat.reduceAdd, Nat.reduceSub, List.replicate, List.cons_append, List.replicate_succ, List.replicate_zero, Option.map_some, Option.map_none, Bool.not_true, Bool.not_false, List.singleton_append, h, t1, t2, isD1, le0, h1, isIx, Bool.false_and]
    | true => simp only [wip, SOut.wp, vl_int, vl_str, vl_bl, vl_non, nd2, Nat.reduceLeDiff, Nat.reduceEqDiff, not_false_eq_true, and_self, and_true, true_and, putAll, big_eq, ↓evS_for, ↓ev_lc, evS, evT, evA, ev, evL, evO, evI, Out.bind, Out.st, ofS, ofO, D.isBl, vo, put, Vl.isFr, Vl.all, biD, ds, ts, sets, List.flatMap_cons, List.flatMap_nil, List.map_cons, List.map_nil, List.append_nil, List.nil_append, vl_nil, vf_nil, frz_nil, List.getElem?_cons_zero, List.getElem?_cons_succ, List.set_cons_zero, List.set_cons_succ, Bool.false_eq_true, if_false, if_true, reduceIte, List.length_cons, List.length_nil, Nat.reduceAdd, Nat.reduceSub, List.replicate, List.cons_append, List.replicate_succ, List.replicate_zero, Option.map_some, Option.map_none, Bool.not_true, Bool.not_false, List.singleton_append, h, t1, t2, isD1, le0, ltN, h1, isIx, Bool.true_and]
  all_goals simp only [wip, SOut.wp, vl_int, vl_str, vl_bl, vl_non, nd2, Nat.reduceLeDiff, Nat.reduceEqDiff, not_false_eq_true, and_self, and_true, true_and, putAll, big_eq, ↓evS_for, ↓ev_lc, evS, evT, evA, ev, evL, evO, evI, Out.bind, Out.st, ofS, ofO, D.isBl, vo, put, Vl.isFr, Vl.all, biD, ds, ts, sets, List.flatMap_cons, List.flatMap_nil, List.map_cons, List.map_nil, List.append_nil, List.nil_append, vl_nil, vf_nil, frz_nil, List.getElem?_cons_zero, List.getElem?_cons_succ, List.set_cons_zero, List.set_cons_succ, Bool.false_eq_true, if_false, if_true, reduceIte, List.length_cons, List.length_nil, Nat.reduceAdd, Nat.reduceSub, List.replicate, List.cons_append, List.replicate_succ, List.replicate_zero, Option.map_some, Option.map_none, Bool.not_true, Bool.not_false, List.singleton_append, h, t1, t2, isD1, isIx]
/-- a check that raises or says nothing -/
def need (b : Bool) (e : Str) (W : Dr) : Out (Bool × D) := if b then .ok (false, .non) W else .ex (.exc e []) W
theorem len_lst {xs : List D} : lenD [.lst xs] = some (false, .int xs.length) := rfl
theorem len_tup {xs : List D} : lenD [.tup xs] = some (false, .int xs.length) := rfl
theorem need_thread_ok {xs : List D} {x : D} {W : Dr} (h : x.typed = true) : G_need_thread [.lst xs, x] W = need (isIx x xs.length) "NoThread" W := by
  have e := is_index_ok (n := xs.length) (W := W) h
  unfold G_need_thread Z.run B_need_thread need
  cases hb : isIx x xs.length <;> rw [hb] at e <;> simp only [wip, SOut.wp, vl_int, vl_str, vl_bl, vl_non, nd2, Nat.reduceLeDiff, Nat.reduceEqDiff, not_false_eq_true, and_self, and_true, true_and, putAll, big_eq, ↓evS_for, ↓ev_lc, evS, evT, evA, ev, evL, evO, evI, Out.bind, Out.st, ofS, ofO, D.isBl, vo, put, Vl.isFr, Vl.all, biD, ds, ts, sets, List.flatMap_cons, List.flatMap_nil, List.map_cons, List.map_nil, List.append_nil, List.nil_append, vl_nil, vf_nil, frz_nil, List.getElem?_cons_zero, List.getElem?_cons_succ, List.set_cons_zero, List.set_cons_succ, Bool.false_eq_true, if_false, if_true, reduceIte, List.length_cons, List.length_nil, Nat.reduceAdd, Nat.reduceSub, List.replicate, List.cons_append, List.replicate_succ, List.replicate_zero, Option.map_some, Option.map_none, Bool.not_true, Bool.not_false, List.singleton_append, e, len_lst]
theorem need_bead_ok {xs : List D} {x : D} {W : Dr} (h : x.typed = true) : G_need_bead [.tup xs, x] W = need (isIx x xs.length) "NoBead" W := by
  have e := is_index_ok (n := xs.length) (W := W) h
  unfold G_need_bead Z.run B_need_bead need
  cases hb : isIx x xs.length <;> rw [hb] at e <;> simp only [wip, SOut.wp, vl_int, vl_str, vl_bl, vl_non, nd2, Nat.reduceLeDiff, Nat.reduceEqDiff, not_false_eq_true, and_self, and_true, true_and, putAll, big_eq, ↓evS_for, ↓ev_lc, evS, evT, evA, ev, evL, evO, evI, Out.bind, Out.st, ofS, ofO, D.isBl, vo, put, Vl.isFr, Vl.all, biD, ds, ts, sets, List.flatMap_cons, List.flatMap_nil, List.map_cons, List.map_nil, List.append_nil, List.nil_append, vl_nil, vf_nil, frz_nil, List.getElem?_cons_zero, List.getElem?_cons_succ, List.set_cons_zero, List.set_cons_succ, Bool.false_eq_true, if_false, if_true, reduceIte, List.length_cons, List.length_nil, Nat.reduceAdd, Nat.reduceSub, List.replicate, List.cons_append, List.replicate_succ, List.replicate_zero, Option.map_some, Option.map_none, Bool.not_true, Bool.not_false, List.singleton_append, e, len_tup]
theorem need_state_ok {x : D} {W : Dr} (h : x.typed = true) : G_need_state [x] W = need (isD1 x Ty_State) "NoState" W := by
  have t1 : [Ty_State].any (isD1 x) = isD1 x Ty_State := by simp
  unfold G_need_state Z.run B_need_state need
  cases hb : isD1 x Ty_State <;> simp only [wip, SOut.wp, vl_int, vl_str, vl_bl, vl_non, nd2, Nat.reduceLeDiff, Nat.reduceEqDiff, not_false_eq_true, and_self, and_true, true_and, putAll, big_eq, ↓evS_for, ↓ev_lc, evS, evT, evA, ev, evL, evO, evI, Out.bind, Out.st, ofS, ofO, D.isBl, vo, put, Vl.isFr, Vl.all, biD, ds, ts, sets, List.flatMap_cons, List.flatMap_nil, List.map_cons, List.map_nil, List.append_nil, List.nil_append, vl_nil, vf_nil, frz_nil, List.getElem?_cons_zero, List.getElem?_cons_succ, List.set_cons_zero, List.set_cons_succ, Bool.false_eq_true, if_false, if_true, reduceIte, List.length_cons, List.length_nil, Nat.reduceAdd, Nat.reduceSub, List.replicate, List.cons_append, List.replicate_succ, List.replicate_zero, Option.map_some, Option.map_none, Bool.not_true, Bool.not_false, List.singleton_append, h, t1, hb]
theorem lines_of_ok {xs : List D} {W : Dr} : G_lines_of [stD xs] W = .ok (true, .lst xs) W := by
  have e : attrD (stD xs) "s_lines" = some (.tup xs) := rfl
  unfold G_lines_of Z.run B_lines_of
  simp only [wip, SOut.wp, vl_int, vl_str, vl_bl, vl_non, nd2, Nat.reduceLeDiff, Nat.reduceEqDiff, not_false_eq_true, and_self, and_true, true_and, putAll, big_eq, ↓evS_for, ↓ev_lc, evS, evT, evA, ev, evL, evO, evI, Out.bind, Out.st, ofS, ofO, D.isBl, vo, put, Vl.isFr, Vl.all, biD, ds, ts, sets, List.flatMap_cons, List.flatMap_nil, List.map_cons, List.map_nil, List.append_nil, List.nil_append, vl_nil, vf_nil, frz_nil, List.getElem?_cons_zero, List.getElem?_cons_succ, List.set_cons_zero, List.set_cons_succ, Bool.false_eq_true, if_false, if_true, reduceIte, List.length_cons, List.length_nil, Nat.reduceAdd, Nat.reduceSub, List.replicate, List.cons_append, List.replicate_succ, List.replicate_zero, Option.map_some, Option.map_none, Bool.not_true, Bool.not_false, List.singleton_append, e, listD]
theorem threads_ok {xs : List D} {W : Dr} : G_State_threads [stD xs] W = .ok (true, .lst xs) W := by
  have e : attrD (stD xs) "s_lines" = some (.tup xs) := rfl
  unfold G_State_threads Z.run B_State_threads
  simp only [wip, SOut.wp, vl_int, vl_str, vl_bl, vl_non, nd2, Nat.reduceLeDiff, Nat.reduceEqDiff, not_false_eq_true, and_self, and_true, true_and, putAll, big_eq, ↓evS_for, ↓ev_lc, evS, evT, evA, ev, evL, evO, evI, Out.bind, Out.st, ofS, ofO, D.isBl, vo, put, Vl.isFr, Vl.all, biD, ds, ts, sets, List.flatMap_cons, List.flatMap_nil, List.map_cons, List.map_nil, List.append_nil, List.nil_append, vl_nil, vf_nil, frz_nil, List.getElem?_cons_zero, List.getElem?_cons_succ, List.set_cons_zero, List.set_cons_succ, Bool.false_eq_true, if_false, if_true, reduceIte, List.length_cons, List.length_nil, Nat.reduceAdd, Nat.reduceSub, List.replicate, List.cons_append, List.replicate_succ, List.replicate_zero, Option.map_some, Option.map_none, Bool.not_true, Bool.not_false, List.singleton_append, e, listD]
def exchg (ls : List (List Str)) (i p j q : Nat) : List (List Str) := (ls.set i ((ls.getD i []).take (p + 1) ++ (ls.getD j []).drop (q + 1))).set j ((ls.getD j []).take (q + 1) ++ (ls.getD i []).drop (p + 1))
def natOf : D → Nat
  | .int i => i.toNat
  | _ => 0
/-- the error of two places that is due first, "" for none -/
def plErr (ls : List (List Str)) (i p j q : D) : Str :=
  if isIx i ls.length && isIx j ls.length then
    if natOf i = natOf j then "NoSwap" else if isIx p (ls.getD (natOf i) []).length && isIx q (ls.getD (natOf j) []).length then "" else "NoBead"
  else "NoThread"
def swErr (ls : List (List Str)) (i p j q : D) : Str :=
  if plErr ls i p j q = "" then (if (ls.getD (natOf i) [])[natOf p]? = (ls.getD (natOf j) [])[natOf q]? then "" else "NoSwap") else plErr ls i p j q
def rais (e : Str) (r : Bool × D) (W : Dr) : Out (Bool × D) := if e = "" then .ok r W else .ex (.exc e []) W
theorem tD_ix {ls : List (List Str)} {i : Nat} (h : i < ls.length) : ixD (.lst (tD ls)) (.int i) = some (th (ls.getD i [])) := by
  have h2 : i < (tD ls).length := by simpa [tD] using h
  simp only [ixD]
  rw [atD_nat h2]
  simp [tD, h]
theorem th_ix {l : List Str} {i : Nat} (h : i < l.length) : ixD (th l) (.int i) = some (.str l[i]) := by
  have h2 : i < (sts l).length := by simpa [sts] using h
  simp only [ixD, th]
  rw [atD_nat h2]
  simp [sts]
theorem th_to {l : List Str} {k : Nat} : slD (th l) none (some (k : Int)) = some (false, th (l.take k)) := by
  simp only [slD, th]
  rw [cut_to (by omega)]
  simp [sts, List.map_take]
theorem th_from {l : List Str} {k : Nat} : slD (th l) (some (k : Int)) none = some (false, th (l.drop k)) := by
  simp only [slD, th]
  rw [cut_from (by omega)]
  simp [sts, List.map_drop]
theorem th_add {l k : List Str} (h : l.length + k.length ≤ 16777216) : binD .Add (th l) (th k) = some (false, th (l ++ k)) := by
  simp only [binD, th]
  rw [if_pos (by simpa [sts] using h)]
  simp [sts]
theorem tD_set {ls : List (List Str)} {i : Nat} {l : List Str} : (tD ls).set i (th l) = tD (ls.set i l) := by simp [tD, List.map_set]
theorem tD_len {ls : List (List Str)} : (tD ls).length = ls.length := by simp [tD]
theorem th_len {l : List Str} : (sts l).length = l.length := by simp [sts]
theorem add1 {i : Nat} : binD .Add (.int i) (.int 1) = some (false, .int ((i + 1 : Nat) : Int)) := rfl
theorem traded_ok {ls : List (List Str)} {i p j q : Nat} {W : Dr} (hi : i < ls.length) (hj : j < ls.length) (hl : ∀ l ∈ ls, l.length ≤ 1000) : G_traded [.lst (tD ls), .int i, .int p, .int j, .int q] W = .ok (true, .lst (tD (exchg ls i p j q))) W := by
  have l1 : (ls.getD i []).length ≤ 1000 := by simp [hi]; exact hl _ (List.getElem_mem hi)
  have l2 : (ls.getD j []).length ≤ 1000 := by simp [hj]; exact hl _ (List.getElem_mem hj)
  have a1 := th_add (l := (ls.getD i []).take (p + 1)) (k := (ls.getD j []).drop (q + 1)) (by simp only [List.length_take, List.length_drop]; omega)
  have a2 := th_add (l := (ls.getD j []).take (q + 1)) (k := (ls.getD i []).drop (p + 1)) (by simp only [List.length_take, List.length_drop]; omega)
  have x1 : ixOf (tD ls).length (i : Int) = some i := ixOf_nat (by rw [tD_len]; exact hi)
  have x2 : ixOf (tD (ls.set i ((ls.getD i []).take (p + 1) ++ (ls.getD j []).drop (q + 1)))).length (j : Int) = some j := ixOf_nat (by rw [tD_len, List.length_set]; exact hj)
  unfold G_traded Z.run B_traded
  simp only [wip, SOut.wp, vl_int, vl_str, vl_bl, vl_non, nd2, Nat.reduceLeDiff, Nat.reduceEqDiff, not_false_eq_true, and_self, and_true, true_and, putAll, big_eq, ↓evS_for, ↓ev_lc, evS, evT, evA, ev, evL, evO, evI, Out.bind, Out.st, ofS, ofO, D.isBl, vo, put, Vl.isFr, Vl.all, biD, ds, ts, sets, List.flatMap_cons, List.flatMap_nil, List.map_cons, List.map_nil, List.append_nil, List.nil_append, vl_nil, vf_nil, frz_nil, List.getElem?_cons_zero, List.getElem?_cons_succ, List.set_cons_zero, List.set_cons_succ, Bool.false_eq_true, if_false, if_true, reduceIte, List.length_cons, List.length_nil, Nat.reduceAdd, Nat.reduceSub, List.replicate, List.cons_append, List.replicate_succ, List.replicate_zero, Option.map_some, Option.map_none, Bool.not_true, Bool.not_false, List.singleton_append, listD, tD_ix hi, tD_ix hj, add1, th_to, th_from, a1, a2, x1, x2, tD_set, imm_th, vl_imm]
  rfl
theorem eq_int {a b : Int} : cmpD .Eq (.int a) (.int b) = some (decide (a = b)) := by
  simp [cmpD, D.eq, D.pyN, PyData.eqv]
  rw [Bool.eq_iff_iff]; simp
theorem eq_str {a b : Str} : cmpD .Eq (.str a) (.str b) = some (decide (a = b)) := by
  simp [cmpD, D.eq, D.pyN, PyData.eqv]
  rw [Bool.eq_iff_iff]; simp
theorem ne_str {a b : Str} : cmpD .NotEq (.str a) (.str b) = some (!decide (a = b)) := by
  simp [cmpD, D.eq, D.pyN, PyData.eqv]
  rw [Bool.eq_iff_iff]; simp
theorem natOf_int {i : Nat} : natOf (.int (i : Int)) = i := rfl
theorem str_ne1 : ¬ (("NoThread" : Str) = "") := by decide +kernel
theorem str_ne2 : ¬ (("NoSwap" : Str) = "") := by decide +kernel
theorem str_ne3 : ¬ (("NoBead" : Str) = "") := by decide +kernel
theorem need_places_ok {ls : List (List Str)} {i p j q : D} {W : Dr} (hi : i.typed = true) (hp : p.typed = true) (hj : j.typed = true) (hq : q.typed = true) :
    G_need_places [.lst (tD ls), i, p, j, q] W = rais (plErr ls i p j q) (false, .non) W := by
  have e1 := need_thread_ok (xs := tD ls) (W := W) hi
  have e2 := need_thread_ok (xs := tD ls) (W := W) hj
  rw [tD_len] at e1 e2
  unfold G_need_places Z.run B_need_places
  cases h1 : isIx i ls.length with
  | false =>
    rw [h1] at e1
    simp only [wip, SOut.wp, vl_int, vl_str, vl_bl, vl_non, nd2, Nat.reduceLeDiff, Nat.reduceEqDiff, not_false_eq_true, and_self, and_true, true_and, putAll, big_eq, ↓evS_for, ↓ev_lc, evS, evT, evA, ev, evL, evO, evI, Out.bind, Out.st, ofS, ofO, D.isBl, vo, put, Vl.isFr, Vl.all, biD, ds, ts, sets, List.flatMap_cons, List.flatMap_nil, List.map_cons, List.map_nil, List.append_nil, List.nil_append, vl_nil, vf_nil, frz_nil, List.getElem?_cons_zero, List.getElem?_cons_succ, List.set_cons_zero, List.set_cons_succ, Bool.false_eq_true, if_false, if_true, reduceIte, List.length_cons, List.length_nil, Nat.reduceAdd, Nat.reduceSub, List.replicate, List.cons_append, List.replicate_succ, List.replicate_zero, Option.map_some, Option.map_none, Bool.not_true, Bool.not_false, List.singleton_append, e1, need, rais, plErr, h1, Bool.false_and, str_ne1]
  | true =>
    rw [h1] at e1
    cases h2 : isIx j ls.length with
    | false =>
      rw [h2] at e2
      simp only [wip, SOut.wp, vl_int, vl_str, vl_bl, vl_non, nd2, Nat.reduceLeDiff, Nat.reduceEqDiff, not_false_eq_true, and_self, and_true, true_and, putAll, big_eq, ↓evS_for, ↓ev_lc, evS, evT, evA, ev, evL, evO, evI, Out.bind, Out.st, ofS, ofO, D.isBl, vo, put, Vl.isFr, Vl.all, biD, ds, ts, sets, List.flatMap_cons, List.flatMap_nil, List.map_cons, List.map_nil, List.append_nil, List.nil_append, vl_nil, vf_nil, frz_nil, List.getElem?_cons_zero, List.getElem?_cons_succ, List.set_cons_zero, List.set_cons_succ, Bool.false_eq_true, if_false, if_true, reduceIte, List.length_cons, List.length_nil, Nat.reduceAdd, Nat.reduceSub, List.replicate, List.cons_append, List.replicate_succ, List.replicate_zero, Option.map_some, Option.map_none, Bool.not_true, Bool.not_false, List.singleton_append, e1, e2, need, rais, plErr, h1, h2, Bool.and_false, str_ne1]
    | true =>
      rw [h2] at e2
      obtain ⟨a, rfl, ha⟩ := isIx_of h1
      obtain ⟨b, rfl, hb⟩ := isIx_of h2
      by_cases hab : a = b
      · subst hab
        simp only [wip, SOut.wp, vl_int, vl_str, vl_bl, vl_non, nd2, Nat.reduceLeDiff, Nat.reduceEqDiff, not_false_eq_true, and_self, and_true, true_and, putAll, big_eq, ↓evS_for, ↓ev_lc, evS, evT, evA, ev, evL, evO, evI, Out.bind, Out.st, ofS, ofO, D.isBl, vo, put, Vl.isFr, Vl.all, biD, ds, ts, sets, List.flatMap_cons, List.flatMap_nil, List.map_cons, List.map_nil, List.append_nil, List.nil_append, vl_nil, vf_nil, frz_nil, List.getElem?_cons_zero, List.getElem?_cons_succ, List.set_cons_zero, List.set_cons_succ, Bool.false_eq_true, if_false, if_true, reduceIte, List.length_cons, List.length_nil, Nat.reduceAdd, Nat.reduceSub, List.replicate, List.cons_append, List.replicate_succ, List.replicate_zero, Option.map_some, Option.map_none, Bool.not_true, Bool.not_false, List.singleton_append, e1, e2, need, rais, plErr, h1, h2, Bool.and_true, natOf_int, eq_int, decide_true, str_ne2]
      · have hab' : ¬ ((a : Int) = (b : Int)) := by omega
        have e3 := need_bead_ok (xs := sts (ls.getD a [])) (W := W) hp
        have e4 := need_bead_ok (xs := sts (ls.getD b [])) (W := W) hq
        rw [th_len] at e3 e4
        have e3' : G_need_bead [th (ls.getD a []), p] W = _ := e3
        have e4' : G_need_bead [th (ls.getD b []), q] W = _ := e4
        cases h3 : isIx p (ls.getD a []).length with
        | false =>
          rw [h3] at e3'
          simp only [wip, SOut.wp, vl_int, vl_str, vl_bl, vl_non, nd2, Nat.reduceLeDiff, Nat.reduceEqDiff, not_false_eq_true, and_self, and_true, true_and, putAll, big_eq, ↓evS_for, ↓ev_lc, evS, evT, evA, ev, evL, evO, evI, Out.bind, Out.st, ofS, ofO, D.isBl, vo, put, Vl.isFr, Vl.all, biD, ds, ts, sets, List.flatMap_cons, List.flatMap_nil, List.map_cons, List.map_nil, List.append_nil, List.nil_append, vl_nil, vf_nil, frz_nil, List.getElem?_cons_zero, List.getElem?_cons_succ, List.set_cons_zero, List.set_cons_succ, Bool.false_eq_true, if_false, if_true, reduceIte, List.length_cons, List.length_nil, Nat.reduceAdd, Nat.reduceSub, List.replicate, List.cons_append, List.replicate_succ, List.replicate_zero, Option.map_some, Option.map_none, Bool.not_true, Bool.not_false, List.singleton_append, e1, e2, e3', need, rais, plErr, h1, h2, h3, Bool.and_true, natOf_int, eq_int, hab', hab, decide_false, tD_ix ha, Bool.false_and, str_ne3]
        | true =>
          rw [h3] at e3'
          cases h4 : isIx q (ls.getD b []).length with
          | false =>
            rw [h4] at e4'
            simp only [wip, SOut.wp, vl_int, vl_str, vl_bl, vl_non, nd2, Nat.reduceLeDiff, Nat.reduceEqDiff, not_false_eq_true, and_self, and_true, true_and, putAll, big_eq, ↓evS_for, ↓ev_lc, evS, evT, evA, ev, evL, evO, evI, Out.bind, Out.st, ofS, ofO, D.isBl, vo, put, Vl.isFr, Vl.all, biD, ds, ts, sets, List.flatMap_cons, List.flatMap_nil, List.map_cons, List.map_nil, List.append_nil, List.nil_append, vl_nil, vf_nil, frz_nil, List.getElem?_cons_zero, List.getElem?_cons_succ, List.set_cons_zero, List.set_cons_succ, Bool.false_eq_true, if_false, if_true, reduceIte, List.length_cons, List.length_nil, Nat.reduceAdd, Nat.reduceSub, List.replicate, List.cons_append, List.replicate_succ, List.replicate_zero, Option.map_some, Option.map_none, Bool.not_true, Bool.not_false, List.singleton_append, e1, e2, e3', e4', need, rais, plErr, h1, h2, h3, h4, Bool.and_true, natOf_int, eq_int, hab', hab, decide_false, tD_ix ha, tD_ix hb, Bool.and_false, str_ne3]
          | true =>
            rw [h4] at e4'
            simp only [wip, SOut.wp, vl_int, vl_str, vl_bl, vl_non, nd2, Nat.reduceLeDiff, Nat.reduceEqDiff, not_false_eq_true, and_self, and_true, true_and, putAll, big_eq, ↓evS_for, ↓ev_lc, evS, evT, evA, ev, evL, evO, evI, Out.bind, Out.st, ofS, ofO, D.isBl, vo, put, Vl.isFr, Vl.all, biD, ds, ts, sets, List.flatMap_cons, List.flatMap_nil, List.map_cons, List.map_nil, List.append_nil, List.nil_append, vl_nil, vf_nil, frz_nil, List.getElem?_cons_zero, List.getElem?_cons_succ, List.set_cons_zero, List.set_cons_succ, Bool.false_eq_true, if_false, if_true, reduceIte, List.length_cons, List.length_nil, Nat.reduceAdd, Nat.reduceSub, List.replicate, List.cons_append, List.replicate_succ, List.replicate_zero, Option.map_some, Option.map_none, Bool.not_true, Bool.not_false, List.singleton_append, e1, e2, e3', e4', need, rais, plErr, h1, h2, h3, h4, Bool.and_true, natOf_int, eq_int, hab', hab, decide_false, tD_ix ha, tD_ix hb]
theorem immL_tD (ls : List (List Str)) : D.immL (tD ls) = true := (immL_iff _).mpr fun x hx => by
  obtain ⟨l, _, rfl⟩ := List.mem_map.mp hx
  exact imm_th
theorem vf_tD {ls : List (List Str)} {t : List Nat} : vf (.lst (tD ls)) t = ⟨.lst (tD ls), .fr, []⟩ := vf_imm (by simp only [D.kids]; exact immL_tD ls)
theorem vl_th {l : List Str} {t : List Nat} : vl (th l) t = ⟨th l, .pl, []⟩ := vl_imm imm_th
theorem imm_st {ls : List (List Str)} : (stD (tD ls)).imm = true := by simp only [stD, D.imm, D.immF, immL_tD, Bool.and_self]
theorem vl_st {ls : List (List Str)} {t : List Nat} : vl (stD (tD ls)) t = ⟨stD (tD ls), .pl, []⟩ := vl_imm imm_st

abbrev StOk (ls : List (List Str)) : Prop := Lns (fun s => isColor s = true) 8 60 ls
theorem Lns.st {m b : Nat} {ls : List (List Str)} (h : Lns (· ∈ hues1) m b ls) (hm : m ≤ 8) (hb : b ≤ 60) : StOk ls := h.imp hue_color hm hb
theorem color_len {s : Str} (h : isColor s = true) : s.length ≤ 4 := by
  simp only [isColor, Bool.and_eq_true, decide_eq_true_eq] at h
  exact h.1.2
theorem th_gd {l : List Str} (h : ∀ s ∈ l, isColor s = true) (hl : l.length ≤ 60) : (th l).gd = true := by
  simp only [th, D.gd, Bool.and_eq_true, gdL_iff, decide_eq_true_eq]
  refine ⟨fun x hx => ?_, by rw [th_len]; omega⟩
  obtain ⟨s, hs, rfl⟩ := sts_mem hx
  have := color_len (h s hs)
  simp only [D.gd, decide_eq_true_eq]
  omega
theorem StOk.len {ls : List (List Str)} (h : StOk ls) : ∀ l ∈ ls, l.length ≤ 60 := fun l hl => by have := sum_ge hl; have := h.sum; omega
theorem StOk.gdL {ls : List (List Str)} (h : StOk ls) : ∀ x ∈ tD ls, x.gd = true := fun x hx => by
  obtain ⟨l, hl, rfl⟩ := List.mem_map.mp hx
  exact th_gd (h.of l hl) (StOk.len h l hl)
theorem StOk.gd {ls : List (List Str)} (h : StOk ls) : (D.lst (tD ls)).gd = true := by
  simp only [D.gd, Bool.and_eq_true, gdL_iff, decide_eq_true_eq]
  exact ⟨StOk.gdL h, by rw [tD_len]; have := h.most; omega⟩
theorem StOk.are {ls : List (List Str)} (h : StOk ls) : areD (.lst (tD ls)) = true := by
  simp only [areD, Bool.and_eq_true, decide_eq_true_eq, List.all_eq_true]
  have hb : beadsD (tD ls) = (ls.map List.length).sum := by
    simp only [beadsD, tD, List.map_map]
    congr 1
    refine List.map_congr_left fun l _ => ?_
    simp [dlen, th, sts]
  refine ⟨⟨⟨by rw [tD_len]; exact h.one, by rw [tD_len]; exact h.most⟩, fun x hx => ?_⟩, by rw [hb]; exact h.sum⟩
  obtain ⟨l, hl, rfl⟩ := List.mem_map.mp hx
  simp only [isThreadD, th, Bool.and_eq_true, Bool.not_eq_true', List.all_eq_true]
  refine ⟨?_, fun y hy => ?_⟩
  · cases l with
    | nil => exact absurd rfl (h.ne _ hl)
    | cons _ _ => rfl
  · obtain ⟨s, hs, rfl⟩ := sts_mem hy
    exact h.of l hl s hs
theorem StOk.make {ls : List (List Str)} {W : Dr} (h : StOk ls) : G_State [.lst (tD ls)] W = .ok (false, stD (tD ls)) W := State_ok (StOk.gd h) (.inl rfl) (StOk.are h)
theorem exchg_st {ls : List (List Str)} {i p j q : Nat} (h : StOk ls) (hi : i < ls.length) (hj : j < ls.length) (hij : i ≠ j) (hp : p < (ls.getD i []).length) (hq : q < (ls.getD j []).length) : StOk (exchg ls i p j q) := by
  have gi : ls.getD i [] = ls[i] := by simp [hi]
  have gj : ls.getD j [] = ls[j] := by simp [hj]
  unfold exchg
  rw [gi] at hp
  rw [gj] at hq
  rw [gi, gj]
  have s1 := sum_set (l := ls[i].take (p + 1) ++ ls[j].drop (q + 1)) hi
  have hj2 : j < (ls.set i (ls[i].take (p + 1) ++ ls[j].drop (q + 1))).length := by rw [List.length_set]; exact hj
  have s2 := sum_set (l := ls[j].take (q + 1) ++ ls[i].drop (p + 1)) hj2
  rw [List.getElem_set_ne hij] at s2
  simp only [List.length_append, List.length_take, List.length_drop] at s1 s2
  have hs := h.sum
  have key : ∀ l ∈ (ls.set i (ls[i].take (p + 1) ++ ls[j].drop (q + 1))).set j (ls[j].take (q + 1) ++ ls[i].drop (p + 1)), l ∈ ls ∨ l = ls[i].take (p + 1) ++ ls[j].drop (q + 1) ∨ l = ls[j].take (q + 1) ++ ls[i].drop (p + 1) := fun l hl => by
    rcases List.mem_or_eq_of_mem_set hl with hl | hl
    · rcases List.mem_or_eq_of_mem_set hl with hl | hl
      · exact .inl hl
      · exact .inr (.inl hl)
    · exact .inr (.inr hl)
  have of : ∀ (a b : List Str) (m n : Nat), a ∈ ls → b ∈ ls → ∀ s ∈ a.take m ++ b.drop n, isColor s = true := fun a b m n ha hb s hs => by
    rcases List.mem_append.mp hs with hs | hs
    · exact h.of a ha s (List.mem_of_mem_take hs)
    · exact h.of b hb s (List.mem_of_mem_drop hs)
  refine ⟨by simpa using h.one, by simpa using h.most, fun l hl => ?_, fun l hl => ?_, by omega⟩
  · rcases key l hl with hl | rfl | rfl
    · exact h.ne l hl
    · intro z
      have := congrArg List.length z
      simp only [List.length_append, List.length_take, List.length_drop, List.length_nil] at this
      omega
    · intro z
      have := congrArg List.length z
      simp only [List.length_append, List.length_take, List.length_drop, List.length_nil] at this
      omega
  · rcases key l hl with hl | rfl | rfl
    · exact h.of l hl
    · exact of _ _ _ _ (List.getElem_mem hi) (List.getElem_mem hj)
    · exact of _ _ _ _ (List.getElem_mem hj) (List.getElem_mem hi)
theorem swapped_ok {ls : List (List Str)} {i p j q : D} {W : Dr} (h : StOk ls) (hi : i.typed = true) (hp : p.typed = true) (hj : j.typed = true) (hq : q.typed = true) :
    G_swapped [stD (tD ls), i, p, j, q] W = rais (swErr ls i p j q) (false, stD (tD (exchg ls (natOf i) (natOf p) (natOf j) (natOf q)))) W := by
  have e1 : G_need_state [stD (tD ls)] W = .ok (false, .non) W := by rw [need_state_ok rfl]; rfl
  have e2 := need_places_ok (ls := ls) (W := W) hi hp hj hq
  have e0 : G_lines_of [stD (tD ls)] W = .ok (true, .lst (tD ls)) W := lines_of_ok
  unfold G_swapped Z.run B_swapped
  by_cases h0 : plErr ls i p j q = ""
  · rw [h0] at e2
    have h1 := h0
    unfold plErr at h1
    by_cases c1 : (isIx i ls.length && isIx j ls.length) = true
    · rw [if_pos c1] at h1
      by_cases c2 : natOf i = natOf j
      · rw [if_pos c2] at h1; exact absurd h1 str_ne2
      · rw [if_neg c2] at h1
        by_cases c3 : (isIx p (ls.getD (natOf i) []).length && isIx q (ls.getD (natOf j) []).length) = true
        · simp only [Bool.and_eq_true] at c1 c3
          obtain ⟨a, rfl, ha⟩ := isIx_of c1.1
          obtain ⟨b, rfl, hb⟩ := isIx_of c1.2
          rw [natOf_int, natOf_int] at c2 c3
          obtain ⟨x, rfl, hx⟩ := isIx_of c3.1
          obtain ⟨y, rfl, hy⟩ := isIx_of c3.2
          have e3 := traded_ok (ls := ls) (p := x) (q := y) (W := W) ha hb fun l hl => by have := StOk.len h l hl; omega
          have e4 := StOk.make (W := W) (exchg_st h ha hb c2 hx hy)
          have hc : ((ls.getD a [])[x]? = (ls.getD b [])[y]?) ↔ (ls.getD a [])[x] = (ls.getD b [])[y] := by
            rw [List.getElem?_eq_getElem hx, List.getElem?_eq_getElem hy]
            exact ⟨fun z => Option.some.inj z, fun z => by rw [z]⟩
          have w1 : (ls.getD a [])[x] = (ls.getD b [])[y] → swErr ls (.int a) (.int x) (.int b) (.int y) = "" := fun z => by
            unfold swErr
            rw [if_pos h0]
            exact if_pos (hc.mpr z)
          have w2 : ¬ (ls.getD a [])[x] = (ls.getD b [])[y] → swErr ls (.int a) (.int x) (.int b) (.int y) = "NoSwap" := fun z => by
            unfold swErr
            rw [if_pos h0]
            exact if_neg fun y => z (hc.mp y)
          simp only [natOf_int]
          by_cases hcc : (ls.getD a [])[x] = (ls.getD b [])[y]
          · rw [w1 hcc]
            simp only [wip, SOut.wp, vl_int, vl_str, vl_bl, vl_non, nd2, Nat.reduceLeDiff, Nat.reduceEqDiff, not_false_eq_true, and_self, and_true, true_and, putAll, big_eq, ↓evS_for, ↓ev_lc, evS, evT, evA, ev, evL, evO, evI, Out.bind, Out.st, ofS, ofO, D.isBl, vo, put, Vl.isFr, Vl.all, biD, ds, ts, sets, List.flatMap_cons, List.flatMap_nil, List.map_cons, List.map_nil, List.append_nil, List.nil_append, vl_nil, vf_nil, frz_nil, List.getElem?_cons_zero, List.getElem?_cons_succ, List.set_cons_zero, List.set_cons_succ, Bool.false_eq_true, if_false, if_true, reduceIte, List.length_cons, List.length_nil, Nat.reduceAdd, Nat.reduceSub, List.replicate, List.cons_append, List.replicate_succ, List.replicate_zero, Option.map_some, Option.map_none, Bool.not_true, Bool.not_false, List.singleton_append, e1, e0, e2, rais, tD_ix ha, tD_ix hb, th_ix hx, th_ix hy, ne_str, hcc, eq_self, decide_true, e3, vf_tD, e4]
          · rw [w2 hcc]
            simp only [wip, SOut.wp, vl_int, vl_str, vl_bl, vl_non, nd2, Nat.reduceLeDiff, Nat.reduceEqDiff, not_false_eq_true, and_self, and_true, true_and, putAll, big_eq, ↓evS_for, ↓ev_lc, evS, evT, evA, ev, evL, evO, evI, Out.bind, Out.st, ofS, ofO, D.isBl, vo, put, Vl.isFr, Vl.all, biD, ds, ts, sets, List.flatMap_cons, List.flatMap_nil, List.map_cons, List.map_nil, List.append_nil, List.nil_append, vl_nil, vf_nil, frz_nil, List.getElem?_cons_zero, List.getElem?_cons_succ, List.set_cons_zero, List.set_cons_succ, Bool.false_eq_true, if_false, if_true, reduceIte, List.length_cons, List.length_nil, Nat.reduceAdd, Nat.reduceSub, List.replicate, List.cons_append, List.replicate_succ, List.replicate_zero, Option.map_some, Option.map_none, Bool.not_true, Bool.not_false, List.singleton_append, e1, e0, e2, rais, tD_ix ha, tD_ix hb, th_ix hx, th_ix hy, ne_str, hcc, decide_false, str_ne2]
        · rw [if_neg c3] at h1; exact absurd h1 str_ne3
    · rw [if_neg c1] at h1; exact absurd h1 str_ne1
  · unfold swErr
    rw [if_neg h0]
    unfold rais at e2 ⊢
    rw [if_neg h0] at e2 ⊢
    simp only [wip, SOut.wp, vl_int, vl_str, vl_bl, vl_non, nd2, Nat.reduceLeDiff, Nat.reduceEqDiff, not_false_eq_true, and_self, and_true, true_and, putAll, big_eq, ↓evS_for, ↓ev_lc, evS, evT, evA, ev, evL, evO, evI, Out.bind, Out.st, ofS, ofO, D.isBl, vo, put, Vl.isFr, Vl.all, biD, ds, ts, sets, List.flatMap_cons, List.flatMap_nil, List.map_cons, List.map_nil, List.append_nil, List.nil_append, vl_nil, vf_nil, frz_nil, List.getElem?_cons_zero, List.getElem?_cons_succ, List.set_cons_zero, List.set_cons_succ, Bool.false_eq_true, if_false, if_true, reduceIte, List.length_cons, List.length_nil, Nat.reduceAdd, Nat.reduceSub, List.replicate, List.cons_append, List.replicate_succ, List.replicate_zero, Option.map_some, Option.map_none, Bool.not_true, Bool.not_false, List.singleton_append, e1, e0, e2]
end Z

namespace Z
open PySem
theorem eq_same {d : D} (h : Pd 12 d) : D.eq d d = some true := by
  obtain ⟨p, hp⟩ := h
  simp only [D.eq, D.pd, hp, PySem.SeqAt.eqv_refl_plain p (pyN_ok _ _ _ hp).1]
theorem eq_same' {d : D} (h : Pd 12 d) : cmpD .Eq d d = some true := eq_same h
theorem ne_same {d : D} (h : Pd 12 d) : cmpD .NotEq d d = some false := by simp only [cmpD, eq_same h, Option.map_some, Bool.not_true]
theorem pd_th {n : Nat} {l : List Str} : Pd (n + 1) (th l) := pd_tup pd_sts
theorem pd_tD {n : Nat} {ls : List (List Str)} : Pd (n + 2) (.lst (tD ls)) := pd_lst fun x hx => by
  obtain ⟨l, _, rfl⟩ := List.mem_map.mp hx
  exact pd_th
/-- a move -/
abbrev Mv := Nat × Nat × Nat × Nat
def mvD (m : Mv) : D := .tup [.int m.1, .int m.2.1, .int m.2.2.1, .int m.2.2.2]
theorem mv_imm {m : Mv} : (mvD m).imm = true := rfl
theorem kids_mv {ms : List Mv} : (D.lst (ms.map mvD)).kids = true := by
  simp only [D.kids]
  exact (immL_iff _).mpr fun x hx => by obtain ⟨m, _, rfl⟩ := List.mem_map.mp hx; rfl
theorem ints_kids {l : List Nat} : (D.lst (l.map fun n : Nat => D.int n)).kids = true := by
  simp only [D.kids]
  exact (immL_iff _).mpr fun x hx => by obtain ⟨m, _, rfl⟩ := List.mem_map.mp hx; rfl
/-- a move that can be done -/
def DeedOk (ls : List (List Str)) (m : Mv) : Prop := m.1 < m.2.2.1 ∧ m.2.2.1 < ls.length ∧ m.2.1 < (ls.getD m.1 []).length ∧ m.2.2.2 < (ls.getD m.2.2.1 []).length ∧ (ls.getD m.2.2.1 [])[m.2.2.2]? = (ls.getD m.1 [])[m.2.1]?
theorem deeds3 {ls : List (List Str)} {ms : List Mv} {u l d : Nat} {s4 s5 s6 : Sl} {W : Dr} (hu : u < ls.length) (hl : l < (ls.getD u []).length) (hd : d < ls.length) (hL : ∀ k ∈ ls, k.length ≤ 60) (hm : ms.length ≤ 1000000) :
    ∃ hs : List Nat, ∃ s6', hs.length ≤ 60 ∧ (∀ h ∈ hs, h < (ls.getD d []).length ∧ (ls.getD d [])[h]? = (ls.getD u [])[l]?) ∧ forOne 1000000 B__law_deeds_3 (.nm 4) (.int d) [.val (.lst (tD ls)), .own (.lst (ms.map mvD)), .val (.int u), .val (.int l), s4, s5, s6] W =
      .nx [.val (.lst (tD ls)), .own (.lst ((ms ++ hs.map fun h => (u, l, d, h)).map mvD)), .val (.int u), .val (.int l), .val (.int d), .own (.lst (hs.map fun n : Nat => D.int n)), s6'] W := by
  have hdl : (ls.getD d []).length ≤ 60 := by simp only [List.getD_eq_getElem?_getD, List.getElem?_eq_getElem hd, Option.getD_some]; exact hL _ (List.getElem_mem hd)
  have l1 : ∃ hs : List Nat, hs.length ≤ (ls.getD d []).length ∧ (∀ h ∈ hs, h < (ls.getD d []).length ∧ (ls.getD d [])[h]? = (ls.getD u [])[l]?) ∧ lcGo (lcOne (.var 6) T__law_deeds_1 (.nm 6) [6] [.val (.lst (tD ls)), .own (.lst (ms.map mvD)), .val (.int u), .val (.int l), .val (.int d), s5, s6]) ((List.range (ls.getD d []).length).map fun k : Nat => .int (k : Int)) [] [] W = .ok ⟨.lst (hs.map fun n : Nat => D.int n), .fr, []⟩ W := by
    obtain ⟨ys, W', e, hs, rfl, rfl, h1, hok⟩ := lc_inv0 (one := lcOne (.var 6) T__law_deeds_1 (.nm 6) [6] [.val (.lst (tD ls)), .own (.lst (ms.map mvD)), .val (.int u), .val (.int l), .val (.int d), s5, s6]) (xs := (List.range (ls.getD d []).length).map fun k : Nat => .int (k : Int)) (W := W)
      (fun k acc V => ∃ hs : List Nat, acc = (hs.map fun n : Nat => D.int n) ∧ V = W ∧ hs.length ≤ k ∧ ∀ h ∈ hs, h < (ls.getD d []).length ∧ (ls.getD d [])[h]? = (ls.getD u [])[l]?) ⟨[], rfl, rfl, Nat.le_refl _, fun _ h => by cases h⟩ (by rw [rng_len]; unfold cap; omega) (fun k x acc V hx ⟨hs, e1, e2, e3, e4⟩ => by
        subst e1 e2
        obtain ⟨rfl, hk⟩ := rng_at hx
        by_cases hc : (ls.getD d [])[k] = (ls.getD u [])[l]
        · refine .inr ⟨⟨.int k, .pl, []⟩, V, ?_, rfl, hs ++ [k], by simp, rfl, by simp; omega, fun h hh => (List.mem_append.mp hh).elim (e4 h) fun z => by rw [List.mem_singleton.mp z]; exact ⟨hk, by rw [List.getElem?_eq_getElem hk, List.getElem?_eq_getElem hl, hc]⟩⟩
          simp only [lcOne, bindP, wip, T__law_deeds_1, wip, SOut.wp, vl_int, vl_str, vl_bl, vl_non, nd2, Nat.reduceLeDiff, Nat.reduceEqDiff, not_false_eq_true, and_self, and_true, true_and, putAll, big_eq, ↓evS_for, ↓ev_lc, evS, evT, evA, ev, evL, evO, evI, Out.bind, Out.st, ofS, ofO, D.isBl, vo, put, Vl.isFr, Vl.all, biD, ds, ts, sets, List.flatMap_cons, List.flatMap_nil, List.map_cons, List.map_nil, List.append_nil, List.nil_append, vl_nil, vf_nil, frz_nil, List.getElem?_cons_zero, List.getElem?_cons_succ, List.set_cons_zero, List.set_cons_succ, Bool.false_eq_true, if_false, if_true, reduceIte, List.length_cons, List.length_nil, Nat.reduceAdd, Nat.reduceSub, List.replicate, List.cons_append, List.replicate_succ, List.replicate_zero, Option.map_some, Option.map_none, Bool.not_true, Bool.not_false, List.singleton_append, tD_ix hd, tD_ix hu, th_ix hk, th_ix hl, eq_str, hc, eq_self, decide_true]
        · refine .inl ⟨V, ?_, hs, rfl, rfl, by omega, e4⟩
          simp only [lcOne, bindP, wip, T__law_deeds_1, wip, SOut.wp, vl_int, vl_str, vl_bl, vl_non, nd2, Nat.reduceLeDiff, Nat.reduceEqDiff, not_false_eq_true, and_self, and_true, true_and, putAll, big_eq, ↓evS_for, ↓ev_lc, evS, evT, evA, ev, evL, evO, evI, Out.bind, Out.st, ofS, ofO, D.isBl, vo, put, Vl.isFr, Vl.all, biD, ds, ts, sets, List.flatMap_cons, List.flatMap_nil, List.map_cons, List.map_nil, List.append_nil, List.nil_append, vl_nil, vf_nil, frz_nil, List.getElem?_cons_zero, List.getElem?_cons_succ, List.set_cons_zero, List.set_cons_succ, Bool.false_eq_true, if_false, if_true, reduceIte, List.length_cons, List.length_nil, Nat.reduceAdd, Nat.reduceSub, List.replicate, List.cons_append, List.replicate_succ, List.replicate_zero, Option.map_some, Option.map_none, Bool.not_true, Bool.not_false, List.singleton_append, tD_ix hd, tD_ix hu, th_ix hk, th_ix hl, eq_str, hc, decide_false])
    rw [rng_len] at h1
    exact ⟨hs, h1, hok, e⟩
  obtain ⟨hs, h1, hok, e1⟩ := l1
  have e2 : lcGo (lcOne E__law_deeds_2 .nil (.nm 6) [6] [.val (.lst (tD ls)), .own (.lst (ms.map mvD)), .val (.int u), .val (.int l), .val (.int d), .own (.lst (hs.map fun n : Nat => D.int n)), s6]) (hs.map fun n : Nat => D.int n) [] [] W = .ok ⟨.lst ((hs.map fun h => (u, l, d, h)).map mvD), .fr, []⟩ W := by
    rw [lc_map (g := fun x => match x with | .int h => some (mvD (u, l, d, h.toNat)) | _ => none) _ (by simp [cap]; omega) fun x hx => ?_]
    · simp [List.filterMap_map, Function.comp_def, List.filterMap_eq_map', mvD]
    · obtain ⟨n, _, rfl⟩ := List.mem_map.mp hx
      refine ⟨_, lcOne_ok (v := ⟨mvD (u, l, d, n), .pl, []⟩) ?_, rfl, fun v hv => by cases hv; rfl⟩
      unfold E__law_deeds_2
      simp only [wip, wip, SOut.wp, vl_int, vl_str, vl_bl, vl_non, nd2, Nat.reduceLeDiff, Nat.reduceEqDiff, not_false_eq_true, and_self, and_true, true_and, putAll, big_eq, ↓evS_for, ↓ev_lc, evS, evT, evA, ev, evL, evO, evI, Out.bind, Out.st, ofS, ofO, D.isBl, vo, put, Vl.isFr, Vl.all, biD, ds, ts, sets, List.flatMap_cons, List.flatMap_nil, List.map_cons, List.map_nil, List.append_nil, List.nil_append, vl_nil, vf_nil, frz_nil, List.getElem?_cons_zero, List.getElem?_cons_succ, List.set_cons_zero, List.set_cons_succ, Bool.false_eq_true, if_false, if_true, reduceIte, List.length_cons, List.length_nil, Nat.reduceAdd, Nat.reduceSub, List.replicate, List.cons_append, List.replicate_succ, List.replicate_zero, Option.map_some, Option.map_none, Bool.not_true, Bool.not_false, List.singleton_append, cap]
      rfl
  have g1 := rngN (n := (ls.getD d []).length) (by omega)
  have hadd : binD .Add (.lst (ms.map mvD)) (.lst ((hs.map fun h => (u, l, d, h)).map mvD)) = some (true, .lst ((ms ++ hs.map fun h => (u, l, d, h)).map mvD)) := by
    simp only [binD]
    rw [if_pos (by simp; omega), List.map_append]
  have hln : lenD [th (ls.getD d [])] = some (false, .int (ls.getD d []).length) := len_th
  refine ⟨hs, s6, by omega, hok, ?_⟩
  show evS 1000000 B__law_deeds_3 _ _ = _
  unfold B__law_deeds_3
  simp only [wip, SOut.wp, vl_int, vl_str, vl_bl, vl_non, nd2, Nat.reduceLeDiff, Nat.reduceEqDiff, not_false_eq_true, and_self, and_true, true_and, putAll, big_eq, ↓evS_for, ↓ev_lc, evS, evT, evA, ev, evL, evO, evI, Out.bind, Out.st, ofS, ofO, D.isBl, vo, put, Vl.isFr, Vl.all, biD, ds, ts, sets, List.flatMap_cons, List.flatMap_nil, List.map_cons, List.map_nil, List.append_nil, List.nil_append, vl_nil, vf_nil, frz_nil, List.getElem?_cons_zero, List.getElem?_cons_succ, List.set_cons_zero, List.set_cons_succ, Bool.false_eq_true, if_false, if_true, reduceIte, List.length_cons, List.length_nil, Nat.reduceAdd, Nat.reduceSub, List.replicate, List.cons_append, List.replicate_succ, List.replicate_zero, Option.map_some, Option.map_none, Bool.not_true, Bool.not_false, List.singleton_append, tD_ix hd, vl_th, hln, g1, e1, D.items, vf_imm ints_kids, e2, hadd, vf_imm kids_mv]
theorem rng2_at {a : Int} {n i : Nat} {x : D} (h : ((List.range n).map fun k : Nat => D.int (a + k))[i]? = some x) : x = .int (a + i) ∧ i < n := by
  rw [List.getElem?_map, Option.map_eq_some_iff] at h
  obtain ⟨j, h1, rfl⟩ := h
  have hi : i < n := by simpa using (List.getElem?_eq_some_iff.mp h1).1
  rw [List.getElem?_range hi] at h1
  cases h1
  exact ⟨rfl, hi⟩
theorem rng2_len {a : Int} {n : Nat} : ((List.range n).map fun k : Nat => D.int (a + k)).length = n := by simp
theorem deeds4 {ls : List (List Str)} {ms : List Mv} {u l : Nat} {s3 s4 s5 s6 : Sl} {W : Dr} (hu : u < ls.length) (hl : l < (ls.getD u []).length) (h8 : ls.length ≤ 8) (hL : ∀ k ∈ ls, k.length ≤ 60) (hm : ms.length ≤ 900000) (hms : ∀ m ∈ ms, DeedOk ls m) :
    ∃ ms' : List Mv, ∃ s4' s5' s6', ms'.length ≤ ms.length + 480 ∧ (∀ m ∈ ms', DeedOk ls m) ∧ forOne 1000000 B__law_deeds_4 (.nm 3) (.int l) [.val (.lst (tD ls)), .own (.lst (ms.map mvD)), .val (.int u), s3, s4, s5, s6] W =
      .nx [.val (.lst (tD ls)), .own (.lst (ms'.map mvD)), .val (.int u), .val (.int l), s4', s5', s6'] W := by
  obtain ⟨ρ', W', e, ms', t4, t5, t6, rfl, rfl, h1, hok⟩ := for_inv0 (f := forOne 1000000 B__law_deeds_3 (.nm 4)) (xs := (List.range ((ls.length : Int) - (u + 1 : Nat)).toNat).map fun k : Nat => .int (((u + 1 : Nat) : Int) + k)) (ρ := [.val (.lst (tD ls)), .own (.lst (ms.map mvD)), .val (.int u), .val (.int l), s4, s5, s6]) (W := W)
    (fun k ρ V => ∃ ms' t4 t5 t6, ρ = [.val (.lst (tD ls)), .own (.lst (ms'.map mvD)), .val (.int u), .val (.int l), t4, t5, t6] ∧ V = W ∧ ms'.length ≤ ms.length + 60 * k ∧ ∀ m ∈ ms', DeedOk ls m) ⟨ms, s4, s5, s6, rfl, rfl, Nat.le_refl _, hms⟩ (fun k x ρ V hx ⟨ms', t4, t5, t6, e1, e2, e3, e4⟩ => by
      subst e1 e2
      obtain ⟨rfl, hk⟩ := rng2_at hx
      have hd : u + 1 + k < ls.length := by omega
      obtain ⟨hs, s6', q1, q3, q2⟩ := deeds3 (ms := ms') (s4 := t4) (s5 := t5) (s6 := t6) (W := V) hu hl hd hL (by omega)
      exact ⟨_, V, .inl q2, _, _, _, _, rfl, rfl, by rw [List.length_append, List.length_map]; omega, fun m hm => (List.mem_append.mp hm).elim (e4 m) fun z => by obtain ⟨h, hh, rfl⟩ := List.mem_map.mp z; exact ⟨by show u < u + 1 + k; omega, hd, hl, (q3 h hh).1, (q3 h hh).2⟩⟩)
  rw [rng2_len] at h1
  have g1 : rngD [.int ((u + 1 : Nat) : Int), .int ls.length] = some ((List.range ((ls.length : Int) - (u + 1 : Nat)).toNat).map fun k : Nat => .int (((u + 1 : Nat) : Int) + k)) := rngD2 (by omega) (by omega) (by omega) (by omega)
  refine ⟨ms', t4, t5, t6, by omega, hok, ?_⟩
  have hln : lenD [.lst (tD ls)] = some (false, .int ls.length) := by rw [len_lst, tD_len]
  show evS 1000000 B__law_deeds_4 _ _ = _
  unfold B__law_deeds_4
  simp only [wip, SOut.wp, vl_int, vl_str, vl_bl, vl_non, nd2, Nat.reduceLeDiff, Nat.reduceEqDiff, not_false_eq_true, and_self, and_true, true_and, putAll, big_eq, ↓evS_for, ↓ev_lc, evS, evT, evA, ev, evL, evO, evI, Out.bind, Out.st, ofS, ofO, D.isBl, vo, put, Vl.isFr, Vl.all, biD, ds, ts, sets, List.flatMap_cons, List.flatMap_nil, List.map_cons, List.map_nil, List.append_nil, List.nil_append, vl_nil, vf_nil, frz_nil, List.getElem?_cons_zero, List.getElem?_cons_succ, List.set_cons_zero, List.set_cons_succ, Bool.false_eq_true, if_false, if_true, reduceIte, List.length_cons, List.length_nil, Nat.reduceAdd, Nat.reduceSub, List.replicate, List.cons_append, List.replicate_succ, List.replicate_zero, Option.map_some, Option.map_none, Bool.not_true, Bool.not_false, List.singleton_append, add1, hln, g1, e]
theorem deeds5 {ls : List (List Str)} {ms : List Mv} {u : Nat} {s2 s3 s4 s5 s6 : Sl} {W : Dr} (hu : u < ls.length) (h8 : ls.length ≤ 8) (hL : ∀ k ∈ ls, k.length ≤ 60) (hm : ms.length ≤ 800000) (hms : ∀ m ∈ ms, DeedOk ls m) :
    ∃ ms' : List Mv, ∃ s3' s4' s5' s6', ms'.length ≤ ms.length + 28800 ∧ (∀ m ∈ ms', DeedOk ls m) ∧ forOne 1000000 B__law_deeds_5 (.nm 2) (.int u) [.val (.lst (tD ls)), .own (.lst (ms.map mvD)), s2, s3, s4, s5, s6] W =
      .nx [.val (.lst (tD ls)), .own (.lst (ms'.map mvD)), .val (.int u), s3', s4', s5', s6'] W := by
  have hul : (ls.getD u []).length ≤ 60 := by simp only [List.getD_eq_getElem?_getD, List.getElem?_eq_getElem hu, Option.getD_some]; exact hL _ (List.getElem_mem hu)
  obtain ⟨ρ', W', e, ms', t3, t4, t5, t6, rfl, rfl, h1, hok⟩ := for_inv0 (f := forOne 1000000 B__law_deeds_4 (.nm 3)) (xs := (List.range (ls.getD u []).length).map fun k : Nat => .int (k : Int)) (ρ := [.val (.lst (tD ls)), .own (.lst (ms.map mvD)), .val (.int u), s3, s4, s5, s6]) (W := W)
    (fun k ρ V => ∃ ms' t3 t4 t5 t6, ρ = [.val (.lst (tD ls)), .own (.lst (ms'.map mvD)), .val (.int u), t3, t4, t5, t6] ∧ V = W ∧ ms'.length ≤ ms.length + 480 * k ∧ ∀ m ∈ ms', DeedOk ls m) ⟨ms, s3, s4, s5, s6, rfl, rfl, Nat.le_refl _, hms⟩ (fun k x ρ V hx ⟨ms', t3, t4, t5, t6, e1, e2, e3, e4⟩ => by
      subst e1 e2
      obtain ⟨rfl, hk⟩ := rng_at hx
      obtain ⟨ms2, s4', s5', s6', q1, q3, q2⟩ := deeds4 (ms := ms') (s3 := t3) (s4 := t4) (s5 := t5) (s6 := t6) (W := V) hu hk h8 hL (by omega) e4
      exact ⟨_, V, .inl q2, _, _, _, _, _, rfl, rfl, by omega, q3⟩)
  rw [rng_len] at h1
  have g1 := rngN (n := (ls.getD u []).length) (by omega)
  refine ⟨ms', t3, t4, t5, t6, by omega, hok, ?_⟩
  have hln : lenD [th (ls.getD u [])] = some (false, .int (ls.getD u []).length) := len_th
  show evS 1000000 B__law_deeds_5 _ _ = _
  unfold B__law_deeds_5
  simp only [wip, SOut.wp, vl_int, vl_str, vl_bl, vl_non, nd2, Nat.reduceLeDiff, Nat.reduceEqDiff, not_false_eq_true, and_self, and_true, true_and, putAll, big_eq, ↓evS_for, ↓ev_lc, evS, evT, evA, ev, evL, evO, evI, Out.bind, Out.st, ofS, ofO, D.isBl, vo, put, Vl.isFr, Vl.all, biD, ds, ts, sets, List.flatMap_cons, List.flatMap_nil, List.map_cons, List.map_nil, List.append_nil, List.nil_append, vl_nil, vf_nil, frz_nil, List.getElem?_cons_zero, List.getElem?_cons_succ, List.set_cons_zero, List.set_cons_succ, Bool.false_eq_true, if_false, if_true, reduceIte, List.length_cons, List.length_nil, Nat.reduceAdd, Nat.reduceSub, List.replicate, List.cons_append, List.replicate_succ, List.replicate_zero, Option.map_some, Option.map_none, Bool.not_true, Bool.not_false, List.singleton_append, tD_ix hu, vl_th, hln, g1, e]
theorem deeds_ok {ls : List (List Str)} {W : Dr} (h8 : ls.length ≤ 8) (hL : ∀ k ∈ ls, k.length ≤ 60) : ∃ ms : List Mv, (ms.length ≤ 240000 ∧ ∀ m ∈ ms, DeedOk ls m) ∧ G__law_deeds [.lst (tD ls)] W = .ok (true, .lst (ms.map mvD)) W := by
  obtain ⟨ρ', W', e, ms', t2, t3, t4, t5, t6, rfl, rfl, h1, hok⟩ := for_inv0 (f := forOne 1000000 B__law_deeds_5 (.nm 2)) (xs := (List.range ls.length).map fun k : Nat => .int (k : Int)) (ρ := [.val (.lst (tD ls)), .own (.lst []), .un, .un, .un, .un, .un]) (W := W)
    (fun k ρ V => ∃ (ms' : List Mv) (t2 t3 t4 t5 t6 : Sl), ρ = [.val (.lst (tD ls)), .own (.lst (ms'.map mvD)), t2, t3, t4, t5, t6] ∧ V = W ∧ ms'.length ≤ 28800 * k ∧ ∀ m ∈ ms', DeedOk ls m) ⟨[], .un, .un, .un, .un, .un, rfl, rfl, Nat.le_refl _, fun _ h => by cases h⟩ (fun k x ρ V hx ⟨ms', t2, t3, t4, t5, t6, e1, e2, e3, e4⟩ => by
      subst e1 e2
      obtain ⟨rfl, hk⟩ := rng_at hx
      obtain ⟨ms2, s3', s4', s5', s6', q1, q3, q2⟩ := deeds5 (ms := ms') (s2 := t2) (s3 := t3) (s4 := t4) (s5 := t5) (s6 := t6) (W := V) hk h8 hL (by omega) e4
      exact ⟨_, V, .inl q2, _, _, _, _, _, _, rfl, rfl, by omega, q3⟩)
  rw [rng_len] at h1
  have g1 := rngN (n := ls.length) (by omega)
  have hln : lenD [.lst (tD ls)] = some (false, .int ls.length) := by rw [len_lst, tD_len]
  refine ⟨ms', ⟨by omega, hok⟩, ?_⟩
  unfold G__law_deeds Z.run B__law_deeds
  simp only [wip, SOut.wp, vl_int, vl_str, vl_bl, vl_non, nd2, Nat.reduceLeDiff, Nat.reduceEqDiff, not_false_eq_true, and_self, and_true, true_and, putAll, big_eq, ↓evS_for, ↓ev_lc, evS, evT, evA, ev, evL, evO, evI, Out.bind, Out.st, ofS, ofO, D.isBl, vo, put, Vl.isFr, Vl.all, biD, ds, ts, sets, List.flatMap_cons, List.flatMap_nil, List.map_cons, List.map_nil, List.append_nil, List.nil_append, vl_nil, vf_nil, frz_nil, List.getElem?_cons_zero, List.getElem?_cons_succ, List.set_cons_zero, List.set_cons_succ, Bool.false_eq_true, if_false, if_true, reduceIte, List.length_cons, List.length_nil, Nat.reduceAdd, Nat.reduceSub, List.replicate, List.cons_append, List.replicate_succ, List.replicate_zero, Option.map_some, Option.map_none, Bool.not_true, Bool.not_false, List.singleton_append, cap, hln, g1, e]
theorem ltraded_ok {ls : List (List Str)} {i p j q : Nat} {W : Dr} (hi : i < ls.length) (hj : j < ls.length) (hl : ∀ l ∈ ls, l.length ≤ 1000) : G__law_traded [.lst (tD ls), mvD (i, p, j, q)] W = .ok (true, .lst (tD (exchg ls i p j q))) W := by
  have l1 : (ls.getD i []).length ≤ 1000 := by simp [hi]; exact hl _ (List.getElem_mem hi)
  have l2 : (ls.getD j []).length ≤ 1000 := by simp [hj]; exact hl _ (List.getElem_mem hj)
  have a1 := th_add (l := (ls.getD i []).take (p + 1)) (k := (ls.getD j []).drop (q + 1)) (by simp only [List.length_take, List.length_drop]; omega)
  have a2 := th_add (l := (ls.getD j []).take (q + 1)) (k := (ls.getD i []).drop (p + 1)) (by simp only [List.length_take, List.length_drop]; omega)
  have x1 : ixOf (tD ls).length (i : Int) = some i := ixOf_nat (by rw [tD_len]; exact hi)
  have x2 : ixOf (tD (ls.set i ((ls.getD i []).take (p + 1) ++ (ls.getD j []).drop (q + 1)))).length (j : Int) = some j := ixOf_nat (by rw [tD_len, List.length_set]; exact hj)
  unfold G__law_traded Z.run B__law_traded mvD
  simp only [wip, SOut.wp, vl_int, vl_str, vl_bl, vl_non, nd2, Nat.reduceLeDiff, Nat.reduceEqDiff, not_false_eq_true, and_self, and_true, true_and, putAll, big_eq, ↓evS_for, ↓ev_lc, evS, evT, evA, ev, evL, evO, evI, Out.bind, Out.st, ofS, ofO, D.isBl, vo, put, Vl.isFr, Vl.all, biD, ds, ts, sets, List.flatMap_cons, List.flatMap_nil, List.map_cons, List.map_nil, List.append_nil, List.nil_append, vl_nil, vf_nil, frz_nil, List.getElem?_cons_zero, List.getElem?_cons_succ, List.set_cons_zero, List.set_cons_succ, Bool.false_eq_true, if_false, if_true, reduceIte, List.length_cons, List.length_nil, Nat.reduceAdd, Nat.reduceSub, List.replicate, List.cons_append, List.replicate_succ, List.replicate_zero, Option.map_some, Option.map_none, Bool.not_true, Bool.not_false, List.singleton_append, listD, vf_tD, tD_ix hi, tD_ix hj, add1, th_to, th_from, vl_th, a1, a2, x1, x2, tD_set]
  rfl
def wordOf (e : Str) : Str := if e = "NoThread" then "thread" else if e = "NoSwap" then "swap" else if e = "NoBead" then "bead" else ""
theorem due_ok {ls : List (List Str)} {i p j q : D} {W : Dr} (hi : i.typed = true) (hp : p.typed = true) (hj : j.typed = true) (hq : q.typed = true) (im : D.immL [i, p, j, q] = true) :
    G__law_due [.lst (tD ls), .tup [i, p, j, q]] W = .ok (false, .str (wordOf (swErr ls i p j q))) W := by
  have e1 := is_spot_ok (n := ls.length) (W := W) hi
  have e2 := is_spot_ok (n := ls.length) (W := W) hj
  have hln : lenD [.lst (tD ls)] = some (false, .int ls.length) := by rw [len_lst, tD_len]
  unfold G__law_due Z.run B__law_due
  have w1 : wordOf "NoThread" = "thread" := by decide +kernel
  have w2 : wordOf "NoSwap" = "swap" := by decide +kernel
  have w3 : wordOf "NoBead" = "bead" := by decide +kernel
  have w4 : wordOf "" = "" := by decide +kernel
  cases h1 : isIx i ls.length with
  | false =>
    rw [h1] at e1
    have : swErr ls i p j q = "NoThread" := by
      unfold swErr plErr
      simp only [h1, Bool.false_and, Bool.false_eq_true, if_false]
      rw [if_neg str_ne1]
    rw [this, w1]
    simp only [wip, SOut.wp, vl_int, vl_str, vl_bl, vl_non, nd2, Nat.reduceLeDiff, Nat.reduceEqDiff, not_false_eq_true, and_self, and_true, true_and, putAll, big_eq, ↓evS_for, ↓ev_lc, evS, evT, evA, ev, evL, evO, evI, Out.bind, Out.st, ofS, ofO, D.isBl, vo, put, Vl.isFr, Vl.all, biD, ds, ts, sets, List.flatMap_cons, List.flatMap_nil, List.map_cons, List.map_nil, List.append_nil, List.nil_append, vl_nil, vf_nil, frz_nil, List.getElem?_cons_zero, List.getElem?_cons_succ, List.set_cons_zero, List.set_cons_succ, Bool.false_eq_true, if_false, if_true, reduceIte, List.length_cons, List.length_nil, Nat.reduceAdd, Nat.reduceSub, List.replicate, List.cons_append, List.replicate_succ, List.replicate_zero, Option.map_some, Option.map_none, Bool.not_true, Bool.not_false, List.singleton_append, hln, e1]
  | true =>
    rw [h1] at e1
    cases h2 : isIx j ls.length with
    | false =>
      rw [h2] at e2
      have : swErr ls i p j q = "NoThread" := by
        unfold swErr plErr
        simp only [h2, Bool.and_false, Bool.false_eq_true, if_false]
        rw [if_neg str_ne1]
      rw [this, w1]
      simp only [wip, SOut.wp, vl_int, vl_str, vl_bl, vl_non, nd2, Nat.reduceLeDiff, Nat.reduceEqDiff, not_false_eq_true, and_self, and_true, true_and, putAll, big_eq, ↓evS_for, ↓ev_lc, evS, evT, evA, ev, evL, evO, evI, Out.bind, Out.st, ofS, ofO, D.isBl, vo, put, Vl.isFr, Vl.all, biD, ds, ts, sets, List.flatMap_cons, List.flatMap_nil, List.map_cons, List.map_nil, List.append_nil, List.nil_append, vl_nil, vf_nil, frz_nil, List.getElem?_cons_zero, List.getElem?_cons_succ, List.set_cons_zero, List.set_cons_succ, Bool.false_eq_true, if_false, if_true, reduceIte, List.length_cons, List.length_nil, Nat.reduceAdd, Nat.reduceSub, List.replicate, List.cons_append, List.replicate_succ, List.replicate_zero, Option.map_some, Option.map_none, Bool.not_true, Bool.not_false, List.singleton_append, hln, e1, e2]
    | true =>
      rw [h2] at e2
      obtain ⟨a, rfl, ha⟩ := isIx_of h1
      obtain ⟨b, rfl, hb⟩ := isIx_of h2
      by_cases hab : a = b
      · subst hab
        have : swErr ls (.int a) p (.int a) q = "NoSwap" := by
          unfold swErr plErr
          simp only [h1, Bool.and_self, if_true]
          rw [if_neg str_ne2]
        rw [this, w2]
        simp only [wip, SOut.wp, vl_int, vl_str, vl_bl, vl_non, nd2, Nat.reduceLeDiff, Nat.reduceEqDiff, not_false_eq_true, and_self, and_true, true_and, putAll, big_eq, ↓evS_for, ↓ev_lc, evS, evT, evA, ev, evL, evO, evI, Out.bind, Out.st, ofS, ofO, D.isBl, vo, put, Vl.isFr, Vl.all, biD, ds, ts, sets, List.flatMap_cons, List.flatMap_nil, List.map_cons, List.map_nil, List.append_nil, List.nil_append, vl_nil, vf_nil, frz_nil, List.getElem?_cons_zero, List.getElem?_cons_succ, List.set_cons_zero, List.set_cons_succ, Bool.false_eq_true, if_false, if_true, reduceIte, List.length_cons, List.length_nil, Nat.reduceAdd, Nat.reduceSub, List.replicate, List.cons_append, List.replicate_succ, List.replicate_zero, Option.map_some, Option.map_none, Bool.not_true, Bool.not_false, List.singleton_append, hln, e1, e2, eq_int, decide_true, eq_self]
      · have hab' : ¬ ((a : Int) = (b : Int)) := by omega
        have e3 := is_spot_ok (n := (ls.getD a []).length) (W := W) hp
        have e4 := is_spot_ok (n := (ls.getD b []).length) (W := W) hq
        have l3 : lenD [th (ls.getD a [])] = some (false, .int (ls.getD a []).length) := len_th
        have l4 : lenD [th (ls.getD b [])] = some (false, .int (ls.getD b []).length) := len_th
        have pl : plErr ls (.int a) p (.int b) q = if isIx p (ls.getD a []).length && isIx q (ls.getD b []).length then ("" : Str) else ("NoBead" : Str) := by
          unfold plErr
          simp only [h1, h2, Bool.and_self, if_true, natOf_int]
          exact if_neg hab
        cases h3 : isIx p (ls.getD a []).length with
        | false =>
          rw [h3] at e3
          have : swErr ls (.int a) p (.int b) q = "NoBead" := by
            unfold swErr
            rw [pl, h3]
            simp only [Bool.false_and, Bool.false_eq_true, if_false]
            rw [if_neg str_ne3]
          rw [this, w3]
          simp only [wip, SOut.wp, vl_int, vl_str, vl_bl, vl_non, nd2, Nat.reduceLeDiff, Nat.reduceEqDiff, not_false_eq_true, and_self, and_true, true_and, putAll, big_eq, ↓evS_for, ↓ev_lc, evS, evT, evA, ev, evL, evO, evI, Out.bind, Out.st, ofS, ofO, D.isBl, vo, put, Vl.isFr, Vl.all, biD, ds, ts, sets, List.flatMap_cons, List.flatMap_nil, List.map_cons, List.map_nil, List.append_nil, List.nil_append, vl_nil, vf_nil, frz_nil, List.getElem?_cons_zero, List.getElem?_cons_succ, List.set_cons_zero, List.set_cons_succ, Bool.false_eq_true, if_false, if_true, reduceIte, List.length_cons, List.length_nil, Nat.reduceAdd, Nat.reduceSub, List.replicate, List.cons_append, List.replicate_succ, List.replicate_zero, Option.map_some, Option.map_none, Bool.not_true, Bool.not_false, List.singleton_append, hln, e1, e2, eq_int, hab', decide_false, tD_ix ha, l3, e3]
        | true =>
          rw [h3] at e3
          cases h4 : isIx q (ls.getD b []).length with
          | false =>
            rw [h4] at e4
            have : swErr ls (.int a) p (.int b) q = "NoBead" := by
              unfold swErr
              rw [pl, h4]
              simp only [Bool.and_false, Bool.false_eq_true, if_false]
              rw [if_neg str_ne3]
            rw [this, w3]
            simp only [wip, SOut.wp, vl_int, vl_str, vl_bl, vl_non, nd2, Nat.reduceLeDiff, Nat.reduceEqDiff, not_false_eq_true, and_self, and_true, true_and, putAll, big_eq, ↓evS_for, ↓ev_lc, evS, evT, evA, ev, evL, evO, evI, Out.bind, Out.st, ofS, ofO, D.isBl, vo, put, Vl.isFr, Vl.all, biD, ds, ts, sets, List.flatMap_cons, List.flatMap_nil, List.map_cons, List.map_nil, List.append_nil, List.nil_append, vl_nil, vf_nil, frz_nil, List.getElem?_cons_zero, List.getElem?_cons_succ, List.set_cons_zero, List.set_cons_succ, Bool.false_eq_true, if_false, if_true, reduceIte, List.length_cons, List.length_nil, Nat.reduceAdd, Nat.reduceSub, List.replicate, List.cons_append, List.replicate_succ, List.replicate_zero, Option.map_some, Option.map_none, Bool.not_true, Bool.not_false, List.singleton_append, hln, e1, e2, eq_int, hab', decide_false, tD_ix ha, tD_ix hb, l3, e3, l4, e4]
          | true =>
            rw [h4] at e4
            obtain ⟨x, rfl, hx⟩ := isIx_of h3
            obtain ⟨y, rfl, hy⟩ := isIx_of h4
            have hpl : plErr ls (.int a) (.int x) (.int b) (.int y) = "" := by rw [pl, h3, h4]; rfl
            have hc : ((ls.getD a [])[x]? = (ls.getD b [])[y]?) ↔ (ls.getD a [])[x] = (ls.getD b [])[y] := by
              rw [List.getElem?_eq_getElem hx, List.getElem?_eq_getElem hy]
              exact ⟨fun z => Option.some.inj z, fun z => by rw [z]⟩
            by_cases hcc : (ls.getD a [])[x] = (ls.getD b [])[y]
            · have : swErr ls (.int a) (.int x) (.int b) (.int y) = "" := by
                unfold swErr
                rw [if_pos hpl]
                exact if_pos (hc.mpr hcc)
              rw [this, w4]
              simp only [wip, SOut.wp, vl_int, vl_str, vl_bl, vl_non, nd2, Nat.reduceLeDiff, Nat.reduceEqDiff, not_false_eq_true, and_self, and_true, true_and, putAll, big_eq, ↓evS_for, ↓ev_lc, evS, evT, evA, ev, evL, evO, evI, Out.bind, Out.st, ofS, ofO, D.isBl, vo, put, Vl.isFr, Vl.all, biD, ds, ts, sets, List.flatMap_cons, List.flatMap_nil, List.map_cons, List.map_nil, List.append_nil, List.nil_append, vl_nil, vf_nil, frz_nil, List.getElem?_cons_zero, List.getElem?_cons_succ, List.set_cons_zero, List.set_cons_succ, Bool.false_eq_true, if_false, if_true, reduceIte, List.length_cons, List.length_nil, Nat.reduceAdd, Nat.reduceSub, List.replicate, List.cons_append, List.replicate_succ, List.replicate_zero, Option.map_some, Option.map_none, Bool.not_true, Bool.not_false, List.singleton_append, hln, e1, e2, eq_int, hab', decide_false, tD_ix ha, tD_ix hb, l3, e3, l4, e4, th_ix hx, th_ix hy, ne_str, hcc, eq_self, decide_true]
            · have : swErr ls (.int a) (.int x) (.int b) (.int y) = "NoSwap" := by
                unfold swErr
                rw [if_pos hpl]
                exact if_neg fun z => hcc (hc.mp z)
              rw [this, w2]
              simp only [wip, SOut.wp, vl_int, vl_str, vl_bl, vl_non, nd2, Nat.reduceLeDiff, Nat.reduceEqDiff, not_false_eq_true, and_self, and_true, true_and, putAll, big_eq, ↓evS_for, ↓ev_lc, evS, evT, evA, ev, evL, evO, evI, Out.bind, Out.st, ofS, ofO, D.isBl, vo, put, Vl.isFr, Vl.all, biD, ds, ts, sets, List.flatMap_cons, List.flatMap_nil, List.map_cons, List.map_nil, List.append_nil, List.nil_append, vl_nil, vf_nil, frz_nil, List.getElem?_cons_zero, List.getElem?_cons_succ, List.set_cons_zero, List.set_cons_succ, Bool.false_eq_true, if_false, if_true, reduceIte, List.length_cons, List.length_nil, Nat.reduceAdd, Nat.reduceSub, List.replicate, List.cons_append, List.replicate_succ, List.replicate_zero, Option.map_some, Option.map_none, Bool.not_true, Bool.not_false, List.singleton_append, hln, e1, e2, eq_int, hab', decide_false, tD_ix ha, tD_ix hb, l3, e3, l4, e4, th_ix hx, th_ix hy, ne_str, hcc]
theorem told_non {W : Dr} : G__law_told [.non] W = .ok (false, .str "") W := rfl
theorem told_ok {e : Str} {W : Dr} (h : e = "NoThread" ∨ e = "NoSwap" ∨ e = "NoBead") : G__law_told [.exc e []] W = .ok (false, .str (wordOf e)) W := by
  rcases h with rfl | rfl | rfl <;> rfl
end Z

namespace Z
open PySem
theorem lis_index_ok {x : D} {n : Nat} {W : Dr} (h : x.typed = true) : G__law_is_index [x, .int n] W = .ok (false, .bl (isIx x n)) W := by
  have t1 : [Ty.int].any (isD1 x) = isD1 x .int := by simp
  have t2 : [Ty.bool].any (isD1 x) = isD1 x .bool := by simp
  unfold G__law_is_index Z.run B__law_is_index
  cases x <;> first | (simp [D.typed] at h; done) | skip
  case int i =>
    cases h1 : decide (0 ≤ i) with
    | false => simp only [wip, SOut.wp, vl_int, vl_str, vl_bl, vl_non, nd2, Nat.reduceLeDiff, Nat.reduceEqDiff, not_false_eq_true, and_self, and_true, true_and, putAll, big_eq, ↓evS_for, ↓ev_lc, evS, evT, evA, ev, evL, evO, evI, Out.bind, Out.st, ofS, ofO, D.isBl, vo, put, Vl.isFr, Vl.all, biD, ds, ts, sets, List.flatMap_cons, List.flatMap_nil, List.map_cons, List.map_nil, List.append_nil, List.nil_append, vl_nil, vf_nil, frz_nil, List.getElem?_cons_zero, List.getElem?_cons_succ, List.set_cons_zero, List.set_cons_succ, Bool.false_eq_true, if_false, if_true, reduceIte, List.length_cons, List.length_nil, Nat.reduceAdd, Nat.reduceSub, List.replicate, List.cons_append, List.replicate_succ, List.replicate_zero, Option.map_some, Option.map_none, Bool.not_true, Bool.not_false, List.singleton_append, h, t1, t2, isD1, le0, h1, isIx, Bool.false_and]
    | true => simp only [wip, SOut.wp, vl_int, vl_str, vl_bl, vl_non, nd2, Nat.reduceLeDiff, Nat.reduceEqDiff, not_false_eq_true, and_self, and_true, true_and, putAll, big_eq, ↓evS_for, ↓ev_lc, evS, evT, evA, ev, evL, evO, evI, Out.bind, Out.st, ofS, ofO, D.isBl, vo, put, Vl.isFr, Vl.all, biD, ds, ts, sets, List.flatMap_cons, List.flatMap_nil, List.map_cons, List.map_nil, List.append_nil, List.nil_append, vl_nil, vf_nil, frz_nil, List.getElem?_cons_zero, List.getElem?_cons_succ, List.set_cons_zero, List.set_cons_succ, Bool.false_eq_true, if_false, if_true, reduceIte, List.length_cons, List.length_nil, Nat.reduceAdd, Nat.reduceSub, List.replicate, List.cons_append, List.replicate_succ, List.replicate_zero, Option.map_some, Option.map_none, Bool.not_true, Bool.not_false, List.singleton_append, h, t1, t2, isD1, le0, ltN, h1, isIx, Bool.true_and]
  all_goals simp only [wip, SOut.wp, vl_int, vl_str, vl_bl, vl_non, nd2, Nat.reduceLeDiff, Nat.reduceEqDiff, not_false_eq_true, and_self, and_true, true_and, putAll, big_eq, ↓evS_for, ↓ev_lc, evS, evT, evA, ev, evL, evO, evI, Out.bind, Out.st, ofS, ofO, D.isBl, vo, put, Vl.isFr, Vl.all, biD, ds, ts, sets, List.flatMap_cons, List.flatMap_nil, List.map_cons, List.map_nil, List.append_nil, List.nil_append, vl_nil, vf_nil, frz_nil, List.getElem?_cons_zero, List.getElem?_cons_succ, List.set_cons_zero, List.set_cons_succ, Bool.false_eq_true, if_false, if_true, reduceIte, List.length_cons, List.length_nil, Nat.reduceAdd, Nat.reduceSub, List.replicate, List.cons_append, List.replicate_succ, List.replicate_zero, Option.map_some, Option.map_none, Bool.not_true, Bool.not_false, List.singleton_append, h, t1, t2, isD1, isIx]
theorem mate_ok {ls : List (List Str)} {i p j : Nat} {W : Dr} (hi : i < ls.length) (hj : j < ls.length) : G_mate_of [.lst (tD ls), .int i, .int p, .int j] W = .ok (false, .int (((ls.getD j []).length : Int) - (ls.getD i []).length + p)) W := by
  have l1 : lenD [th (ls.getD i [])] = some (false, .int (ls.getD i []).length) := len_th
  have l2 : lenD [th (ls.getD j [])] = some (false, .int (ls.getD j []).length) := len_th
  have b1 : ∀ a b : Int, binD .Sub (.int a) (.int b) = some (false, .int (a - b)) := fun _ _ => rfl
  have b2 : ∀ a b : Int, binD .Add (.int a) (.int b) = some (false, .int (a + b)) := fun _ _ => rfl
  unfold G_mate_of Z.run B_mate_of
  simp only [wip, SOut.wp, vl_int, vl_str, vl_bl, vl_non, nd2, Nat.reduceLeDiff, Nat.reduceEqDiff, not_false_eq_true, and_self, and_true, true_and, putAll, big_eq, ↓evS_for, ↓ev_lc, evS, evT, evA, ev, evL, evO, evI, Out.bind, Out.st, ofS, ofO, D.isBl, vo, put, Vl.isFr, Vl.all, biD, ds, ts, sets, List.flatMap_cons, List.flatMap_nil, List.map_cons, List.map_nil, List.append_nil, List.nil_append, vl_nil, vf_nil, frz_nil, List.getElem?_cons_zero, List.getElem?_cons_succ, List.set_cons_zero, List.set_cons_succ, Bool.false_eq_true, if_false, if_true, reduceIte, List.length_cons, List.length_nil, Nat.reduceAdd, Nat.reduceSub, List.replicate, List.cons_append, List.replicate_succ, List.replicate_zero, Option.map_some, Option.map_none, Bool.not_true, Bool.not_false, List.singleton_append, tD_ix hi, tD_ix hj, vl_th, l1, l2, b1, b2]
/-- what is wrong with a level swap -/
def lvErr (ls : List (List Str)) (i p j : D) : Str :=
  if (isIx i ls.length && isIx j ls.length) = true then
    if natOf i = natOf j then "NoSwap"
    else if isIx p (ls.getD (natOf i) []).length = true then
      if (ls.getD (natOf i) []).length ≤ (ls.getD (natOf j) []).length + natOf p ∧ (ls.getD (natOf i) [])[natOf p]? = (ls.getD (natOf j) [])[(ls.getD (natOf j) []).length + natOf p - (ls.getD (natOf i) []).length]? then "" else "NoSwap"
    else "NoBead"
  else "NoThread"
/-- the mate's place -/
def mate (ls : List (List Str)) (i p j : D) : Nat := (ls.getD (natOf j) []).length + natOf p - (ls.getD (natOf i) []).length
def lvGo (ls : List (List Str)) (i p j : D) : List (List Str) := exchg ls (natOf i) (natOf p) (natOf j) (mate ls i p j)
theorem ltI {a b : Int} : cmpD .Lt (.int a) (.int b) = some (decide (a < b)) := rfl
theorem swapped_level_ok {ls : List (List Str)} {i p j : D} {W : Dr} (h : StOk ls) (hi : i.typed = true) (hp : p.typed = true) (hj : j.typed = true) :
    G_swapped_level [stD (tD ls), i, p, j] W = rais (lvErr ls i p j) (false, stD (tD (lvGo ls i p j))) W := by
  have e0 : G_need_state [stD (tD ls)] W = .ok (false, .non) W := by rw [need_state_ok rfl]; rfl
  have e1 : G_lines_of [stD (tD ls)] W = .ok (true, .lst (tD ls)) W := lines_of_ok
  have e2 := need_thread_ok (xs := tD ls) (W := W) hi
  have e3 := need_thread_ok (xs := tD ls) (W := W) hj
  rw [tD_len] at e2 e3
  unfold G_swapped_level Z.run B_swapped_level
  cases h1 : isIx i ls.length with
  | false =>
    rw [h1] at e2
    simp only [wip, SOut.wp, vl_int, vl_str, vl_bl, vl_non, nd2, Nat.reduceLeDiff, Nat.reduceEqDiff, not_false_eq_true, and_self, and_true, true_and, putAll, big_eq, ↓evS_for, ↓ev_lc, evS, evT, evA, ev, evL, evO, evI, Out.bind, Out.st, ofS, ofO, D.isBl, vo, put, Vl.isFr, Vl.all, biD, ds, ts, sets, List.flatMap_cons, List.flatMap_nil, List.map_cons, List.map_nil, List.append_nil, List.nil_append, vl_nil, vf_nil, frz_nil, List.getElem?_cons_zero, List.getElem?_cons_succ, List.set_cons_zero, List.set_cons_succ, Bool.false_eq_true, if_false, if_true, reduceIte, List.length_cons, List.length_nil, Nat.reduceAdd, Nat.reduceSub, List.replicate, List.cons_append, List.replicate_succ, List.replicate_zero, Option.map_some, Option.map_none, Bool.not_true, Bool.not_false, List.singleton_append, e0, e1, vf_tD, e2, need, rais, lvErr, h1, Bool.false_and, str_ne1]
  | true =>
    rw [h1] at e2
    cases h2 : isIx j ls.length with
    | false =>
      rw [h2] at e3
      simp only [wip, SOut.wp, vl_int, vl_str, vl_bl, vl_non, nd2, Nat.reduceLeDiff, Nat.reduceEqDiff, not_false_eq_true, and_self, and_true, true_and, putAll, big_eq, ↓evS_for, ↓ev_lc, evS, evT, evA, ev, evL, evO, evI, Out.bind, Out.st, ofS, ofO, D.isBl, vo, put, Vl.isFr, Vl.all, biD, ds, ts, sets, List.flatMap_cons, List.flatMap_nil, List.map_cons, List.map_nil, List.append_nil, List.nil_append, vl_nil, vf_nil, frz_nil, List.getElem?_cons_zero, List.getElem?_cons_succ, List.set_cons_zero, List.set_cons_succ, Bool.false_eq_true, if_false, if_true, reduceIte, List.length_cons, List.length_nil, Nat.reduceAdd, Nat.reduceSub, List.replicate, List.cons_append, List.replicate_succ, List.replicate_zero, Option.map_some, Option.map_none, Bool.not_true, Bool.not_false, List.singleton_append, e0, e1, vf_tD, e2, e3, need, rais, lvErr, h1, h2, Bool.and_false, str_ne1]
    | true =>
      rw [h2] at e3
      obtain ⟨a, rfl, ha⟩ := isIx_of h1
      obtain ⟨b, rfl, hb⟩ := isIx_of h2
      by_cases hab : a = b
      · subst hab
        simp only [wip, SOut.wp, vl_int, vl_str, vl_bl, vl_non, nd2, Nat.reduceLeDiff, Nat.reduceEqDiff, not_false_eq_true, and_self, and_true, true_and, putAll, big_eq, ↓evS_for, ↓ev_lc, evS, evT, evA, ev, evL, evO, evI, Out.bind, Out.st, ofS, ofO, D.isBl, vo, put, Vl.isFr, Vl.all, biD, ds, ts, sets, List.flatMap_cons, List.flatMap_nil, List.map_cons, List.map_nil, List.append_nil, List.nil_append, vl_nil, vf_nil, frz_nil, List.getElem?_cons_zero, List.getElem?_cons_succ, List.set_cons_zero, List.set_cons_succ, Bool.false_eq_true, if_false, if_true, reduceIte, List.length_cons, List.length_nil, Nat.reduceAdd, Nat.reduceSub, List.replicate, List.cons_append, List.replicate_succ, List.replicate_zero, Option.map_some, Option.map_none, Bool.not_true, Bool.not_false, List.singleton_append, e0, e1, vf_tD, e2, e3, need, rais, lvErr, h1, Bool.and_self, natOf_int, eq_int, decide_true, str_ne2]
      · have hab' : ¬ ((a : Int) = (b : Int)) := by omega
        have e4 := need_bead_ok (xs := sts (ls.getD a [])) (W := W) hp
        rw [th_len] at e4
        have e4' : G_need_bead [th (ls.getD a []), p] W = _ := e4
        cases h3 : isIx p (ls.getD a []).length with
        | false =>
          rw [h3] at e4'
          simp only [wip, SOut.wp, vl_int, vl_str, vl_bl, vl_non, nd2, Nat.reduceLeDiff, Nat.reduceEqDiff, not_false_eq_true, and_self, and_true, true_and, putAll, big_eq, ↓evS_for, ↓ev_lc, evS, evT, evA, ev, evL, evO, evI, Out.bind, Out.st, ofS, ofO, D.isBl, vo, put, Vl.isFr, Vl.all, biD, ds, ts, sets, List.flatMap_cons, List.flatMap_nil, List.map_cons, List.map_nil, List.append_nil, List.nil_append, vl_nil, vf_nil, frz_nil, List.getElem?_cons_zero, List.getElem?_cons_succ, List.set_cons_zero, List.set_cons_succ, Bool.false_eq_true, if_false, if_true, reduceIte, List.length_cons, List.length_nil, Nat.reduceAdd, Nat.reduceSub, List.replicate, List.cons_append, List.replicate_succ, List.replicate_zero, Option.map_some, Option.map_none, Bool.not_true, Bool.not_false, List.singleton_append, e0, e1, vf_tD, e2, e3, e4', need, rais, lvErr, h1, h2, h3, Bool.and_self, natOf_int, eq_int, hab', hab, decide_false, tD_ix ha, vl_th, str_ne3]
        | true =>
          rw [h3] at e4'
          obtain ⟨x, rfl, hx⟩ := isIx_of h3
          have e5 := mate_ok (ls := ls) (p := x) (W := W) ha hb
          by_cases hq : (ls.getD a []).length ≤ (ls.getD b []).length + x
          · have hm : ((ls.getD b []).length : Int) - (ls.getD a []).length + x = ((ls.getD b []).length + x - (ls.getD a []).length : Nat) := by omega
            have hy : (ls.getD b []).length + x - (ls.getD a []).length < (ls.getD b []).length := by omega
            rw [hm] at e5
            have hc : ((ls.getD a [])[x]? = (ls.getD b [])[(ls.getD b []).length + x - (ls.getD a []).length]?) ↔ (ls.getD a [])[x] = (ls.getD b [])[(ls.getD b []).length + x - (ls.getD a []).length] := by
              rw [List.getElem?_eq_getElem hx, List.getElem?_eq_getElem hy]
              exact ⟨fun z => Option.some.inj z, fun z => by rw [z]⟩
            have hlt : ¬ (((ls.getD b []).length + x - (ls.getD a []).length : Nat) : Int) < 0 := by omega
            have t1 := traded_ok (ls := ls) (p := x) (q := (ls.getD b []).length + x - (ls.getD a []).length) (W := W) ha hb fun l hl => by have := StOk.len h l hl; omega
            have t2 := StOk.make (W := W) (exchg_st h ha hb hab hx hy)
            by_cases hcc : (ls.getD a [])[x] = (ls.getD b [])[(ls.getD b []).length + x - (ls.getD a []).length]
            · have w : lvErr ls (.int a) (.int x) (.int b) = "" := by
                unfold lvErr
                simp only [h1, h2, Bool.and_self, if_true, natOf_int, hab, if_false, h3]
                exact if_pos ⟨hq, hc.mpr hcc⟩
              rw [w]
              simp only [lvGo, mate, natOf_int]
              simp only [wip, SOut.wp, vl_int, vl_str, vl_bl, vl_non, nd2, Nat.reduceLeDiff, Nat.reduceEqDiff, not_false_eq_true, and_self, and_true, true_and, putAll, big_eq, ↓evS_for, ↓ev_lc, evS, evT, evA, ev, evL, evO, evI, Out.bind, Out.st, ofS, ofO, D.isBl, vo, put, Vl.isFr, Vl.all, biD, ds, ts, sets, List.flatMap_cons, List.flatMap_nil, List.map_cons, List.map_nil, List.append_nil, List.nil_append, vl_nil, vf_nil, frz_nil, List.getElem?_cons_zero, List.getElem?_cons_succ, List.set_cons_zero, List.set_cons_succ, Bool.false_eq_true, if_false, if_true, reduceIte, List.length_cons, List.length_nil, Nat.reduceAdd, Nat.reduceSub, List.replicate, List.cons_append, List.replicate_succ, List.replicate_zero, Option.map_some, Option.map_none, Bool.not_true, Bool.not_false, List.singleton_append, e0, e1, vf_tD, e2, e3, e4', need, rais, eq_int, hab', decide_false, tD_ix ha, tD_ix hb, vl_th, e5, ltI, hlt, th_ix hx, th_ix hy, ne_str, hcc, eq_self, decide_true, t1, t2]
            · have w : lvErr ls (.int a) (.int x) (.int b) = "NoSwap" := by
                unfold lvErr
                simp only [h1, h2, Bool.and_self, if_true, natOf_int, hab, if_false, h3]
                exact if_neg fun z => hcc (hc.mp z.2)
              rw [w]
              simp only [wip, SOut.wp, vl_int, vl_str, vl_bl, vl_non, nd2, Nat.reduceLeDiff, Nat.reduceEqDiff, not_false_eq_true, and_self, and_true, true_and, putAll, big_eq, ↓evS_for, ↓ev_lc, evS, evT, evA, ev, evL, evO, evI, Out.bind, Out.st, ofS, ofO, D.isBl, vo, put, Vl.isFr, Vl.all, biD, ds, ts, sets, List.flatMap_cons, List.flatMap_nil, List.map_cons, List.map_nil, List.append_nil, List.nil_append, vl_nil, vf_nil, frz_nil, List.getElem?_cons_zero, List.getElem?_cons_succ, List.set_cons_zero, List.set_cons_succ, Bool.false_eq_true, if_false, if_true, reduceIte, List.length_cons, List.length_nil, Nat.reduceAdd, Nat.reduceSub, List.replicate, List.cons_append, List.replicate_succ, List.replicate_zero, Option.map_some, Option.map_none, Bool.not_true, Bool.not_false, List.singleton_append, e0, e1, vf_tD, e2, e3, e4', need, rais, eq_int, hab', decide_false, tD_ix ha, tD_ix hb, vl_th, e5, ltI, hlt, th_ix hx, th_ix hy, ne_str, hcc, str_ne2]
          · have hlt : ((ls.getD b []).length : Int) - (ls.getD a []).length + x < 0 := by omega
            have w : lvErr ls (.int a) (.int x) (.int b) = "NoSwap" := by
              unfold lvErr
              simp only [h1, h2, Bool.and_self, if_true, natOf_int, hab, if_false, h3]
              exact if_neg fun z => hq z.1
            rw [w]
            simp only [wip, SOut.wp, vl_int, vl_str, vl_bl, vl_non, nd2, Nat.reduceLeDiff, Nat.reduceEqDiff, not_false_eq_true, and_self, and_true, true_and, putAll, big_eq, ↓evS_for, ↓ev_lc, evS, evT, evA, ev, evL, evO, evI, Out.bind, Out.st, ofS, ofO, D.isBl, vo, put, Vl.isFr, Vl.all, biD, ds, ts, sets, List.flatMap_cons, List.flatMap_nil, List.map_cons, List.map_nil, List.append_nil, List.nil_append, vl_nil, vf_nil, frz_nil, List.getElem?_cons_zero, List.getElem?_cons_succ, List.set_cons_zero, List.set_cons_succ, Bool.false_eq_true, if_false, if_true, reduceIte, List.length_cons, List.length_nil, Nat.reduceAdd, Nat.reduceSub, List.replicate, List.cons_append, List.replicate_succ, List.replicate_zero, Option.map_some, Option.map_none, Bool.not_true, Bool.not_false, List.singleton_append, e0, e1, vf_tD, e2, e3, e4', need, rais, eq_int, hab', decide_false, tD_ix ha, vl_th, e5, ltI, hlt, decide_true, str_ne2]
theorem swapped_level_no {x a b c : D} {W : Dr} (h : x.typed = true) (hx : isD1 x Ty_State = false) : G_swapped_level [x, a, b, c] W = .ex (.exc "NoState" []) W := by
  have e1 : G_need_state [x] W = .ex (.exc "NoState" []) W := by rw [need_state_ok h, hx]; rfl
  unfold G_swapped_level Z.run B_swapped_level
  simp only [wip, SOut.wp, vl_int, vl_str, vl_bl, vl_non, nd2, Nat.reduceLeDiff, Nat.reduceEqDiff, not_false_eq_true, and_self, and_true, true_and, putAll, big_eq, ↓evS_for, ↓ev_lc, evS, evT, evA, ev, evL, evO, evI, Out.bind, Out.st, ofS, ofO, D.isBl, vo, put, Vl.isFr, Vl.all, biD, ds, ts, sets, List.flatMap_cons, List.flatMap_nil, List.map_cons, List.map_nil, List.append_nil, List.nil_append, vl_nil, vf_nil, frz_nil, List.getElem?_cons_zero, List.getElem?_cons_succ, List.set_cons_zero, List.set_cons_succ, Bool.false_eq_true, if_false, if_true, reduceIte, List.length_cons, List.length_nil, Nat.reduceAdd, Nat.reduceSub, List.replicate, List.cons_append, List.replicate_succ, List.replicate_zero, Option.map_some, Option.map_none, Bool.not_true, Bool.not_false, List.singleton_append, e1]
/-- the odd things -/
def oddL : List D := [.non, .bl true, .bl false, .int (-1), .int (10 ^ 40), .str "", .str "A", .str "abcde", .str "a b", .tup [], .lst [], .dic false [], .tup [.str "A"], .tup [.str "abcde"], .tup [.str "a", .int 1],
  .tup [.non], .lst [.str "a"], .dic false [(.str "a", .int 1)], .tup [.tup []], .lst [.tup []], .lst [.tup [.str "a", .str ""]], .str "1", .tup [.str "a", .tup [.str "a"]], .lst [.str "A"]]
theorem oddL_ok : ∀ x ∈ oddL, x.typed = true ∧ isD1 x Ty_State = false := by
  intro x hx
  simp only [oddL, List.mem_cons, List.not_mem_nil, or_false] at hx
  rcases hx with rfl | rfl | rfl | rfl | rfl | rfl | rfl | rfl | rfl | rfl | rfl | rfl | rfl | rfl | rfl | rfl | rfl | rfl | rfl | rfl | rfl | rfl | rfl | rfl <;> exact ⟨rfl, rfl⟩
theorem odd_ok {T : Nat} {W : Dr} (h : Wd T W) (hT : T ≤ 1099511627776) : ∃ x W', x ∈ oddL ∧ Wd (T + 1) W' ∧ G__law_odd [.drw] W = .ok (false, x) W' := by
  obtain ⟨x, W', hx, hw, e⟩ := pick_ok (xs := oddL) h hT (by simp [oddL]) (by simp [oddL])
  refine ⟨x, W', hx, hw, ?_⟩
  have hpow : binD .Pow (.int 10) (.int 40) = some (false, .int (10 ^ 40)) := by
    simp only [binD, big_eq]
    rw [if_pos ⟨by omega, by omega, by decide⟩]
    rfl
  have hadd : ∀ a b : List D, a.length + b.length ≤ 16777216 → binD .Add (.lst a) (.lst b) = some (true, .lst (a ++ b)) := fun a b h => by simp only [binD]; rw [if_pos h]
  have v1 : ∀ (l : List D), D.immL l = false → vf (.lst l) [] = ⟨.lst l, .fr, []⟩ := fun l _ => vf_nil
  unfold oddL at e
  unfold G__law_odd Z.run B__law_odd
  simp only [wip, SOut.wp, vl_int, vl_str, vl_bl, vl_non, nd2, Nat.reduceLeDiff, Nat.reduceEqDiff, not_false_eq_true, and_self, and_true, true_and, putAll, big_eq, ↓evS_for, ↓ev_lc, evS, evT, evA, ev, evL, evO, evI, Out.bind, Out.st, ofS, ofO, D.isBl, vo, put, Vl.isFr, Vl.all, biD, ds, ts, sets, List.flatMap_cons, List.flatMap_nil, List.map_cons, List.map_nil, List.append_nil, List.nil_append, vl_nil, vf_nil, frz_nil, List.getElem?_cons_zero, List.getElem?_cons_succ, List.set_cons_zero, List.set_cons_succ, Bool.false_eq_true, if_false, if_true, reduceIte, List.length_cons, List.length_nil, Nat.reduceAdd, Nat.reduceSub, List.replicate, List.cons_append, List.replicate_succ, List.replicate_zero, Option.map_some, Option.map_none, Bool.not_true, Bool.not_false, List.singleton_append, ↓hpow, cap, ite_self]
  rw [hadd _ _ (by simp)]
  simp only [wip, SOut.wp, vl_int, vl_str, vl_bl, vl_non, nd2, Nat.reduceLeDiff, Nat.reduceEqDiff, not_false_eq_true, and_self, and_true, true_and, putAll, big_eq, ↓evS_for, ↓ev_lc, evS, evT, evA, ev, evL, evO, evI, Out.bind, Out.st, ofS, ofO, D.isBl, vo, put, Vl.isFr, Vl.all, biD, ds, ts, sets, List.flatMap_cons, List.flatMap_nil, List.map_cons, List.map_nil, List.append_nil, List.nil_append, vl_nil, vf_nil, frz_nil, List.getElem?_cons_zero, List.getElem?_cons_succ, List.set_cons_zero, List.set_cons_succ, Bool.false_eq_true, if_false, if_true, reduceIte, List.length_cons, List.length_nil, Nat.reduceAdd, Nat.reduceSub, List.replicate, List.cons_append, List.replicate_succ, List.replicate_zero, Option.map_some, Option.map_none, Bool.not_true, Bool.not_false, List.singleton_append, e]
end Z

namespace Qk01
open PySem Z
def isDx (n : Str) : Ty → Bool
  | .cls c b => n == c || b.contains n
  | _ => false
theorem isD1_exc {n : Str} {fs : List (Str × D)} {t : Ty} (h : ∃ c b, t = .cls c b) : [t].any (isD1 (.exc n fs)) = isDx n t := by
  obtain ⟨c, b, rfl⟩ := h
  simp [isD1, isDx]
def tysL : List Ty := [Ty_NoState, Ty_NoThread, Ty_NoBead, Ty_NoSwap, Ty_NoExchange, Ty_NotSealed, Ty_NoNumber, Ty_BadDeed, Ty_BadText, Ty_TooMany]
def markL (n : Str) : List D := tysL.map fun t => .bl (isDx n t)
theorem marks_ok {n : Str} {fs : List (Str × D)} {W : Dr} : G__law_marks [.exc n fs] W = .ok (true, .lst (markL n)) W := by
  have ht : (D.exc n fs).typed = true := rfl
  have h1 := isD1_exc (n := n) (fs := fs) (t := Ty_NoState) ⟨_, _, rfl⟩
  have h2 := isD1_exc (n := n) (fs := fs) (t := Ty_NoThread) ⟨_, _, rfl⟩
  have h3 := isD1_exc (n := n) (fs := fs) (t := Ty_NoBead) ⟨_, _, rfl⟩
  have h4 := isD1_exc (n := n) (fs := fs) (t := Ty_NoSwap) ⟨_, _, rfl⟩
  have h5 := isD1_exc (n := n) (fs := fs) (t := Ty_NoExchange) ⟨_, _, rfl⟩
  have h6 := isD1_exc (n := n) (fs := fs) (t := Ty_NotSealed) ⟨_, _, rfl⟩
  have h7 := isD1_exc (n := n) (fs := fs) (t := Ty_NoNumber) ⟨_, _, rfl⟩
  have h8 := isD1_exc (n := n) (fs := fs) (t := Ty_BadDeed) ⟨_, _, rfl⟩
  have h9 := isD1_exc (n := n) (fs := fs) (t := Ty_BadText) ⟨_, _, rfl⟩
  have h10 := isD1_exc (n := n) (fs := fs) (t := Ty_TooMany) ⟨_, _, rfl⟩
  have c3 : 3 ≤ cap := by decide
  have c1 : 1 ≤ cap := by decide
  unfold G__law_marks Z.run B__law_marks
  simp only [wip, SOut.wp, vl_int, vl_str, vl_bl, vl_non, nd2, Nat.reduceLeDiff, Nat.reduceEqDiff, not_false_eq_true, and_self, and_true, true_and, putAll, big_eq, ↓evS_for, ↓ev_lc, evS, evT, evA, ev, evL, evO, evI, Out.bind, Out.st, ofS, ofO, D.isBl, vo, put, Vl.isFr, Vl.all, biD, ds, ts, sets, List.flatMap_cons, List.flatMap_nil, List.map_cons, List.map_nil, List.append_nil, List.nil_append, vl_nil, vf_nil, frz_nil, List.getElem?_cons_zero, List.getElem?_cons_succ, List.set_cons_zero, List.set_cons_succ, Bool.false_eq_true, if_false, if_true, reduceIte, List.length_cons, List.length_nil, Nat.reduceAdd, Nat.reduceSub, List.replicate, List.cons_append, List.replicate_succ, List.replicate_zero, Option.map_some, Option.map_none, Bool.not_true, Bool.not_false, List.singleton_append, ht, h1, h2, h3, h4, h5, h6, h7, h8, h9, h10, c3, c1, binD, markL, tysL, List.cons_append, List.nil_append, D.kids, D.immL, D.imm, Bool.and_self] <;> try simp only [wip, SOut.wp, vl_int, vl_str, vl_bl, vl_non, nd2, Nat.reduceLeDiff, Nat.reduceEqDiff, not_false_eq_true, and_self, and_true, true_and, putAll, big_eq, ↓evS_for, ↓ev_lc, evS, evT, evA, ev, evL, evO, evI, Out.bind, Out.st, ofS, ofO, D.isBl, vo, put, Vl.isFr, Vl.all, biD, ds, ts, sets, List.flatMap_cons, List.flatMap_nil, List.map_cons, List.map_nil, List.append_nil, List.nil_append, vl_nil, vf_nil, frz_nil, List.getElem?_cons_zero, List.getElem?_cons_succ, List.set_cons_zero, List.set_cons_succ, Bool.false_eq_true, if_false, if_true, reduceIte, List.length_cons, List.length_nil, Nat.reduceAdd, Nat.reduceSub, List.replicate, List.cons_append, List.replicate_succ, List.replicate_zero, Option.map_some, Option.map_none, Bool.not_true, Bool.not_false, List.singleton_append, ht, h1, h2, h3, h4, h5, h6, h7, h8, h9, h10, c3, c1, binD, markL, tysL, List.cons_append, List.nil_append, D.kids, D.immL, D.imm, Bool.and_self]
def rowE (i : Nat) : List D := (List.range 10).map fun k => .bl (decide (k = i))
theorem mk_row {n : Str} {i : Nat} (h : tysL.map (isDx n) = (List.range 10).map fun k => decide (k = i)) : markL n = rowE i := by
  have := congrArg (List.map D.bl) h
  simpa only [List.map_map, markL, rowE, Function.comp_def] using this
theorem apart1 {i : Nat} {n : Str} {fs : List (Str × D)} {v : D} {W : Dr} (h : markL n = rowE i) (h1 : isDx n Ty_ThreadError = true) (h2 : isDx n Ty_ValueError = true) :
    forOne 1000000 B__law_are_apart_2 (.tp [1, 2]) (.tup [.int i, .exc n fs]) [.val v, .un, .un, .un] W = .nx [.val v, .un, .un, .un] W := by
  have ht : (D.exc n fs).typed = true := rfl
  have t1 := isD1_exc (n := n) (fs := fs) (t := Ty_ThreadError) ⟨_, _, rfl⟩
  have t2 := isD1_exc (n := n) (fs := fs) (t := Ty_ValueError) ⟨_, _, rfl⟩
  rw [h1] at t1
  rw [h2] at t2
  have e := marks_ok (n := n) (fs := fs) (W := W)
  rw [h] at e
  have g := rngN (n := 10) (by omega)
  have g : rngD [.int 10] = some ((List.range 10).map fun k : Nat => .int (k : Int)) := g
  have l := lc_each (fun k : Nat => D.int (k : Int)) (fun k => D.bl (decide (k = i))) (one := lcOne E__law_are_apart_1 .nil (.nm 3) [3] [.val v, .val (.int i), .val (.exc n fs), .un]) (W := W) (xs := List.range 10) (by decide) fun k _ => by
    refine ⟨⟨.bl (decide (k = i)), .pl, []⟩, lcOne_ok ?_, rfl, rfl⟩
    have q : cmpD .Eq (.int (k : Int)) (.int (i : Int)) = some (decide (k = i)) := eq_int.trans (congrArg some (decide_eq_decide.mpr (by omega)))
    unfold E__law_are_apart_1
    simp only [wip, SOut.wp, vl_int, vl_str, vl_bl, vl_non, nd2, Nat.reduceLeDiff, Nat.reduceEqDiff, not_false_eq_true, and_self, and_true, true_and, putAll, big_eq, ↓evS_for, ↓ev_lc, evS, evT, evA, ev, evL, evO, evI, Out.bind, Out.st, ofS, ofO, D.isBl, vo, put, Vl.isFr, Vl.all, biD, ds, ts, sets, List.flatMap_cons, List.flatMap_nil, List.map_cons, List.map_nil, List.append_nil, List.nil_append, vl_nil, vf_nil, frz_nil, List.getElem?_cons_zero, List.getElem?_cons_succ, List.set_cons_zero, List.set_cons_succ, Bool.false_eq_true, if_false, if_true, reduceIte, List.length_cons, List.length_nil, Nat.reduceAdd, Nat.reduceSub, List.replicate, List.cons_append, List.replicate_succ, List.replicate_zero, Option.map_some, Option.map_none, Bool.not_true, Bool.not_false, List.singleton_append, q] <;> try simp only [wip, SOut.wp, vl_int, vl_str, vl_bl, vl_non, nd2, Nat.reduceLeDiff, Nat.reduceEqDiff, not_false_eq_true, and_self, and_true, true_and, putAll, big_eq, ↓evS_for, ↓ev_lc, evS, evT, evA, ev, evL, evO, evI, Out.bind, Out.st, ofS, ofO, D.isBl, vo, put, Vl.isFr, Vl.all, biD, ds, ts, sets, List.flatMap_cons, List.flatMap_nil, List.map_cons, List.map_nil, List.append_nil, List.nil_append, vl_nil, vf_nil, frz_nil, List.getElem?_cons_zero, List.getElem?_cons_succ, List.set_cons_zero, List.set_cons_succ, Bool.false_eq_true, if_false, if_true, reduceIte, List.length_cons, List.length_nil, Nat.reduceAdd, Nat.reduceSub, List.replicate, List.cons_append, List.replicate_succ, List.replicate_zero, Option.map_some, Option.map_none, Bool.not_true, Bool.not_false, List.singleton_append, q]
  have hne : cmpD .NotEq (.lst (rowE i)) (.lst (rowE i)) = some false := ne_same (pd_lst fun x hx => by
    obtain ⟨k, _, rfl⟩ := List.mem_map.mp hx
    exact pd_bl)
  unfold rowE at e hne
  have kd : ∀ t, vf (.lst ((List.range 10).map fun k => D.bl (decide (k = i)))) t = ⟨.lst ((List.range 10).map fun k => D.bl (decide (k = i))), .fr, []⟩ := fun t => vf_imm (by
    simp only [D.kids]
    rw [immL_iff]
    intro x hx
    obtain ⟨k, _, rfl⟩ := List.mem_map.mp hx
    rfl)
  unfold forOne B__law_are_apart_2
  simp only [wip, SOut.wp, vl_int, vl_str, vl_bl, vl_non, nd2, Nat.reduceLeDiff, Nat.reduceEqDiff, not_false_eq_true, and_self, and_true, true_and, putAll, big_eq, ↓evS_for, ↓ev_lc, evS, evT, evA, ev, evL, evO, evI, Out.bind, Out.st, ofS, ofO, D.isBl, vo, put, Vl.isFr, Vl.all, biD, ds, ts, sets, List.flatMap_cons, List.flatMap_nil, List.map_cons, List.map_nil, List.append_nil, List.nil_append, vl_nil, vf_nil, frz_nil, List.getElem?_cons_zero, List.getElem?_cons_succ, List.set_cons_zero, List.set_cons_succ, Bool.false_eq_true, if_false, if_true, reduceIte, List.length_cons, List.length_nil, Nat.reduceAdd, Nat.reduceSub, List.replicate, List.cons_append, List.replicate_succ, List.replicate_zero, Option.map_some, Option.map_none, Bool.not_true, Bool.not_false, List.singleton_append, bindP, e, kd, g, l, hne, ht, t1, t2] <;> try simp only [wip, SOut.wp, vl_int, vl_str, vl_bl, vl_non, nd2, Nat.reduceLeDiff, Nat.reduceEqDiff, not_false_eq_true, and_self, and_true, true_and, putAll, big_eq, ↓evS_for, ↓ev_lc, evS, evT, evA, ev, evL, evO, evI, Out.bind, Out.st, ofS, ofO, D.isBl, vo, put, Vl.isFr, Vl.all, biD, ds, ts, sets, List.flatMap_cons, List.flatMap_nil, List.map_cons, List.map_nil, List.append_nil, List.nil_append, vl_nil, vf_nil, frz_nil, List.getElem?_cons_zero, List.getElem?_cons_succ, List.set_cons_zero, List.set_cons_succ, Bool.false_eq_true, if_false, if_true, reduceIte, List.length_cons, List.length_nil, Nat.reduceAdd, Nat.reduceSub, List.replicate, List.cons_append, List.replicate_succ, List.replicate_zero, Option.map_some, Option.map_none, Bool.not_true, Bool.not_false, List.singleton_append, bindP, e, kd, g, l, hne, ht, t1, t2]
def plain : List D := [.exc "NoState" [], .exc "NoThread" [], .exc "NoBead" [], .exc "NoSwap" [], .exc "NoExchange" [], .exc "NotSealed" [], .exc "NoNumber" []]
def told (x : D) : List D := [.exc "BadDeed" [("at", x)], .exc "BadText" [("row", x)], .exc "TooMany" [("limit", x)]]
theorem apart_ok {x : D} {W : Dr} : G__law_are_apart [.lst (plain ++ told x)] W = .ok (false, .bl true) W := by
  have s0 := apart1 (i := 0) (n := "NoState") (fs := []) (v := .lst (plain ++ told x)) (W := W) (mk_row (by decide +kernel)) (by decide +kernel) (by decide +kernel)
  have s1 := apart1 (i := 1) (n := "NoThread") (fs := []) (v := .lst (plain ++ told x)) (W := W) (mk_row (by decide +kernel)) (by decide +kernel) (by decide +kernel)
  have s2 := apart1 (i := 2) (n := "NoBead") (fs := []) (v := .lst (plain ++ told x)) (W := W) (mk_row (by decide +kernel)) (by decide +kernel) (by decide +kernel)
  have s3 := apart1 (i := 3) (n := "NoSwap") (fs := []) (v := .lst (plain ++ told x)) (W := W) (mk_row (by decide +kernel)) (by decide +kernel) (by decide +kernel)
  have s4 := apart1 (i := 4) (n := "NoExchange") (fs := []) (v := .lst (plain ++ told x)) (W := W) (mk_row (by decide +kernel)) (by decide +kernel) (by decide +kernel)
  have s5 := apart1 (i := 5) (n := "NotSealed") (fs := []) (v := .lst (plain ++ told x)) (W := W) (mk_row (by decide +kernel)) (by decide +kernel) (by decide +kernel)
  have s6 := apart1 (i := 6) (n := "NoNumber") (fs := []) (v := .lst (plain ++ told x)) (W := W) (mk_row (by decide +kernel)) (by decide +kernel) (by decide +kernel)
  have s7 := apart1 (i := 7) (n := "BadDeed") (fs := [("at", x)]) (v := .lst (plain ++ told x)) (W := W) (mk_row (by decide +kernel)) (by decide +kernel) (by decide +kernel)
  have s8 := apart1 (i := 8) (n := "BadText") (fs := [("row", x)]) (v := .lst (plain ++ told x)) (W := W) (mk_row (by decide +kernel)) (by decide +kernel) (by decide +kernel)
  have s9 := apart1 (i := 9) (n := "TooMany") (fs := [("limit", x)]) (v := .lst (plain ++ told x)) (W := W) (mk_row (by decide +kernel)) (by decide +kernel) (by decide +kernel)
  have hg : forGo (forOne 1000000 B__law_are_apart_2 (.tp [1, 2])) (enuD 0 (plain ++ told x)) [.val (.lst (plain ++ told x)), .un, .un, .un] W = .nx [.val (.lst (plain ++ told x)), .un, .un, .un] W := by
    rw [show enuD 0 (plain ++ told x) = [.tup [.int (0 : Nat), .exc "NoState" []], .tup [.int (1 : Nat), .exc "NoThread" []], .tup [.int (2 : Nat), .exc "NoBead" []], .tup [.int (3 : Nat), .exc "NoSwap" []], .tup [.int (4 : Nat), .exc "NoExchange" []], .tup [.int (5 : Nat), .exc "NotSealed" []], .tup [.int (6 : Nat), .exc "NoNumber" []],
      .tup [.int (7 : Nat), .exc "BadDeed" [("at", x)]], .tup [.int (8 : Nat), .exc "BadText" [("row", x)]], .tup [.int (9 : Nat), .exc "TooMany" [("limit", x)]]] from rfl]
    simp only [forGo, s0, s1, s2, s3, s4, s5, s6, s7, s8, s9]
  have hsq : (D.lst (plain ++ told x)).seq = some (plain ++ told x) := rfl
  unfold G__law_are_apart Z.run B__law_are_apart
  simp only [wip, SOut.wp, vl_int, vl_str, vl_bl, vl_non, nd2, Nat.reduceLeDiff, Nat.reduceEqDiff, not_false_eq_true, and_self, and_true, true_and, putAll, big_eq, ↓evS_for, ↓ev_lc, evS, evT, evA, ev, evL, evO, evI, Out.bind, Out.st, ofS, ofO, D.isBl, vo, put, Vl.isFr, Vl.all, biD, ds, ts, sets, List.flatMap_cons, List.flatMap_nil, List.map_cons, List.map_nil, List.append_nil, List.nil_append, vl_nil, vf_nil, frz_nil, List.getElem?_cons_zero, List.getElem?_cons_succ, List.set_cons_zero, List.set_cons_succ, Bool.false_eq_true, if_false, if_true, reduceIte, List.length_cons, List.length_nil, Nat.reduceAdd, Nat.reduceSub, List.replicate, List.cons_append, List.replicate_succ, List.replicate_zero, Option.map_some, Option.map_none, Bool.not_true, Bool.not_false, List.singleton_append, hsq, hg] <;> try simp only [wip, SOut.wp, vl_int, vl_str, vl_bl, vl_non, nd2, Nat.reduceLeDiff, Nat.reduceEqDiff, not_false_eq_true, and_self, and_true, true_and, putAll, big_eq, ↓evS_for, ↓ev_lc, evS, evT, evA, ev, evL, evO, evI, Out.bind, Out.st, ofS, ofO, D.isBl, vo, put, Vl.isFr, Vl.all, biD, ds, ts, sets, List.flatMap_cons, List.flatMap_nil, List.map_cons, List.map_nil, List.append_nil, List.nil_append, vl_nil, vf_nil, frz_nil, List.getElem?_cons_zero, List.getElem?_cons_succ, List.set_cons_zero, List.set_cons_succ, Bool.false_eq_true, if_false, if_true, reduceIte, List.length_cons, List.length_nil, Nat.reduceAdd, Nat.reduceSub, List.replicate, List.cons_append, List.replicate_succ, List.replicate_zero, Option.map_some, Option.map_none, Bool.not_true, Bool.not_false, List.singleton_append, hsq, hg]
theorem rB_of {d : D} {p : PyData} (h : pdOf d = some p) (hs : p.showable = true ∧ p.shown.length ≤ cap ∧ p.depth ≤ 50) (hl : ∃ xs, d = .lst xs) : ∃ z : Str, ∀ W, pureG reprBD [d] W = .ok (false, .str z) W := by
  obtain ⟨xs, rfl⟩ := hl
  have e : reprAnyD [.lst xs] = some (false, .str p.shown) := by
    simp only [reprAnyD, h, Option.bind_some]
    rw [if_pos hs]
  exact ⟨p.shown, fun W => pureG_some (by simp only [reprBD, e])⟩
theorem rB_dic {xs : List D} {ps : List PyData} (h0 : pdOf (.lst xs) = none) (h : pdDs xs = some ps) (hs : (PyData.list ps).showable = true ∧ (PyData.list ps).shown.length ≤ cap ∧ (PyData.list ps).depth ≤ 50) : ∃ z : Str, ∀ W, pureG reprBD [.lst xs] W = .ok (false, .str z) W := by
  have e : reprAnyD [.lst xs] = none := by simp only [reprAnyD, h0, Option.bind_none]
  exact ⟨(PyData.list ps).shown, fun W => pureG_some (by
    simp only [reprBD, e, h, Option.bind_some]
    rw [if_pos hs])⟩
theorem rep3 : ∀ x ∈ oddL, ∃ z : Str, ∀ W, pureG reprBD [.lst [x, x, x]] W = .ok (false, .str z) W := by
  intro x hx
  simp only [oddL, List.mem_cons, List.not_mem_nil, or_false] at hx
  rcases hx with rfl | rfl | rfl | rfl | rfl | rfl | rfl | rfl | rfl | rfl | rfl | rfl | rfl | rfl | rfl | rfl | rfl | rfl | rfl | rfl | rfl | rfl | rfl | rfl <;>
    first
      | exact rB_of rfl ⟨by decide +kernel, by decide +kernel, by decide +kernel⟩ ⟨_, rfl⟩
      | exact rB_dic rfl rfl ⟨by decide +kernel, by decide +kernel, by decide +kernel⟩
theorem fz_imm {xs : List D} (h : D.immL xs = true) (s : Sl) (hs : s = .own (.lst xs) ∨ s = .val (.lst xs)) : True := trivial
theorem body1 {x : D} {s5 s6 : Sl} {a b : Sl} {W : Dr} (hx : x ∈ oddL) :
    forOne 1000000 B_law_1 (.nm 6) (.lst (told x)) [a, .val .drw, b, .val x, .own (.lst plain), s5, s6] W = .nx [a, .val .drw, b, .val x, .own (.lst plain), s5, .un] W := by
  obtain ⟨z, hz⟩ := rep3 x hx
  have e := apart_ok (x := x) (W := W)
  have hadd : binD .Add (.lst plain) (.lst (told x)) = some (true, .lst (plain ++ told x)) := rfl
  have hmul : binD .Mult (.lst [x]) (.int 3) = some (true, .lst [x, x, x]) := by
    simp only [binD, big_eq]
    rw [if_pos ⟨by decide, by decide, by simp⟩]
    rfl
  have i0 : ixD (.lst (told x)) (.int 0) = some (.exc "BadDeed" [("at", x)]) := rfl
  have i1 : ixD (.lst (told x)) (.int 1) = some (.exc "BadText" [("row", x)]) := rfl
  have i2 : ixD (.lst (told x)) (.int 2) = some (.exc "TooMany" [("limit", x)]) := rfl
  have a0 : pureG (exAtD "at") [.exc "BadDeed" [("at", x)]] W = .ok (false, x) W := pureG_some (by simp [exAtD])
  have a1 : pureG (exAtD "row") [.exc "BadText" [("row", x)]] W = .ok (false, x) W := pureG_some (by simp [exAtD])
  have a2 : pureG (exAtD "limit") [.exc "TooMany" [("limit", x)]] W = .ok (false, x) W := pureG_some (by simp [exAtD])
  have z0 := hz W
  have hne : cmpD .NotEq (.str z) (.str z) = some false := by rw [ne_str]; simp
  have c3 : 3 ≤ cap := by decide
  have c1 : 1 ≤ cap := by decide
  have v1 : ∀ t, vf (.lst (plain ++ told x)) t = vf (.lst (plain ++ told x)) t := fun _ => rfl
  unfold forOne B_law_1
  simp only [wip, SOut.wp, vl_int, vl_str, vl_bl, vl_non, nd2, Nat.reduceLeDiff, Nat.reduceEqDiff, not_false_eq_true, and_self, and_true, true_and, putAll, big_eq, ↓evS_for, ↓ev_lc, evS, evT, evA, ev, evL, evO, evI, Out.bind, Out.st, ofS, ofO, D.isBl, vo, put, Vl.isFr, Vl.all, biD, ds, ts, sets, List.flatMap_cons, List.flatMap_nil, List.map_cons, List.map_nil, List.append_nil, List.nil_append, vl_nil, vf_nil, frz_nil, List.getElem?_cons_zero, List.getElem?_cons_succ, List.set_cons_zero, List.set_cons_succ, Bool.false_eq_true, if_false, if_true, reduceIte, List.length_cons, List.length_nil, Nat.reduceAdd, Nat.reduceSub, List.replicate, List.cons_append, List.replicate_succ, List.replicate_zero, Option.map_some, Option.map_none, Bool.not_true, Bool.not_false, List.singleton_append, bindP, hadd, e, i0, i1, i2, a0, a1, a2, c3, c1, hmul, z0, hne] <;> try simp only [wip, SOut.wp, vl_int, vl_str, vl_bl, vl_non, nd2, Nat.reduceLeDiff, Nat.reduceEqDiff, not_false_eq_true, and_self, and_true, true_and, putAll, big_eq, ↓evS_for, ↓ev_lc, evS, evT, evA, ev, evL, evO, evI, Out.bind, Out.st, ofS, ofO, D.isBl, vo, put, Vl.isFr, Vl.all, biD, ds, ts, sets, List.flatMap_cons, List.flatMap_nil, List.map_cons, List.map_nil, List.append_nil, List.nil_append, vl_nil, vf_nil, frz_nil, List.getElem?_cons_zero, List.getElem?_cons_succ, List.set_cons_zero, List.set_cons_succ, Bool.false_eq_true, if_false, if_true, reduceIte, List.length_cons, List.length_nil, Nat.reduceAdd, Nat.reduceSub, List.replicate, List.cons_append, List.replicate_succ, List.replicate_zero, Option.map_some, Option.map_none, Bool.not_true, Bool.not_false, List.singleton_append, bindP, hadd, e, i0, i1, i2, a0, a1, a2, c3, c1, hmul, z0, hne]
theorem e0 {z : Str} {W : Dr} : pureG (mkE0D z) [] W = .ok (false, .exc z []) W := rfl
theorem e1 {z f : Str} {d : D} {W : Dr} : pureG (mkE1D z f) [d] W = .ok (false, .exc z [(f, d)]) W := rfl
theorem turn {ns : List Int} {x : D} {T : Nat} {W : Dr} (hw : Wd T W) (hT : T ≤ 100000) :
    ∃ W', Wd (T + 1) W' ∧ forOne 1000000 B_law_2 (.nm 2) x [.val (.scr ns), .val .drw, .un, .un, .un, .un, .un] W = .nx [.val (.scr ns), .val .drw, .un, .un, .un, .un, .un] W' := by
  obtain ⟨y, W', hy, hw', e⟩ := odd_ok hw (by omega)
  refine ⟨W', hw', ?_⟩
  have b0 := body1 (x := y) (a := .val (.scr ns)) (b := .val x) (s5 := .val (.lst (told y))) (s6 := .un) (W := W') hy
  have b1 := body1 (x := y) (a := .val (.scr ns)) (b := .val x) (s5 := .val (.lst (told y))) (s6 := .un) (W := W') hy
  have c7 : 7 ≤ cap := by decide
  have c3 : 3 ≤ cap := by decide
  have c2 : 2 ≤ cap := by decide
  have c1 : 1 ≤ cap := by decide
  have m := marks_ok (n := "ThreadError") (fs := []) (W := W')
  have hm : markL "ThreadError" = List.replicate 10 (.bl false) := by
    have : tysL.map (isDx "ThreadError") = List.replicate 10 false := by decide +kernel
    have := congrArg (List.map D.bl) this
    simpa only [List.map_map, markL, Function.comp_def, List.map_replicate] using this
  have hmul : binD .Mult (.lst [.bl false]) (.int 10) = some (true, .lst (List.replicate 10 (.bl false))) := by
    simp only [binD, big_eq]
    rw [if_pos ⟨by decide, by decide, by simp⟩]
    rfl
  rw [hm] at m
  have hne : cmpD .NotEq (.lst (List.replicate 10 (.bl false))) (.lst (List.replicate 10 (.bl false))) = some false := ne_same (pd_lst fun x hx => by
    rw [List.mem_replicate] at hx
    rw [hx.2]
    exact pd_bl)
  have t : [Ty_NoState].any (isD1 (.exc "ThreadError" [])) = false := (isD1_exc ⟨_, _, rfl⟩).trans (by decide +kernel)
  have ht : (D.exc "ThreadError" []).typed = true := rfl
  have vv : ∀ (a b : List D) t, vf (.lst [.lst a, .lst b]) t = ⟨.lst [.lst a, .lst b], .fr, t⟩ := fun _ _ _ => rfl
  have hit : ∀ xs : List D, (D.lst xs).items = some xs := fun _ => rfl
  have hf : ∀ (a b c d e o : D), frz [.val a, .val b, .val c, .val d, .own e, .own o, .un] [5, 5] = [.val a, .val b, .val c, .val d, .own e, .val o, .un] := fun a b c d e o => by simp [frz]
  generalize List.replicate 10 (D.bl false) = R at m hmul hne
  unfold told plain at b0 b1
  unfold forOne B_law_2
  simp only [wip, SOut.wp, vl_int, vl_str, vl_bl, vl_non, nd2, Nat.reduceLeDiff, Nat.reduceEqDiff, not_false_eq_true, and_self, and_true, true_and, putAll, big_eq, ↓evS_for, ↓ev_lc, evS, evT, evA, ev, evL, evO, evI, Out.bind, Out.st, ofS, ofO, D.isBl, vo, put, Vl.isFr, Vl.all, biD, ds, ts, sets, List.flatMap_cons, List.flatMap_nil, List.map_cons, List.map_nil, List.append_nil, List.nil_append, vl_nil, vf_nil, frz_nil, List.getElem?_cons_zero, List.getElem?_cons_succ, List.set_cons_zero, List.set_cons_succ, Bool.false_eq_true, if_false, if_true, reduceIte, List.length_cons, List.length_nil, Nat.reduceAdd, Nat.reduceSub, List.replicate, List.cons_append, List.replicate_succ, List.replicate_zero, Option.map_some, Option.map_none, Bool.not_true, Bool.not_false, List.singleton_append, bindP, e, e0, e1, c7, c3, c2, c1, b0, b1, m, hmul, hne, t, ht, vv, hit, hf, told, plain, forGo] <;> try simp only [wip, SOut.wp, vl_int, vl_str, vl_bl, vl_non, nd2, Nat.reduceLeDiff, Nat.reduceEqDiff, not_false_eq_true, and_self, and_true, true_and, putAll, big_eq, ↓evS_for, ↓ev_lc, evS, evT, evA, ev, evL, evO, evI, Out.bind, Out.st, ofS, ofO, D.isBl, vo, put, Vl.isFr, Vl.all, biD, ds, ts, sets, List.flatMap_cons, List.flatMap_nil, List.map_cons, List.map_nil, List.append_nil, List.nil_append, vl_nil, vf_nil, frz_nil, List.getElem?_cons_zero, List.getElem?_cons_succ, List.set_cons_zero, List.set_cons_succ, Bool.false_eq_true, if_false, if_true, reduceIte, List.length_cons, List.length_nil, Nat.reduceAdd, Nat.reduceSub, List.replicate, List.cons_append, List.replicate_succ, List.replicate_zero, Option.map_some, Option.map_none, Bool.not_true, Bool.not_false, List.singleton_append, bindP, e, e0, e1, c7, c3, c2, c1, b0, b1, m, hmul, hne, t, ht, vv, hit, hf, told, plain, forGo]
theorem run_ok : RunOk := by
  intro ns hns
  obtain ⟨m, hm, hm1⟩ : ∃ m : Nat, minD2 [.int ns.length, .int 6] = some (false, .int m) ∧ m ≤ 6 := by
    by_cases q : (6 : Int) < ns.length
    · exact ⟨6, by simp only [minD2, if_pos q]; rfl, by omega⟩
    · exact ⟨ns.length, by simp only [minD2, if_neg q], by omega⟩
  have hadd : binD .Add (.int 2) (.int m) = some (false, .int ((2 + m : Nat) : Int)) := by simp only [binD]; rw [Int.natCast_add]; rfl
  have g1 := rngN (n := 2 + m) (by omega)
  have hln : lenD [.scr ns] = some (false, .int ns.length) := rfl
  obtain ⟨ρ', W', e, rfl, hw⟩ := for_inv0 (f := forOne 1000000 B_law_2 (.nm 2)) (xs := (List.range (2 + m)).map fun k : Nat => .int (k : Int)) (ρ := [.val (.scr ns), .val .drw, .un, .un, .un, .un, .un]) (W := dr0 ns)
    (fun k ρ V => ρ = [.val (.scr ns), .val .drw, .un, .un, .un, .un, .un] ∧ Wd k V) ⟨rfl, wd0 ns⟩ (fun k x ρ V hx ⟨q0, q1⟩ => by
      subst q0
      obtain ⟨rfl, hk⟩ := rng_at hx
      obtain ⟨V', p1, p2⟩ := turn (ns := ns) (x := .int k) q1 (by omega)
      exact ⟨_, V', .inl p2, rfl, p1⟩)
  refine ⟨[.un, .un, .un, .un, .un, .un, .un], W', ?_⟩
  unfold B_law law0
  simp only [wip, SOut.wp, vl_int, vl_str, vl_bl, vl_non, nd2, Nat.reduceLeDiff, Nat.reduceEqDiff, not_false_eq_true, and_self, and_true, true_and, putAll, big_eq, ↓evS_for, ↓ev_lc, evS, evT, evA, ev, evL, evO, evI, Out.bind, Out.st, ofS, ofO, D.isBl, vo, put, Vl.isFr, Vl.all, biD, ds, ts, sets, List.flatMap_cons, List.flatMap_nil, List.map_cons, List.map_nil, List.append_nil, List.nil_append, vl_nil, vf_nil, frz_nil, List.getElem?_cons_zero, List.getElem?_cons_succ, List.set_cons_zero, List.set_cons_succ, Bool.false_eq_true, if_false, if_true, reduceIte, List.length_cons, List.length_nil, Nat.reduceAdd, Nat.reduceSub, List.replicate, List.cons_append, List.replicate_succ, List.replicate_zero, Option.map_some, Option.map_none, Bool.not_true, Bool.not_false, List.singleton_append, List.set_cons_succ, hln, hm, hadd, g1, e] <;> try simp only [wip, SOut.wp, vl_int, vl_str, vl_bl, vl_non, nd2, Nat.reduceLeDiff, Nat.reduceEqDiff, not_false_eq_true, and_self, and_true, true_and, putAll, big_eq, ↓evS_for, ↓ev_lc, evS, evT, evA, ev, evL, evO, evI, Out.bind, Out.st, ofS, ofO, D.isBl, vo, put, Vl.isFr, Vl.all, biD, ds, ts, sets, List.flatMap_cons, List.flatMap_nil, List.map_cons, List.map_nil, List.append_nil, List.nil_append, vl_nil, vf_nil, frz_nil, List.getElem?_cons_zero, List.getElem?_cons_succ, List.set_cons_zero, List.set_cons_succ, Bool.false_eq_true, if_false, if_true, reduceIte, List.length_cons, List.length_nil, Nat.reduceAdd, Nat.reduceSub, List.replicate, List.cons_append, List.replicate_succ, List.replicate_zero, Option.map_some, Option.map_none, Bool.not_true, Bool.not_false, List.singleton_append, List.set_cons_succ, hln, hm, hadd, g1, e]
end Qk01

namespace Qk01
open PySem PySem.Spec PyProof.Rows L2 Z
def loose0 : List Str := ["ThreadError", "NoState", "NoThread", "NoBead", "NoSwap", "NoExchange", "NotSealed", "NoNumber", "BadDeed", "BadText", "TooMany", "_law_begun", "_law_mixed", "_law_take", "_law_pick", "_law_odd", "_law_marks", "_law_are_apart"]
def loose : List Str := loose0
abbrev R : PySem.W.OpenRow := PySem.W.OpenLaw.row PySem.Challenge.rw_tradedtails_k01_errors_by_hand
abbrev hk : PySem.W.Hook := Z.hookY 5 fa fn tf ex
def ob (s : PySem.W.SharedT) : He.AlX := Z.obsY 5 fa fn tf ex (HandSHeadRun.getT s)
theorem ob_eq (s : PySem.W.SharedT) : ob s = hk.obs s.abs := Z.obsY_eq (HandSHeadRun.getT_eq s)
set_option maxHeartbeats 0 in
theorem run (w : World) : HandSHeadRun.RunEq R (PySem.W.view R.prog [20]) hk ob 3000 loose w := by
  intro os
  kernel_rfl
end Qk01
open PySem PySem.W PySem.Calls PyProof.Rows
set_option maxRecDepth 100000 in
set_option maxHeartbeats 0 in
theorem PySem.Challenge.cw_tradedtails_k01_errors_by_hand_holds : PySem.Challenge.rw_tradedtails_k01_errors_by_hand.Holds := by
  w_on; o_law
  refine HandSHeadRun.head_any (r := OpenLaw.row PySem.Challenge.rw_tradedtails_k01_errors_by_hand) (q := view (OpenLaw.row PySem.Challenge.rw_tradedtails_k01_errors_by_hand).prog [20]) (H := Qk01.hk) (ob := Qk01.ob) (M := 3000) (loose := Qk01.loose) (d := HandSHeadRun.topDef (OpenLaw.row PySem.Challenge.rw_tradedtails_k01_errors_by_hand).prog 20) (kwd := []) Qk01.ob_eq
    (by kernel_rfl) (fun s => by kernel_rfl) Qk01.run (by kernel_rfl) (by kernel_rfl) (by kernel_rfl) (by rfl) (by first | assumption | decide +kernel) (by decide +kernel) ⟨rfl, rfl, rfl, rfl, rfl, by decide +kernel⟩ ?hw ?hc
  case hw => w_witness2
  case hc =>
    refine Z.law_endG (n := 5) (l := PySem.Challenge.rw_tradedtails_k01_errors_by_hand) (k := 4) (x := "_law_script") Qk01.cas Qk01.cxs rfl (by kernel_rfl) ⟨rfl, by decide, by decide⟩ fun w mg fl h K KX c G hmg0 => ?_
    have hmg : mg ("law" : PySem.Str) = some (.ref fl) := by
      have e : (HandSHeadRun.topDef (OpenLaw.row PySem.Challenge.rw_tradedtails_k01_errors_by_hand).prog 20).name = ("law" : PySem.Str) := by kernel_rfl
      rw [← e]
      exact hmg0
    exact Qk01.law_at KX G hmg c.t.d c.more Qk01.run_ok rfl

