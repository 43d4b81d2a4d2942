import PyProof.Rows.All
import Wide.All
import OpenK.AllK
import Wide.FinOn
import PySem.Syntax
import PyProof.ReprReads
import KE.LtData
import HandS.ForMost
import HandS.Text
import HandS.ForExc
import HandS.TryOnly
import HandS.Defaults
import KE.DataEq
import HandS.HeadHook1
import HandS.Lambda
import HandS.ExcCtx
import HandS.TupAny
import HandS.TupLe
import HandS.IsInst
import HandS.TupMul
import HandS.Walk
import HandS.ExcOwn
import HandS.ExcIs
import HandS.Small
import HandS.SetFor
import HandS.EndTab
import HandS.HeadWalk
import HandS.HeadHook4
import HandS.Head2
import HandS.Star
import HandS.More
import KE.GoesMore
import HandS.Style
import HandS.Dict
import HandS.Zip
import HandS.DictComp
import KE.SortData
import HandS.Conv
import HandS.Strs
import KE.KExcSuper
import HandS.ExcInit
import HandS.ExcField
import PyProof.StrOps2
import HandS.ExcValue
import KE.DataMinMax
import HandS.Sort
import PyProof.Rows.IntBool
import PyProof.CallStr
import PyProof.NeKinds
import OpenK.KOps
import KE.KDictCopyH
import PyProof.TupleOfSeq
import KE.KDictZip
import HandS.DictTup
import HandS.WideMore
import HandS.RaiseFrom
import HandS.SuiteRaise
import HandS.ExcInitHot
import KE.KDictItemsList
import HandS.Set
import HandS.NoneIn
import PyProof.StrLawsTight
import Lean
import PySem.Challenge.RW_tradedtails_k69_tangles_made_or_refused
set_option Elab.async false
set_option linter.all false
set_option maxRecDepth 100000
set_option maxHeartbeats 4000000
namespace Z
open PySem
noncomputable section
theorem ex_big (n : Int) : ∃ x : Int, x = n := ⟨n, rfl⟩
def big (n : Int) : Int := Classical.choose (ex_big n)
theorem big_eq (n : Int) : big n = n := Classical.choose_spec (ex_big n)

inductive D where
  | non
  | bl (b : Bool)
  | int (i : Int)
  | str (x : Str)
  | tup (xs : List D)
  | lst (xs : List D)
  | dic (t : Bool) (kvs : List (D × D))
  | ins (c : Str) (fs : List (Str × D))
  | exc (c : Str) (fs : List (Str × D))
  | drw
  | fn (f : Str)
  | scr (ns : List Int)
  | edt (a : Addr)
  | any
  deriving Inhabited

mutual
/-- nothing in it can be changed -/
def D.imm : D → Bool
  | .non => true
  | .bl _ => true
  | .int _ => true
  | .str _ => true
  | .tup xs => D.immL xs
  | .lst _ => false
  | .dic _ _ => false
  | .ins _ fs => D.immF fs
  | .exc _ _ => false
  | .drw => true
  | .fn _ => true
  | .scr _ => false
  | .edt _ => true
  | .any => true
def D.immL : List D → Bool
  | [] => true
  | x :: xs => D.imm x && D.immL xs
def D.immF : List (Str × D) → Bool
  | [] => true
  | (_, x) :: xs => D.imm x && D.immF xs
end
def immV : List (D × D) → Bool
  | [] => true
  | (k, v) :: r => k.imm && v.imm && immV r
def D.kids : D → Bool
  | .lst xs => D.immL xs
  | .dic _ kvs => immV kvs
  | d => d.imm

mutual
/-- as the library's data -/
def D.py : D → Option PyData
  | .non => some .none
  | .bl b => some (.bool b)
  | .int i => some (.int i)
  | .str x => some (.str x)
  | .tup xs => (D.pyL xs).map .tuple
  | .lst xs => (D.pyL xs).map .list
  | _ => none
def D.pyL : List D → Option (List PyData)
  | [] => some []
  | x :: xs => match D.py x, D.pyL xs with
    | some y, some ys => some (y :: ys)
    | _, _ => none
end

structure Dr where
  on : Bool
  wide : List Int
  cells : List Int
  rest : Int
  turn : Int
  /-- the editors that are led: where they stand, what they hold -/
  ed : List (Addr × D × D) := []

inductive Out (α : Type) where
  | ok (a : α) (W : Dr)
  | ex (x : D) (W : Dr)
  | stk

def Out.bind {α β : Type} (o : Out α) (f : α → Dr → Out β) : Out β :=
  match o with
  | .ok a W => f a W
  | .ex x W => .ex x W
  | .stk => .stk

abbrev G := List D → Dr → Out (Bool × D)
abbrev G2 := List D → Dr → Out (Option (D × D))
abbrev GE := List D → Dr → Out (D × D)
abbrev GT := List D → Dr → Out (List D × List D)
section
open Classical
noncomputable def edGet (W : Dr) (a : Addr) : Option (D × D) := (W.ed.find? fun p => decide (p.1 = a)).map (·.2)
noncomputable def edPut (W : Dr) (k : Bool) (a : Addr) (d : D) : Dr := { W with ed := W.ed.map fun p => if p.1 = a then (p.1, if k then (p.2.1, d) else (d, p.2.2)) else p }
end

inductive Sc where
  | pl
  | fr
  | me (i : Nat)
  deriving DecidableEq
structure Vl where
  d : D
  k : Sc := .pl
  t : List Nat := []

def vl (d : D) (t : List Nat) : Vl := ⟨d, .pl, if d.imm then [] else t⟩
def vf (d : D) (t : List Nat) : Vl := ⟨d, .fr, if d.kids then [] else t⟩
def vo (r : Bool × D) (t : List Nat) : Vl := if r.1 then vf r.2 t else vl r.2 t
def Vl.all (v : Vl) : List Nat := match v.k with
  | .me i => i :: v.t
  | _ => v.t
def Vl.isFr (v : Vl) : Bool := match v.k with
  | .fr => true
  | _ => false

inductive Sl where
  | un
  | val (d : D)
  | own (d : D)
  | slf (p : Nat) (n : Str) (fs : List (Str × D))
  deriving Inhabited
def Sl.flat : Sl → Bool
  | .un => true
  | .val _ => true
  | _ => false
def Sl.noSlf : Sl → Bool
  | .slf _ _ _ => false
  | _ => true
abbrev En := List Sl

def frz (ρ : En) (t : List Nat) : En := ρ.mapIdx fun i s => match s with
  | .own d => if t.contains i then .val d else .own d
  | s => s
def put (ρ : En) (i : Nat) (v : Vl) : En := (frz ρ v.all).set i (if v.isFr then .own v.d else .val v.d)
def wip (ρ : En) : List Nat → En
  | [] => ρ
  | v :: vs => (wip ρ vs).set v .un

inductive Bi where
  | len | list | tuple | min | max | sum | all | any | sorted | abs | int | repr | str | dict | set
inductive Ty where
  | int | bool | str | list | tuple | dict
  | cls (c : Str) (below : List Str)
inductive Bm where
  | get | index | count | join | split | values | keys

inductive Pat where
  | nm (i : Nat)
  | tp (is : List Nat)

inductive E where
  | var (i : Nat)
  | cst (d : D)
  | gl (d : D)
  | bin (op : Operator) (a b : E)
  | neg (a : E)
  | not (a : E)
  | cmp (op : CmpOp) (a b : E)
  | chn (o1 o2 : CmpOp) (a b c : E)
  | and (a b : E)
  | or (a b : E)
  | ite (c a b : E)
  | tup (xs : E)
  | lst (xs : E)
  | nil
  | cons (h t : E)
  | star (h t : E)
  | ix (a b : E)
  | sl (a lo hi : E)
  | no
  | rev (a : E)
  | bi (f : Bi) (args : E)
  | isi (a : E) (tys : List Ty)
  | call (g : G) (args : E)
  | callk (g : G) (m : Nat) (is : List Nat) (args : E)
  | calv (i : Nat) (tb : List (Str × G)) (args : E)
  | attr (a : E) (f : Str)
  | bm (m : Bm) (a args : E)
  | mth (m cl : Str) (g : G) (a args : E)
  | op (ck : D → Bool) (g : G) (a args : E)
  | lc (elt : E) (pt : Pat) (src ts : E) (own : List Nat)
  | dc (kx vx : E) (pt : Pat) (src ts : E) (own : List Nat)
  | dcT (kx vx : E) (pt : Pat) (src ts : E) (own : List Nat)
  | lcD (elt : E) (pt : Pat) (i : Nat) (ts : E) (own : List Nat)
  | tv (a : E)
  | pt (a : E)
  | wk (a : E)
  | rng (args : E)
  | enu (a : E)
  | zip (a b : E)
  | items (a : E)
  | drg (k : Bool) (a : E)
  | drc (a : E)
  | drn (a : E)
  | drp (a : E)
  | caught (a : E)
  | hand (h : Out Vl → Out Vl) (a : E)
  | edg (k : Bool) (a : E)
  | mthE (g : G) (a args : E)
  | mkE (g : GE) (args : E)
  | cps (g1 : GE) (g2 : G) (a : E)
  | pkD (i : Nat) (g : G) (es : E)
  | no_

def ixOf (n : Nat) (i : Int) : Option Nat := L2.ixN n i
def atD {α : Type} (xs : List α) (i : Int) : Option α := L2.atI xs i
def cutD {α : Type} (xs : List α) (lo hi : Option Int) : List α := (xs.drop (HT.sIx xs.length 0 lo)).take (HT.sIx xs.length xs.length hi - HT.sIx xs.length 0 lo)

def binD (op : Operator) (x y : D) : Option (Bool × D) :=
  match op, x, y with
  | .Add, .int i, .int j => some (false, .int (i + j))
  | .Sub, .int i, .int j => some (false, .int (i - j))
  | .Mult, .int i, .int j => if (-(big (2 ^ 64)) < i ∧ i < big (2 ^ 64)) ∨ (-(big (2 ^ 64)) < j ∧ j < big (2 ^ 64)) then some (false, .int (i * j)) else none
  | .FloorDiv, .int i, .int j => if 0 < j ∧ j < big 1073741824 then some (false, .int (i / j)) else none
  | .Mod, .int i, .int j => if 0 < j then some (false, .int (i % j)) else none
  | .Pow, .int i, .int j => if 0 ≤ j ∧ j ≤ big 1000000 ∧ i.natAbs < 2 ^ 64 then some (false, .int (i ^ j.toNat)) else none
  | .Add, .str a, .str b => if a.length + b.length ≤ 16777216 then some (false, .str (a ++ b)) else none
  | .Add, .tup a, .tup b => if a.length + b.length ≤ 16777216 then some (false, .tup (a ++ b)) else none
  | .Add, .lst a, .lst b => if a.length + b.length ≤ 16777216 then some (true, .lst (a ++ b)) else none
  | .Mult, .lst a, .int k => if -(big (2 ^ 63)) ≤ k ∧ k < big (2 ^ 63) ∧ a.length * k.toNat ≤ 16777216 then some (true, .lst (List.replicate k.toNat a).flatten) else none
  | .Mult, .tup a, .int k => if a ≠ [] ∧ 2 ≤ k ∧ k ≤ 1000 ∧ a.length ≤ 1000 then some (false, .tup (List.replicate k.toNat a).flatten) else none
  | _, _, _ => none

mutual
def D.pyN : Nat → D → Option PyData
  | _, .non => some .none
  | _, .bl b => some (.bool b)
  | _, .int i => some (.int i)
  | _, .str x => some (.str x)
  | n + 1, .tup xs => (D.pyNL n xs).map .tuple
  | n + 1, .lst xs => (D.pyNL n xs).map .list
  | _, _ => none
def D.pyNL : Nat → List D → Option (List PyData)
  | _, [] => some []
  | n, x :: xs => match D.pyN n x, D.pyNL n xs with
    | some y, some ys => some (y :: ys)
    | _, _ => none
end
abbrev D.pd (d : D) : Option PyData := D.pyN 12 d

def D.eq (x y : D) : Option Bool := match x.pd, y.pd with
  | some a, some b => some (PyData.eqv a b)
  | _, _ => none
def D.lt (x y : D) : Option Bool := match x.pd, y.pd with
  | some a, some b => if PySem.W.alike a b = true then (match a with | .none => none | _ => some (PySem.W.dataLt a b)) else none
  | _, _ => none

def D.key1 : D → Bool
  | .int _ => true
  | .str _ => true
  | _ => false
def D.keyOk (t : Bool) (d : D) : Bool := if t then (match d with
  | .tup xs => xs.all D.key1
  | _ => false) else d.key1
section
open Classical
def dPut (kvs : List (D × D)) (k v : D) : List (D × D) := if (kvs.any fun p => decide (p.1 = k)) = true then kvs.map (fun p => if p.1 = k then (p.1, v) else p) else kvs ++ [(k, v)]
end

def cap : Nat := 16777216

def cmpD (op : CmpOp) (x y : D) : Option Bool :=
  match op with
  | .Eq => x.eq y
  | .NotEq => (x.eq y).map (!·)
  | .Lt => (match x, y with | .int i, .int j => some (decide (i < j)) | _, _ => x.lt y)
  | .LtE => (match x, y with | .int i, .int j => some (decide (i ≤ j)) | _, _ => none)
  | .Gt => (match x, y with | .int i, .int j => some (decide (j < i)) | _, _ => none)
  | .GtE => (match x, y with | .int i, .int j => some (decide (j ≤ i)) | _, _ => none)
  | .Is => (match x, y with
    | x, .non => some (match x with | .non => true | _ => false)
    | .bl a, .bl b => some (a == b)
    | _, _ => none)
  | .IsNot => (match x, y with
    | x, .non => some (match x with | .non => false | _ => true)
    | .bl a, .bl b => some (a != b)
    | _, _ => none)
  | .In => inD x y
  | .NotIn => (inD x y).map (!·)
where
  inD (x y : D) : Option Bool := match x, y with
    | .str a, .str b => some (!(Builtin.Str.occurrences b a 0 b.length 1).isEmpty)
    | x, .lst ys => anyEq x ys
    | x, .tup ys => anyEq x ys
    | _, _ => none
  anyEq (x : D) (ys : List D) : Option Bool := match x.pd, D.pyNL 12 ys with
    | some a, some bs => some (bs.any fun b => PyData.eqv b a)
    | _, _ => none

def D.items : D → Option (List D)
  | .lst xs => some xs
  | .scr ns => some (ns.map .int)
  | .tup xs => some xs
  | .str x => some (x.cps.toList.map fun c => .str ⟨#[c]⟩)
  | _ => none
def zipK : D → D → Option (List D × List D)
  | .lst xs, .lst ys => some (xs, ys)
  | .tup xs, .tup ys => some (xs, ys)
  | _, _ => none
def D.seq : D → Option (List D)
  | .lst xs => some xs
  | .tup xs => some xs
  | _ => none
def D.ints : List D → Option (List Int)
  | [] => some []
  | .int i :: r => (D.ints r).map (i :: ·)
  | _ => none
def D.bls : List D → Option (List Bool)
  | [] => some []
  | .bl b :: r => (D.bls r).map (b :: ·)
  | _ => none
def lenD : List D → Option (Bool × D)
  | [.lst xs] => some (false, .int xs.length)
  | [.tup xs] => some (false, .int xs.length)
  | [.scr ns] => some (false, .int ns.length)
  | [.str x] => if x.length ≤ cap then some (false, .int x.length) else none
  | _ => none
def listD : List D → Option (Bool × D)
  | [.lst xs] => some (true, .lst xs)
  | [.tup xs] => some (true, .lst xs)
  | _ => none
def tupleD : List D → Option (Bool × D)
  | [.lst xs] => some (false, .tup xs)
  | [.tup xs] => some (false, .tup xs)
  | _ => none
def minD2 : List D → Option (Bool × D)
  | [.int i, .int j] => some (false, .int (if j < i then j else i))
  | _ => none
def maxD2 : List D → Option (Bool × D)
  | [.int i, .int j] => some (false, .int (if j > i then j else i))
  | _ => none
def sumD : List D → Option (Bool × D)
  | [.lst xs] => (D.ints xs).map fun ns => (false, .int ns.sum)
  | _ => none
def allD : List D → Option (Bool × D)
  | [.lst xs] => (D.bls xs).map fun bs => (false, .bl (bs.all id))
  | _ => none
def anyD : List D → Option (Bool × D)
  | [.lst xs] => (D.bls xs).map fun bs => (false, .bl (bs.any id))
  | _ => none
def absD : List D → Option (Bool × D)
  | [.int i] => some (false, .int (if i < 0 then -i else i))
  | _ => none
def intD : List D → Option (Bool × D)
  | [.int i] => some (false, .int i)
  | [.bl b] => some (false, .int (if b then 1 else 0))
  | _ => none
def biD (f : Bi) (xs : List D) : Option (Bool × D) :=
  match f with
  | .len => lenD xs
  | .list => listD xs
  | .tuple => tupleD xs
  | .min => minD2 xs
  | .max => maxD2 xs
  | .sum => sumD xs
  | .all => allD xs
  | .any => anyD xs
  | .abs => absD xs
  | .int => intD xs
  | _ => none

def ixD (x y : D) : Option D :=
  match x, y with
  | .lst xs, .int i => atD xs i
  | .tup xs, .int i => atD xs i
  | .str x, .int i => if x.length ≤ cap then (atD x.cps.toList i).map fun c => .str ⟨#[c]⟩ else none
  | _, _ => none
def slD (x : D) (lo hi : Option Int) : Option (Bool × D) :=
  match x with
  | .lst xs => some (true, .lst (cutD xs lo hi))
  | .tup xs => some (false, .tup (cutD xs lo hi))
  | .str x => if x.length ≤ cap then some (false, .str (L2.cutS x lo hi)) else none
  | _ => none
def revD (x : D) : Option (Bool × D) :=
  match x with
  | .lst xs => some (true, .lst xs.reverse)
  | .tup xs => some (false, .tup xs.reverse)
  | _ => none
def D.typed : D → Bool
  | .drw => false
  | .fn _ => false
  | .scr _ => false
  | .edt _ => false
  | .any => false
  | .dic true _ => false
  | _ => true
def isD1 (x : D) : Ty → Bool
  | .int => match x with | .int _ => true | .bl _ => true | _ => false
  | .bool => match x with | .bl _ => true | _ => false
  | .str => match x with | .str _ => true | _ => false
  | .list => match x with | .lst _ => true | _ => false
  | .tuple => match x with | .tup _ => true | _ => false
  | .dict => match x with | .dic _ _ => true | .drw => true | _ => false
  | .cls c below => match x with
    | .ins c' _ => c' == c || below.contains c'
    | .exc c' _ => c' == c || below.contains c'
    | _ => false
def attrD (x : D) (f : Str) : Option D :=
  match x with
  | .ins _ fs => fs.lookup f
  | _ => none
def bmD (m : Bm) (x : D) (xs : List D) : Option (Bool × D) :=
  match m, x, xs with
  | .count, .lst xs, [.bl b] => (D.bls xs).map fun bs => (false, .int (bs.count b : Nat))
  | .index, .lst xs, [.bl b] => (D.bls xs).bind fun bs => if b ∈ bs then some (false, .int (bs.idxOf b : Nat)) else none
  | _, _, _ => none

def rngD : List D → Option (List D)
  | [.int n] => if -(big (2 ^ 62)) ≤ n ∧ n < big (2 ^ 62) then some ((List.range n.toNat).map fun k : Nat => .int (k : Int)) else none
  | [.int a, .int b] => if -(big (2 ^ 62)) ≤ a ∧ a < big (2 ^ 62) ∧ -(big (2 ^ 62)) ≤ b ∧ b < big (2 ^ 62) then some ((List.range (b - a).toNat).map fun k : Nat => .int (a + k)) else none
  | _ => none
def zipD : List D → List D → List D
  | x :: xs, y :: ys => .tup [x, y] :: zipD xs ys
  | _, _ => []
def enuD (k : Nat) : List D → List D
  | [] => []
  | x :: xs => .tup [.int k, x] :: enuD (k + 1) xs

def sets (ρ : En) : List Nat → List D → En
  | i :: is, x :: xs => sets (ρ.set i (.val x)) is xs
  | _, _ => ρ
def bindP (pt : Pat) (x : D) (ρ : En) : Option En :=
  match pt with
  | .nm i => some (ρ.set i (.val x))
  | .tp is => match x with
    | .tup xs => if xs.length = is.length then some (sets ρ is xs) else none
    | _ => none

def D.isBl : D → Option Bool
  | .bl b => some b
  | _ => none
def ds (vs : List Vl) : List D := vs.map (·.d)
def ts (vs : List Vl) : List Nat := vs.flatMap (·.all)
def ofO {α β : Type} (o : Option α) (f : α → Out β) : Out β := match o with
  | some a => f a
  | none => .stk

theorem Out.bind_bind {α β γ : Type} (o : Out α) (f : α → Dr → Out β) (g : β → Dr → Out γ) : (o.bind f).bind g = o.bind fun a W => (f a W).bind g := by cases o <;> rfl
theorem ofO_bind {α β γ : Type} (o : Option α) (f : α → Out β) (g : β → Dr → Out γ) : (ofO o f).bind g = ofO o fun a => (f a).bind g := by cases o <;> rfl
theorem Out.ok_bind {α β : Type} (a : α) (W : Dr) (f : α → Dr → Out β) : (Out.ok a W).bind f = f a W := rfl
theorem ite_bind {α β : Type} (b : Bool) (x y : Out α) (f : α → Dr → Out β) : (if b = true then x else y).bind f = if b = true then x.bind f else y.bind f := by cases b <;> rfl

def pick {α : Type} (is : List Nat) (xs : List α) : List α := is.filterMap fun i => xs[i]?
def lcGo (one : D → Dr → Out (Option Vl)) : List D → List D → List Nat → Dr → Out Vl
  | [], acc, t, W => .ok (vf (.lst acc) t) W
  | x :: xs, acc, t, W => match one x W with
    | .ok none W' => lcGo one xs acc t W'
    | .ok (some v) W' => if acc.length < cap then lcGo one xs (acc ++ [v.d]) (t ++ v.all) W' else .stk
    | _ => .stk
def dcGo (one : D → Dr → Out (Option (D × D))) : List D → List (D × D) → Dr → Out Vl
  | [], acc, W => .ok ⟨.dic false acc, .fr, []⟩ W
  | x :: xs, acc, W => match one x W with
    | .ok none W' => dcGo one xs acc W'
    | .ok (some p) W' => if p.1.keyOk false = true ∧ p.2.imm = true ∧ acc.length < cap then dcGo one xs (dPut acc p.1 p.2) W' else .stk
    | _ => .stk
def dcGoT (one : D → Dr → Out (Option (D × D))) : List D → List (D × D) → Dr → Out Vl
  | [], acc, W => .ok ⟨.dic true acc, .fr, []⟩ W
  | x :: xs, acc, W => match one x W with
    | .ok none W' => dcGoT one xs acc W'
    | .ok (some p) W' => if p.1.keyOk true = true ∧ p.1.imm = true ∧ p.2.imm = true ∧ acc.length < cap then dcGoT one xs (dPut acc p.1 p.2) W' else .stk
    | _ => .stk
structure Wk where
  xs : List D
  me : List Nat
  t : List Nat

noncomputable def sameO (L : List Addr) (f : Addr → Out (Bool × D)) : Out (Bool × D) := open Classical in if h : ∃ o : (Bool × D) × Dr, ∀ a, a ∉ L → ∃ s u, f a = .ok o.1 { o.2 with ed := (a, s, u) :: o.2.ed } then .ok (Classical.choose h).1 (Classical.choose h).2 else .stk
def Vl.plain (v : Vl) : Bool := match v.k, v.t with
  | .pl, [] => true
  | .fr, [] => true
  | _, _ => false
mutual
/-- an expression -/
def ev : E → En → Dr → Out Vl
  | .var i, ρ, W => match ρ[i]? with
    | some (.val d) => .ok ⟨d, .pl, []⟩ W
    | some (.own d) => .ok ⟨d, .me i, []⟩ W
    | _ => .stk
  | .cst d, _, W => .ok ⟨d, .pl, []⟩ W
  | .gl d, _, W => .ok ⟨d, .pl, []⟩ W
  | .bin op a b, ρ, W => (ev a ρ W).bind fun x W => (ev b ρ W).bind fun y W => ofO (binD op x.d y.d) fun r => .ok (vo r (x.t ++ y.t)) W
  | .neg a, ρ, W => (ev a ρ W).bind fun x W => match x.d with
    | .int i => .ok ⟨.int (-i), .pl, []⟩ W
    | _ => .stk
  | .not a, ρ, W => (ev a ρ W).bind fun x W => ofO x.d.isBl fun b => .ok ⟨.bl (!b), .pl, []⟩ W
  | .cmp op a b, ρ, W => (ev a ρ W).bind fun x W => (ev b ρ W).bind fun y W => ofO (cmpD op x.d y.d) fun r => .ok ⟨.bl r, .pl, []⟩ W
  | .chn o1 o2 a b c, ρ, W => (ev a ρ W).bind fun x W => (ev b ρ W).bind fun y W => ofO (cmpD o1 x.d y.d) fun r =>
    if r then (ev c ρ W).bind fun z W => ofO (cmpD o2 y.d z.d) fun r => .ok ⟨.bl r, .pl, []⟩ W else .ok ⟨.bl false, .pl, []⟩ W
  | .and a b, ρ, W => (ev a ρ W).bind fun x W => ofO x.d.isBl fun c => if c then ev b ρ W else .ok ⟨.bl false, .pl, []⟩ W
  | .or a b, ρ, W => (ev a ρ W).bind fun x W => ofO x.d.isBl fun c => if c then .ok ⟨.bl true, .pl, []⟩ W else ev b ρ W
  | .ite c a b, ρ, W => (evT c ρ W).bind fun k W => if k then ev a ρ W else ev b ρ W
  | .tup xs, ρ, W => (evL xs ρ W).bind fun vs W => if vs.length ≤ cap then .ok (vl (.tup (ds vs)) (ts vs)) W else .stk
  | .lst xs, ρ, W => (evL xs ρ W).bind fun vs W => if vs.length ≤ cap then .ok (vf (.lst (ds vs)) (ts vs)) W else .stk
  | .ix a b, ρ, W => (ev a ρ W).bind fun x W => (ev b ρ W).bind fun y W => ofO (ixD x.d y.d) fun r => .ok (vl r x.t) W
  | .sl a lo hi, ρ, W => (ev a ρ W).bind fun x W => (evO lo ρ W).bind fun l W => (evO hi ρ W).bind fun h W => ofO (slD x.d l h) fun r => .ok (vo r x.t) W
  | .rev a, ρ, W => (ev a ρ W).bind fun x W => ofO (revD x.d) fun r => .ok (vo r x.t) W
  | .bi f args, ρ, W => (evL args ρ W).bind fun vs W => ofO (biD f (ds vs)) fun r => .ok (vo r (vs.flatMap (·.t))) W
  | .isi a tys, ρ, W => (ev a ρ W).bind fun x W => if x.d.typed then .ok ⟨.bl (tys.any (isD1 x.d)), .pl, []⟩ W else .stk
  | .call g args, ρ, W => (evL args ρ W).bind fun vs W => (g (ds vs) W).bind fun r W => .ok (vo r (ts vs)) W
  | .calv i tb args, ρ, W => match ρ[i]? with
    | some (.val (.fn f)) => match tb.lookup f with
      | some g => (evL args ρ W).bind fun vs W => (g (ds vs) W).bind fun r W => .ok (vo r (ts vs)) W
      | none => .stk
    | _ => .stk
  | .callk g m is args, ρ, W => (evL args ρ W).bind fun vs W => if vs.length = m then (g (pick is (ds vs)) W).bind fun r W => .ok (vo r (ts vs)) W else .stk
  | .attr a f, ρ, W => (ev a ρ W).bind fun x W => ofO (attrD x.d f) fun r => .ok (vl r x.t) W
  | .bm m a args, ρ, W => (ev a ρ W).bind fun x W => match x.d with
    | .lst xs => (evL args ρ W).bind fun vs W => ofO (bmD m (.lst xs) (ds vs)) fun r => .ok (vo r (x.t ++ ts vs)) W
    | _ => .stk
  | .mth m cl g a args, ρ, W => (ev a ρ W).bind fun x W => match x.d with
    | .ins n fs => if n = cl ∧ fs.lookup m = none then (evL args ρ W).bind fun vs W => (g (x.d :: ds vs) W).bind fun r W => .ok (vo r (ts (x :: vs))) W else .stk
    | _ => .stk
  | .op ck g a args, ρ, W => (ev a ρ W).bind fun x W => if ck x.d = true then (evL args ρ W).bind fun vs W => (g (x.d :: ds vs) W).bind fun r W => .ok (vo r (ts (x :: vs))) W else .stk
  | .drg k a, ρ, W => (ev a ρ W).bind fun x W => match x.d with
    | .drw => .ok ⟨.int (if k then W.turn else W.rest), .pl, []⟩ W
    | _ => .stk
  | .drc a, ρ, W => (ev a ρ W).bind fun x W => match x.d with
    | .drw => .ok ⟨.lst (W.cells.map .int), .pl, []⟩ W
    | _ => .stk
  | .drn a, ρ, W => (ev a ρ W).bind fun x W => match x.d with
    | .drw => .ok ⟨.bl (!W.wide.isEmpty), .pl, []⟩ W
    | _ => .stk
  | .drp a, ρ, W => (ev a ρ W).bind fun x W => match x.d, W.wide with
    | .drw, w :: ws => .ok ⟨.int w, .pl, []⟩ { W with wide := ws }
    | _, _ => .stk
  | .hand h a, ρ, W => h (ev a ρ W)
  | .edg k a, ρ, W => (ev a ρ W).bind fun x W => match x.d with
    | .edt p => ofO (edGet W p) fun r => .ok ⟨if k then r.2 else r.1, .pl, []⟩ W
    | _ => .stk
  | .mthE g a args, ρ, W => (ev a ρ W).bind fun x W => match x.d with
    | .edt p => ofO (edGet W p) fun _ => (evL args ρ W).bind fun vs W => (g (x.d :: ds vs) W).bind fun r W => .ok (vo r (ts (x :: vs))) W
    | _ => .stk
  | .cps g1 g2 a, ρ, W => (ev a ρ W).bind fun x W => match x.d with
    | .edt p => ofO (edGet W p) fun _ => (g1 [x.d] W).bind fun r W1 => if r.1.imm = true ∧ r.2.imm = true then (sameO (W.ed.map (·.1)) fun a => g2 [.edt a] { W1 with ed := (a, r.1, r.2) :: W1.ed }).bind fun r2 W2 => .ok (vo r2 []) W2 else .stk
    | _ => .stk
  | .pkD i g es, ρ, W => match ρ[i]? with
    | some (.val .drw) => (evL es ρ W).bind fun vs W => if vs.length ≤ cap ∧ vs.all Vl.plain = true then (g [.drw, .int vs.length] W).bind fun r W => match r.2 with
      | .int j => ofO (ixOf vs.length j) fun q => ofO (vs[q]?) fun v => .ok v W
      | _ => .stk
      else .stk
    | _ => .stk
  | .mkE g args, ρ, W => (evL args ρ W).bind fun vs W => (g (ds vs) W).bind fun _ W => .ok ⟨.any, .pl, []⟩ W
  | .caught a, ρ, W => match ev a ρ W with
    | .ok _ W' => .ok ⟨.non, .pl, []⟩ W'
    | .ex (.exc n fs) W' => .ok ⟨.exc n fs, .pl, []⟩ W'
    | _ => .stk
  | .lc elt pt src tst own, ρ, W => (evI src ρ W).bind fun p W => match p.t with
    | [] => lcGo (fun x W => ofO (bindP pt x (wip ρ own)) fun ρ' => (evA tst ρ' W).bind fun b W => if b then (ev elt ρ' W).bind fun v W => .ok (some v) W else .ok none W) p.xs [] [] W
    | _ => .stk
  | .dc kx vx pt src tst own, ρ, W => (evI src ρ W).bind fun p W => match p.t with
    | [] => dcGo (fun x W => ofO (bindP pt x (wip ρ own)) fun ρ' => (evA tst ρ' W).bind fun b W => if b then (ev kx ρ' W).bind fun k W => (ev vx ρ' W).bind fun v W => .ok (some (k.d, v.d)) W else .ok none W) p.xs [] W
    | _ => .stk
  | .dcT kx vx pt src tst own, ρ, W => (evI src ρ W).bind fun p W => match p.t with
    | [] => dcGoT (fun x W => ofO (bindP pt x (wip ρ own)) fun ρ' => (evA tst ρ' W).bind fun b W => if b then (ev kx ρ' W).bind fun k W => (ev vx ρ' W).bind fun v W => .ok (some (k.d, v.d)) W else .ok none W) p.xs [] W
    | _ => .stk
  | .lcD elt pt i tst own, ρ, W => match ρ[i]? with
    | some (.val (.dic t kvs)) => lcGo (fun x W => ofO (bindP pt x (wip ρ own)) fun ρ' => (evA tst ρ' W).bind fun b W => if b then (ev elt ρ' W).bind fun v W => .ok (some v) W else .ok none W) (kvs.map (·.1)) [] [] W
    | _ => .stk
  | _, _, _ => .stk
/-- a test -/
def evT : E → En → Dr → Out Bool
  | .and a b, ρ, W => (evT a ρ W).bind fun c W => if c then evT b ρ W else .ok false W
  | .or a b, ρ, W => (evT a ρ W).bind fun c W => if c then .ok true W else evT b ρ W
  | .not a, ρ, W => (evT a ρ W).bind fun c W => .ok (!c) W
  | .tv a, ρ, W => (ev a ρ W).bind fun x W => ofO x.d.isBl fun c => .ok c W
  | _, _, _ => .stk
/-- all of some tests -/
def evA : E → En → Dr → Out Bool
  | .nil, _, W => .ok true W
  | .cons h t, ρ, W => (evT h ρ W).bind fun c W => if c then evA t ρ W else .ok false W
  | _, _, _ => .stk
/-- arguments -/
def evL : E → En → Dr → Out (List Vl)
  | .nil, _, W => .ok [] W
  | .cons h t, ρ, W => (ev h ρ W).bind fun x W => (evL t ρ W).bind fun xs W => .ok (x :: xs) W
  | .star h t, ρ, W => (ev h ρ W).bind fun x W => ofO x.d.seq fun ys => (evL t ρ W).bind fun xs W => .ok (ys.map (fun y => vl y x.t) ++ xs) W
  | _, _, _ => .stk
/-- a slice's part -/
def evO : E → En → Dr → Out (Option Int)
  | .no, _, W => .ok none W
  | .pt a, ρ, W => (ev a ρ W).bind fun x W => match x.d with
    | .int i => .ok (some i) W
    | _ => .stk
  | _, _, _ => .stk
/-- what is walked -/
def evI : E → En → Dr → Out Wk
  | .rng args, ρ, W => (evL args ρ W).bind fun vs W => ofO (rngD (ds vs)) fun xs => .ok ⟨xs, [], []⟩ W
  | .enu a, ρ, W => (ev a ρ W).bind fun x W => ofO x.d.seq fun xs => .ok ⟨enuD 0 xs, x.all, x.t⟩ W
  | .zip a b, ρ, W => (ev a ρ W).bind fun x W => (ev b ρ W).bind fun y W => ofO (zipK x.d y.d) fun p => .ok ⟨zipD p.1 p.2, x.all ++ y.all, x.t ++ y.t⟩ W
  | .items a, ρ, W => (ev a ρ W).bind fun x W => match x.d with
    | .dic _ kvs => .ok ⟨kvs.map fun p => .tup [p.1, p.2], x.all, x.t⟩ W
    | _ => .stk
  | .wk a, ρ, W => (ev a ρ W).bind fun x W => ofO x.d.items fun xs => .ok ⟨xs, x.all, x.t⟩ W
  | _, _, _ => .stk
end

def walkD (md : Nat) (kvs : List (D × D)) : List D := match md with
  | 0 => kvs.map fun p => .tup [p.1, p.2]
  | 1 => kvs.map (·.1)
  | _ => kvs.map (·.2)
noncomputable def updRD (m a : Int) (n : Nat) (kvs : List (D × D)) : List (D × D) := (List.range n).foldl (fun kvs k => dPut kvs (.tup [.int m, .int (a + (k : Nat))]) (.bl true)) kvs

inductive S where
  | skip
  | seq (a b : S)
  | asg (i : Nat) (e : E)
  | unp (is : List Nat) (e : E)
  | par (is : List Nat) (e : E)
  | aug (i : Nat) (op : Operator) (e : E)
  | setix (i : Nat) (k e : E)
  | setk (i : Nat) (k e : E)
  | app (i : Nat) (e : E)
  | popa (j i : Nat) (args : E)
  | popp (j i : Nat) (args : E)
  | fld (i : Nat) (f : Str) (e : E)
  | drs (k : Bool) (i : Nat) (e : E)
  | expr (e : E)
  | ret (e : E)
  | retn
  | iff (c : E) (a b : S)
  | for (pt : Pat) (src : E) (b : S)
  | whl (c : E) (b : S)
  | brk
  | cont
  | raise (c : Str) (f : List Str) (args : E)
  | bad
  | kl (is : List Nat) (b : S) (js : List Nat)
  | cpp (i j : Nat) (e : E)
  | cpl (i j : Nat) (e : E)
  | cpa (i j : Nat) (e : E)
  | tapp (e a : E)
  | tclr (e : E)
  | updR (d i : Nat) (es : E)
  | forD (md : Nat) (pt : Pat) (i : Nat) (b : S)
  | tryN (b : S)
  | tryF (b : S) (cs : List Str) (d : D)
  | tryR (b : S) (cs : List Str) (c : Str) (f : Str) (i : Nat)
  | ret2 (i : Nat) (e : E)
  | piv (jt jf ju : Nat) (g : G2) (args : E)
  | parIx (i k1 k2 : Nat) (e : E)
  | augix (i : Nat) (op : Operator) (k e : E)
  | forV (pt : Pat) (e : E) (b : S)
  | eds (k : Bool) (i : Nat) (e : E)
  | letE (i : Nat) (g : GE) (args : E) (b : S)
  | two (i : Nat) (g : GT) (ea t : E) (b2 b : S)
  | unpT (i j : Nat) (g : GT) (args : E)

inductive SOut where
  | nx (ρ : En) (W : Dr)
  | bk (ρ : En) (W : Dr)
  | ct (ρ : En) (W : Dr)
  | rt (v : Vl) (ρ : En) (W : Dr)
  | ex (x : D) (ρ : En) (W : Dr)
  | rt2 (i : Nat) (y : D) (ρ : En) (W : Dr)
  | stk

def Out.st {α : Type} (o : Out α) (ρ : En) (f : α → Dr → SOut) : SOut := match o with
  | .ok a W => f a W
  | .ex x W => .ex x ρ W
  | .stk => .stk
def ofS {α : Type} (o : Option α) (f : α → SOut) : SOut := match o with
  | some a => f a
  | none => .stk
def forGo (f : D → En → Dr → SOut) : List D → En → Dr → SOut
  | [], ρ, W => .nx ρ W
  | x :: xs, ρ, W => match f x ρ W with
    | .nx ρ' W' => forGo f xs ρ' W'
    | .ct ρ' W' => forGo f xs ρ' W'
    | .bk ρ' W' => .nx ρ' W'
    | o => o
def whlGo (c : En → Dr → Out Bool) (f : En → Dr → SOut) : Nat → En → Dr → SOut
  | 0, _, _ => .stk
  | n + 1, ρ, W => (c ρ W).st ρ fun b W => if b then (match f ρ W with
    | .nx ρ' W' => whlGo c f n ρ' W'
    | .ct ρ' W' => whlGo c f n ρ' W'
    | .bk ρ' W' => .nx ρ' W'
    | o => o) else .nx ρ W
def setD (o k d : D) : Option D := match o, k with
  | .lst xs, .int i => (ixOf xs.length i).map fun j => .lst (xs.set j d)
  | .dic t kvs, k => if k.keyOk t = true ∧ kvs.length < cap then some (.dic t (dPut kvs k d)) else none
  | _, _ => none
def popD (xs : List D) : List D → Option (D × List D)
  | [] => match xs[xs.length - 1]? with
    | some y => some (y, xs.dropLast)
    | none => none
  | [.int i] => if -(big (2 ^ 63)) ≤ i ∧ i < big (2 ^ 63) then match ixOf xs.length i with
      | some k => (xs[k]?).map fun y => (y, xs.eraseIdx k)
      | none => none
    else none
  | _ => none
def putAll (ρ : En) : List Nat → List Vl → En
  | i :: is, v :: vs => putAll ((ρ.set i (if v.isFr then .own v.d else .val v.d))) is vs
  | _, _ => ρ

def putFD (f : Str) (v : D) : List (Str × D) → List (Str × D)
  | [] => [(f, v)]
  | (g, x) :: r => if g = f then (g, v) :: r else (g, x) :: putFD f v r
def SOut.wp (js : List Nat) : SOut → SOut
  | .nx ρ W => .nx (wip ρ js) W
  | .bk ρ W => .bk (wip ρ js) W
  | .ct ρ W => .ct (wip ρ js) W
  | .rt v ρ W => .rt v ρ W
  | .ex x ρ W => .ex x ρ W
  | .rt2 i y ρ W => .rt2 i y ρ W
  | .stk => .stk
def edN : List (Str × D) → Bool
  | [(a, _), (b, _)] => !(decide (a = ("e_step" : Str)) && decide (b = ("e_undone" : Str)))
  | _ => true
theorem edN0 : edN [] = true := rfl
theorem edN1 {p : Str × D} : edN [p] = true := rfl
theorem edN2 {a b : Str} {x y : D} : edN [(a, x), (b, y)] = !(decide (a = ("e_step" : Str)) && decide (b = ("e_undone" : Str))) := rfl
theorem edN3 {p q r : Str × D} {t : List (Str × D)} : edN (p :: q :: r :: t) = true := by unfold edN; rfl
def SOut.popE (i : Nat) : SOut → SOut
  | .nx ρ W => .nx (ρ.set i .un) { W with ed := W.ed.tail }
  | .bk ρ W => .bk (ρ.set i .un) { W with ed := W.ed.tail }
  | .ct ρ W => .ct (ρ.set i .un) { W with ed := W.ed.tail }
  | .rt v ρ W => if v.all.contains i then .stk else .rt v (ρ.set i .un) { W with ed := W.ed.tail }
  | .ex x ρ W => .ex x (ρ.set i .un) { W with ed := W.ed.tail }
  | .rt2 j y ρ W => .stk
  | .stk => .stk
noncomputable def sameE (L : List Addr) (f : Addr → SOut) : SOut := open Classical in if h : ∃ o, ∀ a, a ∉ L → f a = o then Classical.choose h else .stk
def evS (fu : Nat) : S → En → Dr → SOut
  | .skip, ρ, W => .nx ρ W
  | .seq a b, ρ, W => match evS fu a ρ W with
    | .nx ρ' W' => evS fu b ρ' W'
    | o => o
  | .asg i e, ρ, W => (ev e ρ W).st ρ fun v W => .nx (put ρ i v) W
  | .unp is e, ρ, W => (ev e ρ W).st ρ fun v W => match v.d with
    | .tup xs => if xs.length = is.length then .nx (sets (frz ρ v.all) is xs) W else .stk
    | _ => .stk
  | .par is e, ρ, W => (evL e ρ W).st ρ fun vs W => if vs.length = is.length ∧ is.Nodup then .nx (putAll (frz ρ (ts vs)) is vs) W else .stk
  | .aug i op e, ρ, W => match ρ[i]? with
    | some (.val (.int x)) => (ev e ρ W).st ρ fun v W => match v.d with
      | .int y => match binD op (.int x) (.int y) with
        | some (_, .int z) => .nx (ρ.set i (.val (.int z))) W
        | _ => .stk
      | _ => .stk
    | _ => .stk
  | .setix i k e, ρ, W => match ρ[i]? with
    | some (.own (.lst _)) => (ev e ρ W).st ρ fun v W => (ev k ρ W).st ρ fun n W => match (frz ρ (v.all ++ n.all))[i]?, n.d with
      | some (.own (.lst xs)), .int m => ofS (ixOf xs.length m) fun j => .nx ((frz ρ (v.all ++ n.all)).set i (.own (.lst (xs.set j v.d)))) W
      | _, _ => .stk
    | _ => .stk
  | .setk i k e, ρ, W => match ρ[i]? with
    | some (.own (.dic _ _)) => (ev e ρ W).st ρ fun v W => (ev k ρ W).st ρ fun n W => match (frz ρ (v.all ++ n.all))[i]? with
      | some (.own (.dic t kvs)) => if n.d.keyOk t = true ∧ kvs.length < cap then .nx ((frz ρ (v.all ++ n.all)).set i (.own (.dic t (dPut kvs n.d v.d)))) W else .stk
      | _ => .stk
    | _ => .stk
  | .app i e, ρ, W => match ρ[i]? with
    | some (.own (.lst _)) => (ev e ρ W).st ρ fun v W => match (frz ρ v.all)[i]? with
      | some (.own (.lst xs)) => if xs.length < cap then .nx ((frz ρ v.all).set i (.own (.lst (xs ++ [v.d])))) W else .stk
      | _ => .stk
    | _ => .stk
  | .popa j i args, ρ, W => match ρ[i]? with
    | some (.own (.lst xs)) => (evL args ρ W).st ρ fun vs W => ofS (popD xs (ds vs)) fun p => .nx ((ρ.set i (.own (.lst p.2))).set j (.val p.1)) W
    | _ => .stk
  | .popp j i args, ρ, W => match ρ[i]?, ρ[j]? with
    | some (.own (.lst xs)), some (.own (.lst ys)) => (evL args ρ W).st ρ fun vs W => if i = j then .stk else ofS (popD xs (ds vs)) fun p => if ys.length < cap then .nx ((ρ.set i (.own (.lst p.2))).set j (.own (.lst (ys ++ [p.1])))) W else .stk
    | _, _ => .stk
  | .fld i f e, ρ, W => match ρ[i]? with
    | some (.slf _ _ _) => (ev e ρ W).st ρ fun v W => match (frz ρ v.all)[i]? with
      | some (.slf p n fs) => if fs.length < 1000 ∧ (((frz ρ v.all).set i .un).all Sl.noSlf) = true ∧ edN (putFD f v.d fs) = true then .nx ((frz ρ v.all).set i (.slf p n (putFD f v.d fs))) W else .stk
      | _ => .stk
    | _ => .stk
  | .drs k i e, ρ, W => (ev e ρ W).st ρ fun v W => match ρ[i]?, v.d with
    | some (.val .drw), .int j => .nx ρ (if k then { W with turn := j } else { W with rest := j })
    | _, _ => .stk
  | .expr e, ρ, W => (ev e ρ W).st ρ fun _ W => .nx ρ W
  | .ret e, ρ, W => (ev e ρ W).st ρ fun v W => .rt v ρ W
  | .retn, ρ, W => .rt ⟨.non, .pl, []⟩ ρ W
  | .iff c a b, ρ, W => (evT c ρ W).st ρ fun k W => if k then evS fu a ρ W else evS fu b ρ W
  | .for pt src b, ρ, W => (evI src ρ W).st ρ fun p W => forGo (fun x ρ W => ofS (bindP pt x ρ) fun ρ' => evS fu b ρ' W) p.xs (frz ρ (p.me ++ p.t)) W
  | .whl c b, ρ, W => whlGo (evT c) (evS fu b) fu ρ W
  | .brk, ρ, W => .bk ρ W
  | .cont, ρ, W => .ct ρ W
  | .bad, _, _ => .stk
  | .kl is b js, ρ, W => (evS fu b (wip ρ is) W).wp js
  | .cpp i j e, ρ, W => match ρ[i]? with
    | some (.own (.lst xs)) => match ev e ρ W with
      | .ok v W' => if v.k = .pl ∧ v.t = [] ∧ xs.length < cap then .nx ((ρ.set i (.own (.lst (xs ++ [v.d])))).set j (.val .non)) W' else .stk
      | .ex (.exc n fs) W' => .nx (ρ.set j (.val (.exc n fs))) W'
      | _ => .stk
    | _ => .stk
  | .cpl i j e, ρ, W => match ρ[i]? with
    | some (.own (.lst xs)) => match ev e ρ W with
      | .ok v W' => if v.k = .pl ∧ v.t = [] ∧ xs.length < cap then .nx ((ρ.set i (.own (.lst (xs ++ [v.d])))).set j (.own (.lst [.non]))) W' else .stk
      | .ex (.exc n fs) W' => .nx (ρ.set j (.own (.lst [.exc n fs]))) W'
      | _ => .stk
    | _ => .stk
  | .cpa i j e, ρ, W => match ρ[i]?, ρ[j]? with
    | some (.own (.lst xs)), some (.own (.lst ys)) => if ys.length < cap ∧ i ≠ j then match ev e ρ W with
      | .ok v W' => if v.k = .pl ∧ v.t = [] ∧ xs.length < cap then .nx ((ρ.set i (.own (.lst (xs ++ [v.d])))).set j (.own (.lst (ys ++ [.non])))) W' else .stk
      | .ex (.exc n fs) W' => .nx (ρ.set j (.own (.lst (ys ++ [.exc n fs])))) W'
      | _ => .stk
      else .stk
    | _, _ => .stk
  | .tapp e a, ρ, W => (ev e ρ W).st ρ fun v W => match v.k, v.d with
    | .fr, .lst xs => if xs.length < cap then (ev a ρ W).st ρ fun _ W => .nx ρ W else .stk
    | _, _ => .stk
  | .tclr e, ρ, W => (ev e ρ W).st ρ fun v W => match v.k, v.d with
    | .fr, .lst _ => .nx ρ W
    | _, _ => .stk
  | .updR d i es, ρ, W => match ρ[d]?, ρ[i]? with
    | some (.own (.dic true kvs)), some (.val (.int m)) => (evL es ρ W).st ρ fun vs W => match ds vs with
      | [.int a, .int b] => if 0 ≤ m ∧ m < 8 ∧ 0 ≤ a ∧ a ≤ 64 ∧ 0 ≤ b ∧ b ≤ 64 ∧ kvs.length + 64 ≤ 1000000 ∧ ts vs = [] then .nx (ρ.set d (.own (.dic true (updRD m a (b - a).toNat kvs)))) W else .stk
      | _ => .stk
    | _, _ => .stk
  | .forD md pt i b, ρ, W => match (frz ρ [i])[i]? with
    | some (.val (.dic t kvs)) => match forGo (fun x ρ W => ofS (bindP pt x ρ) fun ρ' => evS fu b ρ' W) (walkD md kvs) (frz ρ [i]) W with
      | .ex _ _ _ => .stk
      | .rt _ _ _ => .stk
      | .rt2 _ _ _ _ => .stk
      | o => o
    | _ => .stk
  | .tryF b cs d, ρ, W => match evS fu b ρ W with
    | .ex (.exc n fs) ρ' W' => if cs.contains n then .rt ⟨d, .pl, []⟩ ρ' W' else .ex (.exc n fs) ρ' W'
    | o => o
  | .tryR b cs c f i, ρ, W => match evS fu b ρ W with
    | .ex (.exc n fs) ρ' W' => if cs.contains n then (match ρ'[i]? with
      | some (.val (.int a)) => .ex (.exc c [(f, .int a)]) ρ' W'
      | _ => .stk) else .ex (.exc n fs) ρ' W'
    | o => o
  | .ret2 i e, ρ, W => match ρ[i]? with
    | some (.own _) => (ev e ρ W).st ρ fun v W => match v.d with
      | .int y => .rt2 i (.int y) ρ W
      | _ => .stk
    | _ => .stk
  | .piv jt jf ju g args, ρ, W => (evL args ρ W).st ρ fun vs W => (g (ds vs) W).st ρ fun r W => match r with
    | none => .rt ⟨.int 0, .pl, []⟩ ((frz ρ (ts vs)).set ju .un) W
    | some (d, y) => .nx ((((frz ρ (ts vs)).set ju .un).set jt (.own d)).set jf (.val y)) W
  | .parIx i k1 k2 e, ρ, W => (evL e ρ W).st ρ fun vs W => match (frz ρ (ts vs))[i]?, ρ[k1]?, ρ[k2]?, ds vs with
    | some (.own (.lst xs)), some (.val (.int a)), some (.val (.int b)), [x, y] => ofS (ixOf xs.length a) fun j1 => ofS (ixOf xs.length b) fun j2 => .nx ((frz ρ (ts vs)).set i (.own (.lst ((xs.set j1 x).set j2 y)))) W
    | _, _, _, _ => .stk
  | .augix i op k e, ρ, W => match ρ[i]? with
    | some (.own (.lst xs)) => (ev k ρ W).st ρ fun n W => match n.d with
      | .int m => ofS (ixOf xs.length m) fun j => match xs[j]? with
        | some (.int a) => (ev e ρ W).st ρ fun v W => match v.d with
          | .int b => match binD op (.int a) (.int b) with
            | some (_, .int z) => .nx (ρ.set i (.own (.lst (xs.set j (.int z))))) W
            | _ => .stk
          | _ => .stk
        | _ => .stk
      | _ => .stk
    | _ => .stk
  | .forV pt e b, ρ, W => (ev e ρ W).st ρ fun v W => match v.k, v.d, v.t with
    | .fr, .dic false kvs, [] => if immV kvs = true then (match forGo (fun x ρ W => ofS (bindP pt x ρ) fun ρ' => evS fu b ρ' W) (kvs.map (·.2)) ρ W with
      | .ex _ _ _ => .stk
      | .rt _ _ _ => .stk
      | .rt2 _ _ _ _ => .stk
      | o => o) else .stk
    | _, _, _ => .stk
  | .eds k i e, ρ, W => match ρ[i]? with
    | some (.val (.edt p)) => (ev e ρ W).st ρ fun v W => if v.d.imm = true then ofS (edGet W p) fun _ => .nx ρ (edPut W k p v.d) else .stk
    | _ => .stk
  | .letE i g args b, ρ, W => (evL args ρ W).st ρ fun vs W1 => if (∀ v ∈ vs, v.d.imm = true) ∧ i < ρ.length then (g (ds vs) W1).st ρ fun r W => if r.1.imm = true ∧ r.2.imm = true then sameE (W1.ed.map (·.1)) fun a => (evS fu b (ρ.set i (.val (.edt a))) { W with ed := (a, r.1, r.2) :: W.ed }).popE i else .stk else .stk
  | .unpT i j g args, ρ, W => (evL args ρ W).st ρ fun vs W1 => if (∀ v ∈ vs, v.d.imm = true) ∧ i ≠ j then (g (ds vs) W1).st ρ fun r W2 => .nx ((ρ.set i (.own (.lst r.1))).set j (.own (.lst r.2))) W2 else .stk
  | .two i g ea t b2 b, ρ, W => (ev ea ρ W).st ρ fun x W1 => match x.d with
    | .edt p => ofS (edGet W1 p) fun _ => if ρ.all Sl.flat = true ∧ i < ρ.length then (g [x.d] W1).st ρ fun r W2 => (evT t (ρ.set i (.val (.tup [.lst r.1, .lst r.2]))) W2).st (ρ.set i (.val (.tup [.lst r.1, .lst r.2]))) fun k W3 => if k then .rt ⟨.bl false, .pl, []⟩ (ρ.set i (.val (.tup [.lst r.1, .lst r.2]))) W3 else
        sameE [] fun l0 => sameE [] fun l1 => match evS fu b2 (ρ.set i (.val (.tup [.edt l0, .edt l1]))) W3 with
          | .nx ρ4 W4 => match ρ4[i]? with
            | some (.val (.tup [.edt a0, .edt a1])) => if a0 = l0 ∧ a1 = l1 ∧ r.1.length < cap ∧ r.2.length < cap then evS fu b (ρ4.set i .un) W4 else .stk
            | _ => .stk
          | _ => .stk
      else .stk
    | _ => .stk
  | .tryN b, ρ, W => match evS fu b ρ W with
    | .ex _ _ _ => .stk
    | o => o
  | .raise c f args, ρ, W => (evL args ρ W).st ρ fun vs W => match f with
    | [] => .ex (.exc c []) ρ W
    | _ => if vs.length = f.length ∧ D.immF (f.zip (ds vs)) = true then .ex (.exc c (f.zip (ds vs))) ρ W else .stk

def run (fu N ps : Nat) (b : S) : G := fun xs W =>
  if xs.length = ps then match evS fu b (xs.map .val ++ List.replicate (N - ps) .un) W with
    | .nx _ W' => .ok (false, .non) W'
    | .rt v _ W' => match v.k with
      | .pl => .ok (false, v.d) W'
      | _ => .ok (true, v.d) W'
    | .ex x _ W' => .ex x W'
    | _ => .stk
  else .stk
def runC (fu N ps p : Nat) (nm : Str) (b : S) : G := fun xs W =>
  if xs.length + 1 = ps then match evS fu b (.slf p nm [] :: (xs.map .val ++ List.replicate (N - ps) .un)) W with
    | .nx ρ W' => match (ρ[(0 : Nat)]? : Option Sl) with
      | some (.slf q n fs) => if q = p then .ok (false, .ins n fs) W' else .stk
      | _ => .stk
    | .ex x _ W' => .ex x W'
    | _ => .stk
  else .stk
end
end Z

namespace Z
open PySem PySem.Spec PyProof.Rows L2
open Classical

structure Pm where
  K : PySem.W.Frag
  ca : Str → Option Addr
  cx : Str → Option Addr
  dl : List Addr
  d2 : Addr
  tb : List (Addr × Str) := []
def Pm.mv (c : Pm) : List Addr := c.dl ++ c.tb.map (·.1)

def XO (cls : Value) (d : Option Addr) (a : Addr) : HO := .ext fun h => ∃ (oe : Obj) (vs : Array Value), h.get? a = some oe ∧ Zc cls d oe ∧ oe.data = .fields vs
def SqS (K : PySem.W.Frag) (F : Hp) (a : Addr) (vs : List V) : Prop := (∃ o, F a = some (.frz o (.lst vs))) ∨ F a = some (.lst vs) ∨ ∀ H, SqL K H a vs
theorem SqS.seq {K : PySem.W.Frag} {F H : Hp} {a : Addr} {vs : List V} (s : Same F H) (h : SqS K F a vs) : SqL K H a vs := by
  rcases h with ⟨o, h⟩ | h | h
  · exact .inl (.inr ⟨o, s _ _ h⟩)
  · exact .inl (.inl (s _ _ h))
  · exact h H
theorem SqS.mono {K : PySem.W.Frag} {F H : Hp} {a : Addr} {vs : List V} (s : Same F H) (h : SqS K F a vs) : SqS K H a vs := by
  rcases h with ⟨o, h⟩ | h | h
  · exact .inl ⟨o, s _ _ h⟩
  · exact .inr (.inl (s _ _ h))
  · exact .inr (.inr h)
def EdO (o : HO) : Prop := ∃ C dx v1 v2, o = .ins C dx [("e_step", v1), ("e_undone", v2)]
def Nt (o : HO) : Prop := (∀ ps, o ≠ .tbl ps) ∧ ¬ EdO o
def Ob (o : HO) : Prop := Nt o ∧ ∀ xs, o ≠ .tup xs
def Thr (H : Hp) (a : Addr) : Prop := ∃ o, H a = some o ∧ Ob o
abbrev Nil (H : Hp) (a : Addr) : Prop := ¬ Thr H a
theorem Nil.of {H : Hp} {a : Addr} (h : H a = none) : Nil H a := fun ⟨o, e, _⟩ => by rw [h] at e; cases e
theorem Nil.no {H : Hp} {a : Addr} {o : HO} (h : Nil H a) (e : H a = some o) (n : Ob o) : False := h ⟨o, e, n⟩
theorem nt_lst {xs : List V} : Nt (.lst xs) := ⟨fun _ h => (nomatch h), fun ⟨_, _, _, _, h⟩ => (nomatch h)⟩
theorem nt_tup {xs : List V} : Nt (.tup xs) := ⟨fun _ h => (nomatch h), fun ⟨_, _, _, _, h⟩ => (nomatch h)⟩
theorem nt_ins {C dx : Addr} {fs : List (Str × V)} (h : fs.map (·.1) ≠ [("e_step" : Str), "e_undone"]) : Nt (.ins C dx fs) := ⟨fun _ h => (nomatch h), fun ⟨_, _, _, _, e⟩ => by
  cases e
  exact h rfl⟩
theorem nt_xd {vs : List (Str × V)} : Nt (.xd vs) := ⟨fun _ h => (nomatch h), fun ⟨_, _, _, _, h⟩ => (nomatch h)⟩
theorem nt_dK {kvs : List (Key × V)} : Nt (.dK kvs) := ⟨fun _ h => (nomatch h), fun ⟨_, _, _, _, h⟩ => (nomatch h)⟩
theorem ob_lst {xs : List V} : Ob (.lst xs) := ⟨nt_lst, fun _ h => by cases h⟩
theorem ob_ins {C dx : Addr} {fs : List (Str × V)} (h : Nt (.ins C dx fs)) : Ob (.ins C dx fs) := ⟨h, fun _ h => by cases h⟩
theorem ob_dK {kvs : List (Key × V)} : Ob (.dK kvs) := ⟨nt_dK, fun _ h => by cases h⟩
theorem Thr.lst {H : Hp} {a : Addr} {xs : List V} (h : H a = some (.lst xs)) : Thr H a := ⟨_, h, ob_lst⟩
theorem Thr.ins {H : Hp} {a C dx : Addr} {fs : List (Str × V)} (h : H a = some (.ins C dx fs)) (n : Nt (.ins C dx fs)) : Thr H a := ⟨_, h, ob_ins n⟩
theorem Thr.dK {H : Hp} {a : Addr} {kvs : List (Key × V)} (h : H a = some (.dK kvs)) : Thr H a := ⟨_, h, ob_dK⟩
def keyD : Key → D
  | .inl i => .int i
  | .inr x => .str x
mutual
inductive Rep (c : Pm) (F : Hp) : V → D → Prop
  | non : Rep c F .non .non
  | bl (b : Bool) : Rep c F (.bl b) (.bl b)
  | int (i : Int) : Rep c F (.int i) (.int i)
  | str (x : Str) : Rep c F (.str x) (.str x)
  | tup {a : Addr} {vs : List V} {xs : List D} : F a = some (.tup vs) → RepL c F vs xs → Rep c F (.ref a) (.tup xs)
  | lst {a : Addr} {vs : List V} {xs : List D} : F a = some (.lst vs) → RepL c F vs xs → Rep c F (.ref a) (.lst xs)
  | ins {a C dx : Addr} {n : Str} {gs : List (Str × V)} {fs : List (Str × D)} : F a = some (.ins C dx gs) → c.ca n = some C → RepF c F gs fs → Rep c F (.ref a) (.ins n fs)
  | drw {a : Addr} : c.dl.head? = some a → Rep c F (.ref a) .drw
  | scr {a : Addr} {ns : List Int} : SqS c.K F a (ns.map V.int) → Rep c F (.ref a) (.scr ns)
  | dicK {a : Addr} {ks : List (Key × V)} {kvs : List (D × D)} : Rd F a (.dK ks) → kvs.map (·.1) = ks.map (fun q => keyD q.1) → RepL c F (ks.map (·.2)) (kvs.map (·.2)) → Rep c F (.ref a) (.dic false kvs)
  | dicT {a : Addr} {ks : List (List Key × V)} {kvs : List (D × D)} : Rd F a (.dT ks) → kvs.map (·.1) = ks.map (fun q => .tup (q.1.map keyD)) → RepL c F (ks.map (·.2)) (kvs.map (·.2)) → Rep c F (.ref a) (.dic true kvs)
  | fn {f : Str} : Rep c F (.ref (He.ga c.K f)) (.fn f)
  | edt {a : Addr} : Rep c F (.ref a) (.edt a)
  | any {a : Addr} : Rep c F (.ref a) .any
  | exc0 {a C : Addr} {n : Str} : F a = some (XO (.ref C) none a) → c.cx n = some C → Rep c F (.ref a) (.exc n [])
  | exc1 {a C dd : Addr} {n : Str} {gs : List (Str × V)} {fs : List (Str × D)} : F a = some (XO (.ref C) (some dd) a) → c.cx n = some C → F dd = some (.xd gs) → RepF c F gs fs → fs ≠ [] → Rep c F (.ref a) (.exc n fs)
inductive RepL (c : Pm) (F : Hp) : List V → List D → Prop
  | nil : RepL c F [] []
  | cons {v : V} {vs : List V} {x : D} {xs : List D} : Rep c F v x → RepL c F vs xs → RepL c F (v :: vs) (x :: xs)
inductive RepF (c : Pm) (F : Hp) : List (Str × V) → List (Str × D) → Prop
  | nil : RepF c F [] []
  | cons {f : Str} {v : V} {gs : List (Str × V)} {x : D} {fs : List (Str × D)} : Rep c F v x → RepF c F gs fs → RepF c F ((f, v) :: gs) ((f, x) :: fs)
end

theorem Same.sqT {K : PySem.W.Frag} {H H' : Hp} {a : Addr} {xs : List V} (e : Same H H') (h : SqT K H a xs) : SqT K H' a xs := by
  rcases h with (h | ⟨o, h⟩) | h
  · exact .inl (.inl (e _ _ h))
  · exact .inl (.inr ⟨o, e _ _ h⟩)
  · exact .inr h

theorem Rd.mono {F F' : Hp} {a : Addr} {u : HO} (e : Same F F') (h : Rd F a u) : Rd F' a u := h.elim (fun h => .inl (e _ _ h)) fun ⟨o, h⟩ => .inr ⟨o, e _ _ h⟩
section
variable {c : Pm} {F F' : Hp}
mutual
theorem Rep.mono (e : Same F F') : ∀ {v : V} {x : D}, Rep c F v x → Rep c F' v x
  | _, _, .non => .non
  | _, _, .bl b => .bl b
  | _, _, .int b => .int b
  | _, _, .str b => .str b
  | _, _, .tup h r => .tup (e _ _ h) (RepL.mono e r)
  | _, _, .lst h r => .lst (e _ _ h) (RepL.mono e r)
  | _, _, .ins h k r => .ins (e _ _ h) k (RepF.mono e r)
  | _, _, .drw h => .drw h
  | _, _, .scr h => .scr (SqS.mono e h)
  | _, _, .dicK h k r => .dicK (Rd.mono e h) k (RepL.mono e r)
  | _, _, .dicT h k r => .dicT (Rd.mono e h) k (RepL.mono e r)
  | _, _, .fn => .fn
  | _, _, .edt => .edt
  | _, _, .any => .any
  | _, _, .exc0 h k => .exc0 (e _ _ h) k
  | _, _, .exc1 h k q r n => .exc1 (e _ _ h) k (e _ _ q) (RepF.mono e r) n
theorem RepL.mono (e : Same F F') : ∀ {v : List V} {x : List D}, RepL c F v x → RepL c F' v x
  | _, _, .nil => .nil
  | _, _, .cons h r => .cons (Rep.mono e h) (RepL.mono e r)
theorem RepF.mono (e : Same F F') : ∀ {v : List (Str × V)} {x : List (Str × D)}, RepF c F v x → RepF c F' v x
  | _, _, .nil => .nil
  | _, _, .cons h r => .cons (Rep.mono e h) (RepF.mono e r)
end
theorem RepL.length : ∀ {vs : List V} {xs : List D}, RepL c F vs xs → vs.length = xs.length
  | _, _, .nil => rfl
  | _, _, .cons _ r => by rw [List.length_cons, List.length_cons, RepL.length r]
theorem RepL.get : ∀ {vs : List V} {xs : List D} {i : Nat} {x : D}, RepL c F vs xs → xs[i]? = some x → ∃ v, vs[i]? = some v ∧ Rep c F v x
  | _, _, i, _, .nil, e => by simp at e
  | _, _, 0, _, .cons h r, e => ⟨_, rfl, by simp at e; subst e; exact h⟩
  | _, _, i + 1, _, .cons h r, e => by simpa using RepL.get (i := i) r (by simpa using e)
theorem RepL.getV : ∀ {vs : List V} {xs : List D} {i : Nat} {v : V}, RepL c F vs xs → vs[i]? = some v → ∃ x, xs[i]? = some x ∧ Rep c F v x
  | _, _, i, _, .nil, e => by simp at e
  | _, _, 0, _, .cons h r, e => ⟨_, rfl, by simp at e; subst e; exact h⟩
  | _, _, i + 1, _, .cons h r, e => by simpa using RepL.getV (i := i) r (by simpa using e)
theorem RepL.append : ∀ {vs ws : List V} {xs ys : List D}, RepL c F vs xs → RepL c F ws ys → RepL c F (vs ++ ws) (xs ++ ys)
  | _, _, _, _, .nil, s => s
  | _, _, _, _, .cons h r, s => .cons h (RepL.append r s)
theorem RepL.take : ∀ {vs : List V} {xs : List D} (n : Nat), RepL c F vs xs → RepL c F (vs.take n) (xs.take n)
  | _, _, 0, _ => .nil
  | _, _, _ + 1, .nil => .nil
  | _, _, n + 1, .cons h r => .cons h (RepL.take n r)
theorem RepL.drop : ∀ {vs : List V} {xs : List D} (n : Nat), RepL c F vs xs → RepL c F (vs.drop n) (xs.drop n)
  | _, _, 0, r => r
  | _, _, _ + 1, .nil => .nil
  | _, _, n + 1, .cons _ r => RepL.drop n r
theorem RepL.set {v : V} {x : D} (h : Rep c F v x) : ∀ {vs : List V} {xs : List D} (i : Nat), RepL c F vs xs → RepL c F (vs.set i v) (xs.set i x)
  | _, _, _, .nil => .nil
  | _, _, 0, .cons _ r => .cons h r
  | _, _, i + 1, .cons k r => .cons k (RepL.set h i r)
theorem RepL.reverse {vs : List V} {xs : List D} (h : RepL c F vs xs) : RepL c F vs.reverse xs.reverse := by
  induction h using RepL.rec (motive_1 := fun _ _ _ => True) (motive_3 := fun _ _ _ => True) with
  | nil => exact .nil
  | cons h r _ ih => rw [List.reverse_cons, List.reverse_cons]; exact RepL.append ih (.cons h .nil)
  | _ => trivial
theorem RepF.look : ∀ {gs : List (Str × V)} {fs : List (Str × D)} {f : Str} {x : D}, RepF c F gs fs → fs.lookup f = some x → ∃ v, gs.lookup f = some v ∧ Rep c F v x
  | _, _, f, x, .nil, e => by simp at e
  | _, _, f, x, .cons (f := g) h r, e => by
    by_cases hg : f == g
    · rw [List.lookup_cons, hg] at e
      have e' := Option.some.inj e
      exact ⟨_, by rw [List.lookup_cons, hg], e' ▸ h⟩
    · have hg' : (f == g) = false := by simpa using hg
      rw [List.lookup_cons, hg'] at e
      obtain ⟨v, h1, h2⟩ := RepF.look r e
      exact ⟨v, by rw [List.lookup_cons, hg']; exact h1, h2⟩
theorem RepF.lookN : ∀ {gs : List (Str × V)} {fs : List (Str × D)} {f : Str}, RepF c F gs fs → fs.lookup f = none → gs.lookup f = none
  | _, _, f, .nil, e => rfl
  | _, _, f, .cons (f := g) h r, e => by
    by_cases hg : f == g
    · rw [List.lookup_cons, hg] at e; cases e
    · have hg' : (f == g) = false := by simpa using hg
      rw [List.lookup_cons, hg'] at e ⊢
      exact RepF.lookN r e

def Soft (F : Hp) (a : Addr) : Prop := F a = none ∨ (∃ xs, F a = some (.lst xs)) ∨ (∃ xs, F a = some (.dK xs)) ∨ (∃ xs, F a = some (.dT xs))
theorem Soft.nt {a : Addr} (h : Soft F a) {o : HO} (e : F a = some o) : Nt o := by
  rcases h with q | ⟨xs, q⟩ | ⟨xs, q⟩ | ⟨xs, q⟩ <;> rw [e] at q <;> cases q <;> exact ⟨fun _ h => (nomatch h), fun ⟨_, _, _, _, h⟩ => (nomatch h)⟩
theorem Soft.ob {a : Addr} (h : Soft F a) {o : HO} (e : F a = some o) : Ob o := by
  rcases h with q | ⟨xs, q⟩ | ⟨xs, q⟩ | ⟨xs, q⟩ <;> rw [e] at q <;> cases q <;> exact ⟨⟨fun _ h => (nomatch h), fun ⟨_, _, _, _, h⟩ => (nomatch h)⟩, fun _ => HO.noConfusion⟩
theorem Soft.thr {a : Addr} (h : Soft F a) (e : F a ≠ none) : Thr F a := by
  cases q : F a with
  | none => exact absurd q e
  | some o => exact ⟨o, q, h.ob q⟩
theorem Soft.sqT {A : Addr → Prop} (hA : ∀ a, A a → Soft F a) (hF : ∀ a, ¬ A a → F' a = F a) {a : Addr} {vs : List V} (h : SqT c.K F a vs) : SqT c.K F' a vs := by
  rcases h with (h | ⟨o, h⟩) | h
  · refine .inl (.inl ?_)
    rw [hF a fun z => ?_]; exact h
    rcases hA a z with q | ⟨xs, q⟩ | ⟨xs, q⟩ | ⟨xs, q⟩ <;> rw [h] at q <;> cases q
  · refine .inl (.inr ⟨o, ?_⟩)
    rw [hF a fun z => ?_]; exact h
    rcases hA a z with q | ⟨xs, q⟩ | ⟨xs, q⟩ | ⟨xs, q⟩ <;> rw [h] at q <;> cases q
  · exact .inr h
mutual
theorem Rep.soft {A : Addr → Prop} (hA : ∀ a, A a → Soft F a) (hF : ∀ a, ¬ A a → F' a = F a) : ∀ {v : V} {x : D}, Rep c F v x → x.imm = true → Rep c F' v x
  | _, _, .non, _ => .non
  | _, _, .bl b, _ => .bl b
  | _, _, .int b, _ => .int b
  | _, _, .str b, _ => .str b
  | _, _, .tup (a := a) h r, m => by
    have q : ¬ A a := fun z => by
      rcases hA a z with q | ⟨xs, q⟩ | ⟨xs, q⟩ | ⟨xs, q⟩ <;> rw [h] at q <;> cases q
    exact .tup ((hF a q).trans h) (RepL.soft hA hF r (by simpa only [D.imm] using m))
  | _, _, .lst h r, m => by simp [D.imm] at m
  | _, _, .ins (a := a) h k r, m => by
    have q : ¬ A a := fun z => by
      rcases hA a z with q | ⟨xs, q⟩ | ⟨xs, q⟩ | ⟨xs, q⟩ <;> rw [h] at q <;> cases q
    exact .ins ((hF a q).trans h) k (RepF.soft hA hF r (by simpa only [D.imm] using m))
  | _, _, .drw h, _ => .drw h
  | _, _, .scr h, m => by simp [D.imm] at m
  | _, _, .dicK h k r, m => by simp [D.imm] at m
  | _, _, .dicT h k r, m => by simp [D.imm] at m
  | _, _, .fn, _ => .fn
  | _, _, .edt, _ => .edt
  | _, _, .any, _ => .any
  | _, _, .exc0 h k, m => by simp [D.imm] at m
  | _, _, .exc1 h k q r n, m => by simp [D.imm] at m
theorem RepL.soft {A : Addr → Prop} (hA : ∀ a, A a → Soft F a) (hF : ∀ a, ¬ A a → F' a = F a) : ∀ {v : List V} {x : List D}, RepL c F v x → D.immL x = true → RepL c F' v x
  | _, _, .nil, _ => .nil
  | _, _, .cons h r, m => by
    simp only [D.immL, Bool.and_eq_true] at m
    exact .cons (Rep.soft hA hF h m.1) (RepL.soft hA hF r m.2)
theorem RepF.soft {A : Addr → Prop} (hA : ∀ a, A a → Soft F a) (hF : ∀ a, ¬ A a → F' a = F a) : ∀ {v : List (Str × V)} {x : List (Str × D)}, RepF c F v x → D.immF x = true → RepF c F' v x
  | _, _, .nil, _ => .nil
  | _, _, .cons h r, m => by
    simp only [D.immF, Bool.and_eq_true] at m
    exact .cons (Rep.soft hA hF h m.1) (RepF.soft hA hF r m.2)
end
end

def OwnAt (c : Pm) (F H : Hp) (p : Addr) (x : D) : Prop := match x with
  | .lst xs => ∃ vs, H p = some (.lst vs) ∧ RepL c F vs xs
  | .dic false kvs => ∃ ks : List (Key × V), H p = some (.dK ks) ∧ kvs.map (·.1) = ks.map (fun q => keyD q.1) ∧ RepL c F (ks.map (·.2)) (kvs.map (·.2))
  | .dic true kvs => ∃ ks : List (List Key × V), H p = some (.dT ks) ∧ kvs.map (·.1) = ks.map (fun q => .tup (q.1.map keyD)) ∧ RepL c F (ks.map (·.2)) (kvs.map (·.2))
  | _ => False
theorem OwnAt.obj {c : Pm} {F H : Hp} {p : Addr} {x : D} (h : OwnAt c F H p x) : (∃ vs, H p = some (.lst vs)) ∨ (∃ ks, H p = some (.dK ks)) ∨ ∃ ks, H p = some (.dT ks) := by
  cases x <;> try exact h.elim
  · obtain ⟨vs, h1, h2⟩ := h
    exact .inl ⟨_, h1⟩
  · rename_i t kvs
    cases t
    · obtain ⟨vs, h1, h2⟩ := h
      exact .inr (.inl ⟨_, h1⟩)
    · obtain ⟨vs, h1, h2⟩ := h
      exact .inr (.inr ⟨_, h1⟩)
theorem OwnAt.mono {c : Pm} {F F' H H' : Hp} {p : Addr} {x : D} (h : OwnAt c F H p x) (e : Same F F') (eh : ∀ o, H p = some o → H' p = some o) : OwnAt c F' H' p x := by
  cases x <;> try exact h
  · obtain ⟨vs, h1, h2⟩ := h
    exact ⟨vs, eh _ h1, h2.mono e⟩
  · rename_i t kvs
    cases t
    · obtain ⟨vs, h1, h2, h3⟩ := h
      exact ⟨vs, eh _ h1, h2, h3.mono e⟩
    · obtain ⟨vs, h1, h2, h3⟩ := h
      exact ⟨vs, eh _ h1, h2, h3.mono e⟩
theorem nt_dT {kvs : List (List Key × V)} : Nt (.dT kvs) := ⟨fun _ h => (nomatch h), fun ⟨_, _, _, _, h⟩ => (nomatch h)⟩
theorem ob_dT {kvs : List (List Key × V)} : Ob (.dT kvs) := ⟨nt_dT, fun _ h => by cases h⟩
theorem OwnAt.thr {c : Pm} {F H : Hp} {p : Addr} {x : D} (h : OwnAt c F H p x) : Thr H p := by
  rcases h.obj with ⟨_, q⟩ | ⟨_, q⟩ | ⟨_, q⟩
  · exact .lst q
  · exact .dK q
  · exact ⟨_, q, ob_dT⟩
theorem OwnAt.ntl {c : Pm} {F H : Hp} {p : Addr} {x : D} (h : OwnAt c F H p x) {o : HO} (e : H p = .some o) : Nt o := by
  obtain ⟨o', e', n⟩ := h.thr
  rw [e] at e'
  cases e'
  exact n.1
theorem OwnAt.some {c : Pm} {F H : Hp} {p : Addr} {x : D} (h : OwnAt c F H p x) : H p ≠ none := fun z => Nil.of z h.thr
theorem OwnAt.softH {c : Pm} {F H : Hp} {p : Addr} {x : D} (h : OwnAt c F H p x) : Soft H p := by
  rcases h.obj with q | q | q
  · exact .inr (.inl q)
  · exact .inr (.inr (.inl q))
  · exact .inr (.inr (.inr q))
theorem OwnAt.rep {c : Pm} {F F' H : Hp} {p : Addr} {x : D} (h : OwnAt c F H p x) (e : Same F F') (hp : F' p = H p) : Rep c F' (.ref p) x := by
  cases x <;> try exact h.elim
  · obtain ⟨vs, h1, h2⟩ := h
    exact .lst (hp.trans h1) (h2.mono e)
  · rename_i t kvs
    cases t
    · obtain ⟨vs, h1, h2, h3⟩ := h
      exact .dicK (.inl (hp.trans h1)) h2 (h3.mono e)
    · obtain ⟨vs, h1, h2, h3⟩ := h
      exact .dicT (.inl (hp.trans h1)) h2 (h3.mono e)
theorem immV_snd : ∀ {kvs : List (D × D)}, immV kvs = true → D.immL (kvs.map (·.2)) = true
  | [], _ => rfl
  | (k, v) :: r, h => by
    simp only [immV, Bool.and_eq_true] at h
    simp only [List.map_cons, D.immL, Bool.and_eq_true]
    exact ⟨h.1.2, immV_snd h.2⟩
theorem OwnAt.soft {c : Pm} {F F' H : Hp} {p : Addr} {x : D} {A : Addr → Prop} (hA : ∀ a, A a → Soft F a) (hF : ∀ a, ¬ A a → F' a = F a) (h : OwnAt c F H p x) (m : x.kids = true) : OwnAt c F' H p x := by
  cases x <;> try exact h.elim
  · obtain ⟨vs, h1, h2⟩ := h
    exact ⟨vs, h1, h2.soft hA hF (by simpa only [D.kids] using m)⟩
  · rename_i t kvs
    simp only [D.kids] at m
    cases t
    · obtain ⟨vs, h1, h2, h3⟩ := h
      exact ⟨vs, h1, h2, h3.soft hA hF (immV_snd m)⟩
    · obtain ⟨vs, h1, h2, h3⟩ := h
      exact ⟨vs, h1, h2, h3.soft hA hF (immV_snd m)⟩

def drK (W : Dr) (a1 a2 : Addr) : List (Key × V) := [(Sum.inr "wide", .ref a1), (Sum.inr "cells", .ref a2), (Sum.inr "rest", .int W.rest), (Sum.inr "turn", .int W.turn)]
def DrawAt (c : Pm) (W : Dr) (H : Hp) : Prop := c.dl = [] ∨ ∃ a0 a1, c.dl = [a0, a1] ∧ a0 ≠ a1 ∧ H a0 = some (.dK (drK W a1 c.d2)) ∧ H a1 = some (.lst (W.wide.map .int))
theorem DrawAt.nt {c : Pm} {W : Dr} {H : Hp} (h : DrawAt c W H) {a : Addr} (ha : a ∈ c.dl) {o : HO} (e : H a = .some o) : Nt o := by
  rcases h with h | ⟨a0, a1, h, _, e0, e1⟩
  · rw [h] at ha; simp at ha
  · rw [h] at ha
    simp only [List.mem_cons, List.not_mem_nil, or_false] at ha
    rcases ha with rfl | rfl
    · rw [e0] at e; cases e; exact nt_dK
    · rw [e1] at e; cases e; exact nt_lst
theorem DrawAt.some {c : Pm} {W : Dr} {H : Hp} (h : DrawAt c W H) {a : Addr} (ha : a ∈ c.dl) : H a ≠ none := by
  rcases h with h | ⟨a0, a1, h, _, e0, e1⟩
  · rw [h] at ha; simp at ha
  · rw [h] at ha
    simp only [List.mem_cons, List.not_mem_nil, or_false] at ha
    rcases ha with rfl | rfl
    · rw [e0]; simp
    · rw [e1]; simp

def EdAt (c : Pm) (W : Dr) (F H : Hp) : Prop := ∀ a s u, (a, s, u) ∈ W.ed → ∃ C dx v1 v2, c.ca "Editor" = some C ∧ H a = some (.ins C dx [("e_step", v1), ("e_undone", v2)]) ∧ Rep c F v1 s ∧ Rep c F v2 u ∧ s.imm = true ∧ u.imm = true
theorem EdAt.up {c : Pm} {W : Dr} {F H F' H' : Hp} (h : EdAt c W F H) (e : Same F F') (k : ∀ a o, H a = some o → EdO o → H' a = some o) : EdAt c W F' H' := fun a s u m => by
  obtain ⟨C, dx, v1, v2, h1, h2, h3, h4, h5⟩ := h a s u m
  exact ⟨C, dx, v1, v2, h1, k _ _ h2 ⟨_, _, _, _, rfl⟩, h3.mono e, h4.mono e, h5⟩
theorem EdAt.soft {c : Pm} {W : Dr} {F H F' : Hp} {A : Addr → Prop} (h : EdAt c W F H) (hA : ∀ a, A a → Soft F a) (hF : ∀ a, ¬ A a → F' a = F a) : EdAt c W F' H := fun a s u m => by
  obtain ⟨C, dx, v1, v2, h1, h2, h3, h4, h5, h6⟩ := h a s u m
  exact ⟨C, dx, v1, v2, h1, h2, h3.soft hA hF h5, h4.soft hA hF h6, h5, h6⟩
def NE (H : Hp) (a : Addr) : Prop := ∀ o, H a = some o → ¬ EdO o
theorem NE.of {H : Hp} {a : Addr} {o : HO} (h : H a = some o) (n : Nt o) : NE H a := fun o' e => by
  rw [h] at e; cases e; exact n.2
theorem NE.none {H : Hp} {a : Addr} (h : H a = .none) : NE H a := fun o e => by rw [h] at e; cases e
theorem OwnAt.ne {c : Pm} {F H : Hp} {p : Addr} {x : D} (h : OwnAt c F H p x) : NE H p := fun o e => (h.ntl e).2
theorem EdAt.nil {c : Pm} {W : Dr} {F H : Hp} (h : W.ed = []) : EdAt c W F H := fun a s u m => by rw [h] at m; cases m
structure Stp (c : Pm) (W : Dr) (F H F' H' : Hp) : Prop where
  f : Same F F'
  sub : Same F' H'
  h : ∀ a o, H a = some o → a ∉ c.mv → Nt o → H' a = some o
  new : ∀ a, F a = none → Thr H a → F' a = none
  nt : ∀ a o, F' a = some o → Nt o
  av : ∀ a ∈ c.mv, F' a = none
  dr : DrawAt c W H'
  cl : c.dl ≠ [] → F' c.d2 = some (.lst (W.cells.map .int))
  tabs : LamX.Tabs c.tb H'
  ed : EdAt c W F' H'
section
variable {c : Pm} {W W' W1 : Dr} {F H F' H' F1 H1 : Hp}
theorem Stp.sm (s : Stp c W F H F' H') {a : Addr} (ha : a ∈ c.mv) : H' a ≠ none := by
  unfold Pm.mv at ha
  rcases List.mem_append.mp ha with h | h
  · exact s.dr.some h
  · obtain ⟨p, h1, h2⟩ := List.mem_map.mp h
    obtain ⟨ps, e, _⟩ := s.tabs p h1
    rw [← h2, e]
    exact fun z => nomatch z
theorem Stp.there (s : Stp c W F H F' H') {a : Addr} (m : a ∉ c.mv) (e : Thr H a) : Thr H' a := by
  obtain ⟨o, e, n⟩ := e
  exact ⟨o, s.h a o e m n.1, n⟩
theorem Stp.keepN (s : Stp c W F H F' H') {a : Addr} (m : a ∉ c.mv) (e : Nil H' a) : Nil H a := fun z => e (s.there m z)
theorem Stp.fresh (s : Stp c W F H F' H') {a : Addr} (e : H' a = none) : a ∉ c.mv := fun z => s.sm z e
theorem Stp.trans (a : Stp c W F H F1 H1) (b : Stp c W' F1 H1 F' H') : Stp c W' F H F' H' :=
  ⟨fun x o e => b.f x o (a.f x o e), b.sub, fun x o e n k => b.h x o (a.h x o e n k) n k, fun x e n => if m : x ∈ c.mv then b.av x m else b.new x (a.new x e n) (a.there m n), b.nt, b.av, b.dr, b.cl, b.tabs, b.ed⟩
theorem Stp.refl (s : Stp c W F H F' H') : Stp c W F' H' F' H' := ⟨Same.refl _, s.sub, fun _ _ e _ _ => e, fun _ e _ => e, s.nt, s.av, s.dr, s.cl, s.tabs, s.ed⟩
end

def SlfAt (c : Pm) (H0 F H : Hp) (p : Addr) (n : Str) (fs : List (Str × D)) : Prop := F p = none ∧ p ∉ c.mv ∧ Nil H0 p ∧ ∃ C dx gs, H p = some (.ins C dx gs) ∧ c.ca n = some C ∧ RepF c F gs fs ∧ Nt (.ins C dx gs)
def SlotOk (c : Pm) (H0 F H : Hp) : Sl → Option (Option V) → Prop
  | .un, o => o ≠ none
  | .val x, o => ∃ v, o = some (some v) ∧ Rep c F v x
  | .own x, o => ∃ p, o = some (some (.ref p)) ∧ F p = none ∧ p ∉ c.mv ∧ Nil H0 p ∧ OwnAt c F H p x
  | .slf p n fs, o => o = some (some (.ref p)) ∧ SlfAt c H0 F H p n fs
structure Rel (c : Pm) (F0 H0 : Hp) (ρ : En) (σ : L2.St) (F H : Hp) (W : Dr) : Prop where
  len : ρ.length = σ.length
  stp : Stp c W F0 H0 F H
  slot : ∀ (i : Nat) (s : Sl), ρ[i]? = some s → SlotOk c H0 F H s σ[i]?
  dist : ∀ (i j : Nat) (x y : D) (p : Addr), ρ[i]? = some (.own x) → ρ[j]? = some (.own y) → σ[i]? = some (some (.ref p)) → σ[j]? = some (some (.ref p)) → i = j

def AtS (σ : L2.St) (t : List Nat) (a : Addr) : Prop := ∃ i, i ∈ t ∧ σ[i]? = some (some (.ref a))
noncomputable def Fz (F H : Hp) (σ : L2.St) (t : List Nat) : Hp := fun a => if AtS σ t a then H a else F a
theorem Fz_nil {F H : Hp} {σ : L2.St} : Fz F H σ [] = F := by
  funext a; unfold Fz; rw [if_neg]; rintro ⟨i, h, _⟩; simp at h
theorem Fz_in {F H : Hp} {σ : L2.St} {t : List Nat} {a : Addr} (h : AtS σ t a) : Fz F H σ t a = H a := if_pos h
theorem Fz_out {F H : Hp} {σ : L2.St} {t : List Nat} {a : Addr} (h : ¬ AtS σ t a) : Fz F H σ t a = F a := if_neg h
theorem Fz_up {F H : Hp} {σ : L2.St} {t : List Nat} (s : Same F H) : Same F (Fz F H σ t) := fun a o e => by
  by_cases h : AtS σ t a
  · rw [Fz_in h]; exact s a o e
  · rw [Fz_out h]; exact e
theorem Fz_dn {F H : Hp} {σ : L2.St} {t : List Nat} (s : Same F H) : Same (Fz F H σ t) H := fun a o e => by
  by_cases h : AtS σ t a
  · rw [Fz_in h] at e; exact e
  · rw [Fz_out h] at e; exact s a o e
theorem Fz_mono {F H : Hp} {σ : L2.St} {t t' : List Nat} (s : Same F H) (ht : ∀ i ∈ t, i ∈ t') : Same (Fz F H σ t) (Fz F H σ t') := fun a o e => by
  by_cases h' : AtS σ t' a
  · rw [Fz_in h']; exact Fz_dn s a o e
  · have h : ¬ AtS σ t a := fun ⟨i, h1, h2⟩ => h' ⟨i, ht i h1, h2⟩
    rw [Fz_out h']; rw [Fz_out h] at e; exact e

def ExOk (c : Pm) (F : Hp) (x : D) (cls : Value) (dd : Option Addr) : Prop := match x with
  | .exc n fs => ∃ C, c.cx n = some C ∧ cls = .ref C ∧ match fs with
    | [] => dd = none
    | fs => D.immF fs = true ∧ ∃ a gs, dd = some a ∧ F a = some (.xd gs) ∧ RepF c F gs fs
  | _ => False

structure ValOk (c : Pm) (ρ : En) (σ : L2.St) (Hs F H : Hp) (u : V) (v : Vl) : Prop where
  own : ∀ i ∈ v.all, ∃ x, ρ[i]? = some (.own x)
  at_ : match v.k with
    | .pl => Rep c (Fz F H σ v.t) u v.d
    | .me i => v.t = [] ∧ ρ[i]? = some (.own v.d) ∧ σ[i]? = some (some u)
    | .fr => ∃ p, u = .ref p ∧ F p = none ∧ p ∉ c.mv ∧ Nil Hs p ∧ OwnAt c (Fz F H σ v.t) H p v.d

def TmpAt : List V → List Vl → Addr → Prop
  | u :: us, v :: vs, a => (v.k = .fr ∧ u = .ref a) ∨ TmpAt us vs a
  | _, _, _ => False
def Apart : List V → List Vl → Prop
  | u :: us, v :: vs => (∀ a, v.k = .fr → u = .ref a → ¬ TmpAt us vs a) ∧ Apart us vs
  | _, _ => True

def Pst (c : Pm) (Wx : WX) (σ : L2.St) (F H : Hp) {α β : Type} (ok : α → β → Hp → Hp → Prop) (Q : β → Hp → Prop) : Out α → Prop
  | .ok a W' => ∀ b F' H', Stp c W' F H F' H' → ok a b F' H' → Q b H'
  | .ex x W' => ∀ cls dd F' H', Stp c W' F H F' H' → ExOk c F' x cls dd → Wx cls dd σ H'
  | .stk => False
end Z

namespace Z
open PySem PySem.Spec PyProof.Rows L2
open Classical
section
variable {c : Pm} {W W' W1 W2 : Dr} {F0 H0 F H F' H' F1 H1 F2 H2 Hs : Hp} {ρ : En} {σ : L2.St} {u w : V} {v : Vl}

theorem Rel.step (R : Rel c F0 H0 ρ σ F H W) (s : Stp c W' F H F' H') : Rel c F0 H0 ρ σ F' H' W' := by
  refine ⟨R.len, R.stp.trans s, fun i x e => ?_, R.dist⟩
  have k := R.slot i x e
  cases x with
  | un => exact k
  | val x => obtain ⟨v, h1, h2⟩ := k; exact ⟨v, h1, h2.mono s.f⟩
  | own x =>
    obtain ⟨p, h1, h2, h3, h4, h5⟩ := k
    exact ⟨p, h1, s.new p h2 h5.thr, h3, h4, h5.mono s.f fun o e => s.h p o e h3 (h5.ntl e)⟩
  | slf p n fs =>
    obtain ⟨h1, h2, h3, h4, C, dx, gs, h5, h6, h7, h8⟩ := k
    exact ⟨h1, s.new p h2 (.ins h5 h8), h3, h4, C, dx, gs, s.h p _ h5 h3 h8, h6, h7.mono s.f, h8⟩
theorem Rel.own (R : Rel c F0 H0 ρ σ F H W) {i : Nat} {x : D} (e : ρ[i]? = some (.own x)) : ∃ p, σ[i]? = some (some (.ref p)) ∧ F p = none ∧ p ∉ c.mv ∧ Nil H0 p ∧ OwnAt c F H p x := R.slot i _ e
theorem Rel.at_ (R : Rel c F0 H0 ρ σ F H W) {t : List Nat} (ht : ∀ i ∈ t, ∃ x, ρ[i]? = some (.own x)) {a : Addr} (h : AtS σ t a) : F a = none ∧ a ∉ c.mv ∧ Soft H a ∧ H a ≠ none := by
  obtain ⟨i, hi, e⟩ := h
  obtain ⟨x, hx⟩ := ht i hi
  obtain ⟨p, h1, h2, h3, h4, h5⟩ := R.own hx
  have q : a = p := by
    rw [e] at h1
    exact V.ref.inj (Option.some.inj (Option.some.inj h1))
  subst q
  exact ⟨h2, h3, h5.softH, h5.some⟩
theorem Fz_step (R : Rel c F0 H0 ρ σ F H W) {t : List Nat} (ht : ∀ i ∈ t, ∃ x, ρ[i]? = some (.own x)) (s : Stp c W' F H F' H') : Same (Fz F H σ t) (Fz F' H' σ t) := fun a o e => by
  by_cases h : AtS σ t a
  · obtain ⟨_, h2, h3, _⟩ := R.at_ ht h
    rw [Fz_in h] at e ⊢
    exact s.h a o e h2 (h3.nt e)
  · rw [Fz_out h] at e ⊢
    exact s.f a o e
theorem Fz_soft (R : Rel c F0 H0 ρ σ F H W) {t : List Nat} (ht : ∀ i ∈ t, ∃ x, ρ[i]? = some (.own x)) : (∀ a, AtS σ t a → Soft (Fz F H σ t) a) ∧ ∀ a, ¬ AtS σ t a → F a = Fz F H σ t a :=
  ⟨fun a h => by
    have q := (R.at_ ht h).2.2.1
    unfold Soft at q ⊢
    rw [Fz_in h]; exact q, fun a h => (Fz_out h).symm⟩
theorem ValOk.t_own {v : Vl} (k : ValOk c ρ σ Hs F H u v) : ∀ i ∈ v.t, ∃ x, ρ[i]? = some (.own x) := fun i hi => k.own i (by
  unfold Vl.all; split
  · exact List.mem_cons_of_mem _ hi
  · exact hi)
theorem ValOk.step (R : Rel c F0 H0 ρ σ F H W) (k : ValOk c ρ σ Hs F H u v) (s : Stp c W' F H F' H') : ValOk c ρ σ Hs F' H' u v := by
  refine ⟨k.own, ?_⟩
  have ht := k.t_own
  have a := k.at_
  revert a
  cases v.k with
  | pl => exact fun a => a.mono (Fz_step R ht s)
  | me i => exact fun a => a
  | fr =>
    rintro ⟨p, h1, h2, h3, h4, h5⟩
    exact ⟨p, h1, s.new p h2 h5.thr, h3, h4, h5.mono (Fz_step R ht s) fun o e => s.h p o e h3 (h5.ntl e)⟩
theorem ValOk.start {Hs' : Hp} (k : ValOk c ρ σ Hs F H u v) (h : ∀ a, a ∉ c.mv → Nil Hs a → Nil Hs' a) : ValOk c ρ σ Hs' F H u v := by
  refine ⟨k.own, ?_⟩
  have a := k.at_
  revert a
  cases v.k with
  | pl => exact fun a => a
  | me i => exact fun a => a
  | fr =>
    rintro ⟨p, h1, h2, h3, h4, h5⟩
    exact ⟨p, h1, h2, h3, h _ h3 h4, h5⟩

theorem Rep.intI {i : Int} (r : Rep c F u (.int i)) : u = .int i := by cases r; rfl
theorem Rep.strI {i : Str} (r : Rep c F u (.str i)) : u = .str i := by cases r; rfl
theorem Rep.blI {i : Bool} (r : Rep c F u (.bl i)) : u = .bl i := by cases r; rfl
theorem Rep.nonI (r : Rep c F u .non) : u = .non := by cases r; rfl
theorem Rep.tupI {xs : List D} (r : Rep c F u (.tup xs)) : ∃ a vs, u = .ref a ∧ SqT c.K F a vs ∧ RepL c F vs xs := by cases r with | tup h r => exact ⟨_, _, rfl, .inl (.inl h), r⟩
theorem Rep.tupP {xs : List D} (r : Rep c F u (.tup xs)) : ∃ a vs, u = .ref a ∧ F a = some (.tup vs) ∧ RepL c F vs xs := by cases r with | tup h r => exact ⟨_, _, rfl, h, r⟩
theorem Rep.lstI {xs : List D} (r : Rep c F u (.lst xs)) : ∃ a vs, u = .ref a ∧ F a = some (.lst vs) ∧ RepL c F vs xs := by cases r with | lst h r => exact ⟨_, _, rfl, h, r⟩
theorem Rep.insI {n : Str} {fs : List (Str × D)} (r : Rep c F u (.ins n fs)) : ∃ a C dx gs, u = .ref a ∧ F a = some (.ins C dx gs) ∧ c.ca n = some C ∧ RepF c F gs fs := by cases r with | ins h k r => exact ⟨_, _, _, _, rfl, h, k, r⟩
theorem ValOk.rep {x : D} (R : Rel c F0 H0 ρ σ F H W) (k : ValOk c ρ σ Hs F H u v) (e : v.d = x) (hx : ∀ F H p, ¬ OwnAt c F H p x) : Rep c (Fz F H σ v.t) u x := by
  subst e
  have a := k.at_
  revert a
  cases v.k with
  | pl => exact fun a => a
  | me i =>
    rintro ⟨h1, h2, h3⟩
    obtain ⟨p, _, _, _, _, h⟩ := R.own h2
    exact (hx _ _ _ h).elim
  | fr =>
    rintro ⟨p, _, _, _, _, h⟩
    exact (hx _ _ _ h).elim
theorem ValOk.int {i : Int} (R : Rel c F0 H0 ρ σ F H W) (k : ValOk c ρ σ Hs F H u v) (e : v.d = .int i) : u = .int i := (k.rep R e fun _ _ _ h => h).intI
theorem ValOk.str {i : Str} (R : Rel c F0 H0 ρ σ F H W) (k : ValOk c ρ σ Hs F H u v) (e : v.d = .str i) : u = .str i := (k.rep R e fun _ _ _ h => h).strI
theorem ValOk.bl {i : Bool} (R : Rel c F0 H0 ρ σ F H W) (k : ValOk c ρ σ Hs F H u v) (e : v.d = .bl i) : u = .bl i := (k.rep R e fun _ _ _ h => h).blI
theorem ValOk.non (R : Rel c F0 H0 ρ σ F H W) (k : ValOk c ρ σ Hs F H u v) (e : v.d = .non) : u = .non := (k.rep R e fun _ _ _ h => h).nonI
theorem ValOk.tup {xs : List D} (R : Rel c F0 H0 ρ σ F H W) (k : ValOk c ρ σ Hs F H u v) (e : v.d = .tup xs) : ∃ a vs, u = .ref a ∧ SqT c.K (Fz F H σ v.t) a vs ∧ RepL c (Fz F H σ v.t) vs xs := (k.rep R e fun _ _ _ h => h).tupI
theorem ValOk.tupP {xs : List D} (R : Rel c F0 H0 ρ σ F H W) (k : ValOk c ρ σ Hs F H u v) (e : v.d = .tup xs) : ∃ a vs, u = .ref a ∧ Fz F H σ v.t a = some (.tup vs) ∧ RepL c (Fz F H σ v.t) vs xs := (k.rep R e fun _ _ _ h => h).tupP
theorem ValOk.lst {xs : List D} (R : Rel c F0 H0 ρ σ F H W) (k : ValOk c ρ σ Hs F H u v) (e : v.d = .lst xs) : ∃ a vs, u = .ref a ∧ H a = some (.lst vs) ∧ RepL c (Fz F H σ v.t) vs xs := by
  have a := k.at_
  rw [e] at a
  revert a
  cases v.k with
  | pl =>
    intro a
    obtain ⟨p, vs, h1, h2, h3⟩ := a.lstI
    exact ⟨p, vs, h1, Fz_dn R.stp.sub _ _ h2, h3⟩
  | me i =>
    rintro ⟨h1, h2, h3⟩
    obtain ⟨p, e1, _, _, _, vs, e2, e3⟩ := R.own h2
    rw [h3] at e1
    refine ⟨p, vs, Option.some.inj (Option.some.inj e1), e2, ?_⟩
    rw [h1, Fz_nil]; exact e3
  | fr =>
    rintro ⟨p, h1, _, _, _, vs, e2, e3⟩
    exact ⟨p, vs, h1, e2, e3⟩

theorem ValOk.dicK {kvs : List (D × D)} (R : Rel c F0 H0 ρ σ F H W) (k : ValOk c ρ σ Hs F H u v) (e : v.d = .dic false kvs) : ∃ a, ∃ ks : List (Key × V), u = .ref a ∧ Rd H a (.dK ks) ∧ kvs.map (·.1) = ks.map (fun q => keyD q.1) ∧ RepL c (Fz F H σ v.t) (ks.map (·.2)) (kvs.map (·.2)) := by
  have a := k.at_
  rw [e] at a
  revert a
  cases v.k with
  | pl =>
    intro a
    cases a with
    | dicK h1 h2 h3 => exact ⟨_, _, rfl, Rd.mono (Fz_dn R.stp.sub) h1, h2, h3⟩
  | me i =>
    rintro ⟨h1, h2, h3⟩
    obtain ⟨p, e1, _, _, _, vs, e2, e3, e4⟩ := R.own h2
    rw [h3] at e1
    refine ⟨p, vs, Option.some.inj (Option.some.inj e1), .inl e2, e3, ?_⟩
    rw [h1, Fz_nil]; exact e4
  | fr =>
    rintro ⟨p, h1, _, _, _, vs, e2, e3, e4⟩
    exact ⟨p, vs, h1, .inl e2, e3, e4⟩

theorem ValOk.dicT {kvs : List (D × D)} (R : Rel c F0 H0 ρ σ F H W) (k : ValOk c ρ σ Hs F H u v) (e : v.d = .dic true kvs) : ∃ a, ∃ ks : List (List Key × V), u = .ref a ∧ Rd H a (.dT ks) ∧ kvs.map (·.1) = ks.map (fun q => .tup (q.1.map keyD)) ∧ RepL c (Fz F H σ v.t) (ks.map (·.2)) (kvs.map (·.2)) := by
  have a := k.at_
  rw [e] at a
  revert a
  cases v.k with
  | pl =>
    intro a
    cases a with
    | dicT h1 h2 h3 => exact ⟨_, _, rfl, Rd.mono (Fz_dn R.stp.sub) h1, h2, h3⟩
  | me i =>
    rintro ⟨h1, h2, h3⟩
    obtain ⟨p, e1, _, _, _, vs, e2, e3, e4⟩ := R.own h2
    rw [h3] at e1
    refine ⟨p, vs, Option.some.inj (Option.some.inj e1), .inl e2, e3, ?_⟩
    rw [h1, Fz_nil]; exact e4
  | fr =>
    rintro ⟨p, h1, _, _, _, vs, e2, e3, e4⟩
    exact ⟨p, vs, h1, .inl e2, e3, e4⟩

theorem ValOk.dic_ref {t : Bool} {kvs : List (D × D)} (R : Rel c F0 H0 ρ σ F H W) (k : ValOk c ρ σ Hs F H u v) (e : v.d = .dic t kvs) : ∃ a, u = .ref a := by
  cases t
  · obtain ⟨a, _, h, _⟩ := k.dicK R e; exact ⟨a, h⟩
  · obtain ⟨a, _, h, _⟩ := k.dicT R e; exact ⟨a, h⟩

theorem ValOk.of_rep (r : Rep c F u v.d) (hk : v.k = .pl) (ht : v.t = []) : ValOk c ρ σ Hs F H u v := by
  refine ⟨fun i hi => ?_, ?_⟩
  · unfold Vl.all at hi; rw [hk, ht] at hi; simp at hi
  · rw [hk, ht, Fz_nil]; exact r
theorem ValOk.of_plain {t : List Nat} {x : D} (R : Rel c F0 H0 ρ σ F H W) (ht : ∀ i ∈ t, ∃ x, ρ[i]? = some (.own x)) (r : Rep c (Fz F H σ t) u x) : ValOk c ρ σ Hs F H u (vl x t) := by
  unfold vl
  by_cases m : x.imm = true
  · rw [if_pos m]
    obtain ⟨a1, a2⟩ := Fz_soft R ht
    exact ValOk.of_rep (Rep.soft a1 a2 r m) rfl rfl
  · rw [if_neg m]
    exact ⟨fun i hi => ht i hi, r⟩
theorem Stp.make {o : HO} {p : Addr} (s : Stp c W F H F H) (hp : H p = none) : Stp c W F H F (upd H p o) := by
  have ne : ∀ a, H a ≠ none → a ≠ p := fun a h z => h (by rw [z]; exact hp)
  have k : Same H (upd H p o) := fun a o' e => by rw [upd_ne (ne a (by rw [e]; simp))]; exact e
  refine ⟨Same.refl _, fun a o' e => k _ _ (s.sub _ _ e), fun a o' e _ _ => k _ _ e, fun _ e _ => e, s.nt, s.av, ?_, s.cl, s.tabs.ext k, s.ed.up (Same.refl _) fun a o e _ => k a o e⟩
  rcases s.dr with h | ⟨a0, a1, h, n, e0, e1⟩
  · exact .inl h
  · exact .inr ⟨a0, a1, h, n, k _ _ e0, k _ _ e1⟩
theorem Stp.makeF {o : HO} {p : Addr} (s : Stp c W F H F H) (hp : H p = none) (no : Nt o := by first | exact nt_tup | exact nt_lst | exact nt_dK | exact nt_dT | exact nt_xd | exact ⟨fun _ h => (nomatch h), fun ⟨_, _, _, _, h⟩ => (nomatch h)⟩ | (refine ⟨fun _ h => ?_, fun ⟨_, _, _, _, h⟩ => ?_⟩ <;> (unfold XO at h; cases h))) : Stp c W F H (upd F p o) (upd H p o) := by
  have ne : ∀ a, H a ≠ none → a ≠ p := fun a h z => h (by rw [z]; exact hp)
  have b := s.make (o := o) hp
  have kf : Same F (upd F p o) := fun a o' e => by
    rw [upd_ne (ne a (by rw [s.sub _ _ e]; simp))]; exact e
  refine ⟨kf, fun a o' e => ?_, b.h, fun a e n => ?_, fun a o' e => ?_, fun a ha => ?_, b.dr, fun hd => ?_, b.tabs, b.ed.up kf fun a o' e _ => e⟩
  · by_cases q : a = p
    · subst q; rw [upd_same] at e ⊢; exact e
    · rw [upd_ne q] at e; exact b.sub _ _ e
  · rw [upd_ne (ne a fun z => Nil.of z n)]; exact e
  · by_cases q : a = p
    · subst q; rw [upd_same] at e; cases e; exact no
    · rw [upd_ne q] at e; exact s.nt a o' e
  · rw [upd_ne (ne a (s.sm ha))]; exact s.av a ha
  · have e := s.cl hd
    rw [upd_ne (ne _ (by rw [s.sub _ _ e]; simp))]; exact e
theorem Rel.refl (R : Rel c F0 H0 ρ σ F H W) : Stp c W F H F H := R.stp.refl
theorem ValOk.new_lst {p : Addr} {vs : List V} {xs : List D} {t : List Nat} (R : Rel c F0 H0 ρ σ F H W) (ht : ∀ i ∈ t, ∃ x, ρ[i]? = some (.own x)) (hp : H p = none) (hn : Nil Hs p) (r : RepL c (Fz F H σ t) vs xs) :
    ValOk c ρ σ Hs F (upd H p (.lst vs)) (.ref p) (vf (.lst xs) t) := by
  have hF : F p = none := by
    cases q : F p with
    | none => rfl
    | some o => rw [R.stp.sub _ _ q] at hp; cases hp
  have hd : p ∉ c.mv := fun h => R.stp.sm h hp
  have S := R.refl.make (o := .lst vs) hp
  unfold vf
  by_cases m : (D.lst xs).kids = true
  · rw [if_pos m]
    obtain ⟨a1, a2⟩ := Fz_soft R ht
    refine ⟨fun i hi => by simp [Vl.all] at hi, p, rfl, hF, hd, hn, vs, upd_same, ?_⟩
    rw [Fz_nil]
    exact RepL.soft a1 a2 r (by simpa only [D.kids] using m)
  · rw [if_neg m]
    exact ⟨fun i hi => ht i hi, p, rfl, hF, hd, hn, vs, upd_same, r.mono (Fz_step R ht S)⟩
theorem Rep.new_tup {p : Addr} {vs : List V} {xs : List D} {t : List Nat} (R : Rel c F0 H0 ρ σ F H W) (ht : ∀ i ∈ t, ∃ x, ρ[i]? = some (.own x)) (hp : H p = none) (r : RepL c (Fz F H σ t) vs xs) :
    ValOk c ρ σ Hs (upd F p (.tup vs)) (upd H p (.tup vs)) (.ref p) (vl (.tup xs) t) := by
  have S := R.refl.makeF (o := .tup vs) hp
  refine ValOk.of_plain (R.step S) ht ?_
  refine .tup ?_ (r.mono (Fz_step R ht S))
  have : ¬ AtS σ t p := fun h => (R.at_ ht h).2.2.2 hp
  rw [Fz_out this, upd_same]
end

def rdE (c : Pm) (Wx : WX) (e : E) : TE := fun σ H Q => ∃ F0 H0 ρ F W, Rel c F0 H0 ρ σ F H W ∧ Pst c Wx σ F H (fun v u F' H' => ValOk c ρ σ H F' H' u v) Q (ev e ρ W)
def rdT (c : Pm) (Wx : WX) (e : E) : TT := fun σ H Q => ∃ F0 H0 ρ F W, Rel c F0 H0 ρ σ F H W ∧ Pst c Wx σ F H (fun b u _ _ => u = b) Q (evT e ρ W)
def rdA (c : Pm) (Wx : WX) (e : E) : TT := fun σ H Q => ∃ F0 H0 ρ F W, Rel c F0 H0 ρ σ F H W ∧ Pst c Wx σ F H (fun b u _ _ => u = b) Q (evA e ρ W)
def rdO (c : Pm) (Wx : WX) (e : E) : TO := fun σ H Q => ∃ F0 H0 ρ F W, Rel c F0 H0 ρ σ F H W ∧ Pst c Wx σ F H (fun b u _ _ => u = b) Q (evO e ρ W)
def rdL (c : Pm) (Wx : WX) (e : E) : TA := fun σ H Q => ∃ F0 H0 ρ F W, Rel c F0 H0 ρ σ F H W ∧ Pst c Wx σ F H (fun vs us F' H' => Paired (fun u v => ValOk c ρ σ H F' H' u v) us vs ∧ Apart us vs) Q (evL e ρ W)

theorem pe_wk {X : Cx} {e : Expr} {t t' : TE} (h : PE X e t) (k : ∀ σ H Q, t' σ H Q → t σ H Q) : PE X e t' := ⟨fun pins s σ H Q I q => h.run pins s σ H Q I (k _ _ _ q)⟩
theorem pt_wk {X : Cx} {e : Expr} {t t' : TT} (h : PT X e t) (k : ∀ σ H Q, t' σ H Q → t σ H Q) : PT X e t' := ⟨fun pins s σ H Q I q => h.run pins s σ H Q I (k _ _ _ q)⟩
theorem pw_wk {X : Cx} {e : Expr} {t t' : TT} (h : PW X e t) (k : ∀ σ H Q, t' σ H Q → t σ H Q) : PW X e t' := ⟨fun wh pins s σ H Q I q => h.run wh pins s σ H Q I (k _ _ _ q)⟩
theorem pa_wk {X : Cx} {e : List Expr} {t t' : TA} (h : PA X e t) (k : ∀ σ H Q, t' σ H Q → t σ H Q) : PA X e t' := ⟨fun pos pins s σ H Q I q => h.run pos pins s σ H Q I (k _ _ _ q)⟩
theorem po_wk {X : Cx} {e : Option Expr} {t t' : TO} (h : PO X e t) (k : ∀ σ H Q, t' σ H Q → t σ H Q) : PO X e t' := ⟨fun pins s σ H Q I q => h.run pins s σ H Q I (k _ _ _ q)⟩

section
variable {c : Pm} {Wx : WX} {W1 : Dr} {F0 H0 F H F1 H1 : Hp} {ρ : En} {σ : L2.St} {α β : Type} {ok : α → β → Hp → Hp → Prop} {Q : β → Hp → Prop}
theorem rd_gen {α' β' : Type} {ok1 : Hp → α' → β' → Hp → Hp → Prop} {o : Out α'} {g : α' → Dr → Out α} {Q2 : β' → Hp → Prop} (R : Rel c F0 H0 ρ σ F1 H1 W1) (S : Stp c W1 F H F1 H1) (hP : Pst c Wx σ F H ok Q (o.bind g))
    (k : ∀ y W2 u F2 H2, Stp c W2 F H F2 H2 → Stp c W2 F1 H1 F2 H2 → ok1 H1 y u F2 H2 → Rel c F0 H0 ρ σ F2 H2 W2 → Pst c Wx σ F H ok Q (g y W2) → Q2 u H2) : Pst c Wx σ F1 H1 (ok1 H1) Q2 o := by
  cases o with
  | stk => exact hP
  | ex x W2 => exact fun cls dd F2 H2 S2 x => hP cls dd F2 H2 (S.trans S2) x
  | ok y W2 => exact fun u F2 H2 S2 V => k y W2 u F2 H2 (S.trans S2) S2 V (R.step S2) hP
theorem rd_e {e : E} {g : Vl → Dr → Out α} {Q2 : V → Hp → Prop} (R : Rel c F0 H0 ρ σ F1 H1 W1) (S : Stp c W1 F H F1 H1) (hP : Pst c Wx σ F H ok Q ((ev e ρ W1).bind g))
    (k : ∀ y W2 u F2 H2, Stp c W2 F H F2 H2 → Stp c W2 F1 H1 F2 H2 → ValOk c ρ σ H F2 H2 u y → Rel c F0 H0 ρ σ F2 H2 W2 → Pst c Wx σ F H ok Q (g y W2) → Q2 u H2) : rdE c Wx e σ H1 Q2 :=
  ⟨F0, H0, ρ, F1, W1, R, rd_gen (ok1 := fun H1 v u F' H' => ValOk c ρ σ H1 F' H' u v) R S hP fun y W2 u F2 H2 S2 S12 V R2 hP => k y W2 u F2 H2 S2 S12 (V.start fun a m z => S.keepN m z) R2 hP⟩
theorem rd_t {e : E} {g : Bool → Dr → Out α} {Q2 : Bool → Hp → Prop} (R : Rel c F0 H0 ρ σ F1 H1 W1) (S : Stp c W1 F H F1 H1) (hP : Pst c Wx σ F H ok Q ((evT e ρ W1).bind g))
    (k : ∀ b W2 F2 H2, Stp c W2 F H F2 H2 → Stp c W2 F1 H1 F2 H2 → Rel c F0 H0 ρ σ F2 H2 W2 → Pst c Wx σ F H ok Q (g b W2) → Q2 b H2) : rdT c Wx e σ H1 Q2 :=
  ⟨F0, H0, ρ, F1, W1, R, rd_gen (ok1 := fun _ b u _ _ => u = b) R S hP fun y W2 u F2 H2 S2 S12 V R2 hP => by subst V; exact k _ W2 F2 H2 S2 S12 R2 hP⟩
theorem rd_o {e : E} {g : Option Int → Dr → Out α} {Q2 : Option Int → Hp → Prop} (R : Rel c F0 H0 ρ σ F1 H1 W1) (S : Stp c W1 F H F1 H1) (hP : Pst c Wx σ F H ok Q ((evO e ρ W1).bind g))
    (k : ∀ b W2 F2 H2, Stp c W2 F H F2 H2 → Stp c W2 F1 H1 F2 H2 → Rel c F0 H0 ρ σ F2 H2 W2 → Pst c Wx σ F H ok Q (g b W2) → Q2 b H2) : rdO c Wx e σ H1 Q2 :=
  ⟨F0, H0, ρ, F1, W1, R, rd_gen (ok1 := fun _ b u _ _ => u = b) R S hP fun y W2 u F2 H2 S2 S12 V R2 hP => by subst V; exact k _ W2 F2 H2 S2 S12 R2 hP⟩
theorem rd_l {e : E} {g : List Vl → Dr → Out α} {Q2 : List V → Hp → Prop} (R : Rel c F0 H0 ρ σ F1 H1 W1) (S : Stp c W1 F H F1 H1) (hP : Pst c Wx σ F H ok Q ((evL e ρ W1).bind g))
    (k : ∀ ys W2 us F2 H2, Stp c W2 F H F2 H2 → Stp c W2 F1 H1 F2 H2 → Paired (fun u v => ValOk c ρ σ H F2 H2 u v) us ys → Rel c F0 H0 ρ σ F2 H2 W2 → Pst c Wx σ F H ok Q (g ys W2) → Q2 us H2) : rdL c Wx e σ H1 Q2 :=
  ⟨F0, H0, ρ, F1, W1, R, rd_gen (ok1 := fun H1 vs us F' H' => Paired (fun u v => ValOk c ρ σ H1 F' H' u v) us vs ∧ Apart us vs) R S hP fun y W2 u F2 H2 S2 S12 V R2 hP => k y W2 u F2 H2 S2 S12 (Paired.mapP V.1 fun _ _ z => z.start fun a m z => S.keepN m z) R2 hP⟩
theorem rd_lx {e : E} {g : List Vl → Dr → Out α} {Q2 : List V → Hp → Prop} (R : Rel c F0 H0 ρ σ F1 H1 W1) (S : Stp c W1 F H F1 H1) (hP : Pst c Wx σ F H ok Q ((evL e ρ W1).bind g))
    (k : ∀ ys W2 us F2 H2, Stp c W2 F H F2 H2 → Stp c W2 F1 H1 F2 H2 → Paired (fun u v => ValOk c ρ σ H1 F2 H2 u v) us ys → Apart us ys → Rel c F0 H0 ρ σ F2 H2 W2 → Pst c Wx σ F H ok Q (g ys W2) → Q2 us H2) : rdL c Wx e σ H1 Q2 :=
  ⟨F0, H0, ρ, F1, W1, R, rd_gen (ok1 := fun H1 vs us F' H' => Paired (fun u v => ValOk c ρ σ H1 F' H' u v) us vs ∧ Apart us vs) R S hP fun y W2 u F2 H2 S2 S12 V R2 hP => k y W2 u F2 H2 S2 S12 V.1 V.2 R2 hP⟩
theorem rd_le {e : E} {g : List Vl → Dr → Out α} {Q2 : List V → Hp → Prop} (R : Rel c F0 H0 ρ σ F1 H1 W1) (S : Stp c W1 F H F1 H1) (hP : Pst c Wx σ F H ok Q ((evL e ρ W1).bind g))
    (k : ∀ ys W2 us F2 H2, evL e ρ W1 = .ok ys W2 → Stp c W2 F H F2 H2 → Stp c W2 F1 H1 F2 H2 → Paired (fun u v => ValOk c ρ σ H F2 H2 u v) us ys → Rel c F0 H0 ρ σ F2 H2 W2 → Pst c Wx σ F H ok Q (g ys W2) → Q2 us H2) : rdL c Wx e σ H1 Q2 := by
  refine rd_l (Q := Q) (ok := ok) (g := fun ys W2 => if evL e ρ W1 = .ok ys W2 then g ys W2 else .stk) R S ?_ fun ys W2 us F2 H2 S2 S12 A R2 hP => ?_
  · revert hP
    cases h : evL e ρ W1 with
    | stk => exact fun h => h
    | ex x W => exact fun h => h
    | ok ys W => intro hP; show Pst c Wx σ F H ok Q (if _ then _ else _); rw [if_pos rfl]; exact hP
  · by_cases h : evL e ρ W1 = .ok ys W2
    · rw [if_pos h] at hP
      exact k ys W2 us F2 H2 h S2 S12 A R2 hP
    · rw [if_neg h] at hP; exact hP.elim
theorem pst_ok {o : Out α} (h : Pst c Wx σ F H ok Q o) : Pst c Wx σ F H ok Q (o.bind fun b W => .ok b W) := by cases o <;> exact h
theorem ofO_some {γ : Type} {o : Option γ} {f : γ → Out α} (hP : Pst c Wx σ F H ok Q (ofO o f)) : ∃ a, o = some a ∧ Pst c Wx σ F H ok Q (f a) := by
  cases o with
  | none => exact hP.elim
  | some a => exact ⟨a, rfl, hP⟩
end
end Z

namespace L2N
open PySem PySem.Spec PyProof.Rows L2
theorem takes0 {X : Cx} : L2N.Takes X (fun _ _ _ _ => False) := fun _ _ x => by
  obtain ⟨_, _, _, _, _, _, _, _, _, _, _, _, _, _, _, _, z⟩ := x
  exact z.elim
theorem sky_imp {B h : Heap} {l : List Env} {a L : Addr} {Z Z' : Obj → Prop} (z : ∀ o, Z o → Z' o) (x : L2.Sky B l a Z L h) : L2.Sky B l a Z' L h := by
  have tr : ∀ {h B : Heap} {a : Addr} {fl : Value}, HandSPX.TracedZ h B a Z fl → HandSPX.TracedZ h B a Z' fl := fun ⟨oe, vs, T, oT, ts, he, hz, r⟩ => ⟨oe, vs, T, oT, ts, he, z _ hz, r⟩
  rcases x with ⟨x1, x2, x3, oe, vs, x4, x5, x6⟩ | x | x
  · exact .inl ⟨x1, x2, x3, oe, vs, x4, z _ x5, x6⟩
  · exact .inr (.inl ⟨x.1, x.2.1, x.2.2.1, tr x.2.2.2⟩)
  · exact .inr (.inr ⟨x.1, x.2.1, x.2.2.1, tr x.2.2.2⟩)
theorem takesN {X : Cx} {W : WX} (t : L2.Takes X W) : L2N.Takes X W := fun u s' ⟨a, B, sI, pins, σ, H, cls, d, e, I, nb, up, sky, na, os, ag, w⟩ =>
  t u s' ⟨a, B, sI, pins, σ, H, cls, d, e, I, nb, up, sky_imp (fun _ h => h.zc) sky, na, os, ag, w⟩
end L2N
namespace Z
open PySem PySem.Spec PyProof.Rows L2
open Classical

structure Cn (c : Pm) (Wx : WX) (k : Nat) (X : Cx) : Prop where
  hk : X.K = c.K
  calm : X.calm = true
  nd : X.N.Nodup
  tk : L2N.Takes X Wx
  room : Room k X.A

section
variable {c : Pm} {Wx : WX} {X : Cx} {n : Nat} {W W' W1 W2 : Dr} {F0 H0 F H F' H' F1 H1 F2 H2 Hs : Hp} {ρ : En} {σ : L2.St} {u w : V} {x y v : Vl} {Q : VK}

abbrev Fin_ (c : Pm) (Wx : WX) (ρ : En) (σ : L2.St) (F H : Hp) (Q : VK) (r : Vl) (W : Dr) : Prop := Pst c Wx σ F H (fun v u F' H' => ValOk c ρ σ H F' H' u v) Q (.ok r W)

theorem fin_sc {d : D} {u : V} (R : Rel c F0 H0 ρ σ F2 H2 W2) (S : Stp c W2 F H F2 H2) (hq : Fin_ c Wx ρ σ F H Q ⟨d, .pl, []⟩ W2) (r : Rep c F2 u d) : Q u H2 := hq u F2 H2 S (.of_rep r rfl rfl)
theorem fin_vl {d : D} {t : List Nat} {u : V} (R : Rel c F0 H0 ρ σ F2 H2 W2) (S : Stp c W2 F H F2 H2) (ht : ∀ i ∈ t, ∃ x, ρ[i]? = some (.own x)) (hq : Fin_ c Wx ρ σ F H Q (vl d t) W2) (r : Rep c (Fz F2 H2 σ t) u d) : Q u H2 :=
  hq u F2 H2 S (.of_plain R ht r)
theorem fin_tup {xs : List D} {vs : List V} {t : List Nat} (R : Rel c F0 H0 ρ σ F2 H2 W2) (S : Stp c W2 F H F2 H2) (ht : ∀ i ∈ t, ∃ x, ρ[i]? = some (.own x)) (hq : Fin_ c Wx ρ σ F H Q (vl (.tup xs) t) W2) (r : RepL c (Fz F2 H2 σ t) vs xs) :
    ∀ p, H2 p = none → Q (.ref p) (upd H2 p (.tup vs)) := fun p hp => hq _ _ _ (S.trans (R.refl.makeF hp)) (Rep.new_tup R ht hp r)
theorem fin_lst {xs : List D} {vs : List V} {t : List Nat} (R : Rel c F0 H0 ρ σ F2 H2 W2) (S : Stp c W2 F H F2 H2) (ht : ∀ i ∈ t, ∃ x, ρ[i]? = some (.own x)) (hq : Fin_ c Wx ρ σ F H Q (vf (.lst xs) t) W2) (r : RepL c (Fz F2 H2 σ t) vs xs) :
    ∀ p, H2 p = none → Q (.ref p) (upd H2 p (.lst vs)) := fun p hp => hq _ _ _ (S.trans (R.refl.make hp)) (.new_lst R ht hp (S.keepN (R.stp.fresh hp) (.of hp)) r)

theorem own_app {t t' : List Nat} (h : ∀ i ∈ t, ∃ x, ρ[i]? = some (.own x)) (h' : ∀ i ∈ t', ∃ x, ρ[i]? = some (.own x)) : ∀ i ∈ t ++ t', ∃ x, ρ[i]? = some (.own x) := fun i hi => (List.mem_append.mp hi).elim (h i) (h' i)
theorem Fz_l (S : Same F H) {t t' : List Nat} : Same (Fz F H σ t) (Fz F H σ (t ++ t')) := Fz_mono S fun i h => List.mem_append_left _ h
theorem Fz_r (S : Same F H) {t t' : List Nat} : Same (Fz F H σ t') (Fz F H σ (t ++ t')) := Fz_mono S fun i h => List.mem_append_right _ h
theorem cap_eq : (cap : Nat) = sizeLine := by rw [sizeLine_eq]; rfl
theorem cap_num : (16777216 : Nat) = sizeLine := by rw [sizeLine_eq]

theorem e_var {i : Nat} {z : Str} {pos : Pos} (hN : X.N[i]? = some z) (hv : Vis X.env.scope z) (hd : (z == ("__debug__" : Str)) = false) (hcd : (z == ("__classdict__" : Str)) = false) : PE X (.Name z pos) (rdE c Wx (.var i)) := by
  refine pe_wk (pe_var hN hv hd hcd) fun σ H Q ⟨F0, H0, ρ, F, W, R, hP⟩ => ?_
  simp only [ev] at hP
  cases e : ρ[i]? with
  | none => rw [e] at hP; exact hP.elim
  | some s =>
    rw [e] at hP
    cases s with
    | un => exact hP.elim
    | slf _ _ _ => exact hP.elim
    | val d =>
      obtain ⟨v, h1, h2⟩ := R.slot i _ e
      exact ⟨v, h1, fin_sc R R.refl hP h2⟩
    | own d =>
      obtain ⟨p, h1, h2, h3, h4, h5⟩ := R.own e
      refine ⟨.ref p, h1, hP _ F H R.refl ⟨fun j hj => ?_, rfl, e, h1⟩⟩
      have : j = i := by simpa [Vl.all] using hj
      subst this
      exact ⟨d, e⟩
theorem e_int {i : Int} {j : Nat} {pos : Pos} : PE X (.Constant (.int i) j pos) (rdE c Wx (.cst (.int i))) :=
  pe_wk pe_int fun σ H Q ⟨F0, H0, ρ, F, W, R, hP⟩ => fin_sc R R.refl (by simpa only [ev] using hP) (.int i)
theorem e_bl {i : Bool} {j : Nat} {pos : Pos} : PE X (.Constant (.bool i) j pos) (rdE c Wx (.cst (.bl i))) :=
  pe_wk pe_bl fun σ H Q ⟨F0, H0, ρ, F, W, R, hP⟩ => fin_sc R R.refl (by simpa only [ev] using hP) (.bl i)
theorem e_non {j : Nat} {pos : Pos} : PE X (.Constant .none j pos) (rdE c Wx (.cst .non)) :=
  pe_wk pe_non fun σ H Q ⟨F0, H0, ρ, F, W, R, hP⟩ => fin_sc R R.refl (by simpa only [ev] using hP) .non
theorem e_str {i : Str} {j : Nat} {pos : Pos} : PE X (.Constant (.str i) j pos) (rdE c Wx (.cst (.str i))) :=
  pe_wk pe_str fun σ H Q ⟨F0, H0, ρ, F, W, R, hP⟩ => fin_sc R R.refl (by simpa only [ev] using hP) (.str i)
theorem e_gl {z : Str} {v : V} {uu : Value} {d : D} {pos : Pos} (hg : Gl X z) (hm : X.mg z = some uu) (r : RelV v uu) (hr : ∀ F, Rep c F v d) (hd : (z == ("__debug__" : Str)) = false) : PE X (.Name z pos) (rdE c Wx (.gl d)) :=
  pe_wk (pe_glob hg hm r hd) fun σ H Q ⟨F0, H0, ρ, F, W, R, hP⟩ => fin_sc R R.refl (by simpa only [ev] using hP) (hr F)

def BinOk (c : Pm) (f : D → D → Option (Bool × D)) (r : R2) : Prop :=
  ∀ {Wx : WX} {W2 : Dr} {F0 H0 F H F2 H2 : Hp} {ρ : En} {σ : L2.St} {u w : V} {x y : Vl} {Q : VK} {z : Bool × D}, Rel c F0 H0 ρ σ F2 H2 W2 → Stp c W2 F H F2 H2 → ValOk c ρ σ H F2 H2 u x → ValOk c ρ σ H F2 H2 w y →
    f x.d y.d = some z → Fin_ c Wx ρ σ F H Q (vo z (x.t ++ y.t)) W2 → r u w H2 Q

theorem e_bin {op : Operator} {a b : Expr} {ea eb : E} {pos : Pos} {r : R2} (ho : OpR X (binaryOp op) r) (k : BinOk c (binD op) r) (ha : PE X a (rdE c Wx ea)) (hb : PE X b (rdE c Wx eb)) : PE X (.BinOp a op b pos) (rdE c Wx (.bin op ea eb)) := by
  refine pe_wk (pe_op ho ha hb) fun σ H Q ⟨F0, H0, ρ, F, W, R, hP⟩ => ?_
  simp only [ev] at hP
  refine rd_e R R.refl hP fun x W1 u F1 H1 S1 _ V1 R1 hP => ?_
  refine rd_e R1 S1 hP fun y W2 w F2 H2 S2 S12 V2 R2 hP => ?_
  obtain ⟨z, hz, hP⟩ := ofO_some hP
  exact k R2 S2 (V1.step R1 S12) V2 hz hP

def rAddD (K : PySem.W.Frag) : R2 := fun x y H Q => (∃ i j, x = .int i ∧ y = .int j ∧ Q (.int (i + j)) H) ∨ (∃ i j, x = .str i ∧ y = .str j ∧ i.length + j.length ≤ sizeLine ∧ Q (.str (i ++ j)) H) ∨ rCatA K x y H Q ∨ rCat x y H Q
theorem op_addD : OpR X (binaryOp .Add) (rAddD X.K) := op_add.or (op_add_str.or (op_catA.or op_cat))
theorem add_ok : BinOk c (binD .Add) (rAddD c.K) := by
  intro Wx W2 F0 H0 F H F2 H2 ρ σ u w x y Q z R S V1 V2 h hq
  have ht := own_app V1.t_own V2.t_own
  cases e1 : x.d <;> cases e2 : y.d <;> rw [e1, e2] at h <;> simp only [binD, big_eq] at h <;> try (cases h)
  case int.int i j =>
    exact .inl ⟨i, j, V1.int R e1, V2.int R e2, fin_vl R S ht hq (.int _)⟩
  case str.str i j =>
    split at h <;> cases h
    rename_i hz
    exact .inr (.inl ⟨i, j, V1.str R e1, V2.str R e2, by rw [← cap_num]; exact hz, fin_vl R S ht hq (.str _)⟩)
  case tup.tup xs ys =>
    split at h <;> cases h
    rename_i hz
    obtain ⟨a, vs, rfl, h1, r1⟩ := V1.tupP R e1
    obtain ⟨b, ws, rfl, h2, r2⟩ := V2.tupP R e2
    have r1' := r1.mono (Fz_l (t' := y.t) R.stp.sub)
    have r2' := r2.mono (Fz_r (t := x.t) R.stp.sub)
    refine .inr (.inr (.inl ⟨a, b, vs, ws, rfl, rfl, Same.sqT (Fz_dn R.stp.sub) (.inl (.inl h1)), Same.sqT (Fz_dn R.stp.sub) (.inl (.inl h2)), by rw [r1.length, r2.length, ← cap_num]; exact hz, fun e => ?_, fun _ e => ?_, fun _ _ => fin_tup R S ht hq (r1'.append r2')⟩))
    · subst e
      cases r1
      exact fin_vl R S ht hq (.tup (Fz_r R.stp.sub _ _ h2) (by simpa using r2'))
    · subst e
      cases r2
      exact fin_vl R S ht hq (.tup (Fz_l R.stp.sub _ _ h1) (by simpa using r1'))
  case lst.lst xs ys =>
    split at h <;> cases h
    rename_i hz
    obtain ⟨a, vs, rfl, h1, r1⟩ := V1.lst R e1
    obtain ⟨b, ws, rfl, h2, r2⟩ := V2.lst R e2
    exact .inr (.inr (.inr ⟨a, b, vs, ws, rfl, rfl, h1, h2, by rw [r1.length, r2.length, ← cap_num]; exact hz, fin_lst R S ht hq ((r1.mono (Fz_l R.stp.sub)).append (r2.mono (Fz_r R.stp.sub)))⟩))
theorem sub_ok : BinOk c (binD .Sub) (rI0 fun i j => .int (i - j)) := by
  intro Wx W2 F0 H0 F H F2 H2 ρ σ u w x y Q z R S V1 V2 h hq
  cases e1 : x.d <;> cases e2 : y.d <;> rw [e1, e2] at h <;> simp only [binD, big_eq] at h <;> try (cases h)
  exact ⟨_, _, V1.int R e1, V2.int R e2, fin_vl R S (own_app V1.t_own V2.t_own) hq (.int _)⟩
theorem div_ok : BinOk c (binD .FloorDiv) (rI CDiv fun i j => .int (i / j)) := by
  intro Wx W2 F0 H0 F H F2 H2 ρ σ u w x y Q z R S V1 V2 h hq
  cases e1 : x.d <;> cases e2 : y.d <;> rw [e1, e2] at h <;> simp only [binD, big_eq] at h <;> try (cases h)
  split at h <;> cases h
  exact ⟨_, _, V1.int R e1, V2.int R e2, by assumption, fin_vl R S (own_app V1.t_own V2.t_own) hq (.int _)⟩
theorem mod_ok : BinOk c (binD .Mod) (rI (fun _ j => 0 < j) fun i j => .int (i % j)) := by
  intro Wx W2 F0 H0 F H F2 H2 ρ σ u w x y Q z R S V1 V2 h hq
  cases e1 : x.d <;> cases e2 : y.d <;> rw [e1, e2] at h <;> simp only [binD, big_eq] at h <;> try (cases h)
  split at h <;> cases h
  exact ⟨_, _, V1.int R e1, V2.int R e2, by assumption, fin_vl R S (own_app V1.t_own V2.t_own) hq (.int _)⟩
theorem pow_ok : BinOk c (binD .Pow) (rI CPow fun i j => .int (i ^ j.toNat)) := by
  intro Wx W2 F0 H0 F H F2 H2 ρ σ u w x y Q z R S V1 V2 h hq
  cases e1 : x.d <;> cases e2 : y.d <;> rw [e1, e2] at h <;> simp only [binD, big_eq] at h <;> try (cases h)
  split at h <;> cases h
  exact ⟨_, _, V1.int R e1, V2.int R e2, by assumption, fin_vl R S (own_app V1.t_own V2.t_own) hq (.int _)⟩
end
end Z

namespace Z
open PySem PySem.Spec PyProof.Rows L2
open Classical
section
variable {c : Pm} {Wx : WX} {X : Cx} {n : Nat} {W W' W1 W2 W3 : Dr} {F0 H0 F H F' H' F1 H1 F2 H2 F3 H3 Hs : Hp} {ρ : En} {σ : L2.St} {u w : V} {x y v : Vl} {Q : VK} {us : List V} {vs : List Vl}

theorem Paired.at_ {α β : Type} {G : α → β → Prop} : ∀ {l₁ : List α} {l₂ : List β} {i : Nat} {b : β}, Paired G l₁ l₂ → l₂[i]? = some b → ∃ a, l₁[i]? = some a ∧ G a b
  | _, _, i, _, .nil, e => by simp at e
  | _, _, 0, _, .cons r _, e => by simp at e; subst e; exact ⟨_, rfl, r⟩
  | _, _, i + 1, _, .cons _ t, e => by simpa using Paired.at_ (i := i) t (by simpa using e)
theorem Paired.len {α β : Type} {G : α → β → Prop} : ∀ {l₁ : List α} {l₂ : List β}, Paired G l₁ l₂ → l₁.length = l₂.length
  | _, _, .nil => rfl
  | _, _, .cons _ t => by simp [Paired.len t]

noncomputable def Ft (F H : Hp) (us : List V) (vs : List Vl) : Hp := fun a => if TmpAt us vs a then H a else F a
abbrev ArgOk (c : Pm) (ρ : En) (σ : L2.St) (Hs F H : Hp) (us : List V) (vs : List Vl) : Prop := Paired (fun u v => ValOk c ρ σ Hs F H u v) us vs
theorem tmp_at : ∀ {us : List V} {vs : List Vl}, ArgOk c ρ σ Hs F2 H2 us vs → ∀ {a : Addr}, TmpAt us vs a → F2 a = none ∧ a ∉ c.mv ∧ Nil Hs a ∧ Thr H2 a
  | _, _, .nil, a, h => h.elim
  | _, _, .cons (a := u) (b := v) r t, a, h => by
    rcases h with ⟨h1, h2⟩ | h
    · have k := r.at_
      rw [h1] at k
      obtain ⟨p, e1, e2, e3, e4, e5⟩ := k
      rw [h2] at e1
      have q : a = p := V.ref.inj e1
      subst q
      exact ⟨e2, e3, e4, e5.thr⟩
    · exact tmp_at t h
theorem Ft_up (s : Same F H) : Same F (Ft F H us vs) := fun a o e => by
  unfold Ft; by_cases h : TmpAt us vs a
  · rw [if_pos h]; exact s a o e
  · rw [if_neg h]; exact e
theorem Ft_dn (s : Same F H) : Same (Ft F H us vs) H := fun a o e => by
  unfold Ft at e; by_cases h : TmpAt us vs a
  · rw [if_pos h] at e; exact e
  · rw [if_neg h] at e; exact s a o e
theorem Ft_stp (S : Stp c W2 F H F2 H2) (A : ArgOk c ρ σ H F2 H2 us vs) : Stp c W2 F H (Ft F2 H2 us vs) H2 := by
  refine ⟨fun a o e => Ft_up S.sub _ _ (S.f a o e), Ft_dn S.sub, S.h, fun a e nn => ?_, fun a o e => ?_, fun a ha => ?_, S.dr, fun hd => Ft_up S.sub _ _ (S.cl hd), S.tabs, S.ed.up (Ft_up S.sub) fun a o e _ => e⟩
  · have : ¬ TmpAt us vs a := fun h => (tmp_at A h).2.2.1 nn
    unfold Ft; rw [if_neg this]; exact S.new a e nn
  · by_cases h : TmpAt us vs a
    · obtain ⟨o', e', n⟩ := (tmp_at A h).2.2.2
      unfold Ft at e; rw [if_pos h, e'] at e; cases e; exact n.1
    · unfold Ft at e; rw [if_neg h] at e; exact S.nt a o e
  · have : ¬ TmpAt us vs a := fun h => (tmp_at A h).2.1 ha
    unfold Ft; rw [if_neg this]; exact S.av a ha
theorem Ft_rel (R0 : Rel c F0 H0 ρ σ F H W) (R : Rel c F0 H0 ρ σ F2 H2 W2) (S : Stp c W2 F H F2 H2) (A : ArgOk c ρ σ H F2 H2 us vs) : Rel c F0 H0 ρ σ (Ft F2 H2 us vs) H2 W2 := R0.step (Ft_stp S A)
theorem ts_own : ∀ {us : List V} {vs : List Vl}, ArgOk c ρ σ Hs F2 H2 us vs → ∀ i ∈ ts vs, ∃ x, ρ[i]? = some (.own x)
  | _, _, .nil, i, h => by simp [ts] at h
  | _, _, .cons r t, i, h => by
    unfold ts at h
    rw [List.flatMap_cons, List.mem_append] at h
    rcases h with h | h
    · exact r.own i h
    · exact ts_own t i h
theorem val_rep (R : Rel c F0 H0 ρ σ F2 H2 W2) (k : ValOk c ρ σ Hs F2 H2 u v) {FF : Hp} {t : List Nat} (hs : Same F2 FF) (hF : ∀ a, AtS σ t a → FF a = H2 a) (ht : ∀ i ∈ v.all, i ∈ t) (hT : v.k = .fr → ∀ a, u = .ref a → FF a = H2 a) : Rep c FF u v.d := by
  have up : Same (Fz F2 H2 σ v.t) FF := fun a o e => by
    by_cases h : AtS σ v.t a
    · rw [Fz_in h] at e
      rw [hF a]
      · exact e
      · obtain ⟨i, h1, h2⟩ := h
        refine ⟨i, ht i ?_, h2⟩
        unfold Vl.all; split
        · exact List.mem_cons_of_mem _ h1
        · exact h1
    · rw [Fz_out h] at e; exact hs a o e
  have a := k.at_
  have hm := ht
  unfold Vl.all at hm
  revert a hm hT
  cases v.k with
  | pl => exact fun _ a _ => a.mono up
  | me i =>
    rintro - ⟨h1, h2, h3⟩ hm
    obtain ⟨p, e1, _, _, _, e2⟩ := R.own h2
    rw [h3] at e1
    have q := Option.some.inj (Option.some.inj e1)
    subst q
    exact e2.rep hs (hF _ ⟨i, hm i List.mem_cons_self, h3⟩)
  | fr =>
    rintro hT ⟨p, e1, _, _, _, e2⟩ _
    subst e1
    exact e2.rep up (hT rfl _ rfl)
theorem args_rep (R : Rel c F0 H0 ρ σ F2 H2 W2) {FF : Hp} {t : List Nat} (hs : Same F2 FF) (hF : ∀ a, AtS σ t a → FF a = H2 a) : ∀ {us : List V} {vs : List Vl}, ArgOk c ρ σ Hs F2 H2 us vs → (∀ i ∈ ts vs, i ∈ t) → (∀ a, TmpAt us vs a → FF a = H2 a) → RepL c FF us (ds vs)
  | _, _, .nil, _, _ => .nil
  | _, _, .cons r k, ht, hT => by
    refine .cons (val_rep R r hs hF (fun i hi => ht i ?_) fun e a h => hT a (.inl ⟨e, h⟩)) (args_rep R hs hF k (fun i hi => ht i ?_) fun a h => hT a (.inr h))
    · unfold ts; rw [List.flatMap_cons]; exact List.mem_append_left _ hi
    · unfold ts; rw [List.flatMap_cons]; exact List.mem_append_right _ hi
theorem args_all (R0 : Rel c F0 H0 ρ σ F H W) (R : Rel c F0 H0 ρ σ F2 H2 W2) (S : Stp c W2 F H F2 H2) (A : ArgOk c ρ σ H F2 H2 us vs) : RepL c (Fz (Ft F2 H2 us vs) H2 σ (ts vs)) us (ds vs) := by
  refine args_rep (t := ts vs) R (fun a o e => Fz_up (Ft_dn R.stp.sub) _ _ (Ft_up R.stp.sub _ _ e)) (fun a h => Fz_in h) A (fun _ h => h) fun a h => ?_
  by_cases q : AtS σ (ts vs) a
  · exact Fz_in q
  · rw [Fz_out q]; unfold Ft; rw [if_pos h]

theorem l_nil : PA X [] (rdL c Wx .nil) := pa_wk pa_nil fun σ H Q ⟨F0, H0, ρ, F, W, R, hP⟩ => by
  simp only [evL] at hP
  exact hP [] F H R.refl ⟨.nil, trivial⟩
theorem l_cons {e : Expr} {es : List Expr} {a b : E} (ha : PE X e (rdE c Wx a)) (hb : PA X es (rdL c Wx b)) (hs : starEach (e :: es) X.env = (false, eval e X.env) :: starEach es X.env) : PA X (e :: es) (rdL c Wx (.cons a b)) := by
  refine pa_wk (pa_cons ha hb hs) fun σ H Q ⟨F0, H0, ρ, F, W, R, hP⟩ => ?_
  simp only [evL] at hP
  refine rd_e R R.refl hP fun x W1 u F1 H1 S1 _ V1 R1 hP => ?_
  refine rd_lx R1 S1 hP fun ys W2 us F2 H2 S2 S12 V2 A2 R2 hP => ?_
  refine hP _ _ _ S2 ⟨.cons (V1.step R1 S12) (Paired.mapP V2 fun _ _ z => z.start fun a m z => S1.keepN m z), fun a hk hu z => ?_, A2⟩
  have k := V1.at_
  rw [hk] at k
  obtain ⟨p, e1, _, _, _, e5⟩ := k
  rw [hu] at e1
  have q : a = p := V.ref.inj e1
  subst q
  exact (tmp_at V2 z).2.2.1 e5.thr

theorem e_tup {es : List Expr} {a : E} {k : Nat} {pos : Pos} (ha : PA X es (rdL c Wx a)) : PE X (.Tuple es k pos) (rdE c Wx (.tup a)) := by
  refine pe_wk (pe_tup ha) fun σ H Q ⟨F0, H0, ρ, F, W, R, hP⟩ => ?_
  simp only [ev] at hP
  refine rd_l R R.refl hP fun vs W2 us F2 H2 S2 _ A R2 hP => ?_
  by_cases hl : vs.length ≤ cap
  · rw [if_pos hl] at hP
    exact ⟨by rw [Paired.len A, ← cap_eq]; exact hl, fin_tup (Ft_rel R R2 S2 A) (Ft_stp S2 A) (ts_own A) hP (args_all R R2 S2 A)⟩
  · rw [if_neg hl] at hP; exact hP.elim
theorem e_lst {es : List Expr} {a : E} {pos : Pos} (ha : PA X es (rdL c Wx a)) : PE X (.List es pos) (rdE c Wx (.lst a)) := by
  refine pe_wk (pe_lst ha) fun σ H Q ⟨F0, H0, ρ, F, W, R, hP⟩ => ?_
  simp only [ev] at hP
  refine rd_l R R.refl hP fun vs W2 us F2 H2 S2 _ A R2 hP => ?_
  by_cases hl : vs.length ≤ cap
  · rw [if_pos hl] at hP
    exact ⟨by rw [Paired.len A, ← cap_eq]; exact hl, fin_lst (Ft_rel R R2 S2 A) (Ft_stp S2 A) (ts_own A) hP (args_all R R2 S2 A)⟩
  · rw [if_neg hl] at hP; exact hP.elim

def ResOk (c : Pm) (Hs F H : Hp) (u : V) (r : Bool × D) : Prop := if r.1 then ∃ p, u = .ref p ∧ F p = none ∧ p ∉ c.mv ∧ Nil Hs p ∧ OwnAt c F H p r.2 else Rep c F u r.2
def PstG (c : Pm) (F H : Hp) (Q : VK) (E : XK) : Out (Bool × D) → Prop
  | .ok r W' => ∀ u F' H', Stp c W' F H F' H' → ResOk c H F' H' u r → Q u H'
  | .ex x W' => ∀ cls dd F' H', Stp c W' F H F' H' → ExOk c F' x cls dd → E cls dd H'
  | .stk => False
def spG (c : Pm) (g : G) : Sp := fun vs H Q E => ∃ F xs W, RepL c F vs xs ∧ Stp c W F H F H ∧ PstG c F H Q E (g xs W)

noncomputable def Fh (F : Hp) (σ : L2.St) (t : List Nat) : Hp := fun a => if AtS σ t a then none else F a
theorem Fh_in {t : List Nat} {a : Addr} (h : AtS σ t a) : Fh F σ t a = none := if_pos h
theorem Fh_out {t : List Nat} {a : Addr} (h : ¬ AtS σ t a) : Fh F σ t a = F a := if_neg h
theorem Fh_soft {t : List Nat} (R' : Rel c F0 H0 ρ σ F2 H2 W2) (ht : ∀ i ∈ t, ∃ x, ρ[i]? = some (.own x)) (T : Stp c W3 (Fz F2 H2 σ t) H2 F3 H3) : (∀ a, AtS σ t a → Soft F3 a) ∧ ∀ a, ¬ AtS σ t a → Fh F3 σ t a = F3 a := by
  refine ⟨fun a h => ?_, fun a h => Fh_out h⟩
  obtain ⟨_, _, h3, h4⟩ := R'.at_ ht h
  cases e : H2 a with
  | none => exact absurd e h4
  | some o =>
    have : F3 a = some o := T.f a o (by rw [Fz_in h]; exact e)
    unfold Soft at h3 ⊢
    rw [e] at h3; rw [this]; exact h3
theorem Fh_stp {t : List Nat} (R0 : Rel c F0 H0 ρ σ F H W) (S : Stp c W2 F H F2 H2) (A : ArgOk c ρ σ H F2 H2 us vs) (ht : ∀ i ∈ t, ∃ x, ρ[i]? = some (.own x)) (T : Stp c W3 (Fz (Ft F2 H2 us vs) H2 σ t) H2 F3 H3) : Stp c W3 F H (Fh F3 σ t) H3 := by
  have S' := Ft_stp S A
  have R' : Rel c F0 H0 ρ σ (Ft F2 H2 us vs) H2 W2 := R0.step S'
  refine ⟨fun a o e => ?_, fun a o e => ?_, fun a o e nn k => T.h a o (S.h a o e nn k) nn k, fun a e nn => ?_, fun a o e => ?_, fun a ha => ?_, T.dr, fun hd => ?_, T.tabs, ?_⟩
  · have q : ¬ AtS σ t a := fun h => by
      have := (R0.at_ ht h).1
      rw [e] at this; cases this
    rw [Fh_out q]
    exact T.f a o (by rw [Fz_out q]; exact S'.f a o e)
  · by_cases q : AtS σ t a
    · rw [Fh_in q] at e; cases e
    · rw [Fh_out q] at e; exact T.sub a o e
  · by_cases q : AtS σ t a
    · exact Fh_in q
    · rw [Fh_out q]
      by_cases m : a ∈ c.mv
      · exact T.av a m
      · exact T.new a (by rw [Fz_out q]; exact S'.new a e nn) (S.there m nn)
  · by_cases q : AtS σ t a
    · rw [Fh_in q] at e; cases e
    · rw [Fh_out q] at e; exact T.nt a o e
  · by_cases q : AtS σ t a
    · exact Fh_in q
    · rw [Fh_out q]; exact T.av a ha
  · have e0 := R0.stp.cl hd
    rw [Fh_out fun q => by rw [(R0.at_ ht q).1] at e0; cases e0]
    exact T.cl hd
  · obtain ⟨a1, a2⟩ := Fh_soft R' ht T
    exact T.ed.soft a1 a2
theorem Fh_up {t : List Nat} (T : Same F3 H3) : Same F3 (Fz (Fh F3 σ t) H3 σ t) := fun a o e => by
  by_cases q : AtS σ t a
  · rw [Fz_in q]; exact T a o e
  · rw [Fz_out q, Fh_out q]; exact e
theorem call_end {g : G} {t : List Nat} (R0 : Rel c F0 H0 ρ σ F H W) (S : Stp c W2 F H F2 H2) (A : ArgOk c ρ σ H F2 H2 us vs) (ht : ∀ i ∈ t, ∃ x, ρ[i]? = some (.own x)) {o : Out (Bool × D)}
    (hP : Pst c Wx σ F H (fun v u F' H' => ValOk c ρ σ H F' H' u v) Q (o.bind fun r W => .ok (vo r t) W)) :
    PstG c (Fz (Ft F2 H2 us vs) H2 σ t) H2 Q (fun cls dd H' => Wx cls dd σ H') o := by
  have S' := Ft_stp S A
  have R' : Rel c F0 H0 ρ σ (Ft F2 H2 us vs) H2 W2 := R0.step S'
  cases o with
  | stk => exact hP
  | ex x W3 =>
    intro cls dd F3 H3 T hx
    refine hP cls dd _ H3 (Fh_stp R0 S A ht T) ?_
    obtain ⟨a1, a2⟩ := Fh_soft R' ht T
    revert hx
    unfold ExOk
    cases x <;> try exact fun h => h
    rename_i nm fs
    rintro ⟨C, h1, h2, h3⟩
    refine ⟨C, h1, h2, ?_⟩
    revert h3
    split
    · exact fun h => h
    · rintro ⟨m, b, gs, e1, e2, e3⟩
      refine ⟨m, b, gs, e1, ?_, RepF.soft a1 a2 e3 m⟩
      rw [a2]
      · exact e2
      · intro z
        rcases a1 _ z with q | ⟨xs, q⟩ | ⟨xs, q⟩ | ⟨xs, q⟩ <;> rw [e2] at q <;> cases q
  | ok r W3 =>
    intro u F3 H3 T hr
    have S3 := Fh_stp R0 S A ht T
    obtain ⟨a1, a2⟩ := Fh_soft R' ht T
    refine hP u _ H3 S3 ?_
    have R3 := R0.step S3
    unfold ResOk at hr
    unfold vo
    obtain ⟨b, d⟩ := r
    cases b with
    | false =>
      rw [if_neg Bool.false_ne_true] at hr
      simp only [Bool.false_eq_true, if_false]
      unfold vl
      by_cases m : d.imm = true
      · rw [if_pos m]
        exact ValOk.of_rep (Rep.soft a1 a2 hr m) rfl rfl
      · rw [if_neg m]
        exact ⟨fun i hi => ht i hi, hr.mono (Fh_up T.sub)⟩
    | true =>
      rw [if_pos rfl] at hr
      obtain ⟨p, rfl, e1, e2, e3, e4⟩ := hr
      simp only [if_true]
      have hp : Fh F3 σ t p = none := by
        by_cases q : AtS σ t p
        · exact Fh_in q
        · rw [Fh_out q]; exact e1
      unfold vf
      by_cases m : d.kids = true
      · rw [if_pos m]
        refine ⟨fun i hi => by simp [Vl.all] at hi, p, rfl, hp, e2, S.keepN e2 e3, ?_⟩
        rw [Fz_nil]
        exact e4.soft a1 a2 m
      · rw [if_neg m]
        exact ⟨fun i hi => ht i hi, p, rfl, hp, e2, S.keepN e2 e3, e4.mono (Fh_up T.sub) fun _ h => h⟩
end
end Z

namespace Z
open PySem PySem.Spec PyProof.Rows L2
open Classical

mutual
theorem pyN_ok : ∀ (n : Nat) (d : D) (p : PyData), D.pyN n d = some p → p.plain = true ∧ p.depth ≤ n + 1
  | _, .non, _, h => by simp only [D.pyN, Option.some.injEq] at h; subst h; exact ⟨rfl, by simp [PyData.depth]⟩
  | _, .bl b, _, h => by simp only [D.pyN, Option.some.injEq] at h; subst h; exact ⟨rfl, by simp [PyData.depth]⟩
  | _, .int b, _, h => by simp only [D.pyN, Option.some.injEq] at h; subst h; exact ⟨rfl, by simp [PyData.depth]⟩
  | _, .str b, _, h => by simp only [D.pyN, Option.some.injEq] at h; subst h; exact ⟨rfl, by simp [PyData.depth]⟩
  | 0, .tup xs, _, h => by simp [D.pyN] at h
  | 0, .lst xs, _, h => by simp [D.pyN] at h
  | n + 1, .tup xs, p, h => by
    simp only [D.pyN, Option.map_eq_some_iff] at h
    obtain ⟨ps, h1, h2⟩ := h
    subst h2
    obtain ⟨a, b⟩ := pyNL_ok n xs ps h1
    exact ⟨by simpa only [PyData.plain] using a, by simp only [PyData.depth]; omega⟩
  | n + 1, .lst xs, p, h => by
    simp only [D.pyN, Option.map_eq_some_iff] at h
    obtain ⟨ps, h1, h2⟩ := h
    subst h2
    obtain ⟨a, b⟩ := pyNL_ok n xs ps h1
    exact ⟨by simpa only [PyData.plain] using a, by simp only [PyData.depth]; omega⟩
  | n, .dic _ _, _, h => by cases n <;> simp [D.pyN] at h
  | n, .ins _ _, _, h => by cases n <;> simp [D.pyN] at h
  | n, .exc _ _, _, h => by cases n <;> simp [D.pyN] at h
  | n, .drw, _, h => by cases n <;> simp [D.pyN] at h
  | n, .scr _, _, h => by cases n <;> simp [D.pyN] at h
  | n, .fn _, _, h => by cases n <;> simp [D.pyN] at h
  | n, .edt _, _, h => by cases n <;> simp [D.pyN] at h
  | n, .any, _, h => by cases n <;> simp [D.pyN] at h
theorem pyNL_ok : ∀ (n : Nat) (xs : List D) (ps : List PyData), D.pyNL n xs = some ps → PyData.plainAll ps = true ∧ PyData.depthAll ps ≤ n + 1
  | n, [], ps, h => by simp only [D.pyNL, Option.some.injEq] at h; subst h; exact ⟨rfl, by simp [PyData.depthAll]⟩
  | n, x :: xs, ps, h => by
    simp only [D.pyNL] at h
    split at h
    · rename_i y ys h1 h2
      cases h
      obtain ⟨a1, b1⟩ := pyN_ok n x y h1
      obtain ⟨a2, b2⟩ := pyNL_ok n xs ys h2
      exact ⟨by simp [PyData.plainAll, a1, a2], by simp only [PyData.depthAll]; omega⟩
    · cases h
end
mutual
theorem rep_dp {c : Pm} {F : Hp} : ∀ (n : Nat) (d : D) (p : PyData) (u : V), D.pyN n d = some p → Rep c F u d → Dp c.K F u p
  | _, .non, _, _, h, r => by simp only [D.pyN, Option.some.injEq] at h; subst h; cases r; exact .non
  | _, .bl b, _, _, h, r => by simp only [D.pyN, Option.some.injEq] at h; subst h; cases r; exact .bl _
  | _, .int b, _, _, h, r => by simp only [D.pyN, Option.some.injEq] at h; subst h; cases r; exact .int _
  | _, .str b, _, _, h, r => by simp only [D.pyN, Option.some.injEq] at h; subst h; cases r; exact .str _
  | 0, .tup xs, _, _, h, r => by simp [D.pyN] at h
  | 0, .lst xs, _, _, h, r => by simp [D.pyN] at h
  | n + 1, .tup xs, p, u, h, r => by
    simp only [D.pyN, Option.map_eq_some_iff] at h
    obtain ⟨ps, h1, h2⟩ := h
    subst h2
    obtain ⟨a, vs, rfl, h3, h4⟩ := r.tupI
    exact .tup h3 (repL_dp n xs ps vs h1 h4)
  | n + 1, .lst xs, p, u, h, r => by
    simp only [D.pyN, Option.map_eq_some_iff] at h
    obtain ⟨ps, h1, h2⟩ := h
    subst h2
    obtain ⟨a, vs, rfl, h3, h4⟩ := r.lstI
    exact .lst (.inl (.inl h3)) (repL_dp n xs ps vs h1 h4)
  | n, .dic _ _, _, _, h, _ => by cases n <;> simp [D.pyN] at h
  | n, .ins _ _, _, _, h, _ => by cases n <;> simp [D.pyN] at h
  | n, .exc _ _, _, _, h, _ => by cases n <;> simp [D.pyN] at h
  | n, .drw, _, _, h, _ => by cases n <;> simp [D.pyN] at h
  | n, .scr _, _, _, h, _ => by cases n <;> simp [D.pyN] at h
  | n, .fn _, _, _, h, _ => by cases n <;> simp [D.pyN] at h
  | n, .edt _, _, _, h, _ => by cases n <;> simp [D.pyN] at h
  | n, .any, _, _, h, _ => by cases n <;> simp [D.pyN] at h
theorem repL_dp {c : Pm} {F : Hp} : ∀ (n : Nat) (xs : List D) (ps : List PyData) (us : List V), D.pyNL n xs = some ps → RepL c F us xs → DpAll c.K F us ps
  | n, [], ps, us, h, r => by simp only [D.pyNL, Option.some.injEq] at h; subst h; cases r; exact .nil
  | n, x :: xs, ps, us, h, r => by
    simp only [D.pyNL] at h
    split at h
    · rename_i y ys h1 h2
      cases h
      cases r with
      | cons r1 r2 => exact .cons (rep_dp n x y _ h1 r1) (repL_dp n xs ys _ h2 r2)
    · cases h
end
mutual
theorem dp_mono {K : PySem.W.Frag} {H H' : Hp} (e : Same H H') : ∀ {v : V} {p : PyData}, Dp K H v p → Dp K H' v p
  | _, _, .non => .non
  | _, _, .bl b => .bl b
  | _, _, .int b => .int b
  | _, _, .str b => .str b
  | _, _, .lst h r => .lst (e.seq h) (dpAll_mono e r)
  | _, _, .tup h r => .tup (Same.sqT e h) (dpAll_mono e r)
theorem dpAll_mono {K : PySem.W.Frag} {H H' : Hp} (e : Same H H') : ∀ {v : List V} {p : List PyData}, DpAll K H v p → DpAll K H' v p
  | _, _, .nil => .nil
  | _, _, .cons h r => .cons (dp_mono e h) (dpAll_mono e r)
end

section
variable {c : Pm} {Wx : WX} {X : Cx} {n : Nat} {W W' W1 W2 : Dr} {F0 H0 F H F' H' F1 H1 F2 H2 Hs : Hp} {ρ : En} {σ : L2.St} {u w : V} {x y v : Vl} {Q : VK}
theorem val_dp {p : PyData} (R : Rel c F0 H0 ρ σ F H W) (k : ValOk c ρ σ Hs F H u v) (h : v.d.pd = some p) : Dp c.K H u p := by
  cases e : v.d <;> rw [e] at h
  case lst xs =>
    unfold D.pd at h
    simp only [D.pyN, Option.map_eq_some_iff] at h
    obtain ⟨ps, h1, h2⟩ := h
    subst h2
    obtain ⟨a, vs, rfl, h3, h4⟩ := k.lst R e
    exact .lst (.inl (.inl h3)) (dpAll_mono (Fz_dn R.stp.sub) (repL_dp _ _ _ _ h1 h4))
  case dic t kvs => simp [D.pd, D.pyN] at h
  all_goals exact dp_mono (Fz_dn R.stp.sub) (rep_dp _ _ _ _ h (k.rep R e fun _ _ _ h => h))
def rEqP (K : PySem.W.Frag) (neg : Bool) : R2 := fun x y H Q => ∃ d e, Dp K H x d ∧ Dp K H y e ∧ d.plain = true ∧ e.plain = true ∧ d.depth ≤ 60 ∧ Q (.bl (if neg then !PyData.eqv d e else PyData.eqv d e)) H
theorem room_min {A : Around} {d e : PyData} (hu : A.units + 64 < cLine) (h : d.depth ≤ 60) : A.units + min d.depth e.depth < cLine := by
  have : min d.depth e.depth ≤ d.depth := Nat.min_le_left _ _
  omega
theorem op_eqP (hu : X.A.units + 64 < cLine) : OpR X (compareOp .Eq) (rEqP X.K false) := by
  intro pins s σ H x y v u Q I rx ry h
  obtain ⟨d, e, hd, he, sd, se, hz, q⟩ := h
  obtain ⟨as, r1⟩ := Dp.reads I d x v hd rx
  obtain ⟨bs, r2⟩ := Dp.reads I e y u he ry
  exact SeqAt.eq_plain r1 r2 sd se (room_min hu hz) ⟨.bl _, H, I, rfl, q⟩
theorem op_neP (hu : X.A.units + 64 < cLine) : OpR X (compareOp .NotEq) (rEqP X.K true) := by
  intro pins s σ H x y v u Q I rx ry h
  obtain ⟨d, e, hd, he, sd, se, hz, q⟩ := h
  obtain ⟨as, r1⟩ := Dp.reads I d x v hd rx
  obtain ⟨bs, r2⟩ := Dp.reads I e y u he ry
  exact SeqAt.ne_plain r1 r2 sd se (room_min hu hz) ⟨.bl _, H, I, rfl, q⟩
def rInP (K : PySem.W.Frag) (neg : Bool) : R2 := fun x y H Q => ∃ d es, Dp K H x d ∧ d.plain = true ∧ d.depth ≤ 60 ∧ (Dp K H y (.list es) ∨ Dp K H y (.tuple es)) ∧ PyData.plainAll es = true ∧
  Q (.bl (if neg then !es.any (fun e => PyData.eqv e d) else es.any fun e => PyData.eqv e d)) H
theorem room_in {A : Around} {d : PyData} {n : Nat} (hu : A.units + 64 < cLine) (h : d.depth ≤ 60) : A.units + 1 + min n d.depth < cLine := by
  have : min n d.depth ≤ d.depth := Nat.min_le_right _ _
  omega
theorem op_inP (hu : X.A.units + 64 < cLine) : OpR X (compareOp .In) (rInP X.K false) := by
  intro pins s σ H x y v u Q I rx ry h
  obtain ⟨d, es, hd, sd, hz, hl, se, q⟩ := h
  obtain ⟨as, r1⟩ := Dp.reads I d x v hd rx
  rcases hl with hl | hl
  · obtain ⟨bs, r2⟩ := Dp.reads I _ y u hl ry
    exact SeqAt.in_list_data r2 r1 se sd (room_in hu hz) ⟨.bl _, H, I, rfl, q⟩
  · obtain ⟨bs, r2⟩ := Dp.reads I _ y u hl ry
    exact SeqAt.in_tuple_data r2 r1 se sd (room_in hu hz) ⟨.bl _, H, I, rfl, q⟩
theorem op_ninP (hu : X.A.units + 64 < cLine) : OpR X (compareOp .NotIn) (rInP X.K true) := by
  intro pins s σ H x y v u Q I rx ry h
  obtain ⟨d, es, hd, sd, hz, hl, se, q⟩ := h
  obtain ⟨as, r1⟩ := Dp.reads I d x v hd rx
  rcases hl with hl | hl
  · obtain ⟨bs, r2⟩ := Dp.reads I _ y u hl ry
    exact SeqAt.notIn_list_data r2 r1 se sd (room_in hu hz) ⟨.bl _, H, I, rfl, q⟩
  · obtain ⟨bs, r2⟩ := Dp.reads I _ y u hl ry
    exact SeqAt.notIn_tuple_data r2 r1 se sd (room_in hu hz) ⟨.bl _, H, I, rfl, q⟩

def CmpOk (c : Pm) (f : D → D → Option Bool) (r : R2) : Prop :=
  ∀ {W2 : Dr} {F0 H0 H F2 H2 : Hp} {ρ : En} {σ : L2.St} {u w : V} {x y : Vl} {Q : VK} {z : Bool}, Rel c F0 H0 ρ σ F2 H2 W2 → ValOk c ρ σ H F2 H2 u x → ValOk c ρ σ H F2 H2 w y → f x.d y.d = some z → Q (.bl z) H2 → r u w H2 Q
theorem e_cmp {op : CmpOp} {a b : Expr} {ea eb : E} {pos : Pos} {r : R2} (ho : OpR X (compareOp op) r) (k : CmpOk c (cmpD op) r) (ha : PE X a (rdE c Wx ea)) (hb : PE X b (rdE c Wx eb)) (hm : behindInMarks op b = false) :
    PE X (.Compare a [op] [b] pos) (rdE c Wx (.cmp op ea eb)) := by
  refine pe_wk (pe_cmpR ho ha hb hm) fun σ H Q ⟨F0, H0, ρ, F, W, R, hP⟩ => ?_
  simp only [ev] at hP
  refine rd_e R R.refl hP fun x W1 u F1 H1 S1 _ V1 R1 hP => ?_
  refine rd_e R1 S1 hP fun y W2 w F2 H2 S2 S12 V2 R2 hP => ?_
  obtain ⟨z, hz, hP⟩ := ofO_some hP
  exact k R2 (V1.step R1 S12) V2 hz (fin_sc R2 S2 hP (.bl z))
theorem t_cmp {op : CmpOp} {a b : Expr} {ea eb : E} {pos : Pos} {r : R2} (ho : OpR X (compareOp op) r) (k : CmpOk c (cmpD op) r) (ha : PE X a (rdE c Wx ea)) (hb : PE X b (rdE c Wx eb)) (hm : behindInMarks op b = false) :
    PT X (.Compare a [op] [b] pos) (rdT c Wx (.tv (.cmp op ea eb))) := by
  refine pt_wk (pt_cmpR ho ha hb hm) fun σ H Q ⟨F0, H0, ρ, F, W, R, hP⟩ => ?_
  simp only [evT, ev, Out.bind_bind, ofO_bind, Out.ok_bind] at hP
  refine rd_e R R.refl hP fun x W1 u F1 H1 S1 _ V1 R1 hP => ?_
  refine rd_e R1 S1 hP fun y W2 w F2 H2 S2 S12 V2 R2 hP => ?_
  obtain ⟨z, hz, hP⟩ := ofO_some hP
  exact k R2 (V1.step R1 S12) V2 hz ⟨z, rfl, hP z F2 H2 S2 rfl⟩
end
end Z

namespace Z
open PySem PySem.Spec PyProof.Rows L2
open Classical
section
variable {c : Pm} {Wx : WX} {X : Cx} {n : Nat} {W W' W1 W2 : Dr} {F0 H0 F H F' H' F1 H1 F2 H2 Hs : Hp} {ρ : En} {σ : L2.St} {u w : V} {x y v : Vl} {Q : VK}

theorem eq_ok : CmpOk c (cmpD .Eq) (rEqP c.K false) := by
  intro W2 F0 H0 H F2 H2 ρ σ u w x y Q z R V1 V2 h q
  simp only [cmpD, D.eq] at h
  split at h
  · rename_i a b h1 h2
    cases h
    obtain ⟨p1, d1⟩ := pyN_ok _ _ _ h1
    exact ⟨a, b, val_dp R V1 h1, val_dp R V2 h2, p1, (pyN_ok _ _ _ h2).1, by omega, q⟩
  · cases h
theorem ne_ok : CmpOk c (cmpD .NotEq) (rEqP c.K true) := by
  intro W2 F0 H0 H F2 H2 ρ σ u w x y Q z R V1 V2 h q
  simp only [cmpD, D.eq, Option.map_eq_some_iff] at h
  obtain ⟨k, h, rfl⟩ := h
  split at h
  · rename_i a b h1 h2
    cases h
    obtain ⟨p1, d1⟩ := pyN_ok _ _ _ h1
    exact ⟨a, b, val_dp R V1 h1, val_dp R V2 h2, p1, (pyN_ok _ _ _ h2).1, by omega, q⟩
  · cases h
theorem le_ok : CmpOk c (cmpD .LtE) (rI0 fun i j => .bl (decide (i ≤ j))) := by
  intro W2 F0 H0 H F2 H2 ρ σ u w x y Q z R V1 V2 h q
  cases e1 : x.d <;> cases e2 : y.d <;> rw [e1, e2] at h <;> simp only [cmpD] at h <;> try (cases h)
  exact ⟨_, _, V1.int R e1, V2.int R e2, q⟩
theorem gt_ok : CmpOk c (cmpD .Gt) (rI0 fun i j => .bl (decide (j < i))) := by
  intro W2 F0 H0 H F2 H2 ρ σ u w x y Q z R V1 V2 h q
  cases e1 : x.d <;> cases e2 : y.d <;> rw [e1, e2] at h <;> simp only [cmpD] at h <;> try (cases h)
  exact ⟨_, _, V1.int R e1, V2.int R e2, q⟩
theorem ge_ok : CmpOk c (cmpD .GtE) (rI0 fun i j => .bl (decide (j ≤ i))) := by
  intro W2 F0 H0 H F2 H2 ρ σ u w x y Q z R V1 V2 h q
  cases e1 : x.d <;> cases e2 : y.d <;> rw [e1, e2] at h <;> simp only [cmpD] at h <;> try (cases h)
  exact ⟨_, _, V1.int R e1, V2.int R e2, q⟩
def rLtP (K : PySem.W.Frag) : R2 := fun x y H Q => ∃ d e, Dp K H x d ∧ Dp K H y e ∧ PySem.W.alike d e = true ∧ d ≠ .none ∧ d.depth ≤ 60 ∧ Q (.bl (PySem.W.dataLt d e)) H
theorem op_ltP (hu : X.A.units + 64 < cLine) : OpR X (compareOp .Lt) (rLtP X.K) := by
  intro pins s σ H x y v u Q I rx ry h
  obtain ⟨d, e, hd, he, sd, se, hz, q⟩ := h
  obtain ⟨as, r1⟩ := Dp.reads I d x v hd rx
  obtain ⟨bs, r2⟩ := Dp.reads I e y u he ry
  exact PySem.W.rcLt_alike d e X.A s v u as bs r1 r2 sd se (room_min hu hz) X.prog X.w X.xe _ ⟨.bl _, H, I, rfl, q⟩
def rLtD (K : PySem.W.Frag) : R2 := fun x y H Q => (rI0 fun i j => .bl (decide (i < j))) x y H Q ∨ rLtP K x y H Q
theorem op_ltD (hu : X.A.units + 64 < cLine) : OpR X (compareOp .Lt) (rLtD X.K) := op_lt.or (op_ltP hu)
theorem lt_aux (R : Rel c F0 H0 ρ σ F2 H2 W2) (V1 : ValOk c ρ σ H F2 H2 u x) (V2 : ValOk c ρ σ H F2 H2 w y) {z : Bool} (h : x.d.lt y.d = some z) (q : Q (.bl z) H2) : rLtP c.K u w H2 Q := by
  unfold D.lt at h
  split at h
  · rename_i a b h1 h2
    split at h
    · rename_i ha
      split at h
      · cases h
      · rename_i hn
        cases h
        exact ⟨a, b, val_dp R V1 h1, val_dp R V2 h2, ha, hn, by have := (pyN_ok _ _ _ h1).2; omega, q⟩
    · cases h
  · cases h
theorem lt_ok : CmpOk c (cmpD .Lt) (rLtD c.K) := by
  intro W2 F0 H0 H F2 H2 ρ σ u w x y Q z R V1 V2 h q
  simp only [cmpD] at h
  split at h
  · rename_i i j e1 e2
    cases h
    exact .inl ⟨i, j, V1.int R e1, V2.int R e2, q⟩
  · exact .inr (lt_aux R V1 V2 h q)
theorem val_non (R : Rel c F0 H0 ρ σ F H W) (k : ValOk c ρ σ Hs F H u v) : (decide (u = .non)) = (match v.d with | .non => true | _ => false) := by
  cases e : v.d
  case lst xs => obtain ⟨a, vs, rfl, _⟩ := k.lst R e; rfl
  case dic t kvs => obtain ⟨a, rfl⟩ := k.dic_ref R e; rfl
  all_goals (have a := k.rep R e fun _ _ _ h => h; cases a <;> rfl)
def rIsD (neg : Bool) : R2 := fun x y H Q => (y = .non ∧ Q (.bl (if neg then !decide (x = .non) else decide (x = .non))) H) ∨ ∃ a b, x = .bl a ∧ y = .bl b ∧ Q (.bl (if neg then !decide (a = b) else decide (a = b))) H
theorem op_isD : OpR X (compareOp .Is) (rIsD false) := op_isN.or op_is_bl
theorem op_isnD : OpR X (compareOp .IsNot) (rIsD true) := op_notN.or op_isnot_bl
theorem is_ok : CmpOk c (cmpD .Is) (rIsD false) := by
  intro W2 F0 H0 H F2 H2 ρ σ u w x y Q z R V1 V2 h q
  simp only [cmpD] at h
  split at h
  · rename_i e2
    cases h
    exact .inl ⟨V2.non R e2, by simp only [Bool.false_eq_true, if_false]; rw [val_non R V1]; exact q⟩
  · rename_i a b e1 e2
    cases h
    refine .inr ⟨a, b, V1.bl R e1, V2.bl R e2, ?_⟩
    simp only [Bool.false_eq_true, if_false]
    have : (a == b) = decide (a = b) := by cases a <;> cases b <;> rfl
    rw [← this]; exact q
  · cases h
theorem isn_ok : CmpOk c (cmpD .IsNot) (rIsD true) := by
  intro W2 F0 H0 H F2 H2 ρ σ u w x y Q z R V1 V2 h q
  simp only [cmpD] at h
  split at h
  · rename_i e2
    cases h
    refine .inl ⟨V2.non R e2, ?_⟩
    simp only [if_true]
    rw [val_non R V1]
    cases e : x.d <;> rw [e] at q <;> exact q
  · rename_i a b e1 e2
    cases h
    refine .inr ⟨a, b, V1.bl R e1, V2.bl R e2, ?_⟩
    simp only [if_true]
    have : (a != b) = !decide (a = b) := by cases a <;> cases b <;> rfl
    rw [← this]; exact q
  · cases h
def rInD (K : PySem.W.Frag) (neg : Bool) : R2 := fun x y H Q => (∃ i j, x = .str i ∧ y = .str j ∧ Q (.bl (if neg then !(!(Builtin.Str.occurrences j i 0 j.length 1).isEmpty) else !(Builtin.Str.occurrences j i 0 j.length 1).isEmpty)) H) ∨ rInP K neg x y H Q
theorem op_inD (hu : X.A.units + 64 < cLine) : OpR X (compareOp .In) (rInD X.K false) := op_in_str.or (op_inP hu)
theorem op_ninD (hu : X.A.units + 64 < cLine) : OpR X (compareOp .NotIn) (rInD X.K true) := op_notIn_str.or (op_ninP hu)
theorem val_dps_l {ys : List D} {ps : List PyData} (R : Rel c F0 H0 ρ σ F H W) (k : ValOk c ρ σ Hs F H u v) (e : v.d = .lst ys) (h : D.pyNL 12 ys = some ps) : Dp c.K H u (.list ps) := by
  obtain ⟨a, vs, rfl, h3, h4⟩ := k.lst R e
  exact .lst (.inl (.inl h3)) (dpAll_mono (Fz_dn R.stp.sub) (repL_dp _ _ _ _ h h4))
theorem val_dps_t {ys : List D} {ps : List PyData} (R : Rel c F0 H0 ρ σ F H W) (k : ValOk c ρ σ Hs F H u v) (e : v.d = .tup ys) (h : D.pyNL 12 ys = some ps) : Dp c.K H u (.tuple ps) := by
  obtain ⟨a, vs, rfl, h3, h4⟩ := k.tup R e
  exact .tup (Same.sqT (Fz_dn R.stp.sub) h3) (dpAll_mono (Fz_dn R.stp.sub) (repL_dp _ _ _ _ h h4))
theorem in_aux (neg : Bool) (R : Rel c F0 H0 ρ σ F2 H2 W2) (V1 : ValOk c ρ σ H F2 H2 u x) (V2 : ValOk c ρ σ H F2 H2 w y) {z : Bool} (h : cmpD.inD x.d y.d = some z) (q : Q (.bl (if neg then !z else z)) H2) : rInD c.K neg u w H2 Q := by
  unfold cmpD.inD at h
  split at h
  · rename_i a b e1 e2
    cases h
    exact .inl ⟨a, b, V1.str R e1, V2.str R e2, q⟩
  · rename_i ys _ e2
    unfold cmpD.anyEq at h
    split at h
    · rename_i a bs h1 h2
      cases h
      obtain ⟨p1, d1⟩ := pyN_ok _ _ _ h1
      exact .inr ⟨a, bs, val_dp R V1 h1, p1, by omega, .inl (val_dps_l R V2 e2 h2), (pyNL_ok _ _ _ h2).1, q⟩
    · cases h
  · rename_i ys _ e2
    unfold cmpD.anyEq at h
    split at h
    · rename_i a bs h1 h2
      cases h
      obtain ⟨p1, d1⟩ := pyN_ok _ _ _ h1
      exact .inr ⟨a, bs, val_dp R V1 h1, p1, by omega, .inr (val_dps_t R V2 e2 h2), (pyNL_ok _ _ _ h2).1, q⟩
    · cases h
  · cases h
theorem in_ok : CmpOk c (cmpD .In) (rInD c.K false) := by
  intro W2 F0 H0 H F2 H2 ρ σ u w x y Q z R V1 V2 h q
  exact in_aux false R V1 V2 h q
theorem nin_ok : CmpOk c (cmpD .NotIn) (rInD c.K true) := by
  intro W2 F0 H0 H F2 H2 ρ σ u w x y Q z R V1 V2 h q
  simp only [cmpD, Option.map_eq_some_iff] at h
  obtain ⟨k, h, rfl⟩ := h
  exact in_aux true R V1 V2 h q

theorem cmp_all (op : CmpOp) (hk : X.K = c.K) (hu : X.A.units + 64 < cLine) : ∃ r, OpR X (compareOp op) r ∧ CmpOk c (cmpD op) r := by
  cases op with
  | Eq => exact ⟨_, hk ▸ op_eqP hu, eq_ok⟩
  | NotEq => exact ⟨_, hk ▸ op_neP hu, ne_ok⟩
  | Lt => exact ⟨_, hk ▸ op_ltD hu, lt_ok⟩
  | LtE => exact ⟨_, op_le, le_ok⟩
  | Gt => exact ⟨_, op_gt, gt_ok⟩
  | GtE => exact ⟨_, op_ge, ge_ok⟩
  | Is => exact ⟨_, op_isD, is_ok⟩
  | IsNot => exact ⟨_, op_isnD, isn_ok⟩
  | In => exact ⟨_, hk ▸ op_inD hu, in_ok⟩
  | NotIn => exact ⟨_, hk ▸ op_ninD hu, nin_ok⟩

theorem e_chn {o1 o2 : CmpOp} {a b d : Expr} {ea eb ed : E} {pos : Pos} {r1 r2 : R2} (h1 : OpR X (compareOp o1) r1) (k1 : CmpOk c (cmpD o1) r1) (h2 : OpR X (compareOp o2) r2) (k2 : CmpOk c (cmpD o2) r2)
    (ha : PE X a (rdE c Wx ea)) (hb : PE X b (rdE c Wx eb)) (hd : PE X d (rdE c Wx ed)) (hm : lastMarks [o1, o2] [b, d] = false) : PE X (.Compare a [o1, o2] [b, d] pos) (rdE c Wx (.chn o1 o2 ea eb ed)) := by
  refine pe_wk (pe_chain h1 h2 ha hb hd hm) fun σ H Q ⟨F0, H0, ρ, F, W, R, hP⟩ => ?_
  simp only [ev] at hP
  refine rd_e R R.refl hP fun x W1 u F1 H1 S1 _ V1 R1 hP => ?_
  refine rd_e R1 S1 hP fun y W2 w F2 H2 S2 S12 V2 R2 hP => ?_
  obtain ⟨z, hz, hP⟩ := ofO_some hP
  refine k1 R2 (V1.step R1 S12) V2 hz ⟨z, rfl, ?_⟩
  cases z with
  | false =>
    rw [if_neg Bool.false_ne_true] at hP ⊢
    exact fin_sc R2 S2 hP (.bl false)
  | true =>
    rw [if_pos rfl] at hP ⊢
    refine rd_e R2 S2 hP fun z W3 t F3 H3 S3 S23 V3 R3 hP => ?_
    obtain ⟨z, hz, hP⟩ := ofO_some hP
    exact k2 R3 (V2.step R2 S23) V3 hz (fin_sc R3 S3 hP (.bl z))
theorem t_chn {o1 o2 : CmpOp} {a b d : Expr} {ea eb ed : E} {pos : Pos} {r1 r2 : R2} (h1 : OpR X (compareOp o1) r1) (k1 : CmpOk c (cmpD o1) r1) (h2 : OpR X (compareOp o2) r2) (k2 : CmpOk c (cmpD o2) r2)
    (ha : PE X a (rdE c Wx ea)) (hb : PE X b (rdE c Wx eb)) (hd : PE X d (rdE c Wx ed)) (hm : lastMarks [o1, o2] [b, d] = false) : PT X (.Compare a [o1, o2] [b, d] pos) (rdT c Wx (.tv (.chn o1 o2 ea eb ed))) := by
  refine pt_wk (pt_chain h1 h2 ha hb hd hm) fun σ H Q ⟨F0, H0, ρ, F, W, R, hP⟩ => ?_
  simp only [evT, ev, Out.bind_bind, ofO_bind, ite_bind, Out.ok_bind] at hP
  refine rd_e R R.refl hP fun x W1 u F1 H1 S1 _ V1 R1 hP => ?_
  refine rd_e R1 S1 hP fun y W2 w F2 H2 S2 S12 V2 R2 hP => ?_
  obtain ⟨z, hz, hP⟩ := ofO_some hP
  refine k1 R2 (V1.step R1 S12) V2 hz ⟨z, rfl, ?_⟩
  cases z with
  | false =>
    rw [if_neg Bool.false_ne_true] at hP ⊢
    exact ⟨false, rfl, hP false F2 H2 S2 rfl⟩
  | true =>
    rw [if_pos rfl] at hP ⊢
    refine rd_e R2 S2 hP fun z W3 t F3 H3 S3 S23 V3 R3 hP => ?_
    obtain ⟨z, hz, hP⟩ := ofO_some hP
    exact k2 R3 (V2.step R2 S23) V3 hz ⟨z, rfl, hP z F3 H3 S3 rfl⟩

theorem isBl_eq {d : D} {b : Bool} (h : d.isBl = some b) : d = .bl b := by
  cases d <;> simp only [D.isBl] at h <;> cases h
  rfl
theorem t_val {a : Expr} {ea : E} (ha : PE X a (rdE c Wx ea)) (he : ∀ whole, isTrue a X.env whole = (do let v ← whole; standAt a.pos; holding [v] (truthy v))) : PT X a (rdT c Wx (.tv ea)) := by
  refine pt_wk (pt_val ha he) fun σ H Q ⟨F0, H0, ρ, F, W, R, hP⟩ => ?_
  simp only [evT] at hP
  refine rd_e R R.refl hP fun x W1 u F1 H1 S1 _ V1 R1 hP => ?_
  obtain ⟨b, hb, hP⟩ := ofO_some hP
  exact ⟨b, V1.bl R1 (isBl_eq hb), hP b F1 H1 S1 rfl⟩
theorem w_and1 {a : Expr} {ea : E} {pos : Pos} (ha : PT X a (rdT c Wx ea)) : PW X (.BoolOp .And [a] pos) (rdT c Wx ea) := pw_and1 ha
theorem w_or1 {a : Expr} {ea : E} {pos : Pos} (ha : PT X a (rdT c Wx ea)) : PW X (.BoolOp .Or [a] pos) (rdT c Wx ea) := pw_or1 ha
theorem w_and {a b : Expr} {rest : List Expr} {ea eb : E} {pos : Pos} (ha : PT X a (rdT c Wx ea)) (hb : PW X (.BoolOp .And (b :: rest) pos) (rdT c Wx eb)) : PW X (.BoolOp .And (a :: b :: rest) pos) (rdT c Wx (.and ea eb)) := by
  refine pw_wk (pw_and ha hb) fun σ H Q ⟨F0, H0, ρ, F, W, R, hP⟩ => ?_
  simp only [evT] at hP
  refine rd_t R R.refl hP fun b W1 F1 H1 S1 _ R1 hP => ?_
  cases b with
  | false => rw [if_neg Bool.false_ne_true] at hP ⊢; exact hP false F1 H1 S1 rfl
  | true =>
    rw [if_pos rfl] at hP ⊢
    exact rd_t R1 S1 (pst_ok hP) fun b W2 F2 H2 S2 _ _ hP => hP b F2 H2 S2 rfl
theorem w_or {a b : Expr} {rest : List Expr} {ea eb : E} {pos : Pos} (ha : PT X a (rdT c Wx ea)) (hb : PW X (.BoolOp .Or (b :: rest) pos) (rdT c Wx eb)) : PW X (.BoolOp .Or (a :: b :: rest) pos) (rdT c Wx (.or ea eb)) := by
  refine pw_wk (pw_or ha hb) fun σ H Q ⟨F0, H0, ρ, F, W, R, hP⟩ => ?_
  simp only [evT] at hP
  refine rd_t R R.refl hP fun b W1 F1 H1 S1 _ R1 hP => ?_
  cases b with
  | true => rw [if_pos rfl] at hP ⊢; exact hP true F1 H1 S1 rfl
  | false =>
    rw [if_neg Bool.false_ne_true] at hP ⊢
    exact rd_t R1 S1 (pst_ok hP) fun b W2 F2 H2 S2 _ _ hP => hP b F2 H2 S2 rfl
theorem t_not {a : Expr} {ea : E} {pos : Pos} (ha : PT X a (rdT c Wx ea)) : PT X (.UnaryOp .Not a pos) (rdT c Wx (.not ea)) := by
  refine pt_wk (pt_not ha) fun σ H Q ⟨F0, H0, ρ, F, W, R, hP⟩ => ?_
  simp only [evT] at hP
  exact rd_t R R.refl hP fun b W1 F1 H1 S1 _ R1 hP => hP (!b) F1 H1 S1 rfl
theorem e_and {a b : Expr} {rest : List Expr} {ea eb : E} {pos : Pos} (ha : PE X a (rdE c Wx ea)) (hb : PE X (.BoolOp .And (b :: rest) pos) (rdE c Wx eb)) : PE X (.BoolOp .And (a :: b :: rest) pos) (rdE c Wx (.and ea eb)) := by
  refine pe_wk (pe_and ha hb) fun σ H Q ⟨F0, H0, ρ, F, W, R, hP⟩ => ?_
  simp only [ev] at hP
  refine rd_e R R.refl hP fun x W1 u F1 H1 S1 _ V1 R1 hP => ?_
  obtain ⟨b, hb, hP⟩ := ofO_some hP
  refine ⟨b, V1.bl R1 (isBl_eq hb), ?_⟩
  cases b with
  | false => rw [if_neg Bool.false_ne_true] at hP ⊢; exact fin_sc R1 S1 hP (.bl false)
  | true =>
    rw [if_pos rfl] at hP ⊢
    exact rd_e R1 S1 (pst_ok hP) fun y W2 w F2 H2 S2 _ V2 _ hP => hP w F2 H2 S2 V2
theorem e_neg {a : Expr} {ea : E} {pos : Pos} (ha : PE X a (rdE c Wx ea)) : PE X (.UnaryOp .USub a pos) (rdE c Wx (.neg ea)) := by
  refine pe_wk (pe_un un_neg ha) fun σ H Q ⟨F0, H0, ρ, F, W, R, hP⟩ => ?_
  simp only [ev] at hP
  refine rd_e R R.refl hP fun x W1 u F1 H1 S1 _ V1 R1 hP => ?_
  split at hP
  · rename_i i e
    exact ⟨i, V1.int R1 e, fin_sc R1 S1 hP (.int _)⟩
  · exact hP.elim
theorem e_ite {t a b : Expr} {et ea eb : E} {pos : Pos} (ht : PT X t (rdT c Wx et)) (ha : PE X a (rdE c Wx ea)) (hb : PE X b (rdE c Wx eb)) : PE X (.IfExp t a b pos) (rdE c Wx (.ite et ea eb)) := by
  refine pe_wk (pe_ifExp ht ha hb) fun σ H Q ⟨F0, H0, ρ, F, W, R, hP⟩ => ?_
  simp only [ev] at hP
  refine rd_t R R.refl hP fun b W1 F1 H1 S1 _ R1 hP => ?_
  cases b with
  | true =>
    rw [if_pos rfl] at hP ⊢
    exact rd_e R1 S1 (pst_ok hP) fun y W2 w F2 H2 S2 _ V2 _ hP => hP w F2 H2 S2 V2
  | false =>
    rw [if_neg Bool.false_ne_true] at hP ⊢
    exact rd_e R1 S1 (pst_ok hP) fun y W2 w F2 H2 S2 _ V2 _ hP => hP w F2 H2 S2 V2

theorem atI_rep {vs : List V} {xs : List D} {i : Int} {d : D} (r : RepL c F vs xs) (h : atD xs i = some d) : ∃ v, atI vs i = some v ∧ Rep c F v d := by
  unfold atD atI at h
  unfold atI
  rw [r.length]
  cases e : ixN xs.length i with
  | none => rw [e] at h; cases h
  | some j =>
    rw [e] at h
    obtain ⟨v, h1, h2⟩ := r.get (i := j) (by simpa using h)
    exact ⟨v, by simpa using h1, h2⟩
theorem e_ix {a b : Expr} {ea eb : E} {pos : Pos} (hk : X.K = c.K) (ha : PE X a (rdE c Wx ea)) (hb : PE X b (rdE c Wx eb)) (hs : PlainIx b) : PE X (.Subscript a b pos) (rdE c Wx (.ix ea eb)) := by
  refine pe_wk (pe_ix ix_seq ha hb hs) fun σ H Q ⟨F0, H0, ρ, F, W, R, hP⟩ => ?_
  simp only [ev] at hP
  refine rd_e R R.refl hP fun x W1 u F1 H1 S1 _ V1 R1 hP => ?_
  refine rd_e R1 S1 hP fun y W2 w F2 H2 S2 S12 V2 R2 hP => ?_
  obtain ⟨z, hz, hP⟩ := ofO_some hP
  have V1 := V1.step R1 S12
  unfold ixD at hz
  split at hz
  · rename_i xs i e1 e2
    obtain ⟨p, vs, rfl, h1, h2⟩ := V1.lst R2 e1
    obtain ⟨v, h3, h4⟩ := atI_rep h2 hz
    exact .inl ⟨p, vs, i, v, rfl, V2.int R2 e2, .inl (.inl h1), h3, fin_vl R2 S2 V1.t_own hP h4⟩
  · rename_i xs i e1 e2
    obtain ⟨p, vs, rfl, h1, h2⟩ := V1.tup R2 e1
    obtain ⟨v, h3, h4⟩ := atI_rep h2 hz
    exact .inr (.inl ⟨p, vs, i, v, rfl, V2.int R2 e2, hk ▸ Same.sqT (Fz_dn R2.stp.sub) h1, h3, fin_vl R2 S2 V1.t_own hP h4⟩)
  · rename_i z' i e1 e2
    split at hz
    · rename_i hl
      simp only [Option.map_eq_some_iff] at hz
      obtain ⟨cc, h1, rfl⟩ := hz
      exact .inr (.inr ⟨z', i, cc, V1.str R2 e1, V2.int R2 e2, by rw [← cap_eq]; exact hl, h1, fin_vl R2 S2 V1.t_own hP (.str _)⟩)
    · cases hz
  · cases hz
theorem o_none : PO X none (rdO c Wx .no) := po_wk po_none fun σ H Q ⟨F0, H0, ρ, F, W, R, hP⟩ => by
  simp only [evO] at hP
  exact hP none F H R.refl rfl
theorem o_some {a : Expr} {ea : E} (ha : PE X a (rdE c Wx ea)) : PO X (some a) (rdO c Wx (.pt ea)) := po_wk (po_some ha) fun σ H Q ⟨F0, H0, ρ, F, W, R, hP⟩ => by
  simp only [evO] at hP
  refine rd_e R R.refl hP fun x W1 u F1 H1 S1 _ V1 R1 hP => ?_
  split at hP
  · rename_i i e
    exact ⟨i, V1.int R1 e, hP _ F1 H1 S1 rfl⟩
  · exact hP.elim
def rSlD (K : PySem.W.Frag) : V → Option Int → Option Int → Hp → VK → Prop := fun x lo hi H Q => (rSlA K x lo hi H Q ∨ rSlL K x lo hi H Q) ∨ rSlS x lo hi H Q
theorem sl_D : SlR X (rSlD X.K) := (sl_tupA.or sl_list).or sl_str
theorem e_sl {a : Expr} {lo hi : Option Expr} {ea el eh : E} {pos p2 : Pos} (hk : X.K = c.K) (ha : PE X a (rdE c Wx ea)) (hl : PO X lo (rdO c Wx el)) (hh : PO X hi (rdO c Wx eh)) : PE X (.Subscript a (.Slice lo hi none p2) pos) (rdE c Wx (.sl ea el eh)) := by
  refine pe_wk (pe_slice sl_D ha hl hh) fun σ H Q ⟨F0, H0, ρ, F, W, R, hP⟩ => ?_
  simp only [ev] at hP
  refine rd_e R R.refl hP fun x W1 u F1 H1 S1 _ V1 R1 hP => ?_
  refine rd_o R1 S1 hP fun l W2 F2 H2 S2 S12 R2 hP => ?_
  refine rd_o R2 S2 hP fun h W3 F3 H3 S3 S23 R3 hP => ?_
  obtain ⟨z, hz, hP⟩ := ofO_some hP
  have V1 := (V1.step R1 S12).step R2 S23
  unfold slD at hz
  split at hz
  · rename_i xs e1
    cases hz
    obtain ⟨p, vs, rfl, h1, h2⟩ := V1.lst R3 e1
    refine .inl (.inr ⟨p, vs, rfl, .inl (.inl h1), fin_lst R3 S3 V1.t_own hP ?_⟩)
    unfold cutV cutD
    rw [h2.length]
    exact (h2.drop _).take _
  · rename_i xs e1
    cases hz
    obtain ⟨p, vs, rfl, h1, h2⟩ := V1.tupP R3 e1
    have r : RepL c (Fz F3 H3 σ x.t) (cutV vs l h) (cutD xs l h) := by
      unfold cutV cutD
      rw [h2.length]
      exact (h2.drop _).take _
    refine .inl (.inl ⟨p, vs, rfl, hk ▸ Same.sqT (Fz_dn R3.stp.sub) (.inl (.inl h1)), fun hw => ?_, fun _ => fin_tup R3 S3 V1.t_own hP r⟩)
    have e : cutV vs l h = vs := by
      unfold cutV
      rw [hw.1, hw.2, List.drop_zero, Nat.sub_zero, List.take_length]
    rw [e] at r
    exact fin_vl R3 S3 V1.t_own hP (.tup h1 r)
  · rename_i x e1
    split at hz <;> cases hz
    rename_i hl
    exact .inr ⟨_, V1.str R3 e1, by rw [← cap_eq]; exact hl, fin_vl R3 S3 V1.t_own hP (.str _)⟩
  · cases hz
end
end Z

namespace Z
open PySem PySem.Spec PyProof.Rows L2
open Classical
section
variable {c : Pm} {Wx : WX} {X : Cx} {n : Nat} {W W' W1 W2 : Dr} {F0 H0 F H F' H' F1 H1 F2 H2 Hs : Hp} {ρ : En} {σ : L2.St} {u w : V} {x y v : Vl} {Q : VK}

def BiOk (c : Pm) (f : List D → Option (Bool × D)) (r : List V → Hp → VK → Prop) : Prop :=
  ∀ {Wx : WX} {W2 : Dr} {F0 H0 F H F2 H2 : Hp} {ρ : En} {σ : L2.St} {us : List V} {vs : List Vl} {Q : VK} {z : Bool × D}, Rel c F0 H0 ρ σ F2 H2 W2 → Stp c W2 F H F2 H2 → ArgOk c ρ σ H F2 H2 us vs →
    f (ds vs) = some z → Fin_ c Wx ρ σ F H Q (vo z (vs.flatMap (·.t))) W2 → r us H2 Q
theorem bi_end {f : Bi} {r : List V → Hp → VK → Prop} {a : E} {t : TA} (k : BiOk c (biD f) r) {σ : L2.St} {H : Hp} {Q : VK} (h : rdE c Wx (.bi f a) σ H Q) : tCB r (rdL c Wx a) σ H Q := by
  obtain ⟨F0, H0, ρ, F, W, R, hP⟩ := h
  simp only [ev] at hP
  refine rd_l R R.refl hP fun vs W2 us F2 H2 S2 _ A R2 hP => ?_
  obtain ⟨z, hz, hP⟩ := ofO_some hP
  exact k R2 S2 A hz hP
theorem e_biB {f : Bi} {r : List V → Hp → VK → Prop} {a : E} {z : Str} {id : String} {e : Expr} {es : List Expr} {p pos : Pos} (k : BiOk c (biD f) r) (hc : CallR X (.builtin id) r) (hg : Gl X z) (hm : X.mg z = none) (hv : bootBuiltins z = some (.builtin id)) (ha : PA X (e :: es) (rdL c Wx a))
    (hn : z ≠ "__name__") (hdb : (z == ("__debug__" : Str)) = false) (he : starEach (e :: es) X.env = (false, eval e X.env) :: starEach es X.env) (hpl : (backTo pos (starEach es X.env)).any (·.1) = false) : PE X (.Call (.Name z p) (e :: es) [] pos) (rdE c Wx (.bi f a)) :=
  pe_wk (pe_callB hc hg hm hv ha hn hdb he hpl) fun _ _ _ h => bi_end (t := rdL c Wx a) k h
theorem e_biT {f : Bi} {r : List V → Hp → VK → Prop} {a : E} {z : Str} {T : String} {e : Expr} {es : List Expr} {p pos : Pos} (k : BiOk c (biD f) r) (hc : CallR X (.type T) r) (hg : Gl X z) (hm : X.mg z = none) (hv : bootBuiltins z = some (.type T)) (ha : PA X (e :: es) (rdL c Wx a))
    (hn : z ≠ "__name__") (hdb : (z == ("__debug__" : Str)) = false) (he : starEach (e :: es) X.env = (false, eval e X.env) :: starEach es X.env) (hpl : (backTo pos (starEach es X.env)).any (·.1) = false) : PE X (.Call (.Name z p) (e :: es) [] pos) (rdE c Wx (.bi f a)) :=
  pe_wk (pe_callTy hc hg hm hv ha hn hdb he hpl) fun _ _ _ h => bi_end (t := rdL c Wx a) k h

theorem args1 {us : List V} {vs : List Vl} {d : D} (A : ArgOk c ρ σ Hs F H us vs) (e : ds vs = [d]) : ∃ u v, us = [u] ∧ vs = [v] ∧ v.d = d ∧ ValOk c ρ σ Hs F H u v := by
  cases A with
  | nil => simp [ds] at e
  | cons r t =>
    cases t with
    | nil => simp [ds] at e; exact ⟨_, _, rfl, rfl, e, r⟩
    | cons _ _ => simp [ds] at e
theorem args2 {us : List V} {vs : List Vl} {d d' : D} (A : ArgOk c ρ σ Hs F H us vs) (e : ds vs = [d, d']) : ∃ u v u' v', us = [u, u'] ∧ vs = [v, v'] ∧ v.d = d ∧ v'.d = d' ∧ ValOk c ρ σ Hs F H u v ∧ ValOk c ρ σ Hs F H u' v' := by
  cases A with
  | nil => simp [ds] at e
  | cons r t =>
    cases t with
    | nil => simp [ds] at e
    | cons r' t =>
      cases t with
      | nil => simp [ds] at e; exact ⟨_, _, _, _, rfl, rfl, e.1, e.2, r, r'⟩
      | cons _ _ => simp [ds] at e
theorem repL_ints : ∀ {vs : List V} {xs : List D} {ns : List Int}, RepL c F vs xs → D.ints xs = some ns → vs = ns.map V.int
  | _, [], _, r, h => by
    simp only [D.ints, Option.some.injEq] at h
    subst h; cases r; rfl
  | _, x :: xs, _, r, h => by
    cases x <;> simp only [D.ints] at h <;> try (cases h)
    rename_i i
    simp only [Option.map_eq_some_iff] at h
    obtain ⟨ms, h1, rfl⟩ := h
    cases r with
    | cons r1 r2 => rw [r1.intI, repL_ints r2 h1]; rfl
theorem repL_bls : ∀ {vs : List V} {xs : List D} {ns : List Bool}, RepL c F vs xs → D.bls xs = some ns → vs = ns.map V.bl
  | _, [], _, r, h => by
    simp only [D.bls, Option.some.injEq] at h
    subst h; cases r; rfl
  | _, x :: xs, _, r, h => by
    cases x <;> simp only [D.bls] at h <;> try (cases h)
    rename_i i
    simp only [Option.map_eq_some_iff] at h
    obtain ⟨ms, h1, rfl⟩ := h
    cases r with
    | cons r1 r2 => rw [r1.blI, repL_bls r2 h1]; rfl

def rLenD (K : PySem.W.Frag) : List V → Hp → VK → Prop := fun xs H Q => ∃ x n, xs = [x] ∧ LenV K x H n ∧ Q (.int n) H
theorem len_ok : BiOk c lenD (rLenD c.K) := by
  intro Wx W2 F0 H0 F H F2 H2 ρ σ us vs Q z R S A h hq
  unfold lenD at h
  split at h
  · rename_i xs e
    cases h
    obtain ⟨u, v, rfl, rfl, e1, k⟩ := args1 A e
    obtain ⟨a, ws, rfl, h1, h2⟩ := k.lst R e1
    exact ⟨_, xs.length, rfl, .inl ⟨ws, .inl (.inl h1), h2.length.symm⟩, fin_vl R S (by simpa using k.t_own) hq (.int _)⟩
  · rename_i xs e
    cases h
    obtain ⟨u, v, rfl, rfl, e1, k⟩ := args1 A e
    obtain ⟨a, ws, rfl, h1, h2⟩ := k.tup R e1
    exact ⟨_, xs.length, rfl, .inr ⟨ws, Same.sqT (Fz_dn R.stp.sub) h1, h2.length.symm⟩, fin_vl R S (by simpa using k.t_own) hq (.int _)⟩
  · rename_i ns e
    cases h
    obtain ⟨u, v, rfl, rfl, e1, k⟩ := args1 A e
    have a := k.rep R e1 fun _ _ _ h => h
    cases a with
    | scr a => exact ⟨_, ns.length, rfl, .inl ⟨_, a.seq (Fz_dn R.stp.sub), by rw [List.length_map]⟩, fin_vl R S (by simpa using k.t_own) hq (.int _)⟩
  · rename_i x e
    split at h <;> cases h
    rename_i hl
    obtain ⟨u, v, rfl, rfl, e1, k⟩ := args1 A e
    obtain rfl := k.str R e1
    exact ⟨_, x.length, rfl, ⟨by rw [← cap_eq]; exact hl, rfl⟩, fin_vl R S (by simpa using k.t_own) hq (.int _)⟩
  · cases h
def rListD (K : PySem.W.Frag) : List V → Hp → VK → Prop := fun xs H Q => ∃ p ys, xs = [.ref p] ∧ (SqL K H p ys ∨ SqT K H p ys) ∧ ∀ l, H l = none → Q (.ref l) (upd H l (.lst ys))
theorem list_ok : BiOk c listD (rListD c.K) := by
  intro Wx W2 F0 H0 F H F2 H2 ρ σ us vs Q z R S A h hq
  unfold listD at h
  split at h
  · rename_i xs e
    cases h
    obtain ⟨u, v, rfl, rfl, e1, k⟩ := args1 A e
    obtain ⟨a, ws, rfl, h1, h2⟩ := k.lst R e1
    exact ⟨a, ws, rfl, .inl (.inl (.inl h1)), fin_lst R S (by simpa using k.t_own) hq (by simpa using h2)⟩
  · rename_i xs e
    cases h
    obtain ⟨u, v, rfl, rfl, e1, k⟩ := args1 A e
    obtain ⟨a, ws, rfl, h1, h2⟩ := k.tup R e1
    exact ⟨a, ws, rfl, .inr (Same.sqT (Fz_dn R.stp.sub) h1), fin_lst R S (by simpa using k.t_own) hq (by simpa using h2)⟩
  · cases h
def rTupleD (K : PySem.W.Frag) : List V → Hp → VK → Prop := fun xs H Q => ∃ p ys, xs = [.ref p] ∧ ((SqL K H p ys ∧ ∀ l, H l = none → Q (.ref l) (upd H l (.tup ys))) ∨ (SqT K H p ys ∧ Q (.ref p) H))
theorem tuple_ok : BiOk c tupleD (rTupleD c.K) := by
  intro Wx W2 F0 H0 F H F2 H2 ρ σ us vs Q z R S A h hq
  unfold tupleD at h
  split at h
  · rename_i xs e
    cases h
    obtain ⟨u, v, rfl, rfl, e1, k⟩ := args1 A e
    obtain ⟨a, ws, rfl, h1, h2⟩ := k.lst R e1
    exact ⟨a, ws, rfl, .inl ⟨.inl (.inl h1), fin_tup R S (by simpa using k.t_own) hq (by simpa using h2)⟩⟩
  · rename_i xs e
    cases h
    obtain ⟨u, v, rfl, rfl, e1, k⟩ := args1 A e
    obtain ⟨a, ws, rfl, h1, h2⟩ := k.tupP R e1
    exact ⟨a, ws, rfl, .inr ⟨Same.sqT (Fz_dn R.stp.sub) (.inl (.inl h1)), fin_vl R S (by simpa using k.t_own) hq (by simpa using (Rep.tup h1 h2))⟩⟩
  · cases h
theorem min_ok : BiOk c minD2 (fun xs H Q => ∃ i j, xs = [.int i, .int j] ∧ Q (.int (if j < i then j else i)) H) := by
  intro Wx W2 F0 H0 F H F2 H2 ρ σ us vs Q z R S A h hq
  unfold minD2 at h
  split at h
  · rename_i i j e
    cases h
    obtain ⟨u, v, u', v', rfl, rfl, e1, e2, k, k'⟩ := args2 A e
    exact ⟨i, j, by rw [k.int R e1, k'.int R e2], fin_vl R S (by simpa using own_app k.t_own k'.t_own) hq (.int _)⟩
  · cases h
theorem sum_ok : BiOk c sumD (rSum c.K) := by
  intro Wx W2 F0 H0 F H F2 H2 ρ σ us vs Q z R S A h hq
  unfold sumD at h
  split at h
  · rename_i xs e
    simp only [Option.map_eq_some_iff] at h
    obtain ⟨ns, h, rfl⟩ := h
    obtain ⟨u, v, rfl, rfl, e1, k⟩ := args1 A e
    obtain ⟨a, ws, rfl, h1, h2⟩ := k.lst R e1
    rw [repL_ints h2 h] at h1
    exact ⟨a, ns, rfl, .inl (.inl h1), fin_vl R S (by simpa using k.t_own) hq (.int _)⟩
  · cases h
theorem all_ok : BiOk c allD (rAll c.K) := by
  intro Wx W2 F0 H0 F H F2 H2 ρ σ us vs Q z R S A h hq
  unfold allD at h
  split at h
  · rename_i xs e
    simp only [Option.map_eq_some_iff] at h
    obtain ⟨ns, h, rfl⟩ := h
    obtain ⟨u, v, rfl, rfl, e1, k⟩ := args1 A e
    obtain ⟨a, ws, rfl, h1, h2⟩ := k.lst R e1
    rw [repL_bls h2 h] at h1
    exact ⟨a, ns, rfl, .inl (.inl h1), fin_vl R S (by simpa using k.t_own) hq (.bl _)⟩
  · cases h
theorem abs_ok : BiOk c absD (fun xs H Q => ∃ i, xs = [.int i] ∧ Q (.int (if i < 0 then -i else i)) H) := by
  intro Wx W2 F0 H0 F H F2 H2 ρ σ us vs Q z R S A h hq
  unfold absD at h
  split at h
  · rename_i i e
    cases h
    obtain ⟨u, v, rfl, rfl, e1, k⟩ := args1 A e
    exact ⟨i, by rw [k.int R e1], fin_vl R S (by simpa using k.t_own) hq (.int _)⟩
  · cases h
theorem int_ok : BiOk c intD (fun xs H Q => (∃ i, xs = [.int i] ∧ Q (.int i) H) ∨ ∃ k, xs = [.bl k] ∧ Q (.int (if k then 1 else 0)) H) := by
  intro Wx W2 F0 H0 F H F2 H2 ρ σ us vs Q z R S A h hq
  unfold intD at h
  split at h
  · rename_i i e
    cases h
    obtain ⟨u, v, rfl, rfl, e1, k⟩ := args1 A e
    exact .inl ⟨i, by rw [k.int R e1], fin_vl R S (by simpa using k.t_own) hq (.int _)⟩
  · rename_i b e
    cases h
    obtain ⟨u, v, rfl, rfl, e1, k⟩ := args1 A e
    exact .inr ⟨b, by rw [k.bl R e1], fin_vl R S (by simpa using k.t_own) hq (.int _)⟩
  · cases h

end
end Z

namespace Z
open PySem PySem.Spec PyProof.Rows L2
open Classical
section
variable {c : Pm} {Wx : WX} {X : Cx} {n : Nat} {W W' W1 W2 : Dr} {F0 H0 F H F' H' F1 H1 F2 H2 Hs : Hp} {ρ ρ' : En} {σ σ' : L2.St} {u w : V} {x y v : Vl} {Q : VK}

inductive Item (c : Pm) (B : Hp) (H : Hp) (u : V) (x : D) (H' : Hp) : Prop
  | inl : (H' = H ∧ Rep c B u x) → Item c B H u x H'
  | inr : (∃ T vs xs, u = .ref T ∧ x = .tup xs ∧ H T = none ∧ H' = upd H T (.tup vs) ∧ RepL c B vs xs) → Item c B H u x H'
  | gen : (∀ F W, Stp c W F H F H → Same B F → ∃ F', Stp c W F H F' H' ∧ Rep c F' u x) → Item c B H u x H'
structure WkOk (c : Pm) (B B' : Hp) (xs : List D) (J : It) : Prop where
  go : ∀ i x H, xs[i]? = some x → Same B H → J.go i H ∧ ∀ u H', J.yld i H u H' → Item c B' H u x H'
  stop : ∀ H, Same B H → J.stop xs.length H
def rdI (c : Pm) (Wx : WX) (e : E) : TI := fun σ H R => ∃ F0 H0 ρ F W, Rel c F0 H0 ρ σ F H W ∧
  Pst c Wx σ F H (fun (p : Wk) (J : It) F' H' => (∀ i ∈ p.me, ∃ x, ρ[i]? = some (.own x)) ∧ (∀ i ∈ p.t, ∃ x, ρ[i]? = some (.own x)) ∧ WkOk c (Fz F' H' σ p.me) (Fz F' H' σ p.t) p.xs J) R (evI e ρ W)

theorem Item.step (R : Rel c F0 H0 ρ σ F H W) {B : Hp} {d : D} (k : Item c B H u d H') (s : Same B F) : ∃ F', Stp c W F H F' H' ∧ Rep c F' u d := by
  rcases k with ⟨rfl, r⟩ | ⟨T, vs, xs, rfl, rfl, e1, rfl, r⟩ | g
  · exact ⟨F, R.refl, r.mono s⟩
  · have S := R.refl.makeF (o := .tup vs) e1
    exact ⟨_, S, .tup upd_same ((r.mono s).mono S.f)⟩
  · exact g F W R.refl s

theorem wk_list {a : Addr} {vs : List V} {xs : List D} {B B' : Hp} (h : ∀ H, Same B H → SqL c.K H a vs) (r : RepL c B' vs xs) : WkOk c B B' xs (Itl c.K a) := by
  refine ⟨fun i x H e s => ?_, fun H s => ?_⟩
  · obtain ⟨v, h1, h2⟩ := r.get e
    refine ⟨⟨vs, v, h H s, h1⟩, fun u H' ⟨e1, e2⟩ => .inl ⟨e1, ?_⟩⟩
    have q := e2 vs (h H s)
    rw [h1] at q
    exact Option.some.inj q ▸ h2
  · exact ⟨vs, h H s, by rw [r.length]; exact Nat.le_refl _⟩
theorem wk_tup {a : Addr} {vs : List V} {xs : List D} {B B' : Hp} (h : ∀ H, Same B H → SqT c.K H a vs) (r : RepL c B' vs xs) : WkOk c B B' xs (Itt c.K a) := by
  refine ⟨fun i x H e s => ?_, fun H s => ?_⟩
  · obtain ⟨v, h1, h2⟩ := r.get e
    refine ⟨⟨vs, v, h H s, h1⟩, fun u H' ⟨e1, e2⟩ => .inl ⟨e1, ?_⟩⟩
    have q := e2 vs (h H s)
    rw [h1] at q
    exact Option.some.inj q ▸ h2
  · exact ⟨vs, h H s, by rw [r.length]; exact Nat.le_refl _⟩
theorem wk_range {lo : Int} {m : Nat} {B B' : Hp} : WkOk c B B' ((List.range m).map fun k : Nat => .int (lo + k)) (Itr lo m) := by
  refine ⟨fun i x H e s => ?_, fun H s => ?_⟩
  · rw [List.getElem?_map, Option.map_eq_some_iff] at e
    obtain ⟨k, e1, rfl⟩ := e
    have hi : i < m := by
      have := (List.getElem?_eq_some_iff.mp e1).1
      simpa using this
    have hk : k = i := by
      rw [List.getElem?_range hi] at e1
      exact (Option.some.inj e1).symm
    subst hk
    refine ⟨hi, fun u H' ⟨e1, e2⟩ => .inl ⟨e1, ?_⟩⟩
    subst e2
    exact .int _
  · show m ≤ _
    simp

theorem val_walk (R0 : Rel c F0 H0 ρ σ F H W) (R : Rel c F0 H0 ρ σ F2 H2 W2) (S : Stp c W2 F H F2 H2) (k : ValOk c ρ σ H F2 H2 u v) : ∃ F3, Stp c W2 F H F3 H2 ∧ Same F2 F3 ∧ ((∃ a vs xs, u = .ref a ∧ v.d = .lst xs ∧ H2 a = some (.lst vs) ∧ Fz F3 H2 σ v.all a = some (.lst vs) ∧ RepL c (Fz F3 H2 σ v.t) vs xs) ∨
    (∃ a vs xs, u = .ref a ∧ v.d = .tup xs ∧ SqT c.K (Fz F3 H2 σ v.all) a vs ∧ RepL c (Fz F3 H2 σ v.t) vs xs) ∨ ((∀ xs, v.d ≠ .lst xs) ∧ ∀ xs, v.d ≠ .tup xs)) := by
  have A : ArgOk c ρ σ H F2 H2 [u] [v] := .cons k .nil
  have S3 := Ft_stp S A
  have up := Ft_up (us := [u]) (vs := [v]) R.stp.sub
  have mo : ∀ t : List Nat, Same (Fz F2 H2 σ t) (Fz (Ft F2 H2 [u] [v]) H2 σ t) := fun t a o e => by
    by_cases q : AtS σ t a
    · rw [Fz_in q] at e ⊢; exact e
    · rw [Fz_out q] at e ⊢; exact up _ _ e
  have tl : ∀ i ∈ v.t, i ∈ v.all := fun i hi => by
    unfold Vl.all; split
    · exact List.mem_cons_of_mem _ hi
    · exact hi
  refine ⟨_, S3, up, ?_⟩
  cases e : v.d
  case lst xs =>
    obtain ⟨a, vs, rfl, h1, h2⟩ := k.lst R e
    refine .inl ⟨a, vs, xs, rfl, rfl, h1, ?_, h2.mono (mo _)⟩
    by_cases q : AtS σ v.all a
    · rw [Fz_in q]; exact h1
    · rw [Fz_out q]
      have b := k.at_
      have hq := q
      unfold Vl.all at hq
      revert b hq
      cases hk : v.k with
      | pl =>
        intro b hq
        rw [e] at b
        obtain ⟨a', vs', e1, e2, _⟩ := b.lstI
        cases e1
        rw [Fz_out hq] at e2
        exact up _ _ (by rw [e2, ← h1]; exact (R.stp.sub _ _ e2).symm)
      | me i =>
        rintro ⟨_, _, b3⟩ hq
        exact (hq ⟨i, List.mem_cons_self, b3⟩).elim
      | fr =>
        intro _ _
        unfold Ft
        rw [if_pos (show TmpAt [V.ref a] [v] a from .inl ⟨hk, rfl⟩)]
        exact h1
  case tup xs =>
    obtain ⟨a, vs, rfl, h1, h2⟩ := k.tup R e
    exact .inr (.inl ⟨a, vs, xs, rfl, rfl, Same.sqT (fun b o q => Fz_mono S3.sub tl _ _ (mo _ _ _ q)) h1, h2.mono (mo _)⟩)
  all_goals exact .inr (.inr ⟨fun _ h => D.noConfusion h, fun _ h => D.noConfusion h⟩)

theorem i_wk {tg a : Expr} {ea : E} (hk : X.K = c.K) (ha : PE X a (rdE c Wx ea)) (hs : PI X tg a (iStr (rdE c Wx ea)) := by exact pi_str ha) : PI X tg a (rdI c Wx (.wk ea)) := by
  refine ⟨fun pins s σ H RR I ⟨F0, H0, ρ, F, W, R, hP⟩ => ?_⟩
  simp only [evI] at hP
  cases e : ev ea ρ W with
  | stk => rw [e] at hP; exact hP.elim
  | ex x W1 =>
    rw [e] at hP
    refine (pi_list ha).run pins s σ H RR I ⟨F0, H0, ρ, F, W, R, ?_⟩
    rw [e]
    exact hP
  | ok x W1 =>
    rw [e] at hP
    obtain ⟨xs, hx, hP⟩ := ofO_some hP
    cases ed : x.d
    case lst ys =>
      rw [ed] at hx
      cases hx
      refine (pi_list ha).run pins s σ H RR I ⟨F0, H0, ρ, F, W, R, ?_⟩
      rw [e]
      intro u F1 H1 S1 V1
      have R1 := R.step S1
      obtain ⟨F3, S3, up, q⟩ := val_walk R R1 S1 V1
      rcases q with ⟨b, vs, zs, rfl, e1, e2, e3, e4⟩ | ⟨b, vs, zs, rfl, e1, _⟩ | ⟨q, _⟩
      · rw [ed] at e1
        cases e1
        refine ⟨b, rfl, ⟨vs, hk ▸ .inl (.inl e2)⟩, hP _ F3 H1 S3 ⟨V1.own, V1.t_own, ?_⟩⟩
        rw [hk]
        exact wk_list (fun H s => .inl (.inl (s _ _ e3))) e4
      · rw [ed] at e1; cases e1
      · exact (q _ ed).elim
    case scr ns =>
      rw [ed] at hx
      cases hx
      refine (pi_list ha).run pins s σ H RR I ⟨F0, H0, ρ, F, W, R, ?_⟩
      rw [e]
      intro u F1 H1 S1 V1
      have R1 := R.step S1
      have a := V1.rep R1 ed fun _ _ _ h => h
      cases a with
      | scr a =>
        have go : ∀ l : List Int, RepL c (Fz F1 H1 σ x.t) (l.map V.int) (l.map D.int) := fun l => by
          induction l with
          | nil => exact .nil
          | cons y l ih => exact .cons (.int y) ih
        refine ⟨_, rfl, ⟨_, hk ▸ a.seq (Fz_dn R1.stp.sub)⟩, hP _ F1 H1 S1 ⟨V1.own, V1.t_own, ?_⟩⟩
        rw [hk]
        have tl : ∀ i ∈ x.t, i ∈ x.all := fun i hi => by
          unfold Vl.all; split
          · exact List.mem_cons_of_mem _ hi
          · exact hi
        exact wk_list (fun H s => a.seq fun b o q => s _ _ (Fz_mono R1.stp.sub tl _ _ q)) (go _)
    case tup ys =>
      rw [ed] at hx
      cases hx
      refine (pi_tup ha).run pins s σ H RR I ⟨F0, H0, ρ, F, W, R, ?_⟩
      rw [e]
      intro u F1 H1 S1 V1
      have R1 := R.step S1
      obtain ⟨F3, S3, up, q⟩ := val_walk R R1 S1 V1
      rcases q with ⟨b, vs, zs, rfl, e1, _⟩ | ⟨b, vs, zs, rfl, e1, e3, e4⟩ | ⟨_, q⟩
      · rw [ed] at e1; cases e1
      · rw [ed] at e1
        cases e1
        have s3 : Same (Fz F3 H1 σ x.all) H1 := Fz_dn S3.sub
        refine ⟨b, rfl, ⟨vs, hk ▸ Same.sqT s3 e3⟩, hP _ F3 H1 S3 ⟨V1.own, V1.t_own, ?_⟩⟩
        rw [hk]
        exact wk_tup (fun H s => Same.sqT s e3) e4
      · exact (q _ ed).elim
    case str z =>
      rw [ed] at hx
      cases hx
      refine hs.run pins s σ H RR I ⟨F0, H0, ρ, F, W, R, ?_⟩
      rw [e]
      intro u F1 H1 S1 V1
      have R1 := R.step S1
      refine ⟨z, V1.str R1 ed, hP _ F1 H1 S1 ⟨V1.own, V1.t_own, ⟨fun i d H' ei s => ?_, fun H' s => ?_⟩⟩⟩
      · have wz := walk_str (z := z)
        rw [List.getElem?_map, Option.map_eq_some_iff] at ei
        obtain ⟨cc, e1, rfl⟩ := ei
        have hi : i < z.cps.size := by simpa using (List.getElem?_eq_some_iff.mp e1).1
        refine ⟨wz.goes i H' hi trivial, fun u H'' hy => ?_⟩
        obtain ⟨e3, c', e4, e5⟩ := wz.yields i H' u H'' hi trivial hy
        have : c' = cc := by
          rw [Array.getElem?_toList, e4] at e1
          exact Option.some.inj e1
        subst this e5
        exact .inl ⟨e3, .str _⟩
      · have wz := walk_str (z := z)
        have := wz.stops H' trivial
        simpa using this
    all_goals
      rw [ed] at hx
      cases hx
theorem evL_one {a : E} {ys : List Vl} (h : evL (.cons a .nil) ρ W = .ok ys W1) : ∃ y, ys = [y] := by
  simp only [evL] at h
  cases e : ev a ρ W with
  | stk => rw [e] at h; cases h
  | ex x W => rw [e] at h; cases h
  | ok x W =>
    rw [e] at h
    simp only [Out.bind] at h
    cases h
    exact ⟨_, rfl⟩
theorem i_rng1 {tg a : Expr} {ea : E} {p pos : Pos} (hg : Gl X "range") (hm : X.mg "range" = none) (ha : PA X [a] (rdL c Wx (.cons ea .nil))) (hs : starEach [a] X.env = [(false, eval a X.env)]) : PI X tg (.Call (.Name "range" p) [a] [] pos) (rdI c Wx (.rng (.cons ea .nil))) := by
  refine ⟨fun pins s σ H RR I ⟨F0, H0, ρ, F, W, R, hP⟩ => (pi_range1 hg hm ha hs).run pins s σ H RR I ?_⟩
  simp only [evI] at hP
  refine rd_le R R.refl hP fun vs W2 us F2 H2 he S2 _ A R2 hP => ?_
  obtain ⟨y, rfl⟩ := evL_one he
  obtain ⟨xs, hx, hP⟩ := ofO_some hP
  obtain ⟨u, v, rfl, e, e1, V1⟩ := args1 A (d := y.d) rfl
  cases e
  simp only [ds, List.map_cons, List.map_nil] at hx
  unfold rngD at hx
  simp only [big_eq] at hx
  split at hx
  · rename_i k e
    have e' := (List.cons.inj e).1
    split at hx <;> cases hx
    rename_i hb
    refine ⟨k, by rw [V1.int R2 e'], hb.1, hb.2, hP _ F2 H2 S2 ⟨fun i h => by simp at h, fun i h => by simp at h, ?_⟩⟩
    have q := wk_range (c := c) (lo := 0) (m := k.toNat) (B := Fz F2 H2 σ []) (B' := Fz F2 H2 σ [])
    simpa only [Int.zero_add] using q
  · rename_i e
    have := (List.cons.inj e).2
    cases this
  · cases hx
end
end Z

namespace Z
open PySem PySem.Spec PyProof.Rows L2
open Classical
section
variable {c : Pm} {Wx : WX} {X : Cx} {n : Nat} {W W' W1 W2 : Dr} {F0 H0 F H F' H' F1 H1 F2 H2 Hs : Hp} {ρ ρ' : En} {σ σ' : L2.St} {u w : V} {x y v : Vl} {Q : VK}

theorem Rel.setv {i : Nat} {d : D} (R : Rel c F0 H0 ρ σ F H W) (r : Rep c F u d) : Rel c F0 H0 (ρ.set i (.val d)) (σ.set i (some u)) F H W := by
  refine ⟨by rw [List.length_set, List.length_set]; exact R.len, R.stp, fun j s e => ?_, fun j k d1 d2 p e1 e2 e3 e4 => ?_⟩
  · by_cases h : i = j
    · subst h
      have hl : i < ρ.length := by
        have := (List.getElem?_eq_some_iff.mp e).1
        simpa using this
      rw [List.getElem?_set_self hl] at e
      cases e
      exact ⟨u, by rw [List.getElem?_set_self (R.len ▸ hl)], r⟩
    · rw [List.getElem?_set_ne h] at e
      rw [List.getElem?_set_ne h]
      exact R.slot j s e
  · have a : ∀ {j : Nat} {d' : D}, (ρ.set i (.val d))[j]? = some (.own d') → i ≠ j ∧ ρ[j]? = some (.own d') := fun {j d'} e => by
      by_cases h : i = j
      · subst h
        have hl : i < ρ.length := by
          have := (List.getElem?_eq_some_iff.mp e).1
          simpa using this
        rw [List.getElem?_set_self hl] at e
        cases e
      · rw [List.getElem?_set_ne h] at e
        exact ⟨h, e⟩
    obtain ⟨n1, o1⟩ := a e1
    obtain ⟨n2, o2⟩ := a e2
    rw [List.getElem?_set_ne n1] at e3
    rw [List.getElem?_set_ne n2] at e4
    exact R.dist j k d1 d2 p o1 o2 e3 e4
theorem Rel.wip (R : Rel c F0 H0 ρ σ F H W) : ∀ own : List Nat, Rel c F0 H0 (Z.wip ρ own) (wipe σ own) F H W
  | [] => R
  | i :: own => by
    have q := Rel.wip R own
    unfold Z.wip wipe
    refine ⟨by rw [List.length_set, List.length_set]; exact q.len, q.stp, fun j s e => ?_, fun j k d1 d2 p e1 e2 e3 e4 => ?_⟩
    · by_cases h : i = j
      · subst h
        have hl : i < (Z.wip ρ own).length := by
          have := (List.getElem?_eq_some_iff.mp e).1
          simpa using this
        rw [List.getElem?_set_self hl] at e
        cases e
        rw [List.getElem?_set_self (q.len ▸ hl)]
        exact fun z => nomatch z
      · rw [List.getElem?_set_ne h] at e
        rw [List.getElem?_set_ne h]
        exact q.slot j s e
    · have a : ∀ {j : Nat} {d' : D}, ((Z.wip ρ own).set i .un)[j]? = some (.own d') → i ≠ j ∧ (Z.wip ρ own)[j]? = some (.own d') := fun {j d'} e => by
        by_cases h : i = j
        · subst h
          have hl : i < (Z.wip ρ own).length := by
            have := (List.getElem?_eq_some_iff.mp e).1
            simpa using this
          rw [List.getElem?_set_self hl] at e
          cases e
        · rw [List.getElem?_set_ne h] at e
          exact ⟨h, e⟩
      obtain ⟨n1, o1⟩ := a e1
      obtain ⟨n2, o2⟩ := a e2
      rw [List.getElem?_set_ne n1] at e3
      rw [List.getElem?_set_ne n2] at e4
      exact q.dist j k d1 d2 p o1 o2 e3 e4
theorem wip_get {own : List Nat} {i : Nat} {s : Sl} (h : (Z.wip ρ own)[i]? = some s) : (i ∈ own ∧ s = .un) ∨ (i ∉ own ∧ ρ[i]? = some s) := by
  induction own with
  | nil => exact .inr ⟨by simp, h⟩
  | cons j own ih =>
    unfold Z.wip at h
    by_cases e : j = i
    · subst e
      have hl : j < (Z.wip ρ own).length := by
        have := (List.getElem?_eq_some_iff.mp h).1
        simpa using this
      rw [List.getElem?_set_self hl] at h
      cases h
      exact .inl ⟨List.mem_cons_self, rfl⟩
    · rw [List.getElem?_set_ne e] at h
      rcases ih h with ⟨a, b⟩ | ⟨a, b⟩
      · exact .inl ⟨List.mem_cons_of_mem _ a, b⟩
      · exact .inr ⟨fun z => (List.mem_cons.mp z).elim (fun q => e q.symm) a, b⟩
theorem wipe_off {σ : L2.St} {i : Nat} : ∀ {own : List Nat}, i ∉ own → (wipe σ own)[i]? = σ[i]?
  | [], _ => rfl
  | j :: own, h => by
    unfold wipe
    rw [List.getElem?_set_ne fun e => h (by rw [e]; exact List.mem_cons_self)]
    exact wipe_off fun z => h (List.mem_cons_of_mem _ z)
theorem wipe_on {σ : L2.St} {i : Nat} : ∀ {own : List Nat}, i ∈ own → i < σ.length → (wipe σ own)[i]? = some none
  | j :: own, h, hl => by
    unfold wipe
    by_cases e : j = i
    · subst e; rw [List.getElem?_set_self (by rw [wipe_length]; exact hl)]
    · rw [List.getElem?_set_ne e]
      exact wipe_on ((List.mem_cons.mp h).elim (fun q => absurd q.symm e) id) hl
theorem wipe_eq {σ σ' : L2.St} {own : List Nat} (hl : σ'.length = σ.length) (h : ∀ i, i ∉ own → σ'[i]? = σ[i]?) : wipe σ' own = wipe σ own := by
  refine List.ext_getElem? fun i => ?_
  by_cases hi : i ∈ own
  · by_cases hlt : i < σ.length
    · rw [wipe_on hi hlt, wipe_on hi (hl ▸ hlt)]
    · rw [List.getElem?_eq_none (by rw [wipe_length]; omega), List.getElem?_eq_none (by rw [wipe_length]; omega)]
  · rw [wipe_off hi, wipe_off hi]; exact h i hi
theorem wipe_wipe {σ : L2.St} {own : List Nat} : wipe (wipe σ own) own = wipe σ own := wipe_eq (wipe_length _ _) fun i hi => wipe_off hi

def GOk (c : Pm) (pt : Pat) (own : List Nat) (g : TG) : Prop := ∀ {F0 H0 : Hp} {ρ ρ' : En} {σ : L2.St} {F H : Hp} {W : Dr} {u : V} {x : D} {Q : L2.St → Hp → Prop}, Rel c F0 H0 ρ σ F H W → Rep c F u x → bindP pt x ρ = some ρ' →
  (∀ σ', Rel c F0 H0 ρ' σ' F H W → σ'.length = σ.length → (∀ i, i ∉ own → σ'[i]? = σ[i]?) → (∀ (i : Nat) (d : D), ρ'[i]? = some (.own d) → ρ[i]? = some (.own d)) → Q σ' H) → g u σ H Q
theorem set_own {i : Nat} {x : D} {j : Nat} {d : D} (h : (ρ.set i (.val x))[j]? = some (.own d)) : ρ[j]? = some (.own d) := by
  by_cases e : i = j
  · subst e
    have hl : i < ρ.length := by
      have := (List.getElem?_eq_some_iff.mp h).1
      simpa using this
    rw [List.getElem?_set_self hl] at h; cases h
  · rw [List.getElem?_set_ne e] at h; exact h
theorem g_nm {i : Nat} {own : List Nat} (hi : i ∈ own) : GOk c (.nm i) own (gName i) := by
  intro F0 H0 ρ ρ' σ F H W u x Q R r hb k
  cases hb
  refine k _ (R.setv r) (List.length_set) (fun j hj => ?_) (fun j d e => set_own e)
  refine List.getElem?_set_ne fun e => hj ?_
  rw [← e]; exact hi
def gNames : List Nat → TGs
  | [] => gNil
  | i :: is => gCons (gName i) (gNames is)
abbrev WXF : WX := fun _ _ _ _ => False
theorem tabs_set {T : List (Addr × Str)} {H : Hp} {D : Addr} {o : HO} (t : LamX.Tabs T H) (h : D ∉ T.map (·.1)) (hc : ∀ q, H D ≠ some (LamX.CodeO D q)) : LamX.Tabs T (upd H D o) := fun p hp => by
  obtain ⟨ps, e1, e2, e3⟩ := t p hp
  refine ⟨ps, by rw [upd_ne fun z => h (List.mem_map.mpr ⟨p, hp, z⟩)]; exact e1, e2, fun pos cv hv => ?_⟩
  obtain ⟨cc, k1, k2⟩ := e3 pos cv hv
  exact ⟨cc, k1, by rw [upd_ne fun z => hc p.2 (by rw [← z]; exact k2)]; exact k2⟩
theorem mv_tb {D : Addr} (h : D ∉ c.mv) : D ∉ c.tb.map (·.1) := fun z => h (List.mem_append_right _ z)
theorem mv_dl {D : Addr} (h : D ∉ c.mv) : D ∉ c.dl := fun z => h (List.mem_append_left _ z)
theorem Stp.no {D : Addr} {o : HO} (S : Stp c W F H F1 H1) (h2 : Nil H D) (h3 : D ∉ c.mv) (h5 : ∀ q, H1 D ≠ some (.tup q)) (e : H D = some o) (n : Nt o) : False :=
  h2.no e ⟨n, fun q z => h5 q (z ▸ S.h _ _ e h3 n)⟩
theorem Stp.setD {D : Addr} {o : HO} (S : Stp c W F H F1 H1) (h1 : F1 D = none) (h2 : Nil H D) (h3 : D ∉ c.mv) (h4 : ∀ q, H1 D ≠ some (LamX.CodeO D q)) (h5 : ∀ q, H1 D ≠ some (.tup q)) (h6 : NE H1 D) : Stp c W F H F1 (upd H1 D o) := by
  refine ⟨S.f, fun a o' e => ?_, fun a o' e n k => ?_, S.new, S.nt, S.av, ?_, S.cl, tabs_set S.tabs (mv_tb h3) h4, S.ed.up (Same.refl _) fun a o' e k => by
    by_cases z : a = D
    · subst z; exact absurd k (h6 o' e)
    · rw [upd_ne z]; exact e⟩
  · rw [upd_ne fun z => by rw [z, h1] at e; cases e]; exact S.sub _ _ e
  · rw [upd_ne fun z => by rw [z] at e; exact S.no h2 h3 h5 e k]; exact S.h _ _ e n k
  · rcases S.dr with h | ⟨a0, a1, h, n, e0, e1⟩
    · exact .inl h
    · have ne : ∀ a, a ∈ c.dl → a ≠ D := fun a ha z => mv_dl h3 (z ▸ ha)
      rw [h] at ne
      exact .inr ⟨a0, a1, h, n, by rw [upd_ne (ne a0 (by simp))]; exact e0, by rw [upd_ne (ne a1 (by simp))]; exact e1⟩
theorem OwnAt.at {F H H' : Hp} {p : Addr} {x : D} (h : OwnAt c F H p x) (e : H' p = H p) : OwnAt c F H' p x := h.mono (Same.refl _) fun o q => by rw [e]; exact q
theorem Rel.setD {D : Addr} {o : HO} (R0 : Rel c F0 H0 ρ σ F H W) (R : Rel c F0 H0 ρ σ F1 H1 W1) (h1 : F1 D = none) (h2 : Nil H D) (h3 : D ∉ c.mv) (h4 : ∀ q, H1 D ≠ some (LamX.CodeO D q)) (h5 : ∀ q, H1 D ≠ some (.tup q)) (h6 : NE H1 D) : Rel c F0 H0 ρ σ F1 (upd H1 D o) W1 := by
  have h0 : Nil H0 D := R0.stp.keepN h3 h2
  refine ⟨R.len, R.stp.setD h1 h0 h3 h4 h5 h6, fun i x e => ?_, R.dist⟩
  have k := R.slot i x e
  cases x with
  | un => exact k
  | val d => exact k
  | own d =>
    obtain ⟨p, e1, e2, e3, e4, e5⟩ := k
    obtain ⟨p', f1, f2, f3, f4, f5⟩ := R0.own e
    have q : p = p' := by
      rw [e1] at f1
      exact V.ref.inj (Option.some.inj (Option.some.inj f1))
    subst q
    exact ⟨p, e1, e2, e3, e4, e5.at (upd_ne fun z => h2 (by rw [← z]; exact f5.thr))⟩
  | slf p n fs =>
    obtain ⟨e1, e2, e3, e4, C, dx, gs, e5, e6, e7⟩ := k
    obtain ⟨f1, f2, f3, f4, C', dx', gs', f5, _, _, f8⟩ := R0.slot i _ e
    exact ⟨e1, e2, e3, e4, C, dx, gs, by rw [upd_ne fun z => h2 (by rw [← z]; exact .ins f5 f8)]; exact e5, e6, e7⟩
theorem lc_ok {tg it : Expr} {scope : Scope} {own : List (Str × Nat)} {pt : Pat} {g : TG} {src tst el : E} (hc : X.calm = true) (hN : X.N.Nodup) (hi : PI X tg it (rdI c Wx src)) (ok : BlkOk X.N X.env.scope scope own)
    (gk : GOk c pt (own.map (·.2)) g)
    {σ : L2.St} {H : Hp} {Q : VK} (h : rdE c Wx (.lc el pt src tst (own.map (·.2))) σ H Q) : tLc (rdI c Wx src) g (rdA c WXF tst) (rdE c WXF el) (own.map (·.2)) σ H Q := by
  obtain ⟨F0, H0, ρ, F, W, R, hP⟩ := h
  simp only [ev] at hP
  generalize hO : own.map (·.2) = ow at hP gk ⊢
  refine ⟨F0, H0, ρ, F, W, R, ?_⟩
  refine rd_gen (ok1 := fun _ (p : Wk) (J : It) F' H' => (∀ i ∈ p.me, ∃ x, ρ[i]? = some (.own x)) ∧ (∀ i ∈ p.t, ∃ x, ρ[i]? = some (.own x)) ∧ WkOk c (Fz F' H' σ p.me) (Fz F' H' σ p.t) p.xs J) R R.refl hP fun p W1 J F1 H1 S1 _ ⟨hme, ht, hw⟩ R1 hP => ?_
  intro Dd hD
  obtain ⟨xs, me, t⟩ := p
  cases t with
  | cons _ _ => exact hP.elim
  | nil =>
    simp only at hP hw hme
    rw [Fz_nil] at hw
    have hDF : F1 Dd = none := by
      cases q : F1 Dd with
      | none => rfl
      | some o => rw [R1.stp.sub _ _ q] at hD; cases hD
    have hDdl : Dd ∉ c.mv := fun z => R1.stp.sm z hD
    have hDs : Nil H Dd := S1.keepN hDdl (.of hD)
    -- what stands at each turn
    refine ⟨fun i m Hi => m = xs.length - i ∧ i ≤ xs.length ∧ ∃ Fi Wi acc accD ti, Rel c F0 H0 ρ σ Fi Hi Wi ∧ Stp c Wi F H Fi Hi ∧ Same F1 Fi ∧ Same (Fz F1 H1 σ me) Hi ∧ Fi Dd = none ∧ Hi Dd = some (.lst acc) ∧ RepL c (Fz Fi Hi σ ti) acc accD ∧
      (∀ j ∈ ti, ∃ x, ρ[j]? = some (.own x)) ∧ Pst c Wx σ F H (fun v u F' H' => ValOk c ρ σ H F' H' u v) Q (lcGo (fun x W => ofO (bindP pt x (Z.wip ρ ow)) fun ρ' => (evA tst ρ' W).bind fun b W => if b = true then (ev el ρ' W).bind fun v W => .ok (some v) W else .ok none W) (xs.drop i) accD ti Wi),
      ⟨xs.length, by simp, Nat.zero_le _, F1, W1, [], [], [], ?_, ?_, Same.refl _, ?_, hDF, upd_same, .nil, fun _ z => by simp at z, hP⟩, ?_⟩
    · exact R1.step (R1.refl.make hD)
    · exact S1.trans (R1.refl.make hD)
    · intro a o e
      have e' := Fz_dn R1.stp.sub _ _ e
      rw [upd_ne fun z => by rw [z, hD] at e'; cases e']
      exact e'
    · rintro i m Hi ⟨rfl, hil, Fi, Wi, acc, accD, ti, Ri, Si, sF, sB, hDi, hDo, hacc, hti, hP⟩
      by_cases hlt : i < xs.length
      · -- a turn
        obtain ⟨x, hx⟩ : ∃ x, xs[i]? = some x := ⟨xs[i], List.getElem?_eq_getElem hlt⟩
        obtain ⟨hgo, hy⟩ := hw.go i x Hi hx sB
        have hdrop : xs.drop i = x :: xs.drop (i + 1) := by
          rw [List.drop_eq_getElem_cons hlt]
          congr 1
          exact Option.some.inj ((List.getElem?_eq_getElem hlt).symm.trans hx)
        rw [hdrop] at hP
        simp only [lcGo] at hP
        refine .inr ⟨hgo, fun H' => ∃ m', m' = xs.length - (i + 1) ∧ i + 1 ≤ xs.length ∧ ∃ Fi Wi acc accD ti, Rel c F0 H0 ρ σ Fi H' Wi ∧ Stp c Wi F H Fi H' ∧ Same F1 Fi ∧ Same (Fz F1 H1 σ me) H' ∧ Fi Dd = none ∧ H' Dd = some (.lst acc) ∧ RepL c (Fz Fi H' σ ti) acc accD ∧
          (∀ j ∈ ti, ∃ x, ρ[j]? = some (.own x)) ∧ Pst c Wx σ F H (fun v u F' H' => ValOk c ρ σ H F' H' u v) Q (lcGo (fun x W => ofO (bindP pt x (Z.wip ρ ow)) fun ρ' => (evA tst ρ' W).bind fun b W => if b = true then (ev el ρ' W).bind fun v W => .ok (some v) W else .ok none W) (xs.drop (i + 1)) accD ti Wi),
          fun H' ⟨m', e, q⟩ => ⟨m', by omega, e, q⟩, fun u H2 hyu => ?_⟩
        obtain ⟨F2, S2, r2⟩ := Item.step Ri (hy u H2 hyu) sF
        have R2 := Ri.step S2
        have Rw := R2.wip ow
        cases hb : bindP pt x (Z.wip ρ ow) with
        | none => rw [hb] at hP; exact hP.elim
        | some ρ' =>
          rw [hb] at hP
          simp only [ofO] at hP
          refine gk Rw r2 hb fun σ2 R3 hl3 off own1 => ⟨?_, ?_⟩
          · rw [wipe_eq hl3 off, wipe_wipe]
          · have ownR : ∀ {j : Nat} {d : D}, ρ'[j]? = some (.own d) → ρ[j]? = some (.own d) ∧ σ2[j]? = σ[j]? := fun {j d} e => by
              rcases wip_get (own1 j d e) with ⟨_, z⟩ | ⟨hj, z⟩
              · cases z
              · exact ⟨z, by rw [off j hj, wipe_off hj]⟩
            -- the rest of the turn
            have stay : ∀ {F4 H4 : Hp} {W4 : Dr}, Stp c W4 F2 H2 F4 H4 → Rel c F0 H0 ρ σ F4 H4 W4 ∧ Stp c W4 F H F4 H4 ∧ Same F1 F4 ∧ Same (Fz F1 H1 σ me) H4 ∧ F4 Dd = none ∧ H4 Dd = some (.lst acc) ∧ RepL c (Fz F4 H4 σ ti) acc accD := fun {F4 H4 W4} S4 => by
              have S24 := S2.trans S4
              refine ⟨Ri.step S24, Si.trans S24, fun a o e => S24.f _ _ (sF _ _ e), fun a o e => ?_, S24.new _ hDi (.lst hDo), S24.h _ _ hDo hDdl nt_lst, hacc.mono (Fz_step Ri hti S24)⟩
              have e' := sB _ _ e
              refine S24.h _ _ e' (fun z => ?_) (by
                by_cases qa : AtS σ me a
                · rw [Fz_in qa] at e; exact (R1.at_ hme qa).2.2.1.nt e
                · rw [Fz_out qa] at e; exact R1.stp.nt _ _ e)
              have q : Fz F1 H1 σ me a = none := by
                by_cases qa : AtS σ me a
                · exact absurd z (R1.at_ hme qa).2.1
                · rw [Fz_out qa]; exact R1.stp.av a z
              rw [q] at e; cases e
            refine ⟨F0, H0, ρ', F2, _, R3, ?_⟩
            cases hA : evA tst ρ' Wi with
            | stk => rw [hA] at hP; exact hP.elim
            | ex _ _ => rw [hA] at hP; exact hP.elim
            | ok b W3 =>
              rw [hA] at hP
              simp only [Out.bind] at hP
              rintro b' F3 H3 S3 rfl
              have R33 := R3.step S3
              cases b' with
              | false =>
                simp only [Bool.false_eq_true, if_false] at hP ⊢
                obtain ⟨q1, q2, q3, q4, q5, q6, q7⟩ := stay S3
                exact ⟨_, rfl, hlt, F3, W3, acc, accD, ti, q1, q2, q3, q4, q5, q6, q7, hti, hP⟩
              | true =>
                simp only [if_true] at hP ⊢
                refine ⟨F0, H0, ρ', F3, W3, R33, ?_⟩
                cases hE : ev el ρ' W3 with
                | stk => rw [hE] at hP; exact hP.elim
                | ex _ _ => rw [hE] at hP; exact hP.elim
                | ok vv W4 =>
                  rw [hE] at hP
                  simp only [Out.bind] at hP
                  by_cases hcap : accD.length < cap
                  · rw [if_pos hcap] at hP
                    intro uu F4 H4 S4 V4
                    obtain ⟨q1, q2, q3, q4, q5, q6, q7⟩ := stay (S3.trans S4)
                    -- the element, told by the names around
                    have hall : ∀ j ∈ vv.all, ∃ x, ρ[j]? = some (.own x) := fun j hj => by
                      obtain ⟨d, e⟩ := V4.own j hj
                      exact ⟨d, (ownR e).1⟩
                    have hat : ∀ {t : List Nat} {a : Addr}, (∀ j ∈ t, j ∈ vv.all) → (AtS σ2 t a ↔ AtS σ t a) := fun {t a} htt => by
                      constructor
                      · rintro ⟨j, h1, h2⟩
                        obtain ⟨d, e⟩ := V4.own j (htt j h1)
                        exact ⟨j, h1, by rw [← (ownR e).2]; exact h2⟩
                      · rintro ⟨j, h1, h2⟩
                        obtain ⟨d, e⟩ := V4.own j (htt j h1)
                        exact ⟨j, h1, by rw [(ownR e).2]; exact h2⟩
                    have tl : ∀ j ∈ vv.t, j ∈ vv.all := fun i hi => by
                      unfold Vl.all; split
                      · exact List.mem_cons_of_mem _ hi
                      · exact hi
                    have hfz : Fz F4 H4 σ2 vv.t = Fz F4 H4 σ vv.t := by
                      funext a
                      by_cases qa : AtS σ2 vv.t a
                      · rw [Fz_in qa, Fz_in ((hat tl).mp qa)]
                      · rw [Fz_out qa, Fz_out fun z => qa ((hat tl).mpr z)]
                    have V5 : ValOk c ρ' σ2 H F4 H4 uu vv := V4.start fun a m z => (stay S3).2.1.keepN m z
                    have V : ValOk c ρ σ H F4 H4 uu vv := by
                      refine ⟨hall, ?_⟩
                      have a := V5.at_
                      rw [hfz] at a
                      revert a
                      cases vv.k with
                      | pl => exact fun a => a
                      | me j =>
                        rintro ⟨a1, a2, a3⟩
                        obtain ⟨b1, b2⟩ := ownR a2
                        exact ⟨a1, b1, by rw [← b2]; exact a3⟩
                      | fr => exact fun a => a
                    have A : ArgOk c ρ σ H F4 H4 [uu] [vv] := .cons V .nil
                    have SF := Ft_stp q2 A
                    have RF := R.step SF
                    have A3 : ArgOk c ρ' σ2 H3 F4 H4 [uu] [vv] := .cons V4 .nil
                    have hD5 : Ft F4 H4 [uu] [vv] Dd = none := by
                      unfold Ft
                      rw [if_neg fun z => by
                        exact (tmp_at A3 z).2.2.1 (.lst (stay S3).2.2.2.2.2.1)]
                      exact q5
                    have up := Ft_up (us := [uu]) (vs := [vv]) q1.stp.sub
                    have hne : ∀ {t : List Nat} {a : Addr}, (∀ j ∈ t, ∃ x, ρ[j]? = some (.own x)) → AtS σ t a → a ≠ Dd := fun h z e => by
                      obtain ⟨_, _, h3, h4⟩ := R.at_ h z
                      exact hDs (by rw [← e]; exact h3.thr h4)
                    have hown := own_app hti V.own
                    refine ⟨acc, q6, by rw [hacc.length, ← cap_eq]; exact hcap, _, rfl, hlt, _, W4, acc ++ [uu], accD ++ [vv.d], ti ++ vv.all, R.setD RF hD5 hDs hDdl (fun q z => by rw [q6] at z; cases z) (fun q z => by rw [q6] at z; cases z) (.of q6 nt_lst), SF.setD hD5 hDs hDdl (fun q z => by rw [q6] at z; cases z) (fun q z => by rw [q6] at z; cases z) (.of q6 nt_lst), fun a o e => up _ _ (q3 _ _ e), fun a o e => ?_, hD5, upd_same, ?_, hown, hP⟩
                    · rw [upd_ne fun z => by
                        subst z
                        by_cases qa : AtS σ me a
                        · exact hne hme qa rfl
                        · rw [Fz_out qa, hDF] at e; cases e]
                      exact q4 _ _ e
                    · have eqF : ∀ {t : List Nat} {a : Addr}, (∀ j ∈ t, ∃ x, ρ[j]? = some (.own x)) → AtS σ t a → Fz (Ft F4 H4 [uu] [vv]) (upd H4 Dd (.lst (acc ++ [uu]))) σ t a = H4 a := fun h z => by
                        rw [Fz_in z, upd_ne (hne h z)]
                      refine (q7.mono fun a o e => ?_).append (.cons (val_rep q1 V (t := ti ++ vv.all) (fun a o e => ?_) (fun a z => eqF hown z) (fun i h => List.mem_append_right _ h) fun hk a ha => ?_) .nil)
                      · by_cases qa : AtS σ (ti ++ vv.all) a
                        · rw [eqF hown qa]
                          exact Fz_dn q1.stp.sub _ _ e
                        · have qb : ¬ AtS σ ti a := fun ⟨j, h1, h2⟩ => qa ⟨j, List.mem_append_left _ h1, h2⟩
                          rw [Fz_out qb] at e
                          rw [Fz_out qa]
                          exact up _ _ e
                      · by_cases qa : AtS σ (ti ++ vv.all) a
                        · rw [eqF hown qa]
                          exact q1.stp.sub _ _ e
                        · rw [Fz_out qa]
                          exact up _ _ e
                      · by_cases qa : AtS σ (ti ++ vv.all) a
                        · exact eqF hown qa
                        · rw [Fz_out qa]
                          unfold Ft
                          rw [if_pos (show TmpAt [uu] [vv] a from .inl ⟨hk, ha⟩)]
                  · rw [if_neg hcap] at hP; exact hP.elim
      · have e : i = xs.length := by omega
        subst e
        rw [List.drop_length] at hP
        simp only [lcGo] at hP
        refine .inl ⟨hw.stop Hi sB, hP _ Fi Hi Si ?_⟩
        unfold vf
        by_cases m : (D.lst accD).kids = true
        · rw [if_pos m]
          obtain ⟨a1, a2⟩ := Fz_soft Ri hti
          refine ⟨fun i hi => by simp [Vl.all] at hi, Dd, rfl, hDi, hDdl, hDs, acc, hDo, ?_⟩
          rw [Fz_nil]
          exact RepL.soft a1 a2 hacc (by simpa only [D.kids] using m)
        · rw [if_neg m]
          exact ⟨fun i hi => hti i hi, Dd, rfl, hDi, hDdl, hDs, acc, hDo, hacc⟩
theorem e_lc {tg it elt : Expr} {ifs : List Expr} {scope : Scope} {own : List (Str × Nat)} {pos : Pos} {pt : Pat} {g : TG} {src tst el : E} (hc : X.calm = true) (hN : X.N.Nodup) (hi : PI X tg it (rdI c Wx src)) (ok : BlkOk X.N X.env.scope scope own)
    (gk : GOk c pt (own.map (·.2)) g)
    (hg : ∀ (s : Shared) (H : Hp) (C : Addr) (cl : List (Str × Addr)) (fp : List Addr), PG (X.blk s H scope (compEnvC scope cl C X.env) fp) tg g) (ht : ∀ (s : Shared) (H : Hp) (C : Addr) (cl : List (Str × Addr)) (fp : List Addr), PTs (X.blk s H scope (compEnvC scope cl C X.env) fp) ifs (rdA c WXF tst))
    (he : ∀ (s : Shared) (H : Hp) (C : Addr) (cl : List (Str × Addr)) (fp : List Addr), PE (X.blk s H scope (compEnvC scope cl C X.env) fp) elt (rdE c WXF el)) (hs : ∀ x, foldedSetIterable it X.env x = pure x) :
    PE X (.ListComp elt [⟨tg, it, ifs, 0⟩] scope pos) (rdE c Wx (.lc el pt src tst (own.map (·.2)))) :=
  pe_wk (pe_lc hc hN hi ok hg ht he hs) fun σ H Q h => lc_ok hc hN hi ok gk h
theorem pts_wk {X : Cx} {e : List Expr} {t t' : TT} (h : PTs X e t) (k : ∀ σ H Q, t' σ H Q → t σ H Q) : PTs X e t' := ⟨fun pins s σ H Q I q => h.run pins s σ H Q I (k _ _ _ q)⟩
theorem a_oneT {e : Expr} {a : E} (h : PT X e (rdT c Wx a)) : PTs X [e] (rdA c Wx (.cons a .nil)) := pts_wk (pts_one h) fun σ H Q ⟨F0, H0, ρ, F, W, R, hP⟩ => by
  simp only [evA] at hP
  refine rd_t R R.refl hP fun b W1 F1 H1 S1 _ R1 hP => ?_
  cases b with
  | true => exact hP true F1 H1 S1 rfl
  | false => exact hP false F1 H1 S1 rfl
theorem a_nilT : PTs X [] (rdA c Wx .nil) := pts_wk pts_nil fun σ H Q ⟨F0, H0, ρ, F, W, R, hP⟩ => by
  simp only [evA] at hP
  exact hP true F H R.refl rfl
end
end Z

namespace Z
open PySem PySem.Spec PyProof.Rows L2
open Classical
section
variable {c : Pm} {Wx : WX} {X : Cx} {fu n : Nat} {W W' W1 W2 W3 : Dr} {F0 H0 F H F' H' F1 H1 F2 H2 F3 H3 Hs : Hp} {ρ ρ' : En} {σ σ' : L2.St} {u w : V} {x y v : Vl} {Q : VK} {us : List V} {vs : List Vl}

def Nw (ρ : En) (σ : L2.St) (u : V) (v : Vl) : Prop := v.k = .fr → ∀ p, u = .ref p → ∀ (j : Nat) (x : Z.D), ρ[j]? = some (.own x) → σ[j]? ≠ some (some (.ref p))
theorem Nw.of (R : Rel c F0 H0 ρ σ F H W) (k : ValOk c ρ σ H F2 H2 u v) : Nw ρ σ u v := fun hk p hu j x h1 h2 => by
  have a := k.at_
  rw [hk] at a
  obtain ⟨p', e1, _, _, e4, _⟩ := a
  rw [hu] at e1
  cases e1
  obtain ⟨q, q1, _, _, _, q5⟩ := R.own h1
  rw [h2] at q1
  cases q1
  exact e4 q5.thr
def PstS (c : Pm) (Wx : WX) (F0 H0 F : Hp) (D : Ends) : SOut → Prop
  | .nx ρ W => ∀ σ' F' H', Rel c F0 H0 ρ σ' F' H' W → Same F F' → D.nx σ' H'
  | .bk ρ W => ∀ σ' F' H', Rel c F0 H0 ρ σ' F' H' W → Same F F' → D.bk σ' H'
  | .ct ρ W => ∀ σ' F' H', Rel c F0 H0 ρ σ' F' H' W → Same F F' → D.ct σ' H'
  | .rt v ρ W => ∀ u σ' F' H', Rel c F0 H0 ρ σ' F' H' W → ValOk c ρ σ' H0 F' H' u v → Nw ρ σ' u v → D.rt u H'
  | .ex x ρ W => ∀ cls dd σ' F' H', Rel c F0 H0 ρ σ' F' H' W → ExOk c F' x cls dd → Wx cls dd σ' H'
  | .rt2 i y ρ W => ∀ u p q w σ' F' H', Rel c F0 H0 ρ σ' F' H' W → u = .ref p → F' p = some (.tup [.ref q, w]) → σ'[i]? = some (some (.ref q)) → Rep c F' w y → D.rt u H'
  | .stk => False
def rdS (c : Pm) (Wx : WX) (fu : Nat) (s : S) : TS := fun D σ H => ∃ F0 H0 ρ F W, Rel c F0 H0 ρ σ F H W ∧ PstS c Wx F0 H0 F D (evS fu s ρ W)
theorem PstS.up {D : Ends} {o : SOut} (h : PstS c Wx F0 H0 F D o) (s : Same F F') : PstS c Wx F0 H0 F' D o := by
  cases o with
  | nx ρ W => exact fun σ' F' H' R e => h σ' F' H' R fun a o q => e _ _ (s _ _ q)
  | bk ρ W => exact fun σ' F' H' R e => h σ' F' H' R fun a o q => e _ _ (s _ _ q)
  | ct ρ W => exact fun σ' F' H' R e => h σ' F' H' R fun a o q => e _ _ (s _ _ q)
  | rt v ρ W => exact h
  | ex x ρ W => exact h
  | rt2 i y ρ W => exact h
  | stk => exact h
theorem ps_wk {st : Stmt} {t t' : TS} (h : PS X st t) (k : ∀ D σ H, t' D σ H → t D σ H) : PS X st t' := ⟨fun pins s σ H D I q => h.run pins s σ H D I (k _ _ _ q)⟩
theorem pss_wk {st : List Stmt} {t t' : TS} (h : PSs X st t) (k : ∀ D σ H, t' D σ H → t D σ H) : PSs X st t' := ⟨fun pins s σ H D I q => h.run pins s σ H D I (k _ _ _ q)⟩

section
variable {α β : Type} {D : Ends}
theorem st_gen {ok1 : Hp → α → β → Hp → Hp → Prop} {o : Out α} {g : α → Dr → SOut} {Q2 : β → Hp → Prop} (R : Rel c F0 H0 ρ σ F H W) (hP : PstS c Wx F0 H0 F D (o.st ρ g))
    (k : ∀ y W2 u F2 H2, Stp c W2 F H F2 H2 → ok1 H y u F2 H2 → Rel c F0 H0 ρ σ F2 H2 W2 → PstS c Wx F0 H0 F D (g y W2) → Q2 u H2) : Pst c Wx σ F H (ok1 H) Q2 o := by
  cases o with
  | stk => exact hP
  | ex x W2 => exact fun cls dd F2 H2 S2 x => hP cls dd σ F2 H2 (R.step S2) x
  | ok y W2 => exact fun u F2 H2 S2 V => k y W2 u F2 H2 S2 V (R.step S2) hP
theorem st_e {e : E} {g : Vl → Dr → SOut} {Q2 : V → Hp → Prop} (R : Rel c F0 H0 ρ σ F H W) (hP : PstS c Wx F0 H0 F D ((ev e ρ W).st ρ g))
    (k : ∀ y W2 u F2 H2, Stp c W2 F H F2 H2 → ValOk c ρ σ H F2 H2 u y → Rel c F0 H0 ρ σ F2 H2 W2 → PstS c Wx F0 H0 F D (g y W2) → Q2 u H2) : rdE c Wx e σ H Q2 :=
  ⟨F0, H0, ρ, F, W, R, st_gen (ok1 := fun H1 v u F' H' => ValOk c ρ σ H1 F' H' u v) R hP k⟩
theorem st_t {e : E} {g : Bool → Dr → SOut} {Q2 : Bool → Hp → Prop} (R : Rel c F0 H0 ρ σ F H W) (hP : PstS c Wx F0 H0 F D ((evT e ρ W).st ρ g))
    (k : ∀ b W2 F2 H2, Stp c W2 F H F2 H2 → Rel c F0 H0 ρ σ F2 H2 W2 → PstS c Wx F0 H0 F D (g b W2) → Q2 b H2) : rdT c Wx e σ H Q2 :=
  ⟨F0, H0, ρ, F, W, R, st_gen (ok1 := fun _ b u _ _ => u = b) R hP fun y W2 u F2 H2 S V R2 hP => by subst V; exact k _ W2 F2 H2 S R2 hP⟩
theorem st_l {e : E} {g : List Vl → Dr → SOut} {Q2 : List V → Hp → Prop} (R : Rel c F0 H0 ρ σ F H W) (hP : PstS c Wx F0 H0 F D ((evL e ρ W).st ρ g))
    (k : ∀ ys W2 us F2 H2, Stp c W2 F H F2 H2 → ArgOk c ρ σ H F2 H2 us ys → Apart us ys → Rel c F0 H0 ρ σ F2 H2 W2 → PstS c Wx F0 H0 F D (g ys W2) → Q2 us H2) : rdL c Wx e σ H Q2 :=
  ⟨F0, H0, ρ, F, W, R, st_gen (ok1 := fun H1 vs us F' H' => Paired (fun u v => ValOk c ρ σ H1 F' H' u v) us vs ∧ Apart us vs) R hP fun y W2 u F2 H2 S V R2 hP => k y W2 u F2 H2 S V.1 V.2 R2 hP⟩
end

theorem frz_get {t : List Nat} {i : Nat} {s : Sl} (h : (frz ρ t)[i]? = some s) : (ρ[i]? = some s ∧ ∀ d, s = .own d → i ∉ t) ∨ (∃ d, ρ[i]? = some (.own d) ∧ s = .val d ∧ i ∈ t) := by
  unfold frz at h
  rw [List.getElem?_mapIdx, Option.map_eq_some_iff] at h
  obtain ⟨s0, h1, h2⟩ := h
  cases s0 with
  | un =>
    refine .inl ⟨by rw [h1, ← h2], fun d e => ?_⟩
    rw [e] at h2; cases h2
  | val d =>
    refine .inl ⟨by rw [h1, ← h2], fun d e => ?_⟩
    rw [e] at h2; cases h2
  | slf p n fs =>
    refine .inl ⟨by rw [h1, ← h2], fun d e => ?_⟩
    rw [e] at h2; cases h2
  | own d =>
    simp only at h2
    by_cases m : t.contains i = true
    · rw [if_pos m] at h2
      exact .inr ⟨d, h1, h2.symm, by simpa using m⟩
    · rw [if_neg m] at h2
      exact .inl ⟨by rw [h1, h2], fun _ _ z => m (by simpa using z)⟩
theorem Rel.frz {t : List Nat} (R : Rel c F0 H0 ρ σ F H W) (ht : ∀ i ∈ t, ∃ x, ρ[i]? = some (.own x)) : Rel c F0 H0 (Z.frz ρ t) σ (Fz F H σ t) H W := by
  have up : Same F (Fz F H σ t) := Fz_up R.stp.sub
  refine ⟨by unfold Z.frz; rw [List.length_mapIdx]; exact R.len, ⟨fun a o e => up _ _ (R.stp.f _ _ e), Fz_dn R.stp.sub, R.stp.h, fun a e nn => ?_, fun a o e => ?_, fun a ha => ?_, R.stp.dr, fun hd => up _ _ (R.stp.cl hd), R.stp.tabs, R.stp.ed.up up fun a o e _ => e⟩, fun i s e => ?_, fun i j d1 d2 p e1 e2 e3 e4 => ?_⟩
  · rw [Fz_out]
    · exact R.stp.new a e nn
    · rintro ⟨i, h1, h2⟩
      obtain ⟨d, hd⟩ := ht i h1
      obtain ⟨p, q1, _, _, q4, _⟩ := R.own hd
      rw [h2] at q1
      have q := L2.V.ref.inj (Option.some.inj (Option.some.inj q1))
      subst q
      exact q4 nn
  · by_cases h : AtS σ t a
    · rw [Fz_in h] at e; exact (R.at_ ht h).2.2.1.nt e
    · rw [Fz_out h] at e; exact R.stp.nt a o e
  · rw [Fz_out]
    · exact R.stp.av a ha
    · exact fun z => (R.at_ ht z).2.1 ha
  · rcases frz_get e with ⟨h1, h2⟩ | ⟨d, h1, rfl, h3⟩
    · have k := R.slot i s h1
      cases s with
      | un => exact k
      | val d =>
        obtain ⟨v, k1, k2⟩ := k
        exact ⟨v, k1, k2.mono up⟩
      | slf p n fs =>
        obtain ⟨k1, k2, k3, k4, C, dx, gs, k5, k6, k7, k8⟩ := k
        refine ⟨k1, ?_, k3, k4, C, dx, gs, k5, k6, k7.mono up, k8⟩
        rw [Fz_out]
        · exact k2
        · intro z
          rcases (R.at_ ht z).2.2.1 with q | ⟨xs, q⟩ | ⟨xs, q⟩ | ⟨xs, q⟩ <;> rw [k5] at q <;> cases q
      | own d =>
        obtain ⟨p, k1, k2, k3, k4, k5⟩ := k
        refine ⟨p, k1, ?_, k3, k4, k5.mono up fun _ h => h⟩
        rw [Fz_out]
        · exact k2
        · rintro ⟨j, z1, z2⟩
          obtain ⟨d', hd'⟩ := ht j z1
          have := R.dist i j d d' p h1 hd' k1 z2
          exact h2 d rfl (this ▸ z1)
    · obtain ⟨p, k1, k2, k3, k4, k5⟩ := R.own h1
      exact ⟨_, k1, k5.rep up (Fz_in ⟨i, h3, k1⟩)⟩
  · have a : ∀ {j : Nat} {d : D}, (Z.frz ρ t)[j]? = some (.own d) → ρ[j]? = some (.own d) := fun {j d} e => by
      rcases frz_get e with ⟨h, _⟩ | ⟨_, _, h, _⟩
      · exact h
      · cases h
    exact R.dist i j d1 d2 p (a e1) (a e2) e3 e4
theorem Rel.seto {i p : Nat} {d : D} (R : Rel c F0 H0 ρ σ F H W) (h1 : F p = none) (h2 : p ∉ c.mv) (h3 : Nil H0 p) (h4 : OwnAt c F H p d) (h5 : ∀ (j : Nat) (x : D), ρ[j]? = some (.own x) → σ[j]? = some (some (.ref p)) → j = i) : Rel c F0 H0 (ρ.set i (.own d)) (σ.set i (some (.ref p))) F H W := by
  have a : ∀ {j : Nat} {s : Sl}, (ρ.set i (.own d))[j]? = some s → (i = j ∧ s = .own d ∧ i < ρ.length) ∨ (i ≠ j ∧ ρ[j]? = some s) := fun {j s} e => by
    by_cases h : i = j
    · subst h
      have hl : i < ρ.length := by
        have := (List.getElem?_eq_some_iff.mp e).1
        simpa using this
      rw [List.getElem?_set_self hl] at e
      exact .inl ⟨rfl, (Option.some.inj e).symm, hl⟩
    · rw [List.getElem?_set_ne h] at e
      exact .inr ⟨h, e⟩
  refine ⟨by rw [List.length_set, List.length_set]; exact R.len, R.stp, fun j s e => ?_, fun j k d1 d2 p' e1 e2 e3 e4 => ?_⟩
  · rcases a e with ⟨rfl, rfl, hl⟩ | ⟨h, e⟩
    · exact ⟨p, by rw [List.getElem?_set_self (R.len ▸ hl)], h1, h2, h3, h4⟩
    · rw [List.getElem?_set_ne h]
      exact R.slot j s e
  · rcases a e1 with ⟨rfl, z1, hl⟩ | ⟨n1, o1⟩ <;> rcases a e2 with ⟨z2, z3, hl2⟩ | ⟨n2, o2⟩
    · exact z2
    · rw [List.getElem?_set_self (R.len ▸ hl)] at e3
      rw [List.getElem?_set_ne n2] at e4
      cases e3
      exact (h5 k _ o2 e4).symm
    · subst z2
      rw [List.getElem?_set_self (R.len ▸ hl2)] at e4
      rw [List.getElem?_set_ne n1] at e3
      cases e4
      exact h5 j _ o1 e3
    · rw [List.getElem?_set_ne n1] at e3
      rw [List.getElem?_set_ne n2] at e4
      exact R.dist j k d1 d2 p' o1 o2 e3 e4
theorem tl_all {v : Vl} : ∀ i ∈ v.t, i ∈ v.all := fun i hi => by
  unfold Vl.all; split
  · exact List.mem_cons_of_mem _ hi
  · exact hi
theorem Rel.put {i : Nat} (R0 : Rel c F0 H0 ρ σ F H W) (R : Rel c F0 H0 ρ σ F2 H2 W2) (V : ValOk c ρ σ H F2 H2 u v) : Rel c F0 H0 (Z.put ρ i v) (σ.set i (some u)) (Fz F2 H2 σ v.all) H2 W2 := by
  have RF := R.frz V.own
  unfold Z.put
  cases hk : v.k with
  | fr =>
    have hf : v.isFr = true := by unfold Vl.isFr; rw [hk]
    rw [if_pos hf]
    have a := V.at_
    rw [hk] at a
    obtain ⟨p, rfl, e2, e3, e4, e5⟩ := a
    have hall : v.all = v.t := by unfold Vl.all; rw [hk]
    have ne : ∀ (j : Nat) (x : D), ρ[j]? = some (.own x) → σ[j]? ≠ some (some (.ref p)) := fun j x h1 h2 => by
      obtain ⟨p', q1, _, _, _, q5⟩ := R0.own h1
      rw [h2] at q1
      have q := L2.V.ref.inj (Option.some.inj (Option.some.inj q1))
      subst q
      exact e4 q5.thr
    refine RF.seto ?_ e3 (R0.stp.keepN e3 e4) (by rw [hall]; exact e5) fun j x h1 h2 => ?_
    · rw [Fz_out]
      · exact e2
      · rintro ⟨j, z1, z2⟩
        obtain ⟨d, hd⟩ := V.own j z1
        exact ne j d hd z2
    · rcases frz_get h1 with ⟨h, _⟩ | ⟨_, _, h, _⟩
      · exact (ne j x h h2).elim
      · cases h
  | pl =>
    have hf : v.isFr = false := by unfold Vl.isFr; rw [hk]
    rw [if_neg (by rw [hf]; exact Bool.false_ne_true)]
    refine RF.setv ?_
    have a := V.at_
    rw [hk] at a
    have hall : v.all = v.t := by unfold Vl.all; rw [hk]
    rw [hall]; exact a
  | me j =>
    have hf : v.isFr = false := by unfold Vl.isFr; rw [hk]
    rw [if_neg (by rw [hf]; exact Bool.false_ne_true)]
    refine RF.setv ?_
    exact val_rep R V (Fz_up R.stp.sub) (fun a h => Fz_in h) (fun _ h => h) fun z => by rw [hk] at z; cases z
theorem Rel.mut {i : Nat} {p : Addr} {o o' : D} {ob : HO} (R : Rel c F0 H0 ρ σ F H W) (h1 : ρ[i]? = some (.own o)) (h2 : σ[i]? = some (some (.ref p))) (h3 : OwnAt c F (upd H p ob) p o') : Rel c F0 H0 (ρ.set i (.own o')) σ F (upd H p ob) W := by
  obtain ⟨p', q1, q2, q3, q4, q5⟩ := R.own h1
  rw [h2] at q1
  have q := L2.V.ref.inj (Option.some.inj (Option.some.inj q1))
  subst q
  have a : ∀ {j : Nat} {s : Sl}, (ρ.set i (.own o'))[j]? = some s → (i = j ∧ s = .own o') ∨ (i ≠ j ∧ ρ[j]? = some s) := fun {j s} e => by
    by_cases h : i = j
    · subst h
      have hl : i < ρ.length := by
        have := (List.getElem?_eq_some_iff.mp e).1
        simpa using this
      rw [List.getElem?_set_self hl] at e
      exact .inl ⟨rfl, (Option.some.inj e).symm⟩
    · rw [List.getElem?_set_ne h] at e
      exact .inr ⟨h, e⟩
  have b : ∀ {j : Nat} {d : D}, (ρ.set i (.own o'))[j]? = some (.own d) → ∃ d', ρ[j]? = some (.own d') := fun {j d} e => by
    rcases a e with ⟨rfl, _⟩ | ⟨_, e⟩
    · exact ⟨_, h1⟩
    · exact ⟨_, e⟩
  refine ⟨by rw [List.length_set]; exact R.len, R.stp.setD q2 q4 q3 (fun q z => by rcases q5.softH with k | ⟨xs, k⟩ | ⟨xs, k⟩ | ⟨xs, k⟩ <;> rw [z] at k <;> cases k) (fun q z => by rcases q5.softH with k | ⟨xs, k⟩ | ⟨xs, k⟩ | ⟨xs, k⟩ <;> rw [z] at k <;> cases k) q5.ne, fun j s e => ?_, fun j k d1 d2 p' e1 e2 e3 e4 => ?_⟩
  · rcases a e with ⟨rfl, rfl⟩ | ⟨n, e⟩
    · exact ⟨p, h2, q2, q3, q4, h3⟩
    · have k := R.slot j s e
      cases s with
      | un => exact k
      | val d => exact k
      | slf p' n' fs =>
        obtain ⟨k1, k2, k3, k4, C, dx, gs, k5, k6, k7⟩ := k
        refine ⟨k1, k2, k3, k4, C, dx, gs, ?_, k6, k7⟩
        rw [upd_ne fun z => ?_]
        · exact k5
        · rcases q5.softH with q | ⟨xs, q⟩ | ⟨xs, q⟩ | ⟨xs, q⟩ <;> rw [← z, k5] at q <;> cases q
      | own d =>
        obtain ⟨p', k1, k2, k3, k4, k5⟩ := k
        refine ⟨p', k1, k2, k3, k4, k5.at (upd_ne fun z => n ?_)⟩
        subst z
        exact R.dist i j _ _ _ h1 e h2 k1
  · obtain ⟨d1', o1⟩ := b e1
    obtain ⟨d2', o2⟩ := b e2
    exact R.dist j k _ _ _ o1 o2 e3 e4
theorem keep_all (R0 : Rel c F0 H0 ρ σ F H W) (R : Rel c F0 H0 ρ σ F2 H2 W2) (S : Stp c W2 F H F2 H2) (A : ArgOk c ρ σ H F2 H2 us vs) : Rel c F0 H0 (Z.frz ρ (ts vs)) σ (Fz (Ft F2 H2 us vs) H2 σ (ts vs)) H2 W2 ∧ RepL c (Fz (Ft F2 H2 us vs) H2 σ (ts vs)) us (ds vs) ∧ Same F2 (Fz (Ft F2 H2 us vs) H2 σ (ts vs)) := by
  refine ⟨(Ft_rel R0 R S A).frz (ts_own A), args_all R0 R S A, fun a o e => ?_⟩
  exact Fz_up (Ft_rel R0 R S A).stp.sub _ _ (Ft_up R.stp.sub _ _ e)
end
end Z

namespace Z
open PySem PySem.Spec PyProof.Rows L2
open Classical
section
variable {c : Pm} {Wx : WX} {X : Cx} {fu n : Nat} {W W' W1 W2 W3 : Dr} {F0 H0 F H F' H' F1 H1 F2 H2 F3 H3 Hs : Hp} {ρ ρ' : En} {σ σ' : L2.St} {u w : V} {x y v : Vl} {Q : VK} {us : List V} {vs : List Vl} {pos : Pos}

theorem s_nil : PSs X [] (rdS c Wx fu .skip) := pss_wk pss_nil fun D σ H ⟨F0, H0, ρ, F, W, R, hP⟩ => by
  simp only [evS] at hP
  exact hP σ F H R (Same.refl _)
theorem s_cont : PS X (.Continue pos) (rdS c Wx fu .cont) := ps_wk ps_continue fun D σ H ⟨F0, H0, ρ, F, W, R, hP⟩ => by
  simp only [evS] at hP
  exact hP σ F H R (Same.refl _)
theorem s_cons {st : Stmt} {rest : List Stmt} {a b : S} (h1 : PS X st (rdS c Wx fu a)) (h2 : PSs X rest (rdS c Wx fu b)) : PSs X (st :: rest) (rdS c Wx fu (.seq a b)) := by
  refine pss_wk (pss_cons h1 h2) fun D σ H ⟨F0, H0, ρ, F, W, R, hP⟩ => ⟨F0, H0, ρ, F, W, R, ?_⟩
  simp only [evS] at hP
  cases e : evS fu a ρ W with
  | nx ρ1 W1 =>
    rw [e] at hP
    exact fun σ' F' H' R' s => ⟨F0, H0, ρ1, F', W1, R', hP.up s⟩
  | bk ρ1 W1 => rw [e] at hP; exact hP
  | ct ρ1 W1 => rw [e] at hP; exact hP
  | rt v ρ1 W1 => rw [e] at hP; exact hP
  | ex x ρ1 W1 => rw [e] at hP; exact hP
  | rt2 i y ρ1 W1 => rw [e] at hP; exact hP
  | stk => rw [e] at hP; exact hP
theorem s_if {c0 : Expr} {p q : List Stmt} {ec : E} {a b : S} (hc : PT X c0 (rdT c Wx ec)) (h1 : PSs X p (rdS c Wx fu a)) (h2 : PSs X q (rdS c Wx fu b)) : PS X (.If c0 p q pos) (rdS c Wx fu (.iff ec a b)) := by
  refine ps_wk (ps_if hc h1 h2) fun D σ H ⟨F0, H0, ρ, F, W, R, hP⟩ => ?_
  simp only [evS] at hP
  refine st_t R hP fun k W1 F1 H1 S1 R1 hP => ?_
  cases k with
  | true => exact ⟨F0, H0, ρ, F1, W1, R1, PstS.up hP S1.f⟩
  | false => exact ⟨F0, H0, ρ, F1, W1, R1, PstS.up hP S1.f⟩
theorem s_set {i : Nat} {z : Str} {e : Expr} {ee : E} {pos' : Pos} (hN : X.N.Nodup) (hi : X.N[i]? = some z) (hx : Loc X.env.scope z) (he : PE X e (rdE c Wx ee)) (hs : swapsWith e (some (.Name z pos')) pos.line X.env = pure false) (hf : X.fn z = true ∨ X.env.scope.names.lookup z = some .local) :
    PS X (.Assign [.Name z pos'] e pos) (rdS c Wx fu (.asg i ee)) := by
  refine ps_wk (ps_set hN hi hx he hs hf) fun D σ H ⟨F0, H0, ρ, F, W, R, hP⟩ => ?_
  simp only [evS] at hP
  exact st_e R hP fun v W1 u F1 H1 S1 V1 R1 hP => hP _ _ _ (R.put R1 V1) fun a o q => Fz_up R1.stp.sub _ _ (S1.f _ _ q)
theorem s_ret {e : Expr} {ee : E} (he : PE X e (rdE c Wx ee)) : PS X (.Return (some e) pos) (rdS c Wx fu (.ret ee)) := by
  refine ps_wk (ps_ret he) fun D σ H ⟨F0, H0, ρ, F, W, R, hP⟩ => ?_
  simp only [evS] at hP
  exact st_e R hP fun v W1 u F1 H1 S1 V1 R1 hP => hP _ _ _ _ R1 (V1.start fun a m z => R.stp.keepN m z) (Nw.of R V1)
theorem put_own {i : Nat} {r : Sl} {j : Nat} {d : D} (h : (ρ.set i r)[j]? = some (.own d)) : (i = j ∧ r = .own d) ∨ (i ≠ j ∧ ρ[j]? = some (.own d)) := by
  by_cases e : i = j
  · subst e
    have hl : i < ρ.length := by
      have := (List.getElem?_eq_some_iff.mp h).1
      simpa using this
    rw [List.getElem?_set_self hl] at h
    exact .inl ⟨rfl, Option.some.inj h⟩
  · rw [List.getElem?_set_ne e] at h
    exact .inr ⟨e, h⟩
def setAll (σ : L2.St) : List Nat → List V → L2.St
  | i :: is, v :: vs => setAll (σ.set i (some v)) is vs
  | _, _ => σ
theorem put_many {σ0 : L2.St} (R0 : Rel c F0 H0 ρ σ0 F H W) {FF : Hp} {t : List Nat} {W2 : Dr} (R2 : Rel c F0 H0 ρ σ0 F2 H2 W2) (hup : Same F2 FF) (hsub : Same FF H2)
    (hF : ∀ a, AtS σ0 t a → FF a = H2 a) : ∀ {us : List V} {vs : List Vl} {is : List Nat} {ρ' : En} {σ' : L2.St}, ArgOk c ρ σ0 H F2 H2 us vs → Apart us vs → vs.length = is.length → is.Nodup → (∀ i ∈ ts vs, i ∈ t) →
    (∀ a, TmpAt us vs a → FF a = none) → Rel c F0 H0 ρ' σ' FF H2 W2 → (∀ a, TmpAt us vs a → ∀ (j : Nat) (x : D), ρ'[j]? = some (.own x) → σ'[j]? ≠ some (some (.ref a))) →
    Rel c F0 H0 (putAll ρ' is vs) (setAll σ' is us) FF H2 W2
  | _, _, is, ρ', σ', .nil, _, hl, _, _, _, R', _ => by
    cases is with
    | nil => exact R'
    | cons _ _ => simp at hl
  | _, _, is, ρ', σ', .cons (a := u) (b := v) (l₁ := us) (l₂ := vs) V A, ap, hl, nd, ht, hT, R', hfr => by
    cases is with
    | nil => simp at hl
    | cons i is =>
      have hts : ∀ j ∈ v.all, j ∈ t := fun j hj => ht j (by unfold ts; rw [List.flatMap_cons]; exact List.mem_append_left _ hj)
      have ht' : ∀ j ∈ ts vs, j ∈ t := fun j hj => ht j (by unfold ts; rw [List.flatMap_cons]; exact List.mem_append_right _ hj)
      unfold putAll setAll
      refine put_many R0 R2 hup hsub hF A ap.2 (by simpa using hl) (List.nodup_cons.mp nd).2 ht' (fun a z => hT a (.inr z)) ?_ fun a z j x h1 h2 => ?_
      · cases hk : v.k with
        | fr =>
          have hf : v.isFr = true := by unfold Vl.isFr; rw [hk]
          rw [if_pos hf]
          have a := V.at_
          rw [hk] at a
          obtain ⟨p, rfl, e2, e3, e4, e5⟩ := a
          refine R'.seto (hT p (.inl ⟨hk, rfl⟩)) e3 (R0.stp.keepN e3 e4) (e5.mono (fun b o q => ?_) fun _ h => h) fun j x h1 h2 => (hfr p (.inl ⟨hk, rfl⟩) j x h1 h2).elim
          by_cases qa : AtS σ0 v.t b
          · rw [Fz_in qa] at q
            obtain ⟨j, z1, z2⟩ := qa
            rw [hF b ⟨j, hts j (tl_all j z1), z2⟩]
            exact q
          · rw [Fz_out qa] at q
            exact hup _ _ q
        | pl =>
          have hf : v.isFr = false := by unfold Vl.isFr; rw [hk]
          rw [if_neg (by rw [hf]; exact Bool.false_ne_true)]
          exact R'.setv (val_rep R2 V hup hF hts fun z => by rw [hk] at z; cases z)
        | me j =>
          have hf : v.isFr = false := by unfold Vl.isFr; rw [hk]
          rw [if_neg (by rw [hf]; exact Bool.false_ne_true)]
          exact R'.setv (val_rep R2 V hup hF hts fun z => by rw [hk] at z; cases z)
      · rcases put_own h1 with ⟨rfl, e⟩ | ⟨n, e⟩
        · by_cases hf : v.isFr = true
          · have hk : v.k = .fr := by
              unfold Vl.isFr at hf
              revert hf
              cases v.k <;> simp
            have hlt : i < σ'.length := by
              have := (List.getElem?_eq_some_iff.mp h2).1
              simpa using this
            rw [List.getElem?_set_self hlt] at h2
            cases h2
            exact ap.1 a hk rfl z
          · rw [if_neg hf] at e; cases e
        · rw [List.getElem?_set_ne n] at h2
          exact hfr a (.inr z) j x e h2
end
end Z

namespace Z
open PySem PySem.Spec PyProof.Rows L2
open Classical
section
variable {c : Pm} {Wx : WX} {X : Cx} {fu n : Nat} {W W' W1 W2 W3 : Dr} {F0 H0 F H F' H' F1 H1 F2 H2 F3 H3 Hs : Hp} {ρ ρ' : En} {σ σ' : L2.St} {u w : V} {x y v : Vl} {Q : VK} {us : List V} {vs : List Vl} {pos : Pos}

theorem par_ok {is : List Nat} {D : Ends} (R : Rel c F0 H0 ρ σ F H W) (R1 : Rel c F0 H0 ρ σ F1 H1 W1) (S1 : Stp c W1 F H F1 H1) (A : ArgOk c ρ σ H F1 H1 us vs) (ap : Apart us vs)
    (hP : PstS c Wx F0 H0 F D (if vs.length = is.length ∧ is.Nodup then .nx (putAll (Z.frz ρ (ts vs)) is vs) W1 else .stk)) : D.nx (setAll σ is us) H1 := by
  by_cases h : vs.length = is.length ∧ is.Nodup
  · rw [if_pos h] at hP
    have RF := R1.frz (ts_own A)
    have up : Same F1 (Fz F1 H1 σ (ts vs)) := Fz_up R1.stp.sub
    have ne : ∀ (a : Addr), TmpAt us vs a → ∀ (j : Nat) (x : Z.D), ρ[j]? = some (.own x) → σ[j]? ≠ some (some (.ref a)) := fun a z j x h1 h2 => by
      obtain ⟨p, q1, _, _, _, q5⟩ := R.own h1
      rw [h2] at q1
      have q := L2.V.ref.inj (Option.some.inj (Option.some.inj q1))
      subst q
      exact (tmp_at A z).2.2.1 q5.thr
    refine hP _ _ _ (put_many R R1 up RF.stp.sub (fun a z => Fz_in z) A ap h.1 h.2 (fun _ h => h) (fun a z => ?_) RF fun a z j x h1 h2 => ?_) fun a o q => up _ _ (S1.f _ _ q)
    · rw [Fz_out]
      · exact (tmp_at A z).1
      · rintro ⟨j, h1, h2⟩
        obtain ⟨d, hd⟩ := ts_own A j h1
        exact ne a z j d hd h2
    · rcases frz_get h1 with ⟨h, _⟩ | ⟨_, _, h, _⟩
      · exact ne a z j x h h2
      · cases h
  · rw [if_neg h] at hP; exact hP.elim
theorem s_par {i j : Nat} {z1 z2 : Str} {a b : Expr} {ea : E} {px py pt : Pos} {kt k2 pt2} (hc : X.calm = true) (hN : X.N.Nodup) (hi : X.N[i]? = some z1) (hj : X.N[j]? = some z2) (hij : i ≠ j)
    (hx : X.env.scope.names.lookup z1 = some .local) (hy : X.env.scope.names.lookup z2 = some .local) (ha : PA X [a, b] (rdL c Wx ea))
    (hw : swappedStores [.Tuple [.Name z1 px, .Name z2 py] kt pt] (.Tuple [a, b] k2 pt2) X.env = pure (some [z1, z2]))
    (hs : swapsWithSole [.Tuple [.Name z1 px, .Name z2 py] kt pt] (.Tuple [a, b] k2 pt2) pos.line X.env = pure false) :
    PS X (.Assign [.Tuple [.Name z1 px, .Name z2 py] kt pt] (.Tuple [a, b] k2 pt2) pos) (rdS c Wx fu (.par [i, j] ea)) := by
  refine ps_wk (ps_par hc hN hi hj hij hx hy ha hw hs) fun D σ H ⟨F0, H0, ρ, F, W, R, hP⟩ => ?_
  simp only [evS] at hP
  refine st_l R hP fun vs W1 us F1 H1 S1 A ap R1 hP => ?_
  have q := par_ok R R1 S1 A ap hP
  have hl : vs.length = 2 := by
    by_cases h : vs.length = [i, j].length ∧ [i, j].Nodup
    · exact h.1
    · rw [if_neg h] at hP; exact hP.elim
  rw [← Paired.len A] at hl
  match us, hl with
  | [u, w], _ => exact ⟨u, w, rfl, q⟩

theorem own_lst {i : Nat} {xs : List D} (R : Rel c F0 H0 ρ σ F H W) (h : ρ[i]? = some (.own (.lst xs))) : ∃ p ws, σ[i]? = some (some (.ref p)) ∧ H p = some (.lst ws) ∧ RepL c F ws xs := by
  obtain ⟨p, h1, _, _, _, ws, h2, h3⟩ := R.own h
  exact ⟨p, ws, h1, h2, h3⟩
theorem ts_one {v : Vl} : ts [v] = v.all := by simp [ts]
theorem s_app {i : Nat} {z : Str} {e : Expr} {ee : E} {p2 apos cpos : Pos} (hN : X.N[i]? = some z) (hv : Vis X.env.scope z) (hd : (z == ("__debug__" : Str)) = false) (hcd : (z == ("__classdict__" : Str)) = false) (he : PE X e (rdE c Wx ee))
    (hbase : attributeBase (.Name z p2) "append" X.env (eval (.Name z p2) X.env) = eval (.Name z p2) X.env)
    (hfew : ((backTo cpos (starEach [e] X.env)).all (fun x => !x.1) && (backToKw cpos (keywordEach [] X.env)).all (fun x => x.1.isSome)
      && decide (([e] : List Expr).length + ([] : List Keyword).length + (if ([] : List Keyword).isEmpty then 0 else 1) < 30)) = true)
    (hline : (apos.endLine == cpos.line) = true) (hs : starEach [e] X.env = [(false, eval e X.env)]) (hsw : swapsWith (.Call (.Attribute (.Name z p2) "append" apos) [e] [] cpos) none pos.line X.env = pure false) :
    PS X (.Expr (.Call (.Attribute (.Name z p2) "append" apos) [e] [] cpos) pos) (rdS c Wx fu (.app i ee)) := by
  refine ps_wk (ps_expr (pe_bm F.plainAttrs_list F.slot_list_append (by rfl) mt_append (pe_var hN hv hd hcd) (pa_cons he pa_nil hs) hbase hfew hline hs (by rfl)) hsw) fun D σ H ⟨F0, H0, ρ, F, W, R, hP⟩ => ?_
  simp only [evS] at hP
  cases e0 : ρ[i]? with
  | none => rw [e0] at hP; exact hP.elim
  | some s =>
    rw [e0] at hP
    cases s with
    | un => exact hP.elim
    | slf _ _ _ => exact hP.elim
    | val d => exact hP.elim
    | own d =>
      cases d <;> try (exact hP.elim)
      rename_i xs0
      simp only at hP
      obtain ⟨p, ws0, h1, h2, h3⟩ := own_lst R e0
      refine ⟨.ref p, h1, .inl ⟨rfl, ws0, .inl (.inl h2)⟩, st_e R hP fun v W1 u F1 H1 S1 V1 R1 hP => ?_⟩
      have A : ArgOk c ρ σ H F1 H1 [u] [v] := .cons V1 .nil
      obtain ⟨RF, RA, up⟩ := keep_all R R1 S1 A
      rw [ts_one] at RF RA up
      cases e2 : (Z.frz ρ v.all)[i]? with
      | none => rw [e2] at hP; exact hP.elim
      | some s =>
        rw [e2] at hP
        cases s with
        | un => exact hP.elim
        | slf _ _ _ => exact hP.elim
        | val d => exact hP.elim
        | own d =>
          cases d <;> try (exact hP.elim)
          rename_i xs
          simp only at hP
          by_cases hl : xs.length < cap
          · rw [if_pos hl] at hP
            obtain ⟨p', ws, h4, h5, h6⟩ := own_lst RF e2
            rw [h1] at h4
            have q := L2.V.ref.inj (Option.some.inj (Option.some.inj h4))
            subst q
            refine ⟨p, ws, u, rfl, rfl, h5, by rw [h6.length, ← cap_eq]; exact hl, ?_⟩
            refine hP _ _ _ (RF.mut e2 h1 ⟨_, upd_same, h6.append ?_⟩) fun a o q => up _ _ (S1.f _ _ q)
            cases RA with
            | cons r _ => exact .cons r .nil
          · rw [if_neg hl] at hP; exact hP.elim
theorem RepL.dropLast {vs : List V} {xs : List D} (h : RepL c F vs xs) : RepL c F vs.dropLast xs.dropLast := by
  rw [List.dropLast_eq_take, List.dropLast_eq_take, h.length]
  exact h.take _
theorem RepL.erase : ∀ {vs : List V} {xs : List Z.D} (i : Nat), RepL c F vs xs → RepL c F (vs.eraseIdx i) (xs.eraseIdx i)
  | _, _, _, .nil => .nil
  | _, _, 0, .cons _ r => r
  | _, _, i + 1, .cons k r => .cons k (RepL.erase i r)
theorem s_setix {i : Nat} {z : Str} {k e : Expr} {ek ee : E} {p2 tpos : Pos} (hN : X.N[i]? = some z) (hv : Vis X.env.scope z) (hd : (z == ("__debug__" : Str)) = false) (hcd : (z == ("__classdict__" : Str)) = false) (hk : PE X k (rdE c Wx ek)) (he : PE X e (rdE c Wx ee))
    (ha : ∀ v, assign (.Subscript (.Name z p2) k tpos) X.env v = (do
      let ov ← holding [v] (eval (.Name z p2) X.env)
      let iv ← holding [v, ov] (eval k X.env)
      standAt tpos
      holding [v, ov, iv] (setItem ov iv v)
      release [v, ov, iv] []))
    (hs : swapsWithSole [.Subscript (.Name z p2) k tpos] e pos.line X.env = pure false) (hw : swappedStores [.Subscript (.Name z p2) k tpos] e X.env = pure none)
    (h1 : (assignEach [.Subscript (.Name z p2) k tpos] X.env).map (·.2) = [assign (.Subscript (.Name z p2) k tpos) X.env]) :
    PS X (.Assign [.Subscript (.Name z p2) k tpos] e pos) (rdS c Wx fu (.setix i ek ee)) := by
  refine ps_wk (ps_asg he (pg_sub (pe_var hN hv hd hcd) hk set_list ha) hs hw h1) fun D σ H ⟨F0, H0, ρ, F, W, R, hP⟩ => ?_
  simp only [evS] at hP
  cases e0 : ρ[i]? with
  | none => rw [e0] at hP; exact hP.elim
  | some s =>
    rw [e0] at hP
    cases s with
    | un => exact hP.elim
    | slf _ _ _ => exact hP.elim
    | val d => exact hP.elim
    | own d =>
      cases d <;> try (exact hP.elim)
      rename_i xs0
      simp only at hP
      obtain ⟨p, ws0, h1, h2, h3⟩ := own_lst R e0
      refine st_e R hP fun v W1 u F1 H1 S1 V1 R1 hP => ?_
      refine ⟨.ref p, h1, st_e R1 (hP.up S1.f) fun y W2 w F2 H2 S2 V2 R2 hP => ?_⟩
      have S12 := S1.trans S2
      have A : ArgOk c ρ σ H F2 H2 [u, w] [v, y] := .cons (V1.step R1 S2) (.cons (V2.start fun a m z => S1.keepN m z) .nil)
      obtain ⟨RF, RA, up⟩ := keep_all R R2 S12 A
      have hts : ts [v, y] = v.all ++ y.all := by simp [ts]
      rw [hts] at RF RA up
      cases e2 : (Z.frz ρ (v.all ++ y.all))[i]? with
      | none => rw [e2] at hP; exact hP.elim
      | some s =>
        rw [e2] at hP
        cases s with
        | un => exact hP.elim
        | slf _ _ _ => exact hP.elim
        | val d => exact hP.elim
        | own d =>
          cases d <;> try (exact hP.elim)
          rename_i xs
          cases e3 : y.d <;> rw [e3] at hP <;> try (exact hP.elim)
          rename_i m
          simp only at hP
          cases e4 : ixOf xs.length m with
          | none => rw [e4] at hP; exact hP.elim
          | some j =>
            rw [e4] at hP
            obtain ⟨p', ws, h4, h5, h6⟩ := own_lst RF e2
            rw [h1] at h4
            have q := L2.V.ref.inj (Option.some.inj (Option.some.inj h4))
            subst q
            refine ⟨p, ws, m, j, rfl, V2.int R2 e3, h5, by rw [h6.length]; exact e4, ?_⟩
            refine hP _ _ _ (RF.mut e2 h1 ⟨_, upd_same, RepL.set ?_ j h6⟩) fun a o q => up _ _ (S2.f _ _ q)
            cases RA with
            | cons r _ => exact r
theorem popD_ok {ws : List V} {xs : List Z.D} {p : Z.D × List Z.D} {us : List V} {vs : List Z.D} {l : Addr} {H : Hp} {Q : VK} (r : RepL c F ws xs) (ra : RepL c F' us vs) (hl : H l = some (.lst ws)) (h : popD xs vs = some p)
    (k : ∀ y ws', Rep c F y p.1 → RepL c F ws' p.2 → Q y (upd H l (.lst ws'))) : (vs = [] → rPop (.ref l) us H Q) ∧ (vs ≠ [] → rPopAt (.ref l) us H Q) := by
  refine ⟨fun e => ?_, fun e => ?_⟩
  · subst e
    cases ra
    simp only [popD] at h
    cases e : xs[xs.length - 1]? with
    | none => rw [e] at h; cases h
    | some y =>
      rw [e] at h
      cases h
      obtain ⟨w, h1, h2⟩ := r.get e
      exact ⟨l, ws, w, rfl, rfl, hl, by rw [r.length]; exact h1, k _ _ h2 r.dropLast⟩
  · unfold popD at h
    simp only [big_eq] at h
    split at h
    · exact absurd rfl e
    · rename_i i
      split at h
      · rename_i hb
        cases ej : ixOf xs.length i with
        | none => rw [ej] at h; cases h
        | some j =>
          rw [ej] at h
          simp only at h
          rw [Option.map_eq_some_iff] at h
          obtain ⟨y, e1, rfl⟩ := h
          obtain ⟨w, h1, h2⟩ := r.get e1
          cases ra with
          | cons r1 r2 =>
            cases r1
            cases r2
            obtain ⟨s1, s2, s3, s4⟩ := ixN_seq ej
            exact ⟨l, ws, i, j, w, rfl, rfl, hl, hb.1, hb.2, by rw [r.length]; exact s1, h1, k _ _ h2 (r.erase j)⟩
      · cases h
    · cases h
def rPopE : V → List V → Hp → VK → Prop := fun x vs H Q => (vs = [] → rPop x vs H Q) ∧ (vs ≠ [] → rPopAt x vs H Q)
theorem mt_popE : MtM X "list.pop" rPopE := by
  intro pins s σ H x xs v us Q I rx rv h
  by_cases e : xs = []
  · exact mt_pop pins s σ H x xs v us Q I rx rv (h.1 e)
  · exact mt_popAt pins s σ H x xs v us Q I rx rv (h.2 e)
theorem s_popp {i j : Nat} {z zj : Str} {a : Expr} {as : List Expr} {ea : E} {p2 pj apos cpos apos2 cpos2 : Pos} (hk : X.K = c.K) (hNj : X.N[j]? = some zj) (hvj : Vis X.env.scope zj) (hdj : (zj == ("__debug__" : Str)) = false) (hcdj : (zj == ("__classdict__" : Str)) = false) (hN : X.N[i]? = some z) (hv : Vis X.env.scope z) (hd : (z == ("__debug__" : Str)) = false) (hcd : (z == ("__classdict__" : Str)) = false)
    (ha : PA X (a :: as) (rdL c Wx ea)) (hbase : attributeBase (.Name z p2) "pop" X.env (eval (.Name z p2) X.env) = eval (.Name z p2) X.env)
    (hfew : ((backTo cpos (starEach (a :: as) X.env)).all (fun x => !x.1) && (backToKw cpos (keywordEach [] X.env)).all (fun x => x.1.isSome)
      && decide ((a :: as).length + ([] : List Keyword).length + (if ([] : List Keyword).isEmpty then 0 else 1) < 30)) = true)
    (hline : (apos.endLine == cpos.line) = true) (hs : starEach (a :: as) X.env = (false, eval a X.env) :: starEach as X.env) (hpl : (backTo cpos (starEach as X.env)).any (·.1) = false)
    (hbase2 : attributeBase (.Name zj pj) "append" X.env (eval (.Name zj pj) X.env) = eval (.Name zj pj) X.env)
    (hfew2 : ((backTo cpos2 (starEach [.Call (.Attribute (.Name z p2) "pop" apos) (a :: as) [] cpos] X.env)).all (fun x => !x.1) && (backToKw cpos2 (keywordEach [] X.env)).all (fun x => x.1.isSome)
      && decide (([.Call (.Attribute (.Name z p2) "pop" apos) (a :: as) [] cpos] : List Expr).length + ([] : List Keyword).length + (if ([] : List Keyword).isEmpty then 0 else 1) < 30)) = true)
    (hline2 : (apos2.endLine == cpos2.line) = true) (hs2 : starEach [.Call (.Attribute (.Name z p2) "pop" apos) (a :: as) [] cpos] X.env = [(false, eval (.Call (.Attribute (.Name z p2) "pop" apos) (a :: as) [] cpos) X.env)])
    (hsw : swapsWith (.Call (.Attribute (.Name zj pj) "append" apos2) [.Call (.Attribute (.Name z p2) "pop" apos) (a :: as) [] cpos] [] cpos2) none pos.line X.env = pure false) :
    PS X (.Expr (.Call (.Attribute (.Name zj pj) "append" apos2) [.Call (.Attribute (.Name z p2) "pop" apos) (a :: as) [] cpos] [] cpos2) pos) (rdS c Wx fu (.popp j i ea)) := by
  refine ps_wk (ps_expr (pe_bm F.plainAttrs_list F.slot_list_append (by rfl) mt_append (pe_var hNj hvj hdj hcdj) (pa_cons (pe_bm F.plainAttrs_list F.slot_list_pop (by rfl) mt_popE (pe_var hN hv hd hcd) ha hbase hfew hline hs hpl) pa_nil hs2) hbase2 hfew2 hline2 hs2 (by rfl)) hsw) fun D σ H ⟨F0, H0, ρ, F, W, R, hP⟩ => ?_
  simp only [evS] at hP
  cases e0 : ρ[i]? with
  | none => rw [e0] at hP; exact hP.elim
  | some s =>
    rw [e0] at hP
    cases s with
    | un => exact hP.elim
    | slf _ _ _ => exact hP.elim
    | val d => exact hP.elim
    | own d =>
      cases d <;> try (exact hP.elim)
      rename_i xs0
      cases e9 : ρ[j]? with
      | none => rw [e9] at hP; exact hP.elim
      | some s =>
        rw [e9] at hP
        cases s with
        | un => exact hP.elim
        | slf _ _ _ => exact hP.elim
        | val d => exact hP.elim
        | own d =>
          cases d <;> try (exact hP.elim)
          rename_i ys0
          simp only at hP
          obtain ⟨p, ws0, h1, h2, h3⟩ := own_lst R e0
          obtain ⟨pj, wj0, j1, j2, j3⟩ := own_lst R e9
          refine ⟨.ref pj, j1, .inl ⟨rfl, wj0, .inl (.inl j2)⟩, .ref p, h1, .inl ⟨rfl, ws0, .inl (.inl h2)⟩, st_l R hP fun vs W1 us F1 H1 S1 A ap R1 hP => ?_⟩
          by_cases hij : i = j
          · rw [if_pos hij] at hP; exact hP.elim
          · rw [if_neg hij] at hP
            cases e4 : popD xs0 (ds vs) with
            | none => rw [e4] at hP; exact hP.elim
            | some q =>
              rw [e4] at hP
              simp only [ofS] at hP
              obtain ⟨p', ws, h4, h5, h6⟩ := own_lst R1 e0
              rw [h1] at h4
              have qq := L2.V.ref.inj (Option.some.inj (Option.some.inj h4))
              subst qq
              have ra := args_all R R1 S1 A
              have hn : ds vs = [] ↔ us = [] := by
                have := Paired.len A
                unfold ds
                rw [List.map_eq_nil_iff]
                constructor
                · intro z; rw [z] at this; exact List.length_eq_zero_iff.mp this
                · intro z; rw [z] at this; exact List.length_eq_zero_iff.mp this.symm
              by_cases hl : ys0.length < cap
              · rw [if_pos hl] at hP
                have g : ∀ y ws', Rep c F1 y q.1 → RepL c F1 ws' q.2 → rAppend (.ref pj) [y] (upd H1 p (.lst ws')) fun _ H' => D.nx σ H' := fun y ws' r1 r2 => by
                  have M := R1.mut (o' := .lst q.2) e0 h1 ⟨_, upd_same, r2⟩
                  have ej : (ρ.set i (.own (.lst q.2)))[j]? = some (.own (.lst ys0)) := by rw [List.getElem?_set_ne hij]; exact e9
                  obtain ⟨p3, w3, k1, k2, k3⟩ := own_lst M ej
                  rw [j1] at k1
                  have qq := L2.V.ref.inj (Option.some.inj (Option.some.inj k1))
                  subst qq
                  exact ⟨pj, w3, y, rfl, rfl, k2, by rw [k3.length, ← cap_eq]; exact hl, hP _ _ _ (M.mut ej j1 ⟨_, upd_same, k3.append (.cons r1 .nil)⟩) S1.f⟩
                obtain ⟨g1, g2⟩ := popD_ok h6 ra h5 e4 (Q := fun y H' => rAppend (.ref pj) [y] H' fun _ H' => D.nx σ H') g
                exact ⟨fun z => g1 (hn.mpr z), fun z => g2 fun zz => z (hn.mp zz)⟩
              · rw [if_neg hl] at hP; exact hP.elim
end
end Z

namespace Z
open PySem PySem.Spec PyProof.Rows L2
open Classical
section
variable {c : Pm} {Wx : WX} {X : Cx} {fu n : Nat} {W W' W1 W2 W3 : Dr} {F0 H0 F H F' H' F1 H1 F2 H2 F3 H3 Hs : Hp} {ρ ρ' : En} {σ σ' : L2.St} {u w : V} {x y v : Vl} {Q : VK} {us : List V} {vs : List Vl} {pos : Pos}

theorem s_while {c0 : Expr} {body : List Stmt} {ec : E} {b : S} (hp : PassesOwn (model X.prog X.w) X.A X.env X.xe) (hc : PT X c0 (rdT c Wx ec)) (hb : PSs X body (rdS c Wx fu b)) : PS X (.While c0 body [] pos) (rdS c Wx fu (.whl ec b)) := by
  refine ps_wk (ps_while hp hc hb) fun D σ H ⟨F0, H0, ρ, F, W, R, hP⟩ => ?_
  simp only [evS] at hP
  refine ⟨fun m σ H => ∃ F0 H0 ρ F W, Rel c F0 H0 ρ σ F H W ∧ PstS c Wx F0 H0 F D (whlGo (evT ec) (evS fu b) m ρ W), ⟨fu, F0, H0, ρ, F, W, R, hP⟩, ?_⟩
  clear hP R
  rintro m σ H ⟨F0, H0, ρ, F, W, R, hP⟩
  cases m with
  | zero => exact hP.elim
  | succ m =>
    simp only [whlGo] at hP
    refine st_t R hP fun k W1 F1 H1 S1 R1 hP => ?_
    cases k with
    | false =>
      simp only [Bool.false_eq_true, if_false] at hP ⊢
      exact hP _ _ _ R1 S1.f
    | true =>
      simp only [if_true] at hP ⊢
      refine ⟨fun σ' H' => ∃ F0 H0 ρ F W, Rel c F0 H0 ρ σ' F H' W ∧ PstS c Wx F0 H0 F D (whlGo (evT ec) (evS fu b) m ρ W), fun σ' H' h => ⟨m, Nat.lt_succ_self m, h⟩, F0, H0, ρ, F1, W1, R1, ?_⟩
      have hP := PstS.up hP S1.f
      cases e : evS fu b ρ W1 with
      | nx ρ1 W1 =>
        rw [e] at hP
        exact fun σ' F' H' R' s => ⟨F0, H0, ρ1, F', W1, R', PstS.up hP s⟩
      | ct ρ1 W1 =>
        rw [e] at hP
        exact fun σ' F' H' R' s => ⟨F0, H0, ρ1, F', W1, R', PstS.up hP s⟩
      | bk ρ1 W1 => rw [e] at hP; exact hP
      | rt v ρ1 W1 => rw [e] at hP; exact hP
      | ex x ρ1 W1 => rw [e] at hP; exact hP
      | rt2 i y ρ1 W1 => rw [e] at hP; exact hP
      | stk => rw [e] at hP; exact hP
theorem s_for {tg iter : Expr} {body : List Stmt} {pt : Pat} {src : E} {g : TG} {b : S} {own : List Nat} (hp : PassesOwn (model X.prog X.w) X.A X.env X.xe) (hc : X.calm = true) (hi : PI X tg iter (rdI c Wx src)) (hg : PG X tg g) (gk : GOk c pt own g) (hb : PSs X body (rdS c Wx fu b))
    (hs : ∀ x, foldedSetIterable iter X.env x = pure x) : PS X (.For tg iter body [] pos) (rdS c Wx fu (.for pt src b)) := by
  refine ps_wk (ps_for hp hc hi hg hb hs) fun D σ H ⟨F0, H0, ρ, F, W, R, hP⟩ => ?_
  simp only [evS] at hP
  refine ⟨F0, H0, ρ, F, W, R, st_gen (ok1 := fun _ (p : Wk) (J : It) F' H' => (∀ i ∈ p.me, ∃ x, ρ[i]? = some (.own x)) ∧ (∀ i ∈ p.t, ∃ x, ρ[i]? = some (.own x)) ∧ WkOk c (Fz F' H' σ p.me) (Fz F' H' σ p.t) p.xs J) R hP fun p W1 J F1 H1 S1 ⟨hme, ht, hw⟩ R1 hP => ?_⟩
  obtain ⟨xs, me, t⟩ := p
  simp only at hme ht hw hP
  have hall := own_app hme ht
  have RF := R1.frz hall
  have up : Same F1 (Fz F1 H1 σ (me ++ t)) := Fz_up R1.stp.sub
  have hP := PstS.up hP fun a o q => up _ _ (S1.f _ _ q)
  generalize hFF : Fz F1 H1 σ (me ++ t) = FF at *
  have sB : Same (Fz F1 H1 σ me) FF := hFF ▸ Fz_l R1.stp.sub
  have sB' : Same (Fz F1 H1 σ t) FF := hFF ▸ Fz_r R1.stp.sub
  refine ⟨fun i m σ' H' => m = xs.length - i ∧ i ≤ xs.length ∧ ∃ ρ' F' W', Rel c F0 H0 ρ' σ' F' H' W' ∧ Same FF F' ∧ PstS c Wx F0 H0 F' D (forGo (fun x ρ W => ofS (bindP pt x ρ) fun ρ' => evS fu b ρ' W) (xs.drop i) ρ' W'), ⟨xs.length, by simp, Nat.zero_le _, _, FF, W1, RF, Same.refl _, hP⟩, ?_⟩
  clear hP
  rintro i m σ' H' ⟨rfl, hil, ρ', F', W', R', sF, hP⟩
  have sBH : Same (Fz F1 H1 σ me) H' := fun a o q => R'.stp.sub _ _ (sF _ _ (sB _ _ q))
  by_cases hlt : i < xs.length
  · obtain ⟨x, hx⟩ : ∃ x, xs[i]? = some x := ⟨xs[i], List.getElem?_eq_getElem hlt⟩
    obtain ⟨hgo, hy⟩ := hw.go i x H' hx sBH
    have hdrop : xs.drop i = x :: xs.drop (i + 1) := by
      rw [List.drop_eq_getElem_cons hlt]
      congr 1
      exact Option.some.inj ((List.getElem?_eq_getElem hlt).symm.trans hx)
    rw [hdrop] at hP
    simp only [forGo] at hP
    refine .inr ⟨hgo, fun σ2 H2 => ∃ ρ' F' W', Rel c F0 H0 ρ' σ2 F' H2 W' ∧ Same FF F' ∧ PstS c Wx F0 H0 F' D (forGo (fun x ρ W => ofS (bindP pt x ρ) fun ρ' => evS fu b ρ' W) (xs.drop (i + 1)) ρ' W'), fun σ2 H2 h => ⟨xs.length - (i + 1), by omega, rfl, hlt, h⟩, fun u H2 hyu => ?_⟩
    obtain ⟨F2, S2, r2⟩ := Item.step R' (hy u H2 hyu) fun a o q => sF _ _ (sB' _ _ q)
    have R2 := R'.step S2
    cases hb : bindP pt x ρ' with
    | none => rw [hb] at hP; exact hP.elim
    | some ρ2 =>
      rw [hb] at hP
      simp only [ofS] at hP
      refine gk R2 r2 hb fun σ2 R3 _ _ _ => ⟨F0, H0, ρ2, F2, W', R3, ?_⟩
      have sF2 : Same FF F2 := fun a o q => S2.f _ _ (sF _ _ q)
      cases e : evS fu b ρ2 W' with
      | nx ρ1 W1 =>
        rw [e] at hP
        exact fun σ3 F3 H3 R3 s => ⟨ρ1, F3, W1, R3, fun a o q => s _ _ (sF2 _ _ q), PstS.up hP fun a o q => s _ _ (S2.f _ _ q)⟩
      | ct ρ1 W1 =>
        rw [e] at hP
        exact fun σ3 F3 H3 R3 s => ⟨ρ1, F3, W1, R3, fun a o q => s _ _ (sF2 _ _ q), PstS.up hP fun a o q => s _ _ (S2.f _ _ q)⟩
      | bk ρ1 W1 =>
        rw [e] at hP
        exact fun σ3 F3 H3 R3 s => hP _ _ _ R3 fun a o q => s _ _ (S2.f _ _ q)
      | rt v ρ1 W1 => rw [e] at hP; exact hP
      | ex x ρ1 W1 => rw [e] at hP; exact hP
      | rt2 i y ρ1 W1 => rw [e] at hP; exact hP
      | stk => rw [e] at hP; exact hP
  · have e : i = xs.length := by omega
    subst e
    rw [List.drop_length] at hP
    simp only [forGo] at hP
    exact .inl ⟨hw.stop H' sBH, hP _ _ _ R' (Same.refl _)⟩
theorem s_raise {C : Addr} {nm : Str} {bmB : List Value} {B newId initId : String} {x m : Str} {j : Nat} {p p2 pos2 : Pos} (hc : X.calm = true) (tk : L2N.Takes X Wx) (F : ExcBaseFacts B newId initId bmB) (q : PySem.W.excIn X.K C bmB newId = true) (gC : X.mg x = some (.ref C)) (kC : PySem.W.keepIn X.K (.ref C) = true) (r : Raises X (.ref C)) (hg : Gl X x)
    (hdb : (x == ("__debug__" : Str)) = false) (hn : c.cx nm = some C) : PS X (.Raise (some (.Call (.Name x p) [.Constant (.str m) j p2] [] pos2)) none pos) (rdS c Wx fu (.raise nm [] .nil)) := by
  refine ps_wk (L2N.ps_raise hc tk (L2N.pmk_own F q gC kC r hg hdb)) fun D σ H ⟨F0, H0, ρ, F, W, R, hP⟩ => ?_
  simp only [evS, evL] at hP
  exact hP _ _ σ F H R ⟨C, hn, rfl, rfl⟩
end
end Z

namespace L2
open PySem PySem.Spec PyProof.Rows
theorem Fun.okC {CX : CXT} {P : Program} {w : World} {K : PySem.W.Frag} {mg : Str → Option Value} {base : Heap} {x qual : Str} {st : Stmt} {f : Addr} {fd : FuncData} {N ps : List Str} {k : Nat} {sp : Sp} (F : Fun K x qual st f fd) (S : FnScope N ps (defScope st)) (len : ∀ vs H Q E, sp vs H Q E → vs.length = ps.length)
    (hbody : ∀ (cdv : Value) (A : Around) (outer : List Env) (s : Shared) (H : Hp) (vs : List V) (Q : VK) (E : XK), Room k (A.deeper (envOfC qual (defScope st) s.heap.objs.size f cdv)) → sp vs H Q E →
      ∃ t, PSs (cxOf CX P w K mg base N qual (defScope st) f cdv A outer s H E) (defBody st) t ∧ t { nx := fun _ H' => Q .non H', rt := Q } (start N vs) H) : FnOk P w K mg base CX (k + 1) f fd ps sp := by
  obtain ⟨oc, od, kV, doc, pm, an, cdv, ct, osl, rfl, lk, hcd⟩ := F.ex
  exact fn_of lk hcd S len fun A outer s H vs Q E hr hsp => hbody cdv A outer s H vs Q E hr hsp
end L2
namespace Z
open PySem PySem.Spec PyProof.Rows L2
open Classical
section
variable {c : Pm} {Wx : WX} {X : Cx} {fu n k : Nat} {W W' W1 W2 W3 : Dr} {F0 H0 F H F' H' F1 H1 F2 H2 F3 H3 Hs : Hp} {ρ ρ' : En} {σ σ' : L2.St} {u w : V} {x y v : Vl} {Q : VK} {us : List V} {vs : List Vl} {pos : Pos}

theorem RepL.at : ∀ {vs : List V} {xs : List D} {i : Nat} {s : Sl} {m : Nat}, RepL c F vs xs → (xs.map Sl.val ++ List.replicate m .un)[i]? = some s → SlotOk c H0 F H s (vs.map some ++ List.replicate m none)[i]?
  | _, _, i, s, m, .nil, e => by
    simp only [List.map_nil, List.nil_append] at e ⊢
    rw [List.getElem?_replicate] at e ⊢
    split at e
    · cases e
      rename_i h
      rw [if_pos h]
      exact fun z => nomatch z
    · cases e
  | _, _, 0, s, m, .cons (v := v) h r, e => by
    simp at e
    subst e
    exact ⟨v, rfl, h⟩
  | _, _, i + 1, s, m, .cons h r, e => by
    simp only [List.map_cons, List.cons_append, List.getElem?_cons_succ] at e ⊢
    exact RepL.at r e
theorem rel_start {N : List Str} {xs : List D} (r : RepL c F us xs) (S : Stp c W F H F H) : Rel c F H (xs.map Sl.val ++ List.replicate (N.length - xs.length) .un) (L2.start N us) F H W := by
  unfold L2.start
  rw [r.length]
  refine ⟨by simp [r.length], S, fun i s e => RepL.at r e, fun i j d1 d2 p e1 e2 _ _ => ?_⟩
  have := RepL.at (H := H) (H0 := H) r e1
  obtain ⟨q, q1, _⟩ := this
  rw [List.getElem?_append] at e1
  split at e1
  · rw [List.getElem?_map, Option.map_eq_some_iff] at e1
    obtain ⟨_, _, z⟩ := e1
    cases z
  · rw [List.getElem?_replicate] at e1
    split at e1 <;> cases e1
theorem body_ok {N : List Str} {b : S} {ps : Nat} {E : XK} (h : spG c (run fu N.length ps b) us H Q E) : us.length = ps ∧ rdS c (fun cls dd _ H' => E cls dd H') fu b { nx := fun _ H' => Q .non H', rt := Q } (L2.start N us) H := by
  obtain ⟨F, xs, W, r, S, hP⟩ := h
  unfold run at hP
  by_cases hl : xs.length = ps
  · rw [if_pos hl] at hP
    refine ⟨by rw [r.length, hl], F, H, _, F, W, rel_start r S, ?_⟩
    rw [hl]
    cases e : evS fu b (xs.map Sl.val ++ List.replicate (N.length - ps) .un) W with
    | nx ρ' W' =>
      rw [e] at hP
      exact fun σ' F' H' R' s => hP .non F' H' R'.stp .non
    | bk ρ' W' => rw [e] at hP; exact hP.elim
    | ct ρ' W' => rw [e] at hP; exact hP.elim
    | rt2 i y ρ' W' => rw [e] at hP; exact hP.elim
    | stk => rw [e] at hP; exact hP.elim
    | ex x ρ' W' =>
      rw [e] at hP
      exact fun cls dd σ' F' H' R' hx => hP cls dd F' H' R'.stp hx
    | rt v ρ' W' =>
      rw [e] at hP
      simp only at hP
      intro u σ' F' H' R' V N
      have RF := R'.frz V.t_own
      have a := V.at_
      cases hk : v.k with
      | pl =>
        rw [hk] at hP a
        exact hP u _ H' RF.stp a
      | me i =>
        rw [hk] at hP a
        obtain ⟨a1, a2, a3⟩ := a
        obtain ⟨p, q1, q2, q3, q4, q5⟩ := R'.own a2
        rw [a3] at q1
        cases q1
        exact hP _ F' H' R'.stp ⟨p, rfl, q2, q3, q4, q5⟩
      | fr =>
        rw [hk] at hP a
        obtain ⟨p, rfl, e2, e3, e4, e5⟩ := a
        refine hP _ _ H' RF.stp ⟨p, rfl, ?_, e3, e4, e5⟩
        rw [Fz_out]
        · exact e2
        · rintro ⟨j, z1, z2⟩
          obtain ⟨d, hd⟩ := V.t_own j z1
          exact N hk p rfl j d hd z2
  · rw [if_neg hl] at hP; exact hP.elim
theorem spG_len {N : Nat} {b : S} {ps : Nat} {E : XK} (h : spG c (run fu N ps b) us H Q E) : us.length = ps := by
  obtain ⟨F, xs, W, r, S, hP⟩ := h
  unfold run at hP
  by_cases hl : xs.length = ps
  · rw [r.length, hl]
  · rw [if_neg hl] at hP; exact hP.elim
theorem fn_ok {P : Program} {w : World} {K : PySem.W.Frag} {mg : Str → Option Value} {base : Heap} {x qual : Str} {st : Stmt} {f : Addr} {fd : FuncData} {N ps : List Str} {b : S} (F : Fun K x qual st f fd) (S : FnScope N ps (defScope st))
    (hb : ∀ (cdv : Value) (A : Around) (outer : List Env) (s : Shared) (H : Hp) (E : XK), Room k (A.deeper (envOfC qual (defScope st) s.heap.objs.size f cdv)) →
      L2N.Takes (cxOf (L2N.CX P w) P w K mg base N qual (defScope st) f cdv A outer s H E) (fun cls dd _ H' => E cls dd H') →
      PSs (cxOf (L2N.CX P w) P w K mg base N qual (defScope st) f cdv A outer s H E) (defBody st) (rdS c (fun cls dd _ H' => E cls dd H') fu b)) :
    FnOk P w K mg base (L2N.CX P w) (k + 1) f fd ps (spG c (run fu N.length ps.length b)) :=
  F.okC S (fun vs H Q E h => spG_len h) fun cdv A outer s H vs Q E hr h => ⟨_, hb cdv A outer s H E hr (L2N.takes_of rfl rfl rfl rfl), (body_ok h).2⟩

structure Cal (c : Pm) (P : Program) (w : World) (K : PySem.W.Frag) (mg : Str → Option Value) (base : Heap) (k : Nat) (x : Str) (ps : List Str) (g : G) : Prop where
  ex : ∃ (f : Addr) (fd : FuncData), mg x = some (.ref f) ∧ PySem.W.keepIn K (.ref f) = true ∧ Binds K fd ps [] ∧ FnOk P w K mg base (L2N.CX P w) k f fd ps (spG c g)
theorem Cal.mono {P : Program} {w : World} {K : PySem.W.Frag} {mg : Str → Option Value} {base : Heap} {j : Nat} {x : Str} {ps : List Str} {g : G} (h : Cal c P w K mg base j x ps g) (hk : j ≤ k) : Cal c P w K mg base k x ps g := by
  obtain ⟨f, fd, h1, h2, h3, h4⟩ := h.ex
  exact ⟨f, fd, h1, h2, h3, h4.mono hk⟩
theorem call_ok {g : G} {ea : E} (h : rdE c Wx (.call g ea) σ H Q) : tCallS (spG c g) (WE Wx) (rdL c Wx ea) σ H Q := by
  obtain ⟨F0, H0, ρ, F, W, R, hP⟩ := h
  simp only [ev] at hP
  refine rd_l R R.refl hP fun vs W1 us F1 H1 S1 _ A R1 hP => ?_
  have RF := (Ft_rel R R1 S1 A).frz (ts_own A)
  exact ⟨_, ds vs, W1, args_all R R1 S1 A, RF.stp.refl, call_end (g := g) R S1 A (ts_own A) hP⟩
theorem e_call {x : Str} {ps : List Str} {g : G} {e : Expr} {es : List Expr} {ea : E} {p : Pos} (h : Cal c X.prog X.w X.K X.mg X.base k x ps g) (hr : Room k X.A) (tk : L2N.Takes X Wx) (hg : Gl X x) (ha : PA X (e :: es) (rdL c Wx ea)) (hdb : (x == ("__debug__" : Str)) = false)
    (he : starEach (e :: es) X.env = (false, eval e X.env) :: starEach es X.env) (hpl : (backTo pos (starEach es X.env)).any (·.1) = false) : PE X (.Call (.Name x p) (e :: es) [] pos) (rdE c Wx (.call g ea)) := by
  obtain ⟨f, fd, h1, h2, h3, h4⟩ := h.ex
  exact pe_wk (pe_callS h4 hr hg h1 h2 h3 (fun σ => L2N.passAt tk σ) ha hdb he hpl) fun σ H Q h => call_ok h
end
end Z

namespace Z
open PySem PySem.Spec PyProof.Rows L2
open Classical
section
variable {c : Pm} {Wx : WX} {X : Cx} {fu n k : Nat} {W W' W1 W2 W3 : Dr} {F0 H0 F H F' H' F1 H1 F2 H2 F3 H3 Hs : Hp} {ρ ρ' : En} {σ σ' : L2.St} {u w : V} {x y v : Vl} {Q : VK} {us : List V} {vs : List Vl} {pos : Pos}

structure InsT (K : PySem.W.Frag) (C : Addr) : Prop where
  cl : Cls K C
  ha : PySem.W.findIn K (.ref C) "__class__" = some (some (.builtin "object.__class__"))
  hn : PySem.W.specialIn K (.builtin "object.__class__") "__get__" = some (some (.builtin "getset_descriptor.__get__"))
  ht : PySem.W.takesIn K (.builtin "object.__class__") = some true
  hm : PySem.W.mroIn K C (.type "object") = some true
theorem ValOk.ins {nm : Str} {fs : List (Str × D)} (R : Rel c F0 H0 ρ σ F H W) (k : ValOk c ρ σ Hs F H u v) (e : v.d = .ins nm fs) : ∃ a C dx gs, u = .ref a ∧ Fz F H σ v.t a = some (.ins C dx gs) ∧ c.ca nm = some C ∧ RepF c (Fz F H σ v.t) gs fs := (k.rep R e fun _ _ _ h => h).insI
theorem e_attr {f : Str} {a : Expr} {ea : E} (hk : X.K = c.K) (ha : PE X a (rdE c Wx ea)) (hb : attributeBase a f X.env (eval a X.env) = eval a X.env) (hc : ∀ n C, c.ca n = some C → Cls c.K C ∧ NoAttr c.K C f) : PE X (.Attribute a f pos) (rdE c Wx (.attr ea f)) := by
  refine pe_wk (pe_fld ha hb) fun σ H Q ⟨F0, H0, ρ, F, W, R, hP⟩ => ?_
  simp only [ev] at hP
  refine rd_e R R.refl hP fun x W1 u F1 H1 S1 _ V1 R1 hP => ?_
  obtain ⟨d, hd, hP⟩ := ofO_some hP
  cases e : x.d <;> rw [e] at hd <;> try (cases hd; done)
  · rename_i nm fs
    obtain ⟨p, C, dx, gs, rfl, h1, h2, h3⟩ := V1.ins R1 e
    obtain ⟨w, q1, q2⟩ := h3.look hd
    obtain ⟨c1, c2⟩ := hc _ _ h2
    exact ⟨p, C, dx, gs, w, rfl, Fz_dn R1.stp.sub _ _ h1, hk ▸ c1, hk ▸ c2, q1, fin_vl R1 S1 V1.t_own hP q2⟩

structure Mth (c : Pm) (P : Program) (w : World) (mg : Str → Option Value) (base : Heap) (k : Nat) (nm m : Str) (ps : List Str) (g : G) : Prop where
  ex : ∃ (C f : Addr) (fd : FuncData), c.ca nm = some C ∧ Cls c.K C ∧ Meth c.K C m f ∧ Binds c.K fd ps [] ∧ FnOk P w c.K mg base (L2N.CX P w) k f fd ps (spG c g)
theorem Mth.mono {P : Program} {w : World} {mg : Str → Option Value} {base : Heap} {j : Nat} {nm m : Str} {ps : List Str} {g : G} (h : Mth c P w mg base j nm m ps g) (hk : j ≤ k) : Mth c P w mg base k nm m ps g := by
  obtain ⟨C, f, fd, h1, h2, h3, h4, h5⟩ := h.ex
  exact ⟨C, f, fd, h1, h2, h3, h4, h5.mono hk⟩
def tMth (C : Addr) (m : Str) (sp : Sp) (E : L2.St → XK) (ta : TE) (t : TA) : TE := fun σ H Q => ta σ H fun x H1 => ∃ a dx fs, x = .ref a ∧ H1 a = some (.ins C dx fs) ∧ fs.lookup m = none ∧ t σ H1 fun vs H2 => sp (x :: vs) H2 Q (E σ)
theorem mth_ok {C : Addr} {nm m : Str} {g : G} {ea es : E} (hC : c.ca nm = some C) (h : rdE c Wx (.mth m nm g ea es) σ H Q) : tMth C m (spG c g) (WE Wx) (rdE c Wx ea) (rdL c Wx es) σ H Q := by
  obtain ⟨F0, H0, ρ, F, W, R, hP⟩ := h
  simp only [ev] at hP
  refine rd_e R R.refl hP fun x W1 u F1 H1 S1 _ V1 R1 hQ => ?_
  cases e : x.d <;> rw [e] at hQ <;> try (exact hQ.elim)
  rename_i n' fs
  simp only at hQ
  by_cases hc : n' = nm ∧ fs.lookup m = none
  · rw [if_pos hc] at hQ
    obtain ⟨rfl, hl⟩ := hc
    obtain ⟨p, C', dx, gs, rfl, h1, h2, h3⟩ := V1.ins R1 e
    rw [hC] at h2
    cases h2
    refine ⟨p, dx, gs, rfl, Fz_dn R1.stp.sub _ _ h1, h3.lookN hl, ?_⟩
    refine rd_l R1 S1 hQ fun vs W2 us F2 H2 S2 S12 A R2 hQ => ?_
    have AA : ArgOk c ρ σ H F2 H2 (.ref p :: us) (x :: vs) := .cons (V1.step R1 S12) A
    have RF := (Ft_rel R R2 S2 AA).frz (ts_own AA)
    refine ⟨_, ds (x :: vs), W2, args_all R R2 S2 AA, RF.stp.refl, call_end (g := g) R S2 AA (ts_own AA) ?_⟩
    have : ds (x :: vs) = .ins n' fs :: ds vs := by unfold ds; rw [List.map_cons, e]
    rw [this]
    exact hQ
  · rw [if_neg hc] at hQ; exact hQ.elim
theorem e_mth0 {nm m : Str} {ps : List Str} {g : G} {o : Expr} {ea : E} {apos : Pos} {pl : Sem Bool} (h : Mth c X.prog X.w X.mg X.base k nm m ps g) (hk : X.K = c.K) (hr : Room k X.A) (tk : L2N.Takes X Wx) (ho : PE X o (rdE c Wx ea))
    (ht : eval (.Call (.Attribute o m apos) [] [] pos) X.env = (do
      let ov ← eval o X.env
      standAt apos.atName
      let (f, first) ← holding [ov] (getMethod ov m pl)
      callWith pos f first (backTo pos (starEach [] X.env)) (backToKw pos (keywordEach [] X.env)))) : PE X (.Call (.Attribute o m apos) [] [] pos) (rdE c Wx (.mth m nm g ea .nil)) := by
  obtain ⟨C, f, fd, h1, h2, h3, h4, h5⟩ := h.ex
  rw [← hk] at h2 h3 h4 h5
  refine ⟨fun pins s σ H Q I q => ?_⟩
  have q := mth_ok h1 q
  refine PySem.W.methodCall_KW (pl := pl) (thn (ho.run pins s σ H _ I q) fun u s1 ⟨xx, H1, I1, rx, p, dx, fs, ex, ea, l, q⟩ => ?_) ht
  subst ex
  obtain rfl : u = Value.ref p := rx
  refine getmeth_ok I1 ea h2 h3 l ?_
  have q : spG c g [V.ref p] H1 Q (WE Wx σ) := by
    obtain ⟨F0, H0, ρ, F, W, R, hP⟩ := q
    simp only [evL] at hP
    exact hP [] F H1 R.refl ⟨.nil, trivial⟩
  exact PySem.W.callWith_K0 (first := [.ref p]) I1.kIn h3.kp (run_fnS (us := [.ref p]) (vs := [.ref p]) h5 hr h4 (L2N.passAt tk σ) I1 (.cons rfl .nil) q)
end
end Z

namespace Z
open PySem PySem.Spec PyProof.Rows L2
open Classical
section
open PySem.W
variable {prog : Program} {w : World} {A : Around} {E : Value → Shared → Prop} {s : Shared} {K : Frag} {D x : Addr} {ox : Obj} {od : Option Obj} {Q : Option Value → Shared → Prop}
theorem find_cls (e : ExcC K D) : findObj K D od "__class__" = some (.bind (.builtin "getset_descriptor.__get__") (.builtin "object.__class__")) := by
  have hc : (clsIn K D).isSome = true := by
    obtain ⟨cd, hc, _⟩ := any_some e.hd
    rw [hc] <;> rfl
  cases od with
  | none => exact findObj_dataN hc e.ha e.hn e.ht
  | some o => exact findObj_data hc e.ha e.hn e.ht
theorem exc_cls (e : ExcC K D) (X : K.In s.heap) (I : InstAt s.heap x ox D od) (h : Q (some (.ref D)) { s with toks := s.toks + 1 }) : wpAny (model prog w) A (getAttr? (.ref x) "__class__") Q E s := by
  obtain ⟨hp, g, d, t, os⟩ := s
  have T0 := I.type (M := model prog w)
  have base : Looks (model prog w) hp (isInstance (.ref x) (.type "BaseException")) true := T0.andThen (looks_subIn X e.hs)
  have no : (Value.builtin "BaseException.__getattribute__" == Value.builtin "object.__getattribute__") = false := by decide +kernel
  unfold getAttr? getAttrBy? getAttrBy
  refine wpAny_bind (wpAny_mkText (wpAny_bind (wpAny_attempt (wpAny_holding (wpAny_bind (T0.at (wpAny_bind ((looks_findIn (M := model prog w) X e.hg).at ?_))))))))
  show wpAny _ _ (if (onTheHeap (Value.ref D) && Value.builtin "BaseException.__getattribute__" == Value.builtin "object.__getattribute__") = true then _ else _) _ _ _
  rw [show (onTheHeap (Value.ref D) && Value.builtin "BaseException.__getattribute__" == Value.builtin "object.__getattribute__") = false by rw [no]; rfl, if_neg Bool.false_ne_true]
  unfold getAttrByItsOwn hookBefore
  refine wpAny_bind ?_
  rw [if_pos (show onTheHeap (Value.ref D) = true from rfl)]
  refine (looks_findIn (M := model prog w) X e.hk).at (wpAny_bind (wpAny_attempt (wpAny_holding ?_)))
  unfold callGetattribute
  rw [show (false && onTheHeap (Value.builtin "BaseException.__getattribute__")) = false from rfl, if_neg Bool.false_ne_true]
  unfold boundAndCalled
  rw [PySem.F.excAttr_ValueError.ga.bind (.ref x)]
  refine wpAny_bind (wpAny_pure ?_)
  show wpAny _ _ (call (.builtin "BaseException.__getattribute__") [.ref x, .str "__class__" t]) _ _ _
  refine wpAny_call (codeAny_call_builtin PySem.F.excAttr_ValueError.ga.plain PySem.F.entry_bexc_ga ?_)
  refine @check_slot (model prog w) _ _ ⟨hp, g, d, t + 1, os⟩ "BaseException.__getattribute__" "BaseException" "__getattribute__" (.ref x) [.str "__class__" t] [] _ (by decide +kernel) (by decide +kernel) base (PySem.F.args_bexc_ga (.ref x) (.str "__class__" t)) ?_
  unfold Builtin.«object.__getattribute__»
  refine wpAny_bind (wpAny_of_eq (a := ((Value.ref x : Value), [Value.str "__class__" t])) (by first | rfl | (simp only [slotArgs]; rfl)) ?_)
  refine wpAny_bind (wpAny_pure (wpAny_bind (T0.at (wpAny_bind ((looks_find (M := model prog w) X I (find_cls e)).at ?_)))))
  show wpAny _ _ (holding [Value.builtin "object.__class__"] (call (.builtin "getset_descriptor.__get__") [.builtin "object.__class__", .ref x, .ref D]) >>= ret) _ _ _
  refine wpAny_bind (wpAny_holding (wpAny_call (class_get (s := ⟨hp, g, d, t + 1, os⟩) (ox := ox) (od := od) X I e.hm (wpAny_pure ?_))))
  show wpAny _ _ (handedOut (.ref D)) _ _ _
  rw [handedOut_of (v := .ref D) rfl]
  first
    | exact wpAny_pure (wpAny_pure h)
    | exact wpAny_pure h
    | exact wpAny_pure (wpAny_bind (wpAny_pure (wpAny_pure h)))
theorem kit_exc1 (e : ExcC K D) : KitX K (.ref x) (.ref D) (fun h => ∃ o, InstAt h x ox D (some o)) where
  ty := fun _ _ _ ⟨_, I⟩ => I.type
  it := fun _ _ X _ => by
    obtain ⟨cd, hc, _⟩ := any_some e.hd
    unfold clsIn at hc
    split at hc
    · rename_i ho
      intro A' Q' E' s' k q
      unfold isType loadHead
      exact wpAny_bind (wpAny_loadPart (k _ _ (X _ _ ho)) (wpAny_pure q))
    · cases hc
  ne := fun h tp dd its n sl X ht => by
    obtain ⟨cd, hc, _⟩ := any_some e.hd
    refine Bool.eq_false_iff.mpr fun q => ?_
    obtain rfl : D = tp := Value.ref.inj (beq_iff_eq.mp q)
    unfold clsIn at hc
    split at hc
    · rename_i ho
      cases (X _ _ ho).symm.trans ht
    · cases hc
  ca := fun X ⟨_, I⟩ k => exc_cls e X I k
end
section
variable {c : Pm} {Wx : WX} {X : Cx} {fu n k : Nat} {W W' W1 W2 W3 : Dr} {F0 H0 F H F' H' F1 H1 F2 H2 F3 H3 Hs : Hp} {ρ ρ' : En} {σ σ' : L2.St} {u w : V} {x y v : Vl} {Q : VK} {us : List V} {vs : List Vl} {pos : Pos}

inductive TyZ (K : PySem.W.Frag) (H : Hp) : V → Value → Prop where
  | base {x : V} {t : Value} (h : TyX K H x t) : TyZ K H x t
  | exc {a C : Addr} (h : H a = some (XO (.ref C) none a)) (e : ExcC K C) : TyZ K H (.ref a) (.ref C)
  | exc1 {a C dd : Addr} {gs : List (Str × V)} (h : H a = some (XO (.ref C) (some dd) a)) (h2 : H dd = some (.xd gs)) (e : ExcC K C) : TyZ K H (.ref a) (.ref C)
theorem kit_z {pins : List (Addr × Obj)} {s : Shared} {x : V} {u t : Value} (I : Inv X pins σ H s) (rx : RelV x u) (ty : TyZ X.K H x t) : ∃ P : Heap → Prop, PySem.W.KitX X.K u t P ∧ P s.heap ∧ u ≠ .builtin "__main__.__loader__#opaque" := by
  cases ty with
  | base h => exact kit_of I rx h
  | @exc a C h e =>
    cases (show u = Value.ref a from rx)
    obtain ⟨⟨oe, vs, e1, ⟨h1, h2⟩, h3⟩, _, _⟩ := I.hok a _ h
    obtain ⟨oc, od, oda, osl⟩ := oe
    dsimp only at h1 h2 h3
    subst h1 h2 h3
    exact ⟨_, PySem.W.handS_kitx_exc e.hg e.hk e.hs e.hd e.ha e.hn e.ht e.hm, ⟨e1, rfl, rfl, trivial⟩, fun z => nomatch z⟩
  | @exc1 a C dd gs h hd e =>
    cases (show u = Value.ref a from rx)
    obtain ⟨⟨oe, vs, e1, ⟨h1, h2⟩, h3⟩, _, _⟩ := I.hok a _ h
    obtain ⟨oc, od, oda, osl⟩ := oe
    dsimp only at h1 h2 h3
    subst h1 h2 h3
    obtain ⟨mA, hns, _⟩ := (show ObjOk X.prog X.w H s.heap dd (.xd gs) from I.hok dd _ hd)
    obtain ⟨o, ho, _⟩ := lookIn_ns hns
    exact ⟨_, kit_exc1 e, ⟨o, e1, rfl, rfl, ho⟩, fun z => nomatch z⟩
def rIsZ (K : PySem.W.Frag) : List V → Hp → VK → Prop := fun xs H Q => ∃ (x d : V) (t u : Value) (b : Bool), xs = [x, d] ∧ ClsV d u ∧ TyZ K H x t ∧ PySem.W.kitOne K t u = some b ∧ Q (.bl b) H
def rIsZT (K : PySem.W.Frag) : List V → Hp → VK → Prop := fun xs H Q => ∃ (x : V) (tp : Addr) (cs : List V) (t : Value) (us : List Value) (b : Bool), xs = [x, .ref tp] ∧ H tp = some (.tup cs) ∧ Paired ClsV cs us ∧ TyZ K H x t ∧ PySem.W.kitAny K t us = some b ∧ Q (.bl b) H
theorem call_isZ : CallR X (.builtin "isinstance") (rIsZ X.K) := by
  intro pins s σ H xs us Q I r ⟨x, d, t, u, b, e1, k, ty, e, q⟩
  subst e1
  obtain ⟨u1, u2, rfl, r1, r2⟩ := vals2 r
  cases k.eq r2
  obtain ⟨P, Zk, p, hx⟩ := kit_z I r1 ty
  exact PySem.W.kia_one Zk I.kIn p e hx fun tk => ⟨.bl b, H, I.tok tk, rfl, q⟩
theorem call_isZT : CallR X (.builtin "isinstance") (rIsZT X.K) := by
  intro pins s σ H xs us Q I r ⟨x, tp, cs, t, ws, b, e1, hT, k, ty, e, q⟩
  subst e1
  obtain ⟨u1, u2, rfl, r1, r2⟩ := vals2 r
  cases (show u2 = Value.ref tp from r2)
  obtain ⟨P, Zk, p, hx⟩ := kit_z I r1 ty
  obtain ⟨_, its, rv, o, h1, h2, n, h3⟩ := (show ObjOk X.prog X.w H s.heap tp (.tup cs) from I.hok tp _ hT)
  cases ClsV.all k rv
  obtain ⟨oc, od, dt, sl⟩ := o
  simp only at h2 h3
  subst h2 h3
  exact PySem.W.kia_tup Zk I.kIn p h1 e hx fun tk => ⟨.bl b, H, I.tok tk, rfl, q⟩

def tyD (c : Pm) : D → Option Value
  | .non => some (.type "NoneType")
  | .bl _ => some (.type "bool")
  | .int _ => some (.type "int")
  | .str _ => some (.type "str")
  | .tup _ => some (.type "tuple")
  | .lst _ => some (.type "list")
  | .dic _ _ => some (.type "dict")
  | .ins n _ => (c.ca n).map .ref
  | .exc n _ => (c.cx n).map .ref
  | _ => none
structure Kls (c : Pm) : Prop where
  ins : ∀ n C, c.ca n = some C → InsT c.K C
  exc : ∀ n C, c.cx n = some C → ExcC c.K C
structure IsF (c : Pm) (tt : Ty) (u : Value) : Prop where
  non : PySem.W.kitOne c.K (.type "NoneType") u = some (isD1 .non tt)
  bl : PySem.W.kitOne c.K (.type "bool") u = some (isD1 (.bl true) tt)
  int : PySem.W.kitOne c.K (.type "int") u = some (isD1 (.int 0) tt)
  str : PySem.W.kitOne c.K (.type "str") u = some (isD1 (.str default) tt)
  tup : PySem.W.kitOne c.K (.type "tuple") u = some (isD1 (.tup []) tt)
  lst : PySem.W.kitOne c.K (.type "list") u = some (isD1 (.lst []) tt)
  dic : PySem.W.kitOne c.K (.type "dict") u = some (isD1 (.dic false []) tt)
  ins : ∀ n C, c.ca n = some C → PySem.W.kitOne c.K (.ref C) u = some (isD1 (.ins n []) tt)
  exc : ∀ n C, c.cx n = some C → PySem.W.kitOne c.K (.ref C) u = some (isD1 (.exc n []) tt)
theorem isD1_eq {c : Pm} {tt : Ty} {u t : Value} {d : D} (f : IsF c tt u) (h : tyD c d = some t) : PySem.W.kitOne c.K t u = some (isD1 d tt) := by
  cases d <;> simp only [tyD] at h
  case non => cases h; exact f.non
  case bl b => cases h; rw [f.bl]; cases tt <;> rfl
  case int i => cases h; rw [f.int]; cases tt <;> rfl
  case str i => cases h; rw [f.str]; cases tt <;> rfl
  case tup i => cases h; rw [f.tup]; cases tt <;> rfl
  case lst i => cases h; rw [f.lst]; cases tt <;> rfl
  case dic t i => cases h; rw [f.dic]; cases tt <;> rfl
  case ins n fs =>
    rw [Option.map_eq_some_iff] at h
    obtain ⟨C, h1, rfl⟩ := h
    rw [f.ins n C h1]; cases tt <;> rfl
  case exc n fs =>
    rw [Option.map_eq_some_iff] at h
    obtain ⟨C, h1, rfl⟩ := h
    rw [f.exc n C h1]; cases tt <;> rfl
  all_goals cases h
theorem val_ty (kl : Kls c) (R : Rel c F0 H0 ρ σ F H W) (V1 : ValOk c ρ σ Hs F H u v) (ht : v.d.typed = true) : ∃ t, tyD c v.d = some t ∧ TyZ c.K H u t := by
  cases e : v.d
  case lst xs =>
    obtain ⟨a, ws, rfl, h1, _⟩ := V1.lst R e
    exact ⟨_, rfl, .base (.base (.lst h1))⟩
  case tup xs =>
    obtain ⟨a, ws, rfl, h1, _⟩ := V1.tup R e
    rcases Same.sqT (Fz_dn R.stp.sub) h1 with (h1 | ⟨o, h1⟩) | ⟨o, its, m, k1, k2, _⟩
    · exact ⟨_, rfl, .base (.base (.tup h1))⟩
    · exact ⟨_, rfl, .base (.fTuple h1)⟩
    · exact ⟨_, rfl, .base (.kTuple k1 k2)⟩
  case non => cases V1.non R e; exact ⟨_, rfl, .base (.base .non)⟩
  case bl b => cases V1.bl R e; exact ⟨_, rfl, .base (.base (.bl b))⟩
  case int b => cases V1.int R e; exact ⟨_, rfl, .base (.base (.int b))⟩
  case str b => cases V1.str R e; exact ⟨_, rfl, .base (.base (.str b))⟩
  case dic t kvs =>
    cases t
    · obtain ⟨a, ws, rfl, h1, _⟩ := V1.dicK R e
      rcases h1 with h1 | ⟨o, h1⟩
      · exact ⟨_, rfl, .base (.base (.dK h1))⟩
      · exact ⟨_, rfl, .base (.fDict h1)⟩
    · rw [e] at ht; cases ht
  case ins nm fs =>
    obtain ⟨p, C, dx, gs, rfl, h1, h2, h3⟩ := V1.ins R e
    have i := kl.ins _ _ h2
    exact ⟨.ref C, by simp [tyD, h2], .base (.base (.ins (Fz_dn R.stp.sub _ _ h1) i.cl i.ha i.hn i.ht i.hm))⟩
  case exc nm fs =>
    have a := V1.rep R e fun _ _ _ h => h
    cases a with
    | exc0 h1 h2 => exact ⟨_, by simp [tyD, h2], .exc (Fz_dn R.stp.sub _ _ h1) (kl.exc _ _ h2)⟩
    | exc1 h1 h2 h3 _ _ => exact ⟨_, by simp [tyD, h2], .exc1 (Fz_dn R.stp.sub _ _ h1) (Fz_dn R.stp.sub _ _ h3) (kl.exc _ _ h2)⟩
  all_goals (rw [e] at ht; cases ht)
theorem e_isi {a T : Expr} {ea : E} {tt : Ty} {d : V} {uu : Value} {p : Pos} (kl : Kls c) (hk : X.K = c.K) (f : IsF c tt uu) (hd : ClsV d uu) (ha : PE X a (rdE c Wx ea)) (hT : PE X T (tC d)) (hg : Gl X "isinstance") (hm : X.mg "isinstance" = none)
    (h1 : starEach [a, T] X.env = (false, eval a X.env) :: starEach [T] X.env) (h2 : starEach [T] X.env = (false, eval T X.env) :: starEach [] X.env) (hpl : (backTo pos (starEach [T] X.env)).any (·.1) = false) :
    PE X (.Call (.Name "isinstance" p) [a, T] [] pos) (rdE c Wx (.isi ea [tt])) := by
  refine pe_wk (pe_callB call_isZ hg hm boot_isinstance (pa_cons ha (pa_cons hT pa_nil h2) h1) (by decide) (by decide) h1 hpl) fun σ H Q ⟨F0, H0, ρ, F, W, R, hP⟩ => ?_
  simp only [ev] at hP
  refine rd_e R R.refl hP fun x W1 u F1 H1 S1 _ V1 R1 hP => ?_
  by_cases ht : x.d.typed = true
  · rw [if_pos ht] at hP
    obtain ⟨t, e1, e2⟩ := val_ty kl R1 V1 ht
    refine ⟨u, d, t, uu, isD1 x.d tt, rfl, hd, hk ▸ e2, hk ▸ isD1_eq f e1, ?_⟩
    have q := fin_sc (u := V.bl (isD1 x.d tt)) (d := .bl ([tt].any (isD1 x.d))) R1 S1 hP
    simp only [List.any_cons, List.any_nil, Bool.or_false] at q
    exact q (.bl _)
  · rw [if_neg ht] at hP; exact hP.elim
theorem e_isi2 {a T1 T2 : Expr} {ea : E} {t1 t2 : Ty} {d1 d2 : V} {u1 u2 : Value} {p tp : Pos} {kk} (kl : Kls c) (hk : X.K = c.K) (f1 : IsF c t1 u1) (hd1 : ClsV d1 u1) (f2 : IsF c t2 u2) (hd2 : ClsV d2 u2) (ha : PE X a (rdE c Wx ea)) (hT1 : PE X T1 (tC d1)) (hT2 : PE X T2 (tC d2)) (hg : Gl X "isinstance") (hm : X.mg "isinstance" = none)
    (h1 : starEach [a, .Tuple [T1, T2] kk tp] X.env = (false, eval a X.env) :: starEach [.Tuple [T1, T2] kk tp] X.env) (h2 : starEach [.Tuple [T1, T2] kk tp] X.env = (false, eval (.Tuple [T1, T2] kk tp) X.env) :: starEach [] X.env) (hpl : (backTo pos (starEach [.Tuple [T1, T2] kk tp] X.env)).any (·.1) = false)
    (h3 : starEach [T1, T2] X.env = (false, eval T1 X.env) :: starEach [T2] X.env) (h4 : starEach [T2] X.env = (false, eval T2 X.env) :: starEach [] X.env) :
    PE X (.Call (.Name "isinstance" p) [a, .Tuple [T1, T2] kk tp] [] pos) (rdE c Wx (.isi ea [t1, t2])) := by
  refine pe_wk (pe_callB call_isZT hg hm boot_isinstance (pa_cons ha (pa_cons (pe_tup (pa_cons hT1 (pa_cons hT2 pa_nil h4) h3)) pa_nil h2) h1) (by decide) (by decide) h1 hpl) fun σ H Q ⟨F0, H0, ρ, F, W, R, hP⟩ => ?_
  simp only [ev] at hP
  refine rd_e R R.refl hP fun x W1 u F1 H1 S1 _ V1 R1 hP => ?_
  by_cases ht : x.d.typed = true
  · rw [if_pos ht] at hP
    refine ⟨by show 2 ≤ sizeLine; rw [sizeLine_eq]; omega, fun q hq => ?_⟩
    have S2 := R1.refl.makeF (o := .tup [d1, d2]) hq
    have R2 := R1.step S2
    obtain ⟨t, e1, e2⟩ := val_ty kl R2 (V1.step R1 S2) ht
    refine ⟨u, q, [d1, d2], t, [u1, u2], [t1, t2].any (isD1 x.d), rfl, upd_same, .cons hd1 (.cons hd2 .nil), hk ▸ e2, ?_, fin_sc R2 (S1.trans S2) hP (.bl _)⟩
    refine kitAny_cons (hk ▸ isD1_eq f1 e1) (fun z => kitAny_cons (hk ▸ isD1_eq f2 e1) (fun z' => ?_) fun z' => ?_) fun z => ?_
    · simp [z, z', PySem.W.kitAny]
    · simp [z']
    · simp [z]
  · rw [if_neg ht] at hP; exact hP.elim
end
end Z

namespace Z
open PySem PySem.Spec PyProof.Rows L2
open Classical
section
variable {c : Pm} {Wx : WX} {X : Cx} {fu n k : Nat} {W W' W1 W2 W3 : Dr} {F0 H0 F H F' H' F1 H1 F2 H2 F3 H3 Hs : Hp} {ρ ρ' : En} {σ σ' : L2.St} {u w : V} {x y v : Vl} {Q : VK} {us : List V} {vs : List Vl} {pos : Pos}

theorem RepF.putF {f : Str} {d : D} (r : Rep c F u d) : ∀ {gs : List (Str × V)} {fs : List (Str × D)}, RepF c F gs fs → RepF c F (putF f u gs) (putFD f d fs)
  | _, _, .nil => .cons r .nil
  | _, _, .cons (f := g) h t => by
    unfold L2.putF putFD
    by_cases e : g = f
    · rw [if_pos e, if_pos e]; exact .cons r t
    · rw [if_neg e, if_neg e]; exact .cons h (RepF.putF r t)
theorem RepF.length : ∀ {gs : List (Str × V)} {fs : List (Str × D)}, RepF c F gs fs → gs.length = fs.length
  | _, _, .nil => rfl
  | _, _, .cons _ t => by rw [List.length_cons, List.length_cons, RepF.length t]
theorem RepF.names : ∀ {gs : List (Str × V)} {fs : List (Str × D)}, RepF c F gs fs → gs.map (·.1) = fs.map (·.1)
  | _, _, .nil => rfl
  | _, _, .cons _ t => by rw [List.map_cons, List.map_cons, RepF.names t]
theorem nt_edN {C dx : Addr} {gs : List (Str × V)} {fs : List (Str × D)} (r : RepF c F gs fs) (h : edN fs = true) : Nt (.ins C dx gs) := nt_ins fun e => by
  rw [r.names] at e
  match fs, e, h with
  | [(a, v1), (b, v2)], e, h =>
    simp only [List.map_cons, List.map_nil, List.cons.injEq, and_true] at e
    obtain ⟨rfl, rfl⟩ := e
    simp [edN] at h
theorem Rel.mutS {i : Nat} {p C dx : Addr} {nm : Str} {fs fs' : List (Str × D)} {gs gs' : List (Str × V)} (R : Rel c F0 H0 ρ σ F H W) (h1 : ρ[i]? = some (.slf p nm fs)) (h3 : H p = some (.ins C dx gs)) (r : RepF c F gs' fs') (un : ((ρ.set i .un).all Sl.noSlf) = true) (nn : Nt (.ins C dx gs')) : Rel c F0 H0 (ρ.set i (.slf p nm fs')) σ F (upd H p (.ins C dx gs')) W := by
  obtain ⟨q1, q2, q3, q4, C', dx', gs0, q5, q6, q7, q8⟩ := R.slot i _ h1
  rw [h3] at q5
  cases q5
  have a : ∀ {j : Nat} {s : Sl}, (ρ.set i (.slf p nm fs'))[j]? = some s → (i = j ∧ s = .slf p nm fs') ∨ (i ≠ j ∧ ρ[j]? = some s) := fun {j s} e => by
    by_cases h : i = j
    · subst h
      have hl : i < ρ.length := by
        have := (List.getElem?_eq_some_iff.mp e).1
        simpa using this
      rw [List.getElem?_set_self hl] at e
      exact .inl ⟨rfl, (Option.some.inj e).symm⟩
    · rw [List.getElem?_set_ne h] at e
      exact .inr ⟨h, e⟩
  have b : ∀ {j : Nat} {d : D}, (ρ.set i (.slf p nm fs'))[j]? = some (.own d) → ρ[j]? = some (.own d) := fun {j d} e => by
    rcases a e with ⟨_, z⟩ | ⟨_, e⟩
    · cases z
    · exact e
  refine ⟨by rw [List.length_set]; exact R.len, R.stp.setD q2 q4 q3 (fun q z => by rw [h3] at z; cases z) (fun q z => by rw [h3] at z; cases z) (.of h3 q8), fun j s e => ?_, fun j k d1 d2 p' e1 e2 e3 e4 => R.dist j k d1 d2 p' (b e1) (b e2) e3 e4⟩
  rcases a e with ⟨rfl, rfl⟩ | ⟨n, e⟩
  · exact ⟨q1, q2, q3, q4, C, dx, gs', upd_same, q6, r, nn⟩
  · have k := R.slot j s e
    cases s with
    | un => exact k
    | val d => exact k
    | own d =>
      obtain ⟨p', k1, k2, k3, k4, k5⟩ := k
      refine ⟨p', k1, k2, k3, k4, k5.at (upd_ne fun z => ?_)⟩
      rcases k5.softH with q | ⟨xs, q⟩ | ⟨xs, q⟩ | ⟨xs, q⟩ <;> rw [z, h3] at q <;> cases q
    | slf p' n' gg =>
      have hm : Sl.slf p' n' gg ∈ ρ.set i .un := List.mem_of_getElem? (i := j) (by rw [List.getElem?_set_ne n]; exact e)
      have := List.all_eq_true.mp un _ hm
      cases this
theorem s_fld {i : Nat} {z f : Str} {e : Expr} {ee : E} {p2 p3 : Pos} (hk : X.K = c.K) (hN : X.N[i]? = some z) (hv : Vis X.env.scope z) (hd : (z == ("__debug__" : Str)) = false) (hcd : (z == ("__classdict__" : Str)) = false) (he : PE X e (rdE c Wx ee)) (hc : ∀ n C, c.ca n = some C → Cls c.K C ∧ NoAttr c.K C f)
    (hs : swapsWith e (some (.Attribute (.Name z p2) f p3)) pos.line X.env = pure false) : PS X (.Assign [.Attribute (.Name z p2) f p3] e pos) (rdS c Wx fu (.fld i f ee)) := by
  refine ps_wk (ps_fld (pe_var hN hv hd hcd) he hs) fun D σ H ⟨F0, H0, ρ, F, W, R, hP⟩ => ?_
  simp only [evS] at hP
  cases e0 : ρ[i]? with
  | none => rw [e0] at hP; exact hP.elim
  | some s =>
    rw [e0] at hP
    cases s with
    | un => exact hP.elim
    | val d => exact hP.elim
    | own d => exact hP.elim
    | slf p0 n0 fs0 =>
      refine st_e R hP fun v W1 u F1 H1 S1 V1 R1 hP => ?_
      have A : ArgOk c ρ σ H F1 H1 [u] [v] := .cons V1 .nil
      obtain ⟨RF, RA, up⟩ := keep_all R R1 S1 A
      rw [ts_one] at RF RA up
      cases e2 : (Z.frz ρ v.all)[i]? with
      | none => rw [e2] at hP; exact hP.elim
      | some s =>
        rw [e2] at hP
        cases s with
        | un => exact hP.elim
        | val d => exact hP.elim
        | own d => exact hP.elim
        | slf p n fs =>
          simp only at hP
          by_cases hl : fs.length < 1000 ∧ (((Z.frz ρ v.all).set i .un).all Sl.noSlf) = true ∧ edN (putFD f v.d fs) = true
          · rw [if_pos hl] at hP
            obtain ⟨q1, q2, q3, q4, C, dx, gs, q5, q6, q7, q8⟩ := RF.slot i _ e2
            obtain ⟨c1, c2⟩ := hc _ _ q6
            refine ⟨.ref p, q1, p, C, dx, gs, rfl, q5, hk ▸ c1, hk ▸ c2, by rw [q7.length]; exact hl.1, ?_⟩
            cases RA with
            | cons ra _ => exact hP _ _ _ (RF.mutS e2 q5 (RepF.putF ra q7) hl.2.1 (nt_edN (RepF.putF ra q7) hl.2.2)) fun a o q => up _ _ (S1.f _ _ q)
          · rw [if_neg hl] at hP; exact hP.elim

def spI (c : Pm) (nm : Str) (C : Addr) (g : Nat → G) : Sp := fun vs H Q E => ∃ x dx us F Hb xs W, vs = .ref x :: us ∧ Hb x = none ∧ Hb dx = none ∧ dx ≠ x ∧ H = upd (upd Hb dx (.own x)) x (.ins C dx []) ∧ c.ca nm = some C ∧ RepL c F us xs ∧ Stp c W F Hb F Hb ∧
  match g x xs W with
  | .ok r W' => ∀ F' H', Stp c W' F Hb F' H' → ResOk c Hb F' H' (.ref x) r → Q .non H'
  | .ex e W' => ∀ cls dd F' H', Stp c W' F Hb F' H' → ExOk c F' e cls dd → E cls dd H'
  | .stk => False
theorem make_len {fu N ps : Nat} {nm : Str} {b : S} {C : Addr} {E : XK} (h : spI c nm C (fun p => runC fu N ps p nm b) us H Q E) : us.length = ps := by
  obtain ⟨x, dx, ws, F, Hb, xs, W, rfl, _, _, _, _, _, r, _, hP⟩ := h
  simp only [runC] at hP
  by_cases hl : xs.length + 1 = ps
  · rw [List.length_cons, r.length, hl]
  · rw [if_neg hl] at hP; exact hP.elim
theorem make_ok {N : List Str} {ps : Nat} {nm : Str} {b : S} {C : Addr} {E : XK} (h : spI c nm C (fun p => runC fu N.length ps p nm b) us H Q E) : rdS c (fun cls dd _ H' => E cls dd H') fu b { nx := fun _ H' => Q .non H', rt := Q } (L2.start N us) H := by
  obtain ⟨x, dx, ws, F, Hb, xs, W, rfl, hx, hdx, hne, rfl, hC, r, S, hP⟩ := h
  simp only [runC] at hP
  by_cases hl : xs.length + 1 = ps
  · rw [if_pos hl] at hP
    have xd : x ∉ c.mv := fun z => S.sm z hx
    have dd : dx ∉ c.mv := fun z => S.sm z hdx
    have fn : ∀ a, Hb a = none → F a = none := fun a z => by
      cases q : F a with
      | none => rfl
      | some o => rw [S.sub _ _ q] at z; cases z
    have S1 := S.setD (o := .own x) (fn _ hdx) (.of hdx) dd (fun q z => by rw [hdx] at z; cases z) (fun q z => by rw [hdx] at z; cases z) (.none hdx)
    have S2 : Stp c W F Hb F (upd (upd Hb dx (.own x)) x (.ins C dx [])) := S1.setD (fn _ hx) (.of hx) xd (fun q z => by rw [upd_ne hne.symm, hx] at z; cases z) (fun q z => by rw [upd_ne hne.symm, hx] at z; cases z) (.none (by rw [upd_ne hne.symm, hx]))
    have R : Rel c F Hb (.slf x nm [] :: (xs.map Sl.val ++ List.replicate (N.length - ps) .un)) (L2.start N (.ref x :: ws)) F (upd (upd Hb dx (.own x)) x (.ins C dx [])) W := by
      unfold L2.start
      refine ⟨by simp [r.length]; omega, S2, fun i s e => ?_, fun i j d1 d2 p e1 e2 _ _ => ?_⟩
      · cases i with
        | zero =>
          simp only [List.getElem?_cons_zero] at e
          cases e
          exact ⟨rfl, fn _ hx, xd, .of hx, C, dx, [], upd_same, hC, .nil, nt_ins (by simp)⟩
        | succ i =>
          simp only [List.getElem?_cons_succ] at e
          have := RepL.at (H0 := Hb) (H := upd (upd Hb dx (.own x)) x (.ins C dx [])) r e
          rw [List.length_cons, r.length, List.map_cons, List.cons_append, List.getElem?_cons_succ, hl]
          exact this
      · exfalso
        have no : ∀ {i : Nat} {d : D}, (Sl.slf x nm [] :: (xs.map Sl.val ++ List.replicate (N.length - ps) .un))[i]? = some (.own d) → False := fun {i d} e => by
          have hm := List.mem_of_getElem? e
          simp at hm
        exact no e1
    refine ⟨F, Hb, _, F, W, R, ?_⟩
    cases e : evS fu b (.slf x nm [] :: (xs.map Sl.val ++ List.replicate (N.length - ps) .un)) W with
    | nx ρ' W' =>
      rw [e] at hP
      intro σ' F' H' R' s
      simp only at hP
      cases e0 : (ρ'[(0 : Nat)]? : Option Sl) with
      | none => rw [e0] at hP; exact hP.elim
      | some sl =>
        rw [e0] at hP
        cases sl with
        | un => exact hP.elim
        | val d => exact hP.elim
        | own d => exact hP.elim
        | slf p n fs =>
          simp only at hP
          by_cases hq : p = x
          · rw [if_pos hq] at hP
            subst hq
            obtain ⟨k1, k2, k3, k4, C', dx', gs, k5, k6, k7, k8⟩ := R'.slot 0 _ e0
            have ne : ∀ a o, F' a = some o → a ≠ p := fun a o q z => by rw [z, k2] at q; cases q
            have up : Same F' (upd F' p (.ins C' dx' gs)) := fun a o q => by rw [upd_ne (ne a o q)]; exact q
            refine hP _ H' ⟨fun a o q => up _ _ (R'.stp.f _ _ q), fun a o q => ?_, R'.stp.h, fun a e1 e2 => ?_, fun a o e => ?_, fun a ha => ?_, R'.stp.dr, fun hd => up _ _ (R'.stp.cl hd), R'.stp.tabs, R'.stp.ed.up up fun a o e _ => e⟩ (.ins upd_same k6 (k7.mono up))
            · by_cases z : a = p
              · subst z
                rw [upd_same] at q
                rw [← q]; exact k5
              · rw [upd_ne z] at q
                exact R'.stp.sub _ _ q
            · rw [upd_ne fun z => Nil.of hx (by rw [← z]; exact e2)]
              exact R'.stp.new a e1 e2
            · by_cases z : a = p
              · subst z
                rw [upd_same] at e; cases e; exact k8
              · rw [upd_ne z] at e; exact R'.stp.nt a o e
            · rw [upd_ne fun z => k3 (by rw [← z]; exact ha)]
              exact R'.stp.av a ha
          · rw [if_neg hq] at hP; exact hP.elim
    | bk ρ' W' => rw [e] at hP; exact hP.elim
    | ct ρ' W' => rw [e] at hP; exact hP.elim
    | rt2 i y ρ' W' => rw [e] at hP; exact hP.elim
    | stk => rw [e] at hP; exact hP.elim
    | ex x ρ' W' =>
      rw [e] at hP
      exact fun cls dd σ' F' H' R' hx => hP cls dd F' H' R'.stp hx
    | rt v ρ' W' => rw [e] at hP; exact hP.elim
  · rw [if_neg hl] at hP; exact hP.elim
theorem init_ok {P : Program} {w : World} {K : PySem.W.Frag} {mg : Str → Option Value} {base : Heap} {x qual : Str} {st : Stmt} {f C : Addr} {fd : FuncData} {N ps : List Str} {b : S} {nm : Str} (F : Fun K x qual st f fd) (S : FnScope N ps (defScope st))
    (hb : ∀ (cdv : Value) (A : Around) (outer : List Env) (s : Shared) (H : Hp) (E : XK), Room k (A.deeper (envOfC qual (defScope st) s.heap.objs.size f cdv)) →
      L2N.Takes (cxOf (L2N.CX P w) P w K mg base N qual (defScope st) f cdv A outer s H E) (fun cls dd _ H' => E cls dd H') →
      PSs (cxOf (L2N.CX P w) P w K mg base N qual (defScope st) f cdv A outer s H E) (defBody st) (rdS c (fun cls dd _ H' => E cls dd H') fu b)) :
    FnOk P w K mg base (L2N.CX P w) (k + 1) f fd ps (spI c nm C fun p => runC fu N.length ps.length p nm b) :=
  F.okC S (fun vs H Q E h => make_len h) fun cdv A outer s H vs Q E hr h => ⟨_, hb cdv A outer s H E hr (L2N.takes_of rfl rfl rfl rfl), make_ok h⟩
structure Mak (c : Pm) (P : Program) (w : World) (mg : Str → Option Value) (base : Heap) (k : Nat) (x : Str) (ps : List Str) (g : G) : Prop where
  ex : ∃ (C f : Addr) (fd : FuncData) (gi : Nat → G), mg x = some (.ref C) ∧ c.ca x = some C ∧ L2.Mk c.K C f ∧ Binds c.K fd ps [] ∧ FnOk P w c.K mg base (L2N.CX P w) k f fd ps (spI c x C gi) ∧ ∀ p xs W, gi p xs W = g xs W
theorem Mak.mono {P : Program} {w : World} {mg : Str → Option Value} {base : Heap} {j : Nat} {x : Str} {ps : List Str} {g : G} (h : Mak c P w mg base j x ps g) (hk : j ≤ k) : Mak c P w mg base k x ps g := by
  obtain ⟨C, f, fd, gi, h1, h2, h3, h4, h5, h6⟩ := h.ex
  exact ⟨C, f, fd, gi, h1, h2, h3, h4, h5.mono hk, h6⟩
theorem run_makeZ {pins : List (Addr × Obj)} {s : Shared} {ws : List Value} {zs : List V} {C f : Addr} {fd : FuncData} {ps : List Str} {sp : Sp} {CX : CXT} {E : XK} (M : L2.Mk X.K C f) (Fn : FnOk X.prog X.w X.K X.mg X.base CX k f fd ps sp) (hr : Room (k + 1) X.A) (hb : Binds X.K fd ps [])
    (hx : ∀ (pins : List (Addr × Obj)) (H : Hp) (s : Shared) (e : Value) (s' : Shared), Inv X pins σ H s → CX X.stack H s E e s' → X.xe e s') (I : Inv X pins σ H s) (r : Vals zs ws)
    (h : ∀ x dx, H x = none → H dx = none → dx ≠ x → sp (.ref x :: zs) (upd (upd H dx (.own x)) x (.ins C dx [])) (fun v H2 => v = .non ∧ Q (.ref x) H2) E) : wpAny (model X.prog X.w) X.A (call (.ref C) ws) (EP X pins σ Q) X.xe s := by
  have q0 := h (s.heap.objs.size + 1) s.heap.objs.size (I.hok.fresh (Nat.le_succ _)) (I.hok.fresh (Nat.le_refl _)) (Nat.ne_of_lt (Nat.lt_succ_self _))
  have J := Inv.made (C := C) I
  have rr : Vals (V.ref (s.heap.objs.size + 1) :: zs) (Value.ref (s.heap.objs.size + 1) :: ws) := .cons rfl r
  have hl : (Value.ref (s.heap.objs.size + 1) :: ws).length = ps.length := rr.length.symm.trans (Fn.len _ _ _ _ q0)
  have b := hb _ (Value.ref (s.heap.objs.size + 1) :: ws) J.kIn (by rw [List.append_nil]; exact hl)
  rw [List.append_nil] at b
  refine wpAny_call (make_map (f := f) I.kIn M.makes M.init (beq_iff_eq.mp M.fn) (codeAny_mono (Fn.run _ X.stack _ _ _ _ _ _ E (hr.make C ws []) (J.env0.make C ws []) b rr q0) fun res s2 hq => ?_))
  match res, hq with
  | .error e, hq => exact hx pins _ _ e s2 J hq
  | .ok (.ret u), hq =>
    obtain ⟨v, H2, J2, rv, ev, q2⟩ := J.after hq
    cases ev
    exact ⟨rv, V.ref (s.heap.objs.size + 1), H2, J2, rfl, q2⟩
def tMakZ (C : Addr) (sp : Sp) (E : L2.St → XK) (t : TA) : TE := fun σ H Q => t σ H fun vs H1 => ∀ x dx, H1 x = none → H1 dx = none → dx ≠ x → sp (.ref x :: vs) (upd (upd H1 dx (.own x)) x (.ins C dx [])) (fun v H2 => v = .non ∧ Q (.ref x) H2) (E σ)
theorem mak_ok {C : Addr} {nm : Str} {g : G} {gi : Nat → G} {ea : E} (hC : c.ca nm = some C) (hg : ∀ p xs W, gi p xs W = g xs W) (h : rdE c Wx (.call g ea) σ H Q) : tMakZ C (spI c nm C gi) (WE Wx) (rdL c Wx ea) σ H Q := by
  obtain ⟨F0, H0, ρ, F, W, R, hP⟩ := h
  simp only [ev] at hP
  refine rd_l R R.refl hP fun vs W1 us F1 H1 S1 _ A R1 hP => ?_
  have RF := (Ft_rel R R1 S1 A).frz (ts_own A)
  intro x dx hx hdx hne
  refine ⟨x, dx, us, Fz (Ft F1 H1 us vs) H1 σ (ts vs), H1, ds vs, W1, rfl, hx, hdx, hne, rfl, hC, args_all R R1 S1 A, RF.stp.refl, ?_⟩
  rw [hg]
  have q := call_end (g := g) R S1 A (ts_own A) hP
  cases e : g (ds vs) W1 with
  | ok r W' => rw [e] at q; exact fun F' H' S' r' => ⟨rfl, q _ F' H' S' r'⟩
  | ex x W' => rw [e] at q; exact q
  | stk => rw [e] at q; exact q
theorem e_make {x : Str} {ps : List Str} {g : G} {e : Expr} {es : List Expr} {ea : E} {p : Pos} (hk : X.K = c.K) (h : Mak c X.prog X.w X.mg X.base k x ps g) (hr : Room (k + 1) X.A) (tk : L2N.Takes X Wx) (hgl : Gl X x) (ha : PA X (e :: es) (rdL c Wx ea)) (hdb : (x == ("__debug__" : Str)) = false)
    (he : starEach (e :: es) X.env = (false, eval e X.env) :: starEach es X.env) (hpl : (backTo pos (starEach es X.env)).any (·.1) = false) : PE X (.Call (.Name x p) (e :: es) [] pos) (rdE c Wx (.call g ea)) := by
  obtain ⟨C, f, fd, gi, h1, h2, h3, h4, h5, h6⟩ := h.ex
  rw [← hk] at h3 h4 h5
  refine ⟨fun pins s σ H Q I q => ?_⟩
  have q := mak_ok h2 h6 q
  refine wpAny_Call_Name_kw (ld_glob I hgl h1 ?_ hdb)
  refine PySem.W.callWith_K (h₀ := X.base) I.ok.mod.kin h3.kp (thn (ha.run pos pins s σ H _ I q) fun ws s1 ⟨zs, H1, I1, r, q1⟩ => ⟨I1.kIn, ?_⟩) he hpl
  exact run_makeZ h3 h5 hr h4 (L2N.passAt tk σ) I1 r q1
end
end Z

namespace Z
open PySem PySem.Spec PyProof.Rows L2
open Classical
section
variable {c : Pm} {Wx : WX} {X : Cx} {fu n k : Nat} {W W' W1 W2 W3 : Dr} {F0 H0 F H F' H' F1 H1 F2 H2 F3 H3 Hs : Hp} {ρ ρ' : En} {σ σ' : L2.St} {u w : V} {x y v : Vl} {Q : VK} {us : List V} {vs : List Vl} {pos : Pos}

def BinAll (c : Pm) (X : Cx) (op : Operator) : Prop := ∃ r, OpR X (binaryOp op) r ∧ BinOk c (binD op) r
def rMulD (K : PySem.W.Frag) : R2 := fun x y H Q => rI CMul (fun i j => .int (i * j)) x y H Q ∨ rRep x y H Q ∨ rRepT K x y H Q
theorem RepL.times {vs : List V} {xs : List D} (r : RepL c F vs xs) : ∀ k : Nat, RepL c F (List.replicate k vs).flatten (List.replicate k xs).flatten
  | 0 => .nil
  | k + 1 => by
    rw [List.replicate_succ, List.replicate_succ, List.flatten_cons, List.flatten_cons]
    exact r.append (RepL.times r k)
theorem mul_okD : BinOk c (binD .Mult) (rMulD c.K) := by
  intro Wx W2 F0 H0 F H F2 H2 ρ σ u w x y Q z R S V1 V2 h hq
  have ht := own_app V1.t_own V2.t_own
  cases e1 : x.d <;> cases e2 : y.d <;> rw [e1, e2] at h <;> simp only [binD, big_eq] at h <;> try (cases h)
  case int.int i j =>
    split at h <;> cases h
    rename_i hz
    exact .inl ⟨i, j, V1.int R e1, V2.int R e2, hz, fin_vl R S ht hq (.int _)⟩
  case tup.int xs j =>
    split at h <;> cases h
    rename_i hz
    obtain ⟨a, vs, rfl, h1, r1⟩ := V1.tup R e1
    refine .inr (.inr ⟨a, j, vs, rfl, V2.int R e2, Same.sqT (Fz_dn R.stp.sub) h1, ?_, hz.2.1, hz.2.2.1, by rw [r1.length]; exact hz.2.2.2, fin_tup R S ht hq ((r1.mono (Fz_l R.stp.sub)).times _)⟩)
    intro e
    subst e
    cases r1
    exact hz.1 rfl
  case lst.int xs j =>
    split at h <;> cases h
    rename_i hz
    obtain ⟨a, vs, rfl, h1, r1⟩ := V1.lst R e1
    exact .inr (.inl ⟨a, j, vs, rfl, V2.int R e2, h1, hz.1, hz.2.1, by rw [r1.length, ← cap_num]; exact hz.2.2, fin_lst R S ht hq ((r1.mono (Fz_l R.stp.sub)).times _)⟩)
theorem bin_add (hk : X.K = c.K) : BinAll c X .Add := ⟨_, op_addD, hk ▸ add_ok⟩
theorem bin_sub : BinAll c X .Sub := ⟨_, op_sub, sub_ok⟩
theorem bin_mul (hk : X.K = c.K) : BinAll c X .Mult := ⟨rMulD X.K, op_mul.or (op_rep.or op_repT), hk ▸ mul_okD⟩
theorem bin_div : BinAll c X .FloorDiv := ⟨_, op_fdiv, div_ok⟩
theorem bin_mod : BinAll c X .Mod := ⟨_, op_mod, mod_ok⟩
theorem bin_pow : BinAll c X .Pow := ⟨_, op_pow, pow_ok⟩
theorem Cn.hu (n : Cn c Wx k X) : X.A.units + 64 < cLine := n.room.units

theorem x_var (i : Nat) {z : Str} (n : Cn c Wx k X) (hv : Vis X.env.scope z) (hN : X.N[i]? = some z := by rfl) (hd : (z == ("__debug__" : Str)) = false := by decide) (hcd : (z == ("__classdict__" : Str)) = false := by decide) : PE X (.Name z pos) (rdE c Wx (.var i)) := e_var hN hv hd hcd
theorem x_gl {z : Str} {d : D} {v : V} (n : Cn c Wx k X) (h : ∃ uu, X.mg z = some uu ∧ RelV v uu) (hr : ∀ F, Rep c F v d) (hg : Gl X z := by rfl) (hd : (z == ("__debug__" : Str)) = false := by decide) : PE X (.Name z pos) (rdE c Wx (.gl d)) := by
  obtain ⟨uu, h1, h2⟩ := h
  exact e_gl hg h1 h2 hr hd
theorem x_bin {op : Operator} {a b : Expr} {ea eb : E} (h : BinAll c X op) (ha : PE X a (rdE c Wx ea)) (hb : PE X b (rdE c Wx eb)) : PE X (.BinOp a op b pos) (rdE c Wx (.bin op ea eb)) := by
  obtain ⟨r, h1, h2⟩ := h
  exact e_bin h1 h2 ha hb
theorem x_cmp {op : CmpOp} {a b : Expr} {ea eb : E} (n : Cn c Wx k X) (ha : PE X a (rdE c Wx ea)) (hb : PE X b (rdE c Wx eb)) (hm : behindInMarks op b = false := by first | exact nobehind _ (by decide) (by decide) | rfl) : PE X (.Compare a [op] [b] pos) (rdE c Wx (.cmp op ea eb)) := by
  obtain ⟨r, h1, h2⟩ := cmp_all op n.hk n.hu
  exact e_cmp h1 h2 ha hb hm
theorem x_chn {o1 o2 : CmpOp} {a b d : Expr} {ea eb ed : E} (n : Cn c Wx k X) (ha : PE X a (rdE c Wx ea)) (hb : PE X b (rdE c Wx eb)) (hd : PE X d (rdE c Wx ed)) (hm : lastMarks [o1, o2] [b, d] = false := by rfl) : PE X (.Compare a [o1, o2] [b, d] pos) (rdE c Wx (.chn o1 o2 ea eb ed)) := by
  obtain ⟨r, h1, h2⟩ := cmp_all o1 n.hk n.hu
  obtain ⟨r', h1', h2'⟩ := cmp_all o2 n.hk n.hu
  exact e_chn h1 h2 h1' h2' ha hb hd hm
theorem x_one {op : BoolOp} {a : Expr} {ea : E} (ha : PE X a (rdE c Wx ea)) : PE X (.BoolOp op [a] pos) (rdE c Wx ea) := pe_one ha
theorem x_cons {e : Expr} {es : List Expr} {a b : E} (ha : PE X e (rdE c Wx a)) (hb : PA X es (rdL c Wx b)) (hs : starEach (e :: es) X.env = (false, eval e X.env) :: starEach es X.env := by rfl) : PA X (e :: es) (rdL c Wx (.cons a b)) := l_cons ha hb hs
theorem x_ix {a b : Expr} {ea eb : E} (n : Cn c Wx k X) (ha : PE X a (rdE c Wx ea)) (hb : PE X b (rdE c Wx eb)) (hs : PlainIx b := by exact fun _ _ => rfl) : PE X (.Subscript a b pos) (rdE c Wx (.ix ea eb)) := e_ix n.hk ha hb hs
theorem x_sl {a : Expr} {lo hi : Option Expr} {ea el eh : E} {p2 : Pos} (n : Cn c Wx k X) (ha : PE X a (rdE c Wx ea)) (hl : PO X lo (rdO c Wx el)) (hh : PO X hi (rdO c Wx eh)) : PE X (.Subscript a (.Slice lo hi none p2) pos) (rdE c Wx (.sl ea el eh)) := e_sl n.hk ha hl hh
theorem x_call {j : Nat} {x : Str} {ps : List Str} {g : G} {e : Expr} {es : List Expr} {ea : E} {p : Pos} (n : Cn c Wx k X) (h : Cal c X.prog X.w X.K X.mg X.base j x ps g) (ha : PA X (e :: es) (rdL c Wx ea)) (hj : j ≤ k := by decide) (hg : Gl X x := by rfl) (hdb : (x == ("__debug__" : Str)) = false := by decide)
    (he : starEach (e :: es) X.env = (false, eval e X.env) :: starEach es X.env := by rfl) (hpl : (backTo pos (starEach es X.env)).any (·.1) = false := by rfl) : PE X (.Call (.Name x p) (e :: es) [] pos) (rdE c Wx (.call g ea)) := e_call h (n.room.mono hj) n.tk hg ha hdb he hpl
theorem x_make {j : Nat} {x : Str} {ps : List Str} {g : G} {e : Expr} {es : List Expr} {ea : E} {p : Pos} (n : Cn c Wx k X) (h : Mak c X.prog X.w X.mg X.base j x ps g) (ha : PA X (e :: es) (rdL c Wx ea)) (hj : j + 1 ≤ k := by decide) (hg : Gl X x := by rfl) (hdb : (x == ("__debug__" : Str)) = false := by decide)
    (he : starEach (e :: es) X.env = (false, eval e X.env) :: starEach es X.env := by rfl) (hpl : (backTo pos (starEach es X.env)).any (·.1) = false := by rfl) : PE X (.Call (.Name x p) (e :: es) [] pos) (rdE c Wx (.call g ea)) := e_make n.hk h (n.room.mono hj) n.tk hg ha hdb he hpl
theorem x_mth0 {j : Nat} {nm m : Str} {ps : List Str} {g : G} {o : Expr} {ea : E} {apos : Pos} {pl : Sem Bool} (n : Cn c Wx k X) (h : Mth c X.prog X.w X.mg X.base j nm m ps g) (ho : PE X o (rdE c Wx ea)) (hj : j ≤ k := by decide)
    (ht : eval (.Call (.Attribute o m apos) [] [] pos) X.env = (do
      let ov ← eval o X.env
      standAt apos.atName
      let (f, first) ← holding [ov] (getMethod ov m pl)
      callWith pos f first (backTo pos (starEach [] X.env)) (backToKw pos (keywordEach [] X.env))) := by rfl) : PE X (.Call (.Attribute o m apos) [] [] pos) (rdE c Wx (.mth m nm g ea .nil)) := e_mth0 (pl := pl) h n.hk (n.room.mono hj) n.tk ho ht
theorem x_attr {f : Str} {a : Expr} {ea : E} (n : Cn c Wx k X) (hc : ∀ n C, c.ca n = some C → Cls c.K C ∧ NoAttr c.K C f) (ha : PE X a (rdE c Wx ea)) (hb : attributeBase a f X.env (eval a X.env) = eval a X.env := by rfl) : PE X (.Attribute a f pos) (rdE c Wx (.attr ea f)) := e_attr n.hk ha hb hc
theorem x_isi {a T : Expr} {ea : E} {tt : Ty} {d : V} {uu : Value} {p : Pos} (n : Cn c Wx k X) (kl : Kls c) (f : IsF c tt uu) (hd : ClsV d uu) (ha : PE X a (rdE c Wx ea)) (hT : PE X T (tC d)) (hm : X.mg "isinstance" = none) (hg : Gl X "isinstance" := by rfl)
    (h1 : starEach [a, T] X.env = (false, eval a X.env) :: starEach [T] X.env := by rfl) (h2 : starEach [T] X.env = (false, eval T X.env) :: starEach [] X.env := by rfl) (hpl : (backTo pos (starEach [T] X.env)).any (·.1) = false := by rfl) :
    PE X (.Call (.Name "isinstance" p) [a, T] [] pos) (rdE c Wx (.isi ea [tt])) := e_isi kl n.hk f hd ha hT hg hm h1 h2 hpl
theorem x_isi2 {a T1 T2 : Expr} {ea : E} {t1 t2 : Ty} {d1 d2 : V} {u1 u2 : Value} {p tp : Pos} {kk} (n : Cn c Wx k X) (kl : Kls c) (f1 : IsF c t1 u1) (hd1 : ClsV d1 u1) (f2 : IsF c t2 u2) (hd2 : ClsV d2 u2) (ha : PE X a (rdE c Wx ea)) (hT1 : PE X T1 (tC d1)) (hT2 : PE X T2 (tC d2)) (hm : X.mg "isinstance" = none) (hg : Gl X "isinstance" := by rfl)
    (h1 : starEach [a, .Tuple [T1, T2] kk tp] X.env = (false, eval a X.env) :: starEach [.Tuple [T1, T2] kk tp] X.env := by rfl) (h2 : starEach [.Tuple [T1, T2] kk tp] X.env = (false, eval (.Tuple [T1, T2] kk tp) X.env) :: starEach [] X.env := by rfl) (hpl : (backTo pos (starEach [.Tuple [T1, T2] kk tp] X.env)).any (·.1) = false := by rfl)
    (h3 : starEach [T1, T2] X.env = (false, eval T1 X.env) :: starEach [T2] X.env := by rfl) (h4 : starEach [T2] X.env = (false, eval T2 X.env) :: starEach [] X.env := by rfl) :
    PE X (.Call (.Name "isinstance" p) [a, .Tuple [T1, T2] kk tp] [] pos) (rdE c Wx (.isi ea [t1, t2])) := e_isi2 kl n.hk f1 hd1 f2 hd2 ha hT1 hT2 hg hm h1 h2 hpl h3 h4
theorem x_ty {z : Str} {T : String} (n : Cn c Wx k X) (hm : X.mg z = none) (hv : bootBuiltins z = some (.type T)) (hg : Gl X z := by rfl) (hn : z ≠ "__name__" := by decide) (hd : (z == ("__debug__" : Str)) = false := by decide) : PE X (.Name z pos) (tC (.ty T)) := pe_bltn hg hm hv rfl hn hd
theorem x_cls {z : Str} {C : Addr} (n : Cn c Wx k X) (hm : X.mg z = some (.ref C)) (hg : Gl X z := by rfl) (hd : (z == ("__debug__" : Str)) = false := by decide) : PE X (.Name z pos) (tC (.ref C)) := pe_glob hg hm rfl hd
theorem x_biB {f : Bi} {r : List V → Hp → VK → Prop} {a : E} {z : Str} {id : String} {e : Expr} {es : List Expr} {p : Pos} (n : Cn c Wx k X) (kk : BiOk c (biD f) r) (hc : CallR X (.builtin id) r) (hv : bootBuiltins z = some (.builtin id)) (hm : X.mg z = none) (ha : PA X (e :: es) (rdL c Wx a)) (hg : Gl X z := by rfl)
    (hn : z ≠ "__name__" := by decide) (hdb : (z == ("__debug__" : Str)) = false := by decide) (he : starEach (e :: es) X.env = (false, eval e X.env) :: starEach es X.env := by rfl) (hpl : (backTo pos (starEach es X.env)).any (·.1) = false := by rfl) : PE X (.Call (.Name z p) (e :: es) [] pos) (rdE c Wx (.bi f a)) :=
  e_biB kk hc hg hm hv ha hn hdb he hpl
theorem x_biT {f : Bi} {r : List V → Hp → VK → Prop} {a : E} {z : Str} {T : String} {e : Expr} {es : List Expr} {p : Pos} (n : Cn c Wx k X) (kk : BiOk c (biD f) r) (hc : CallR X (.type T) r) (hv : bootBuiltins z = some (.type T)) (hm : X.mg z = none) (ha : PA X (e :: es) (rdL c Wx a)) (hg : Gl X z := by rfl)
    (hn : z ≠ "__name__" := by decide) (hdb : (z == ("__debug__" : Str)) = false := by decide) (he : starEach (e :: es) X.env = (false, eval e X.env) :: starEach es X.env := by rfl) (hpl : (backTo pos (starEach es X.env)).any (·.1) = false := by rfl) : PE X (.Call (.Name z p) (e :: es) [] pos) (rdE c Wx (.bi f a)) :=
  e_biT kk hc hg hm hv ha hn hdb he hpl
theorem y_cmp {op : CmpOp} {a b : Expr} {ea eb : E} (n : Cn c Wx k X) (ha : PE X a (rdE c Wx ea)) (hb : PE X b (rdE c Wx eb)) (hm : behindInMarks op b = false := by first | exact nobehind _ (by decide) (by decide) | rfl) : PT X (.Compare a [op] [b] pos) (rdT c Wx (.tv (.cmp op ea eb))) := by
  obtain ⟨r, h1, h2⟩ := cmp_all op n.hk n.hu
  exact t_cmp h1 h2 ha hb hm
theorem y_chn {o1 o2 : CmpOp} {a b d : Expr} {ea eb ed : E} (n : Cn c Wx k X) (ha : PE X a (rdE c Wx ea)) (hb : PE X b (rdE c Wx eb)) (hd : PE X d (rdE c Wx ed)) (hm : lastMarks [o1, o2] [b, d] = false := by rfl) : PT X (.Compare a [o1, o2] [b, d] pos) (rdT c Wx (.tv (.chn o1 o2 ea eb ed))) := by
  obtain ⟨r, h1, h2⟩ := cmp_all o1 n.hk n.hu
  obtain ⟨r', h1', h2'⟩ := cmp_all o2 n.hk n.hu
  exact t_chn h1 h2 h1' h2' ha hb hd hm
theorem y_val {a : Expr} {ea : E} (ha : PE X a (rdE c Wx ea)) (he : ∀ whole, isTrue a X.env whole = (do let v ← whole; standAt a.pos; holding [v] (truthy v)) := by intro _; rfl) : PT X a (rdT c Wx (.tv ea)) := t_val ha he
theorem Cn.blk (n : Cn c Wx k X) {s : Shared} {H : Hp} {scope : Scope} {cenv : Env} {fp : List Addr} : Cn c WXF k (X.blk s H scope cenv fp) := ⟨n.hk, n.calm, n.nd, L2N.takes0, n.room⟩
theorem Cn.fn {P : Program} {w : World} {K : PySem.W.Frag} {mg : Str → Option Value} {base : Heap} {N ps : List Str} {qual : Str} {scope : Scope} {f : Addr} {cdv : Value} {A : Around} {outer : List Env} {s : Shared} {H : Hp} {E : XK} (hk : K = c.K) (S : FnScope N ps scope) (hr : Room k (A.deeper (envOfC qual scope s.heap.objs.size f cdv)))
    (tk : L2N.Takes (cxOf (L2N.CX P w) P w K mg base N qual scope f cdv A outer s H E) Wx) : Cn c Wx k (cxOf (L2N.CX P w) P w K mg base N qual scope f cdv A outer s H E) := ⟨hk, rfl, S.nd, tk, hr⟩
theorem x_lc {tg it elt : Expr} {ifs : List Expr} {scope : Scope} {own : List (Str × Nat)} {pt : Pat} {g : TG} {src tst el : E} (n : Cn c Wx k X) (hi : PI X tg it (rdI c Wx src)) (gk : GOk c pt (own.map (·.2)) g) (ok : blkC X.N X.env.scope scope own = true)
    (hg : ∀ (s : Shared) (H : Hp) (C : Addr) (cl : List (Str × Addr)) (fp : List Addr), PG (X.blk s H scope (compEnvC scope cl C X.env) fp) tg g) (ht : ∀ (s : Shared) (H : Hp) (C : Addr) (cl : List (Str × Addr)) (fp : List Addr), PTs (X.blk s H scope (compEnvC scope cl C X.env) fp) ifs (rdA c WXF tst))
    (he : ∀ (s : Shared) (H : Hp) (C : Addr) (cl : List (Str × Addr)) (fp : List Addr), PE (X.blk s H scope (compEnvC scope cl C X.env) fp) elt (rdE c WXF el)) (hs : ∀ x, foldedSetIterable it X.env x = pure x := by intro _; rfl) :
    PE X (.ListComp elt [⟨tg, it, ifs, 0⟩] scope pos) (rdE c Wx (.lc el pt src tst (own.map (·.2)))) := e_lc n.calm n.nd hi (blkOk_by ok) gk hg ht he hs
theorem x_wk {tg a : Expr} {ea : E} (n : Cn c Wx k X) (ha : PE X a (rdE c Wx ea)) (hs : PI X tg a (iStr (rdE c Wx ea)) := by exact pi_str (by assumption)) : PI X tg a (rdI c Wx (.wk ea)) := i_wk n.hk ha hs
theorem x_rng1 {tg a : Expr} {ea : E} {p : Pos} (n : Cn c Wx k X) (hm : X.mg "range" = none) (ha : PA X [a] (rdL c Wx (.cons ea .nil))) (hg : Gl X "range" := by rfl) (hs : starEach [a] X.env = [(false, eval a X.env)] := by rfl) : PI X tg (.Call (.Name "range" p) [a] [] pos) (rdI c Wx (.rng (.cons ea .nil))) := i_rng1 hg hm ha hs
theorem z_set (i : Nat) {z : Str} {e : Expr} {ee : E} {pos' : Pos} (n : Cn c Wx k X) (he : PE X e (rdE c Wx ee)) (hx : Loc X.env.scope z) (hi : X.N[i]? = some z := by rfl) (hs : swapsWith e (some (.Name z pos')) pos.line X.env = pure false := by rfl) (hf : X.fn z = true ∨ X.env.scope.names.lookup z = some .local := by exact .inl rfl) :
    PS X (.Assign [.Name z pos'] e pos) (rdS c Wx fu (.asg i ee)) := s_set n.nd hi hx he hs hf
theorem z_par (i j : Nat) {z1 z2 : Str} {a b : Expr} {ea : E} {px py pt : Pos} {kt k2 pt2} (n : Cn c Wx k X) (ha : PA X [a, b] (rdL c Wx ea)) (hij : i ≠ j := by decide) (hi : X.N[i]? = some z1 := by rfl) (hj : X.N[j]? = some z2 := by rfl)
    (hx : X.env.scope.names.lookup z1 = some .local := by rfl) (hy : X.env.scope.names.lookup z2 = some .local := by rfl)
    (hw : swappedStores [.Tuple [.Name z1 px, .Name z2 py] kt pt] (.Tuple [a, b] k2 pt2) X.env = pure (some [z1, z2]) := by rfl)
    (hs : swapsWithSole [.Tuple [.Name z1 px, .Name z2 py] kt pt] (.Tuple [a, b] k2 pt2) pos.line X.env = pure false := by rfl) :
    PS X (.Assign [.Tuple [.Name z1 px, .Name z2 py] kt pt] (.Tuple [a, b] k2 pt2) pos) (rdS c Wx fu (.par [i, j] ea)) := s_par n.calm n.nd hi hj hij hx hy ha hw hs
theorem z_app (i : Nat) {z : Str} {e : Expr} {ee : E} {p2 apos cpos : Pos} (n : Cn c Wx k X) (he : PE X e (rdE c Wx ee)) (hv : Vis X.env.scope z) (hN : X.N[i]? = some z := by rfl) (hd : (z == ("__debug__" : Str)) = false := by decide) (hcd : (z == ("__classdict__" : Str)) = false := by decide)
    (hbase : attributeBase (.Name z p2) "append" X.env (eval (.Name z p2) X.env) = eval (.Name z p2) X.env := by rfl)
    (hfew : ((backTo cpos (starEach [e] X.env)).all (fun x => !x.1) && (backToKw cpos (keywordEach [] X.env)).all (fun x => x.1.isSome)
      && decide (([e] : List Expr).length + ([] : List Keyword).length + (if ([] : List Keyword).isEmpty then 0 else 1) < 30)) = true := by rfl)
    (hline : (apos.endLine == cpos.line) = true := by rfl) (hs : starEach [e] X.env = [(false, eval e X.env)] := by rfl) (hsw : swapsWith (.Call (.Attribute (.Name z p2) "append" apos) [e] [] cpos) none pos.line X.env = pure false := by rfl) :
    PS X (.Expr (.Call (.Attribute (.Name z p2) "append" apos) [e] [] cpos) pos) (rdS c Wx fu (.app i ee)) := s_app hN hv hd hcd he hbase hfew hline hs hsw
theorem z_setix (i : Nat) {z : Str} {kx e : Expr} {ek ee : E} {p2 tpos : Pos} (n : Cn c Wx k X) (hk : PE X kx (rdE c Wx ek)) (he : PE X e (rdE c Wx ee)) (hv : Vis X.env.scope z) (hN : X.N[i]? = some z := by rfl) (hd : (z == ("__debug__" : Str)) = false := by decide) (hcd : (z == ("__classdict__" : Str)) = false := by decide)
    (ha : ∀ v, assign (.Subscript (.Name z p2) kx tpos) X.env v = (do
      let ov ← holding [v] (eval (.Name z p2) X.env)
      let iv ← holding [v, ov] (eval kx X.env)
      standAt tpos
      holding [v, ov, iv] (setItem ov iv v)
      release [v, ov, iv] []) := by intro _; rfl)
    (hs : swapsWithSole [.Subscript (.Name z p2) kx tpos] e pos.line X.env = pure false := by rfl) (hw : swappedStores [.Subscript (.Name z p2) kx tpos] e X.env = pure none := by rfl)
    (h1 : (assignEach [.Subscript (.Name z p2) kx tpos] X.env).map (·.2) = [assign (.Subscript (.Name z p2) kx tpos) X.env] := by rfl) :
    PS X (.Assign [.Subscript (.Name z p2) kx tpos] e pos) (rdS c Wx fu (.setix i ek ee)) := s_setix hN hv hd hcd hk he ha hs hw h1
theorem z_fld (i : Nat) {z f : Str} {e : Expr} {ee : E} {p2 p3 : Pos} (n : Cn c Wx k X) (hc : ∀ n C, c.ca n = some C → Cls c.K C ∧ NoAttr c.K C f) (he : PE X e (rdE c Wx ee)) (hv : Vis X.env.scope z) (hN : X.N[i]? = some z := by rfl) (hd : (z == ("__debug__" : Str)) = false := by decide) (hcd : (z == ("__classdict__" : Str)) = false := by decide)
    (hs : swapsWith e (some (.Attribute (.Name z p2) f p3)) pos.line X.env = pure false := by rfl) : PS X (.Assign [.Attribute (.Name z p2) f p3] e pos) (rdS c Wx fu (.fld i f ee)) := s_fld n.hk hN hv hd hcd he hc hs
theorem z_for {tg iter : Expr} {body : List Stmt} {pt : Pat} {src : E} {g : TG} {b : S} {own : List Nat} (n : Cn c Wx k X) (hp : PassesOwn (model X.prog X.w) X.A X.env X.xe) (hi : PI X tg iter (rdI c Wx src)) (hg : PG X tg g) (gk : GOk c pt own g) (hb : PSs X body (rdS c Wx fu b))
    (hs : ∀ x, foldedSetIterable iter X.env x = pure x := by intro _; rfl) : PS X (.For tg iter body [] pos) (rdS c Wx fu (.for pt src b)) := s_for hp n.calm hi hg gk hb hs
end
end Z

namespace Z
open PySem PySem.Spec PyProof.Rows L2
open Classical
section
variable {c : Pm} {Wx : WX} {X : Cx} {fu n k : Nat} {pos : Pos} {a : E} {e : Expr} {es : List Expr} {p : Pos}
theorem x_len (n : Cn c Wx k X) (hm : X.mg "len" = none) (ha : PA X (e :: es) (rdL c Wx a)) (hg : Gl X "len" := by rfl) (he : starEach (e :: es) X.env = (false, eval e X.env) :: starEach es X.env := by rfl) (hpl : (backTo pos (starEach es X.env)).any (·.1) = false := by rfl) :
    PE X (.Call (.Name "len" p) (e :: es) [] pos) (rdE c Wx (.bi .len a)) := x_biB n len_ok (n.hk ▸ call_len) boot_len hm ha hg (by decide) (by decide) he hpl
theorem x_list (n : Cn c Wx k X) (hm : X.mg "list" = none) (ha : PA X (e :: es) (rdL c Wx a)) (hg : Gl X "list" := by rfl) (he : starEach (e :: es) X.env = (false, eval e X.env) :: starEach es X.env := by rfl) (hpl : (backTo pos (starEach es X.env)).any (·.1) = false := by rfl) :
    PE X (.Call (.Name "list" p) (e :: es) [] pos) (rdE c Wx (.bi .list a)) := x_biT n list_ok (n.hk ▸ call_list_of) boot_list hm ha hg (by decide) (by decide) he hpl
theorem x_tuple (n : Cn c Wx k X) (hm : X.mg "tuple" = none) (ha : PA X (e :: es) (rdL c Wx a)) (hg : Gl X "tuple" := by rfl) (he : starEach (e :: es) X.env = (false, eval e X.env) :: starEach es X.env := by rfl) (hpl : (backTo pos (starEach es X.env)).any (·.1) = false := by rfl) :
    PE X (.Call (.Name "tuple" p) (e :: es) [] pos) (rdE c Wx (.bi .tuple a)) := x_biT n tuple_ok (n.hk ▸ call_tuple_of) boot_tuple hm ha hg (by decide) (by decide) he hpl
theorem x_int (n : Cn c Wx k X) (hm : X.mg "int" = none) (ha : PA X (e :: es) (rdL c Wx a)) (hg : Gl X "int" := by rfl) (he : starEach (e :: es) X.env = (false, eval e X.env) :: starEach es X.env := by rfl) (hpl : (backTo pos (starEach es X.env)).any (·.1) = false := by rfl) :
    PE X (.Call (.Name "int" p) (e :: es) [] pos) (rdE c Wx (.bi .int a)) := x_biT n int_ok call_int1 boot_int hm ha hg (by decide) (by decide) he hpl
theorem x_abs (n : Cn c Wx k X) (hm : X.mg "abs" = none) (ha : PA X (e :: es) (rdL c Wx a)) (hg : Gl X "abs" := by rfl) (he : starEach (e :: es) X.env = (false, eval e X.env) :: starEach es X.env := by rfl) (hpl : (backTo pos (starEach es X.env)).any (·.1) = false := by rfl) :
    PE X (.Call (.Name "abs" p) (e :: es) [] pos) (rdE c Wx (.bi .abs a)) := x_biB n abs_ok call_abs boot_abs hm ha hg (by decide) (by decide) he hpl
theorem x_min (n : Cn c Wx k X) (hm : X.mg "min" = none) (ha : PA X (e :: es) (rdL c Wx a)) (hg : Gl X "min" := by rfl) (he : starEach (e :: es) X.env = (false, eval e X.env) :: starEach es X.env := by rfl) (hpl : (backTo pos (starEach es X.env)).any (·.1) = false := by rfl) :
    PE X (.Call (.Name "min" p) (e :: es) [] pos) (rdE c Wx (.bi .min a)) := x_biB n min_ok (call_min2 n.calm) boot_min hm ha hg (by decide) (by decide) he hpl
theorem x_all (n : Cn c Wx k X) (hm : X.mg "all" = none) (ha : PA X (e :: es) (rdL c Wx a)) (hg : Gl X "all" := by rfl) (he : starEach (e :: es) X.env = (false, eval e X.env) :: starEach es X.env := by rfl) (hpl : (backTo pos (starEach es X.env)).any (·.1) = false := by rfl) :
    PE X (.Call (.Name "all" p) (e :: es) [] pos) (rdE c Wx (.bi .all a)) := x_biB n all_ok (n.hk ▸ cr_all n.calm) boot_all hm ha hg (by decide) (by decide) he hpl
theorem x_sum (n : Cn c Wx k X) (hm : X.mg "sum" = none) (ha : PA X (e :: es) (rdL c Wx a)) (hg : Gl X "sum" := by rfl) (he : starEach (e :: es) X.env = (false, eval e X.env) :: starEach es X.env := by rfl) (hpl : (backTo pos (starEach es X.env)).any (·.1) = false := by rfl) :
    PE X (.Call (.Name "sum" p) (e :: es) [] pos) (rdE c Wx (.bi .sum a)) := x_biB n sum_ok (n.hk ▸ cr_sum n.calm) boot_sum hm ha hg (by decide) (by decide) he hpl
structure RaiseF (c : Pm) (mg : Str → Option Value) (nm : Str) : Prop where
  ex : ∃ (C : Addr) (B newId initId : String) (bmB : List Value), ExcBaseFacts B newId initId bmB ∧ PySem.W.excIn c.K C bmB newId = true ∧ mg nm = some (.ref C) ∧ PySem.W.keepIn c.K (.ref C) = true ∧ PySem.W.subIn c.K (.ref C) (.type "BaseException") = some true ∧ PySem.W.typeIn c.K (.ref C) = some (.type "type") ∧ c.cx nm = some C
theorem z_raise {x m : Str} {j : Nat} {p p2 pos2 : Pos} (n : Cn c Wx k X) (h : RaiseF c X.mg x) (hg : Gl X x := by rfl) (hdb : (x == ("__debug__" : Str)) = false := by decide) : PS X (.Raise (some (.Call (.Name x p) [.Constant (.str m) j p2] [] pos2)) none pos) (rdS c Wx fu (.raise x [] .nil)) := by
  obtain ⟨C, B, ni, ii, bm, h1, h2, h3, h4, h5, h6, h7⟩ := h.ex
  rw [← n.hk] at h2 h4 h5 h6
  exact s_raise n.calm n.tk h1 h2 h3 h4 (raises_own h5 h6) hg hdb h7
theorem z_popp (i j : Nat) {z zj : Str} {b : Expr} {bs : List Expr} {p2 pj apos cpos apos2 cpos2 : Pos} (n : Cn c Wx k X) (ha : PA X (b :: bs) (rdL c Wx a)) (hvj : Vis X.env.scope zj) (hv : Vis X.env.scope z) (hNj : X.N[i]? = some zj := by rfl) (hN : X.N[j]? = some z := by rfl)
    (hdj : (zj == ("__debug__" : Str)) = false := by decide) (hcdj : (zj == ("__classdict__" : Str)) = false := by decide) (hd : (z == ("__debug__" : Str)) = false := by decide) (hcd : (z == ("__classdict__" : Str)) = false := by decide)
    (hbase : attributeBase (.Name z p2) "pop" X.env (eval (.Name z p2) X.env) = eval (.Name z p2) X.env := by rfl)
    (hfew : ((backTo cpos (starEach (b :: bs) X.env)).all (fun x => !x.1) && (backToKw cpos (keywordEach [] X.env)).all (fun x => x.1.isSome)
      && decide ((b :: bs).length + ([] : List Keyword).length + (if ([] : List Keyword).isEmpty then 0 else 1) < 30)) = true := by rfl)
    (hline : (apos.endLine == cpos.line) = true := by rfl) (hs : starEach (b :: bs) X.env = (false, eval b X.env) :: starEach bs X.env := by rfl) (hpl : (backTo cpos (starEach bs X.env)).any (·.1) = false := by rfl)
    (hbase2 : attributeBase (.Name zj pj) "append" X.env (eval (.Name zj pj) X.env) = eval (.Name zj pj) X.env := by rfl)
    (hfew2 : ((backTo cpos2 (starEach [.Call (.Attribute (.Name z p2) "pop" apos) (b :: bs) [] cpos] X.env)).all (fun x => !x.1) && (backToKw cpos2 (keywordEach [] X.env)).all (fun x => x.1.isSome)
      && decide (([.Call (.Attribute (.Name z p2) "pop" apos) (b :: bs) [] cpos] : List Expr).length + ([] : List Keyword).length + (if ([] : List Keyword).isEmpty then 0 else 1) < 30)) = true := by rfl)
    (hline2 : (apos2.endLine == cpos2.line) = true := by rfl) (hs2 : starEach [.Call (.Attribute (.Name z p2) "pop" apos) (b :: bs) [] cpos] X.env = [(false, eval (.Call (.Attribute (.Name z p2) "pop" apos) (b :: bs) [] cpos) X.env)] := by rfl)
    (hsw : swapsWith (.Call (.Attribute (.Name zj pj) "append" apos2) [.Call (.Attribute (.Name z p2) "pop" apos) (b :: bs) [] cpos] [] cpos2) none pos.line X.env = pure false := by rfl) :
    PS X (.Expr (.Call (.Attribute (.Name zj pj) "append" apos2) [.Call (.Attribute (.Name z p2) "pop" apos) (b :: bs) [] cpos] [] cpos2) pos) (rdS c Wx fu (.popp i j a)) :=
  s_popp n.hk hNj hvj hdj hcdj hN hv hd hcd ha hbase hfew hline hs hpl hbase2 hfew2 hline2 hs2 hsw
theorem z_setLc (i : Nat) {y : Str} {py : Pos} {tg it elt : Expr} {ifs : List Expr} {scope : Scope} {own : List (Str × Nat)} {pt : Pat} {g : TG} {src tst el : E} {cpos : Pos} (n : Cn c Wx k X) (hi : PI X tg it (rdI c Wx src)) (gk : GOk c pt (own.map (·.2)) g) (ok : blkC X.N X.env.scope scope own = true)
    (hg : ∀ (s : Shared) (H : Hp) (C : Addr) (cl : List (Str × Addr)) (fp : List Addr), PG (X.blk s H scope (compEnvC scope cl C X.env) fp) tg g) (ht : ∀ (s : Shared) (H : Hp) (C : Addr) (cl : List (Str × Addr)) (fp : List Addr), PTs (X.blk s H scope (compEnvC scope cl C X.env) fp) ifs (rdA c WXF tst))
    (he : ∀ (s : Shared) (H : Hp) (C : Addr) (cl : List (Str × Addr)) (fp : List Addr), PE (X.blk s H scope (compEnvC scope cl C X.env) fp) elt (rdE c WXF el)) (hy : X.N[i]? = some y := by rfl) (hyl : X.env.scope.names.lookup y = some .local := by rfl)
    (hsw : swapsWith (.ListComp elt [⟨tg, it, ifs, 0⟩] scope cpos) (some (.Name y py)) pos.line X.env = pure true := by rfl) (hs : ∀ x, foldedSetIterable it X.env x = pure x := by intro _; rfl) :
    PS X (.Assign [.Name y py] (.ListComp elt [⟨tg, it, ifs, 0⟩] scope cpos) pos) (rdS c Wx fu (.asg i (.lc el pt src tst (own.map (·.2))))) := by
  refine ps_wk (ps_setLc n.calm n.nd hy hyl hsw hi (blkOk_by ok) hg ht he hs) fun D σ H ⟨F0, H0, ρ, F, W, R, hP⟩ => ?_
  simp only [evS] at hP
  exact lc_ok n.calm n.nd hi (blkOk_by ok) gk (st_e R hP fun v W1 u F1 H1 S1 V1 R1 hP => hP _ _ _ (R.put R1 V1) fun a o q => Fz_up R1.stp.sub _ _ (S1.f _ _ q))
end
end Z

namespace Z
open PySem PySem.Spec PyProof.Rows L2
open Classical
section
variable {c : Pm} {Wx : WX} {X : Cx} {fu n k : Nat} {W W' W1 W2 W3 : Dr} {F0 H0 F H F' H' F1 H1 F2 H2 F3 H3 Hs : Hp} {ρ ρ' : En} {σ σ' : L2.St} {u w : V} {x y v : Vl} {Q : VK} {us : List V} {vs : List Vl} {pos : Pos}
theorem dl_kind {a : Addr} (d : DrawAt c W H) (h : a ∈ c.dl) : (∃ kvs, H a = some (.dK kvs)) ∨ ∃ xs, H a = some (.lst xs) := by
  rcases d with q | ⟨a0, a1, q, _, e0, e1⟩
  · rw [q] at h; cases h
  · rw [q] at h
    simp only [List.mem_cons, List.not_mem_nil, or_false] at h
    rcases h with rfl | rfl
    · exact .inl ⟨_, e0⟩
    · exact .inr ⟨_, e1⟩
theorem Stp.drw (S : Stp c W F H F H) (hH : ∀ a, a ∉ c.dl → H' a = H a) (d : DrawAt c W' H') (hc : W'.cells = W.cells) (he : W'.ed = W.ed) : Stp c W' F H F H' := by
  refine ⟨Same.refl _, fun a o e => ?_, fun a o e m _ => (hH a (mv_dl m)).trans e, fun _ e _ => e, S.nt, S.av, d, fun hd => by rw [hc]; exact S.cl hd, fun p hp => ?_, fun a s u m => ?_⟩
  · have m : a ∉ c.dl := fun z => by rw [S.av a (List.mem_append_left _ z)] at e; cases e
    exact (hH a m).trans (S.sub _ _ e)
  · obtain ⟨ps, e1, e2, e3⟩ := S.tabs p hp
    refine ⟨ps, ?_, e2, fun pos cv hv => ?_⟩
    · rw [hH _ fun z => ?_]; exact e1
      rcases dl_kind S.dr z with ⟨_, k⟩ | ⟨_, k⟩ <;> rw [e1] at k <;> cases k
    · obtain ⟨cc, k1, k2⟩ := e3 pos cv hv
      refine ⟨cc, k1, ?_⟩
      rw [hH _ fun z => ?_]; exact k2
      rcases dl_kind S.dr z with ⟨_, k⟩ | ⟨_, k⟩ <;> rw [k2] at k <;> cases k
  · rw [he] at m
    refine S.ed.up (Same.refl _) (fun a o e k => ?_) a s u m
    obtain ⟨_, _, _, _, rfl⟩ := k
    rw [hH _ fun z => ?_]; exact e
    rcases dl_kind S.dr z with ⟨_, k⟩ | ⟨_, k⟩ <;> rw [e] at k <;> cases k
theorem val_drw (R : Rel c F0 H0 ρ σ F H W) (k : ValOk c ρ σ Hs F H u v) (e : v.d = .drw) : ∃ a0 a1, u = .ref a0 ∧ c.dl = [a0, a1] ∧ a0 ≠ a1 ∧ H a0 = some (.dK (drK W a1 c.d2)) ∧ H a1 = some (.lst (W.wide.map .int)) ∧ F c.d2 = some (.lst (W.cells.map .int)) := by
  have a := k.rep R e fun _ _ _ h => h
  cases a with
  | drw h =>
    rcases R.stp.dr with q | ⟨a0, a1, q, n, e0, e1⟩
    · rw [q] at h; cases h
    · rw [q] at h
      cases h
      exact ⟨_, a1, rfl, q, n, e0, e1, R.stp.cl (by rw [q]; simp)⟩
theorem ne_wide_cells : ¬ Str.ofString "wide" = Str.ofString "cells" := by decide
theorem ne_wide_rest : ¬ Str.ofString "wide" = Str.ofString "rest" := by decide
theorem ne_wide_turn : ¬ Str.ofString "wide" = Str.ofString "turn" := by decide
theorem ne_cells_wide : ¬ Str.ofString "cells" = Str.ofString "wide" := by decide
theorem ne_cells_rest : ¬ Str.ofString "cells" = Str.ofString "rest" := by decide
theorem ne_cells_turn : ¬ Str.ofString "cells" = Str.ofString "turn" := by decide
theorem ne_rest_wide : ¬ Str.ofString "rest" = Str.ofString "wide" := by decide
theorem ne_rest_cells : ¬ Str.ofString "rest" = Str.ofString "cells" := by decide
theorem ne_rest_turn : ¬ Str.ofString "rest" = Str.ofString "turn" := by decide
theorem ne_turn_wide : ¬ Str.ofString "turn" = Str.ofString "wide" := by decide
theorem ne_turn_cells : ¬ Str.ofString "turn" = Str.ofString "cells" := by decide
theorem ne_turn_rest : ¬ Str.ofString "turn" = Str.ofString "rest" := by decide
def kRest : Key := Sum.inr "rest"
def kTurn : Key := Sum.inr "turn"
def kWide : Key := Sum.inr "wide"
def kCells : Key := Sum.inr "cells"
theorem dr_rest {a1 a2 : Addr} : valV (drK W a1 a2) kRest = some (.int W.rest) := by simp [valV, drK, kRest, ne_wide_cells, ne_wide_rest, ne_wide_turn, ne_cells_wide, ne_cells_rest, ne_cells_turn, ne_rest_wide, ne_rest_cells, ne_rest_turn, ne_turn_wide, ne_turn_cells, ne_turn_rest]
theorem dr_turn {a1 a2 : Addr} : valV (drK W a1 a2) kTurn = some (.int W.turn) := by simp [valV, drK, kTurn, ne_wide_cells, ne_wide_rest, ne_wide_turn, ne_cells_wide, ne_cells_rest, ne_cells_turn, ne_rest_wide, ne_rest_cells, ne_rest_turn, ne_turn_wide, ne_turn_cells, ne_turn_rest]
theorem dr_wide {a1 a2 : Addr} : valV (drK W a1 a2) kWide = some (.ref a1) := by simp [valV, drK, kWide, ne_wide_cells, ne_wide_rest, ne_wide_turn, ne_cells_wide, ne_cells_rest, ne_cells_turn, ne_rest_wide, ne_rest_cells, ne_rest_turn, ne_turn_wide, ne_turn_cells, ne_turn_rest]
theorem dr_cells {a1 a2 : Addr} : valV (drK W a1 a2) kCells = some (.ref a2) := by simp [valV, drK, kCells, ne_wide_cells, ne_wide_rest, ne_wide_turn, ne_cells_wide, ne_cells_rest, ne_cells_turn, ne_rest_wide, ne_rest_cells, ne_rest_turn, ne_turn_wide, ne_turn_cells, ne_turn_rest]
theorem dr_prest {a1 a2 : Addr} {j : Int} : putK (drK W a1 a2) kRest (.int j) = drK { W with rest := j } a1 a2 := by simp [putK, drK, kRest, ne_wide_cells, ne_wide_rest, ne_wide_turn, ne_cells_wide, ne_cells_rest, ne_cells_turn, ne_rest_wide, ne_rest_cells, ne_rest_turn, ne_turn_wide, ne_turn_cells, ne_turn_rest]
theorem dr_pturn {a1 a2 : Addr} {j : Int} : putK (drK W a1 a2) kTurn (.int j) = drK { W with turn := j } a1 a2 := by simp [putK, drK, kTurn, ne_wide_cells, ne_wide_rest, ne_wide_turn, ne_cells_wide, ne_cells_rest, ne_cells_turn, ne_rest_wide, ne_rest_cells, ne_rest_turn, ne_turn_wide, ne_turn_cells, ne_turn_rest]
theorem x_drg (kk : Bool) {a : Expr} {ea : E} {j : Nat} {p2 : Pos} (n : Cn c Wx k X) (ha : PE X a (rdE c Wx ea)) (hs : NoSl (.Constant (.str (if kk then "turn" else "rest")) j p2) := by exact fun _ _ => rfl) :
    PE X (.Subscript a (.Constant (.str (if kk then "turn" else "rest")) j p2) pos) (rdE c Wx (.drg kk ea)) := by
  refine pe_wk (pe_dget (by have := n.hu; omega) ha pe_str hs) fun σ H Q ⟨F0, H0, ρ, F, W, R, hP⟩ => ?_
  simp only [ev] at hP
  refine rd_e R R.refl hP fun x W1 u F1 H1 S1 _ V1 R1 hP => ?_
  cases e : x.d <;> rw [e] at hP <;> try (exact hP.elim)
  obtain ⟨a0, a1, rfl, e1, e2, e3, e4, e5⟩ := val_drw R1 V1 e
  cases kk with
  | true => exact ⟨a0, _, rfl, dr_turn (W := W1) ▸ DGet.k (k := kTurn) e3, fin_sc R1 S1 hP (.int _)⟩
  | false => exact ⟨a0, _, rfl, dr_rest (W := W1) ▸ DGet.k (k := kRest) e3, fin_sc R1 S1 hP (.int _)⟩
theorem x_drc {a : Expr} {ea : E} {j : Nat} {p2 : Pos} (n : Cn c Wx k X) (ha : PE X a (rdE c Wx ea)) (hs : NoSl (.Constant (.str "cells") j p2) := by exact fun _ _ => rfl) :
    PE X (.Subscript a (.Constant (.str "cells") j p2) pos) (rdE c Wx (.drc ea)) := by
  refine pe_wk (pe_dget (by have := n.hu; omega) ha pe_str hs) fun σ H Q ⟨F0, H0, ρ, F, W, R, hP⟩ => ?_
  simp only [ev] at hP
  refine rd_e R R.refl hP fun x W1 u F1 H1 S1 _ V1 R1 hP => ?_
  cases e : x.d <;> rw [e] at hP <;> try (exact hP.elim)
  obtain ⟨a0, a1, rfl, e1, e2, e3, e4, e5⟩ := val_drw R1 V1 e
  refine ⟨a0, _, rfl, dr_cells (W := W1) ▸ DGet.k (k := kCells) e3, fin_sc R1 S1 hP (.lst e5 ?_)⟩
  have go : ∀ l : List Int, RepL c F1 (l.map V.int) (l.map D.int) := fun l => by
    induction l with
    | nil => exact .nil
    | cons y l ih => exact .cons (.int y) ih
  exact go _
theorem ints_dp {K : PySem.W.Frag} : ∀ l : List Int, DpAll K H (l.map V.int) (l.map PyData.int)
  | [] => .nil
  | _ :: l => .cons (.int _) (ints_dp l)
theorem pyN_ints : ∀ (m : Nat) (l : List Int), D.pyNL m (l.map D.int) = some (l.map PyData.int)
  | m, [] => by simp [D.pyNL]
  | m, y :: l => by simp [D.pyNL, D.pyN, pyN_ints m l]
theorem drn_ok {ea : E} {Wx : WX} (hk : X.K = c.K) (h : rdE c Wx (.drn ea) σ H Q) : tOp (rEqP X.K true) (tDGet (rdE c Wx ea) (tC (.str "wide"))) (tLst tNil) σ H Q := by
  obtain ⟨F0, H0, ρ, F, W, R, hP⟩ := h
  simp only [ev] at hP
  refine rd_e R R.refl hP fun x W1 u F1 H1 S1 _ V1 R1 hP => ?_
  cases e : x.d <;> rw [e] at hP <;> try (exact hP.elim)
  obtain ⟨a0, a1, rfl, e1, e2, e3, e4, e5⟩ := val_drw R1 V1 e
  refine ⟨a0, _, rfl, dr_wide (W := W1) ▸ DGet.k (k := kWide) e3, Nat.zero_le _, fun p hp => ?_⟩
  have S2 := R1.refl.make (o := .lst []) hp
  have ne : a1 ≠ p := fun z => by rw [z, hp] at e4; cases e4
  have h4 : (upd H1 p (.lst [])) a1 = some (.lst (W1.wide.map .int)) := by rw [upd_ne ne]; exact e4
  obtain ⟨p1, p2⟩ := pyN_ok 12 (.lst (W1.wide.map .int)) (.list (W1.wide.map .int)) (by simp [D.pyN, pyN_ints])
  refine ⟨.list (W1.wide.map .int), .list [], .lst (.inl (.inl h4)) (ints_dp _), .lst (.inl (.inl upd_same)) .nil, p1, rfl, by omega, ?_⟩
  rw [if_pos rfl]
  have q := fin_sc (u := .bl (!W1.wide.isEmpty)) (R1.step S2) (S1.trans S2) hP (.bl _)
  have eq : PyData.eqv (.list (W1.wide.map .int)) (.list []) = W1.wide.isEmpty := by
    cases W1.wide with
    | nil => rfl
    | cons y l => rfl
  rw [eq]
  exact q
theorem y_drn {a : Expr} {ea : E} {j : Nat} {p2 p3 p4 : Pos} (n : Cn c Wx k X) (ha : PE X a (rdE c Wx ea)) (hs : NoSl (.Constant (.str "wide") j p2) := by exact fun _ _ => rfl) (hm : behindInMarks .NotEq (.List [] p3) = false := by first | exact nobehind _ (by decide) (by decide) | rfl) :
    PT X (.Compare (.Subscript a (.Constant (.str "wide") j p2) p4) [.NotEq] [.List [] p3] pos) (rdT c Wx (.tv (.drn ea))) := by
  refine pt_wk (pt_cmpR (op_neP n.hu) (pe_dget (by have := n.hu; omega) ha pe_str hs) (pe_lst pa_nil) hm) fun σ H Q ⟨F0, H0, ρ, F, W, R, hP⟩ => ?_
  simp only [evT] at hP
  refine drn_ok (c := c) (Wx := Wx) n.hk ⟨F0, H0, ρ, F, W, R, ?_⟩
  cases e : ev (.drn ea) ρ W with
  | stk => rw [e] at hP; exact hP.elim
  | ex x W1 => rw [e] at hP; exact hP
  | ok x W1 =>
    rw [e] at hP
    intro u F1 H1 S1 V1
    cases ed : x.d <;> (simp only [Out.bind, ed, D.isBl, ofO] at hP) <;> try (exact hP.elim)
    rename_i b
    exact ⟨b, V1.bl (R.step S1) ed, hP b F1 H1 S1 rfl⟩
theorem x_drp {a : Expr} {ea : E} {j j2 : Nat} {p2 p3 p4 apos cpos : Pos} (n : Cn c Wx k X) (ha : PE X a (rdE c Wx ea)) (hs : NoSl (.Constant (.str "wide") j p2) := by exact fun _ _ => rfl)
    (hbase : attributeBase (.Subscript a (.Constant (.str "wide") j p2) p4) "pop" X.env (eval (.Subscript a (.Constant (.str "wide") j p2) p4) X.env) = eval (.Subscript a (.Constant (.str "wide") j p2) p4) X.env := by rfl)
    (hfew : ((backTo cpos (starEach [.Constant (.int 0) j2 p3] X.env)).all (fun x => !x.1) && (backToKw cpos (keywordEach [] X.env)).all (fun x => x.1.isSome)
      && decide (([.Constant (.int 0) j2 p3] : List Expr).length + ([] : List Keyword).length + (if ([] : List Keyword).isEmpty then 0 else 1) < 30)) = true := by rfl)
    (hline : (apos.endLine == cpos.line) = true := by rfl) (hst : starEach [.Constant (.int 0) j2 p3] X.env = (false, eval (.Constant (.int 0) j2 p3) X.env) :: starEach [] X.env := by rfl) :
    PE X (.Call (.Attribute (.Subscript a (.Constant (.str "wide") j p2) p4) "pop" apos) [.Constant (.int 0) j2 p3] [] cpos) (rdE c Wx (.drp ea)) := by
  refine pe_wk (pe_bm F.plainAttrs_list F.slot_list_pop (by rfl) mt_popAt (pe_dget (by have := n.hu; omega) ha pe_str hs) (pa_cons pe_int pa_nil hst) hbase hfew hline hst (by rfl)) fun σ H Q ⟨F0, H0, ρ, F, W, R, hP⟩ => ?_
  simp only [ev] at hP
  refine rd_e R R.refl hP fun x W1 u F1 H1 S1 _ V1 R1 hP => ?_
  cases e : x.d <;> rw [e] at hP <;> try (exact hP.elim)
  obtain ⟨a0, a1, rfl, e1, e2, e3, e4, e5⟩ := val_drw R1 V1 e
  cases ew : W1.wide with
  | nil => rw [ew] at hP; exact hP.elim
  | cons w ws =>
    rw [ew] at hP e4
    simp only at hP
    refine ⟨a0, .ref a1, rfl, dr_wide (W := W1) ▸ DGet.k (k := kWide) e3, (.inl ⟨rfl, _, .inl (.inl e4)⟩ : (_ ∧ _) ∨ _), a1, _, 0, 0, .int w, rfl, rfl, e4, by decide, by decide, by simp [seqIndex?], rfl, ?_⟩
    have S2 : Stp c { W1 with wide := ws } F1 H1 F1 (upd H1 a1 (.lst (ws.map .int))) := by
      refine Stp.drw R1.refl (fun a m => upd_ne fun z => m (by rw [e1, z]; simp)) (.inr ⟨a0, a1, e1, e2, ?_, upd_same⟩) rfl rfl
      rw [upd_ne e2]
      exact e3
    exact fin_sc (R1.step S2) (S1.trans S2) hP (.int w)
theorem z_drs (kk : Bool) (i : Nat) {z : Str} {e : Expr} {ee : E} {j : Nat} {p2 p3 tpos : Pos} (n : Cn c Wx k X) (he : PE X e (rdE c Wx ee)) (hv : Vis X.env.scope z) (hN : X.N[i]? = some z := by rfl) (hd : (z == ("__debug__" : Str)) = false := by decide) (hcd : (z == ("__classdict__" : Str)) = false := by decide)
    (ha : ∀ v, assign (.Subscript (.Name z p2) (.Constant (.str (if kk then "turn" else "rest")) j p3) tpos) X.env v = (do
      let ov ← holding [v] (eval (.Name z p2) X.env)
      let iv ← holding [v, ov] (eval (.Constant (.str (if kk then "turn" else "rest")) j p3) X.env)
      standAt tpos
      holding [v, ov, iv] (setItem ov iv v)
      release [v, ov, iv] []) := by intro _; rfl)
    (hs : swapsWithSole [.Subscript (.Name z p2) (.Constant (.str (if kk then "turn" else "rest")) j p3) tpos] e pos.line X.env = pure false := by rfl) (hw : swappedStores [.Subscript (.Name z p2) (.Constant (.str (if kk then "turn" else "rest")) j p3) tpos] e X.env = pure none := by rfl)
    (h1 : (assignEach [.Subscript (.Name z p2) (.Constant (.str (if kk then "turn" else "rest")) j p3) tpos] X.env).map (·.2) = [assign (.Subscript (.Name z p2) (.Constant (.str (if kk then "turn" else "rest")) j p3) tpos) X.env] := by rfl) :
    PS X (.Assign [.Subscript (.Name z p2) (.Constant (.str (if kk then "turn" else "rest")) j p3) tpos] e pos) (rdS c Wx fu (.drs kk i ee)) := by
  refine ps_wk (ps_asg he (pg_sub (pe_var hN hv hd hcd) pe_str (set_dict (by have := n.hu; omega)) ha) hs hw h1) fun D σ H ⟨F0, H0, ρ, F, W, R, hP⟩ => ?_
  simp only [evS] at hP
  refine st_e R hP fun v W1 u F1 H1 S1 V1 R1 hP => ?_
  cases e0 : ρ[i]? with
  | none => rw [e0] at hP; exact hP.elim
  | some s =>
    rw [e0] at hP
    cases s with
    | un => exact hP.elim
    | own d => exact hP.elim
    | slf _ _ _ => exact hP.elim
    | val d =>
      cases d <;> try (exact hP.elim)
      cases e3 : v.d <;> rw [e3] at hP <;> try (exact hP.elim)
      rename_i m
      simp only at hP
      cases V1.int R1 e3
      obtain ⟨w, q1, q2⟩ := R1.slot i _ e0
      cases q2 with
      | drw hh =>
        rename_i b
        rcases R1.stp.dr with q | ⟨a0, a1, q, nn, f0, f1⟩
        · rw [q] at hh; cases hh
        · rw [q] at hh
          cases hh
          have sz : (drK W1 a1 c.d2).length < sizeLine := by rw [sizeLine_eq]; show 4 < 16777216; decide
          cases kk with
          | true =>
            have S2 : Stp c { W1 with turn := m } F1 H1 F1 (upd H1 b (.dK (drK { W1 with turn := m } a1 c.d2))) := by
              refine Stp.drw R1.refl (fun a m => upd_ne fun z => m (by rw [q, z]; simp)) (.inr ⟨b, a1, q, nn, upd_same, ?_⟩) rfl rfl
              rw [upd_ne nn.symm]
              exact f1
            exact ⟨_, q1, b, _, rfl, DPut.k (k := kTurn) f0 sz, by rw [dr_pturn]; exact hP _ _ _ (R1.step S2) S1.f⟩
          | false =>
            have S2 : Stp c { W1 with rest := m } F1 H1 F1 (upd H1 b (.dK (drK { W1 with rest := m } a1 c.d2))) := by
              refine Stp.drw R1.refl (fun a m => upd_ne fun z => m (by rw [q, z]; simp)) (.inr ⟨b, a1, q, nn, upd_same, ?_⟩) rfl rfl
              rw [upd_ne nn.symm]
              exact f1
            exact ⟨_, q1, b, _, rfl, DPut.k (k := kRest) f0 sz, by rw [dr_prest]; exact hP _ _ _ (R1.step S2) S1.f⟩
end
end Z

namespace Z
open PySem PySem.Spec PyProof.Rows L2
open Classical
def lcWide : E := (.lc (.bin .Sub (.bi .abs (.cons (.var 2) .nil)) (.bin .Pow (.cst (.int 10)) (.cst (.int 18)))) (.nm 2) (.wk (.var 0)) (.cons (.tv (.cmp .GtE (.bi .abs (.cons (.var 2) .nil)) (.bin .Pow (.cst (.int 10)) (.cst (.int 18))))) .nil) [2])
def lcCells : E := (.lc (.bin .Mod (.bi .int (.cons (.bi .abs (.cons (.var 2) .nil)) .nil)) (.cst (.int 2147483629))) (.nm 2) (.wk (.var 0)) .nil [2])
def absI (i : Int) : Int := if i < 0 then -i else i
def wideOf (ns : List Int) : List Int := ns.filterMap fun i => if (10 : Int) ^ 18 ≤ absI i then some (absI i - 10 ^ 18) else none
def cellsOf (ns : List Int) : List Int := ns.map fun i => absI i % 2147483629
theorem lcGo_fm {f : D → Dr → Out (Option Vl)} {g : Int → Option Int} {W : Dr} (hf : ∀ i, f (.int i) W = .ok ((g i).map fun j => ⟨.int j, .pl, []⟩) W) : ∀ (ns : List Int) (acc : List D), acc.length + ns.length ≤ cap →
    lcGo f (ns.map .int) acc [] W = .ok (vf (.lst (acc ++ (ns.filterMap g).map .int)) []) W
  | [], acc, _ => by simp [lcGo]
  | i :: ns, acc, h => by
    simp only [List.map_cons, lcGo, hf]
    rw [List.length_cons] at h
    cases e : g i with
    | none =>
      simp only [Option.map_none, List.filterMap_cons, e]
      exact lcGo_fm hf ns acc (by omega)
    | some j =>
      simp only [Option.map_some, List.filterMap_cons, e]
      rw [if_pos (by omega)]
      have q := lcGo_fm hf ns (acc ++ [.int j]) (by simp; omega)
      simp only [Vl.all, List.append_nil] at q ⊢
      rw [q]
      simp
theorem lc_eq {el src tst : E} {pt : Pat} {own : List Nat} {ρ : En} {W W1 : Dr} {xs : List D} {me : List Nat} (h : evI src ρ W = .ok ⟨xs, me, []⟩ W1) : ev (.lc el pt src tst own) ρ W = lcGo (fun x W => ofO (bindP pt x (wip ρ own)) fun ρ' => (evA tst ρ' W).bind fun b W => if b then (ev el ρ' W).bind fun v W => .ok (some v) W else .ok none W) xs [] [] W1 := by
  simp only [ev, h, Out.bind]
theorem abs_eq {i : Int} : absD [.int i] = some (false, .int (absI i)) := rfl
theorem ev_wide {ns : List Int} {W : Dr} (h : ns.length ≤ cap) : ev lcWide [.val (.scr ns), .un, .un] W = .ok (vf (.lst ((wideOf ns).map .int)) []) W := by
  unfold lcWide
  rw [lc_eq (xs := ns.map .int) (me := []) (W1 := W) (by simp [evI, ev, Out.bind, D.items, ofO, Vl.all])]
  refine lcGo_fm (g := fun i => if (10 : Int) ^ 18 ≤ absI i then some (absI i - 10 ^ 18) else none) (fun i => ?_) ns [] (by simpa using h)
  by_cases hi : (10 : Int) ^ 18 ≤ absI i
  · rw [if_pos hi]
    simp [bindP, ofO, wip, evA, evT, ev, evL, Out.bind, biD, abs_eq, ds, binD, big_eq, cmpD, D.isBl, vo, vl, D.imm] at hi ⊢
    simp [hi]
  · rw [if_neg hi]
    simp [bindP, ofO, wip, evA, evT, ev, evL, Out.bind, biD, abs_eq, ds, binD, big_eq, cmpD, D.isBl, vo, vl, D.imm] at hi ⊢
    simp [show ¬ ((1000000000000000000 : Int) ≤ absI i) by omega]
theorem ev_cells {ns : List Int} {W : Dr} {s : Sl} (h : ns.length ≤ cap) : ev lcCells [.val (.scr ns), s, .un] W = .ok (vf (.lst ((cellsOf ns).map .int)) []) W := by
  unfold lcCells
  rw [lc_eq (xs := ns.map .int) (me := []) (W1 := W) (by simp [evI, ev, Out.bind, D.items, ofO, Vl.all])]
  rw [lcGo_fm (g := fun i => some (absI i % 2147483629)) (fun i => ?_) ns [] (by simpa using h)]
  · simp [cellsOf, List.filterMap_eq_map']
  · simp [bindP, ofO, wip, evA, evT, ev, evL, Out.bind, biD, abs_eq, intD, ds, binD, big_eq, cmpD, D.isBl, vo, vl, D.imm]
section
variable {c : Pm} {Wx : WX} {X : Cx} {fu n k : Nat} {W W' W1 W2 W3 : Dr} {F0 H0 F H F' H' F1 H1 F2 H2 F3 H3 Hs : Hp} {ρ ρ' : En} {σ σ' : L2.St} {u w : V} {x y v : Vl} {Q : VK} {us : List V} {vs : List Vl} {pos : Pos}
abbrev Pm.bare (c : Pm) : Pm := { c with dl := [] }
abbrev Pm.at (c : Pm) (a0 a1 a2 : Addr) : Pm := { c with dl := [a0, a1], d2 := a2 }
def dr0 (ns : List Int) : Dr := ⟨false, wideOf ns, cellsOf ns, 0, 0, []⟩
noncomputable def noTb (H : Hp) : Hp := fun a => if ∃ o, H a = some o ∧ ¬ Nt o then none else H a
theorem noTb_dn {H : Hp} : Same (noTb H) H := fun a o e => by
  unfold noTb at e
  by_cases h : ∃ o, H a = some o ∧ ¬ Nt o
  · rw [if_pos h] at e; cases e
  · rw [if_neg h] at e; exact e
theorem noTb_in {H : Hp} {a : Addr} {ps : Array Value} (h : H a = some (.tbl ps)) : noTb H a = none := if_pos ⟨_, h, fun n => n.1 _ rfl⟩
theorem noTb_out {H : Hp} {a : Addr} {o : HO} (h : H a = some o) (n : Nt o) : noTb H a = some o := by
  unfold noTb
  rw [if_neg]
  · exact h
  · rintro ⟨o', e, nn⟩
    rw [h] at e
    cases e
    exact nn n
theorem noTb_nt {H : Hp} {a : Addr} {o : HO} (h : noTb H a = some o) : Nt o := by
  by_cases n : Nt o
  · exact n
  · have e := noTb_dn _ _ h
    have : noTb H a = none := if_pos ⟨_, e, n⟩
    rw [this] at h
    cases h
theorem noTb_nil {H : Hp} {a : Addr} (h : ∀ o, H a = some o → ¬ Nt o) : noTb H a = none := by
  cases q : noTb H a with
  | none => rfl
  | some o => exact (h o (noTb_dn _ _ q) (noTb_nt q)).elim
theorem tb_kind {T : List (Addr × Str)} {H : Hp} {a : Addr} (t : LamX.Tabs T H) (h : a ∈ T.map (·.1)) : ∃ ps, H a = some (.tbl ps) := by
  obtain ⟨p, hp, rfl⟩ := List.mem_map.mp h
  obtain ⟨ps, e, _⟩ := t p hp
  exact ⟨ps, e⟩
theorem noTb_sqS {K : PySem.W.Frag} {H : Hp} {a : Addr} {vs : List V} (h : SqS K H a vs) : SqS K (noTb H) a vs := by
  rcases h with ⟨o, h⟩ | h | h
  · exact .inl ⟨o, noTb_out h ⟨fun _ z => (nomatch z), fun ⟨_, _, _, _, z⟩ => (nomatch z)⟩⟩
  · exact .inr (.inl (noTb_out h nt_lst))
  · exact .inr (.inr h)
theorem bare_mv {a : Addr} (h : a ∈ c.bare.mv) : a ∈ c.tb.map (·.1) := by
  unfold Pm.mv at h
  exact (List.mem_append.mp h).elim (fun z => by cases z) id
theorem bare_stp {H : Hp} (t : LamX.Tabs c.tb H) (he : W.ed = []) : Stp c.bare W (noTb H) H (noTb H) H := ⟨Same.refl _, noTb_dn, fun _ _ e _ _ => e, fun _ e _ => e, fun _ _ h => noTb_nt h, fun a ha => by obtain ⟨ps, e⟩ := tb_kind t (bare_mv ha); exact noTb_in e, .inl rfl, fun z => absurd rfl z, t, .nil he⟩
def SameB (c : Pm) (H H' : Hp) : Prop := ∀ a o, H a = some o → Nt o → a ∉ c.tb.map (·.1) → H' a = some o
def spBegun (c : Pm) : Sp := fun vs H Q _ => ∃ (s : Addr) (ns : List Int), vs = [.ref s] ∧ SqS c.K H s (ns.map V.int) ∧ ns.length ≤ 1000 ∧ LamX.Tabs c.tb H ∧ ∀ H' a0 a1 a2, SameB c H H' → LamX.Tabs c.tb H' → Nil H a0 → Nil H a1 → Nil H a2 → a0 ≠ a1 → a0 ≠ a2 → a1 ≠ a2 →
  H' a0 = some (.dK (drK (dr0 ns) a1 a2)) → H' a1 = some (.lst ((wideOf ns).map V.int)) → H' a2 = some (.lst ((cellsOf ns).map V.int)) → Q (.ref a0) H'
theorem repl_ints {c : Pm} {F : Hp} : ∀ {vs : List V} {l : List Int}, RepL c F vs (l.map D.int) → vs = l.map V.int
  | [], [], _ => rfl
  | v :: vs, y :: l, .cons h t => by rw [List.map_cons, h.intI, repl_ints t]
  | [], _ :: _, h => by cases h
  | _ :: _, [], h => by cases h
theorem begun_ok {E : XK} (h : spBegun c us H Q E) : tSeq (rdS c.bare WXF fu (.asg 1 lcWide)) (tRet (tDisp [(tC (.str "wide"), rdE c.bare WXF (.var 1)), (tC (.str "cells"), rdE c.bare WXF lcCells), (tC (.str "rest"), tC (.int 0)), (tC (.str "turn"), tC (.int 0))])) { nx := fun _ H' => Q .non H', rt := Q } (L2.start ["_law_script", "_law_wide", "_law_cell"] us) H := by
  obtain ⟨s, ns, rfl, hs, hl, ht, q⟩ := h
  have hcap : ns.length ≤ cap := by unfold cap; omega
  have R0 : Rel c.bare (noTb H) H [.val (.scr ns), .un, .un] (L2.start ["_law_script", "_law_wide", "_law_cell"] [.ref s]) (noTb H) H (dr0 ns) := by
    have r : RepL c.bare (noTb H) [.ref s] [.scr ns] := .cons (.scr (noTb_sqS hs)) .nil
    exact rel_start (N := ["_law_script", "_law_wide", "_law_cell"]) r (bare_stp ht rfl)
  refine ⟨noTb H, H, _, noTb H, dr0 ns, R0, ?_⟩
  simp only [evS, ev_wide hcap, Out.st]
  have hput : put [.val (.scr ns), .un, .un] 1 (vf (.lst ((wideOf ns).map .int)) []) = [.val (.scr ns), .own (.lst ((wideOf ns).map .int)), .un] := by
    simp [put, frz, vf, Vl.isFr]
  rw [hput]
  intro σ1 F1 H1 R1 sF1
  obtain ⟨a1, j1, j2, j3, j4, ws, j5, j6⟩ := R1.own (i := 1) rfl
  cases repl_ints j6
  -- the dict
  intro p hp
  have S1 := R1.refl.make (o := .dK []) hp
  have R2 := R1.step S1
  have n1 : a1 ≠ p := fun z => by rw [z, hp] at j5; cases j5
  show rdE c.bare WXF (.var 1) σ1 _ _
  refine ⟨noTb H, H, _, F1, dr0 ns, R2, ?_⟩
  simp only [ev]
  intro u2 F2 H2 S2 V2
  have eu : u2 = .ref a1 := by
    obtain ⟨_, _, b3⟩ := V2.at_
    rw [j1] at b3
    exact (Option.some.inj (Option.some.inj b3)).symm
  subst eu
  have R3 := R2.step S2
  show rdE c.bare WXF lcCells σ1 H2 _
  refine ⟨noTb H, H, _, F2, dr0 ns, R3, ?_⟩
  rw [ev_cells hcap]
  intro u3 F3 H3 S3 V3
  have hv : ((vf (.lst ((cellsOf ns).map .int)) [] : Vl)) = ⟨.lst ((cellsOf ns).map .int), .fr, []⟩ := by simp [vf]
  rw [hv] at V3
  obtain ⟨a2, rfl, k2, k3, k4, ws, k5, k6⟩ := V3.at_
  cases repl_ints k6
  have R4 := R3.step S3
  have pmv : p ∉ c.bare.mv := fun z => R1.stp.sm z hp
  have hp2 : H2 p = some (.dK []) := S2.h _ _ upd_same pmv nt_dK
  have hp3 : H3 p = some (.dK []) := S3.h _ _ hp2 pmv nt_dK
  have ha2 : H2 a1 = some (.lst ((wideOf ns).map V.int)) := S2.h _ _ (by rw [upd_ne n1]; exact j5) j3 nt_lst
  have ha3 : H3 a1 = some (.lst ((wideOf ns).map V.int)) := S3.h _ _ ha2 j3 nt_lst
  have n2 : a2 ≠ p := fun z => k4 (by rw [z]; exact .dK hp2)
  have n3 : a1 ≠ a2 := fun z => k4 (by rw [← z]; exact .lst ha2)
  refine ⟨hp3, [(kWide, .ref a1), (kCells, .ref a2), (kRest, .int 0), (kTurn, .int 0)], rfl, (by show 4 ≤ 15; decide), ?_⟩
  have hm : mergeK [] [(kWide, .ref a1), (kCells, .ref a2), (kRest, .int 0), (kTurn, .int 0)] = drK (dr0 ns) a1 a2 := by
    simp [mergeK, putK, drK, dr0, kWide, kCells, kRest, kTurn, ne_wide_cells, ne_wide_rest, ne_wide_turn, ne_cells_wide, ne_cells_rest, ne_cells_turn, ne_rest_wide, ne_rest_cells, ne_rest_turn, ne_turn_wide, ne_turn_cells, ne_turn_rest]
  rw [hm]
  have sf : SameB c H H3 := fun b o e n nb => R4.stp.h _ _ e (fun z => nb (bare_mv z)) n
  refine q _ p a1 a2 (fun b o e n nb => ?_) (tabs_set R4.stp.tabs (fun z => pmv (List.mem_append_right _ z)) fun q z => by rw [hp3] at z; cases z) (R1.stp.keepN pmv (.of hp)) j4 (R3.stp.keepN k3 k4) n1.symm n2.symm n3 upd_same (by rw [upd_ne n1]; exact ha3) (by rw [upd_ne n2]; exact k5)
  rw [upd_ne fun z => by
    have q := R1.stp.h b o e (by rw [z]; exact pmv) n
    rw [z, hp] at q
    cases q]
  exact sf _ _ e n nb
def spLaw (c : Pm) : Sp := fun vs H Q _ => ∃ (s : Addr) (ns : List Int), vs = [.ref s] ∧ SqS c.K H s (ns.map V.int) ∧ (ns.length ≤ 63) ∧ LamX.Tabs c.tb H ∧ ∀ H', Q (.bl true) H'
theorem sqS_of {K : PySem.W.Frag} {H : Hp} {s : Addr} {vs : List V} (h : SqL K H s vs) : SqS K H s vs := by
  rcases h with (h | h) | h
  · exact .inr (.inl h)
  · exact .inl h
  · exact .inr (.inr fun _ => .inr h)
def law0 (m i : Nat) (ns : List Int) : En := (.val (.scr ns) :: List.replicate m .un).set i (.val .drw)
theorem frame_ok {N : List Str} {m i : Nat} {b : S} {E : XK} {Wx : WX} (hN : N.length = m + 1) (hi : 0 < i) (hi2 : i ≤ m) (h : spLaw c us H Q E)
    (run : ∀ ns : List Int, ns.length ≤ 63 → ∃ ρ' W', evS fu b (law0 m i ns) (dr0 ns) = .rt ⟨.bl true, .pl, []⟩ ρ' W') :
    tSeq (tAsg (tCallS (spBegun c) (WE Wx) (tCons (tVar 0) tNil)) (gName i)) (fun D σ H => ∃ a0 a1 a2, rdS (c.at a0 a1 a2) Wx fu b D σ H) { nx := fun _ H' => Q .non H', rt := Q } (L2.start N us) H := by
  obtain ⟨s, ns, rfl, hs, hl, ht, q⟩ := h
  refine ⟨.ref s, rfl, s, ns, rfl, hs, by omega, ht, fun H' a0 a1 a2 sH ht' h0 h1 h2 n01 n02 n12 e0 e1 e2 => ?_⟩
  obtain ⟨ρ', W', hr⟩ := run ns hl
  have strong : ∀ a o', Nil H a → H' a = some o' → Ob o' → ∀ o, H a = some o → ¬ Nt o := fun a o' hn e' ob o e n => by
    have hb : a ∉ c.tb.map (·.1) := fun z => by
      obtain ⟨ps, y⟩ := tb_kind ht' z
      rw [e'] at y
      cases y
      exact ob.1.1 ps rfl
    have q := sH a o e n hb
    rw [e'] at q
    cases q
    exact hn.no e ob
  have s0 := strong a0 _ h0 e0 ob_dK
  have s1 := strong a1 _ h1 e1 ob_lst
  have s2 := strong a2 _ h2 e2 ob_lst
  let F : Hp := fun a => if a = a2 then H' a2 else noTb H a
  have F2 : F a2 = some (.lst ((cellsOf ns).map V.int)) := by show (if a2 = a2 then _ else _) = _; rw [if_pos rfl]; exact e2
  have Fo : ∀ a, a ≠ a2 → F a = noTb H a := fun a z => if_neg z
  have sF : Same F H' := fun a o e => by
    by_cases z : a = a2
    · subst z; rw [F2] at e; rw [e2]; exact e
    · rw [Fo a z] at e
      by_cases y : a ∈ c.tb.map (·.1)
      · obtain ⟨ps, y⟩ := tb_kind ht y
        rw [noTb_in y] at e; cases e
      · exact sH _ _ (noTb_dn _ _ e) (noTb_nt e) y
  have sHF : Same (noTb H) F := fun a o e => by rw [Fo a fun z => by rw [z] at e; exact s2 _ (noTb_dn _ _ e) (noTb_nt e)]; exact e
  have S0 : Stp (c.at a0 a1 a2) (dr0 ns) F H' F H' := by
    refine ⟨Same.refl _, sF, fun _ _ e _ _ => e, fun _ e _ => e, fun a o e => ?_, fun a ha => ?_, .inr ⟨a0, a1, rfl, n01, e0, e1⟩, fun _ => F2, ht', .nil rfl⟩
    · by_cases z : a = a2
      · subst z; rw [F2] at e; cases e; exact nt_lst
      · rw [Fo a z] at e; exact noTb_nt e
    unfold Pm.mv at ha
    rcases List.mem_append.mp ha with ha | ha
    · simp only [List.mem_cons, List.not_mem_nil, or_false] at ha
      rcases ha with rfl | rfl
      · rw [Fo _ n02]; exact noTb_nil s0
      · rw [Fo _ n12]; exact noTb_nil s1
    · rw [Fo _ fun z => ?_]
      · obtain ⟨ps, e⟩ := tb_kind ht ha
        exact noTb_in e
      · obtain ⟨ps, e⟩ := tb_kind ht' ha
        rw [z, e2] at e; cases e
  have R0 : Rel (c.at a0 a1 a2) F H' (.val (.scr ns) :: List.replicate m .un) (L2.start N [.ref s]) F H' (dr0 ns) := by
    have r : RepL (c.at a0 a1 a2) F [.ref s] [.scr ns] := .cons (.scr ((noTb_sqS hs).mono sHF)) .nil
    have := rel_start (N := N) r S0
    rw [hN] at this
    exact this
  have R1 : Rel (c.at a0 a1 a2) F H' (law0 m i ns) ((L2.start N [.ref s]).set i (some (.ref a0))) F H' (dr0 ns) := R0.setv (.drw rfl)
  refine ⟨a0, a1, a2, F, H', _, F, dr0 ns, R1, ?_⟩
  rw [hr]
  intro u σ' F' H'' R' V' _
  have a := V'.at_
  simp only at a
  rw [Fz_nil] at a
  rw [a.blI]
  exact q _
theorem pss_ex3 {sts : List Stmt} {t : Addr → Addr → Addr → TS} (h : ∀ a0 a1 a2, PSs X sts (t a0 a1 a2)) : PSs X sts (fun D σ H => ∃ a0 a1 a2, t a0 a1 a2 D σ H) := ⟨fun pins s σ H D I ⟨a0, a1, a2, q⟩ => (h a0 a1 a2).run pins s σ H D I q⟩
end
end Z

namespace Z
open PySem PySem.Spec PyProof.Rows L2
open Classical
section
variable {c : Pm} {Wx : WX} {X : Cx} {fu n k : Nat} {W W' W1 W2 W3 : Dr} {F0 H0 F H F' H' F1 H1 F2 H2 F3 H3 Hs : Hp} {ρ ρ' : En} {σ σ' : L2.St} {u w : V} {x y v : Vl} {Q : VK} {us : List V} {vs : List Vl} {pos : Pos}
theorem e_dic0 : PE X (.Dict [] [] pos) (rdE c Wx (.cst (.dic false []))) := pe_wk pe_dnewK fun σ H Q ⟨F0, H0, ρ, F, W, R, hP⟩ => by
  simp only [ev] at hP
  intro p hp
  have S := R.refl.makeF (o := .dK []) hp
  exact hP _ _ _ S (.of_rep (.dicK (.inl upd_same) rfl .nil) rfl rfl)
theorem pk_wk {kws : List Keyword} {t t' : TA} (h : PK X kws t) (q : ∀ σ H Q, t' σ H Q → t σ H Q) : PK X kws t' := ⟨fun pos pins s σ H Q I z => h.run pos pins s σ H Q I (q _ _ _ z)⟩
theorem k_nil : PK X [] (rdL c Wx .nil) := pk_wk pk_nil fun σ H Q ⟨F0, H0, ρ, F, W, R, hP⟩ => by
  simp only [evL] at hP
  exact hP [] F H R.refl ⟨.nil, trivial⟩
theorem k_cons {e : Expr} {kws : List Keyword} {nm : Option Str} {kpos : Pos} {a b : E} (ha : PE X e (rdE c Wx a)) (hb : PK X kws (rdL c Wx b)) : PK X (⟨nm, e, kpos⟩ :: kws) (rdL c Wx (.cons a b)) := by
  refine pk_wk (pk_cons ha hb) fun σ H Q ⟨F0, H0, ρ, F, W, R, hP⟩ => ?_
  simp only [evL] at hP
  refine rd_e R R.refl hP fun x W1 u F1 H1 S1 _ V1 R1 hP => ?_
  refine rd_lx R1 S1 hP fun ys W2 us F2 H2 S2 S12 V2 A2 R2 hP => ?_
  refine hP _ _ _ S2 ⟨.cons (V1.step R1 S12) (Paired.mapP V2 fun _ _ z => z.start fun a m z => S1.keepN m z), fun a hk hu z => ?_, A2⟩
  have q := V1.at_
  rw [hk] at q
  obtain ⟨p, e1, _, _, _, e5⟩ := q
  rw [hu] at e1
  cases e1
  exact (tmp_at V2 z).2.2.1 e5.thr
theorem pick_rep {xs : List D} (r : RepL c F us xs) : ∀ {is : List Nat} , (∀ i ∈ is, i < xs.length) → RepL c F (pick is us) (pick is xs)
  | [], _ => .nil
  | i :: is, h => by
    have hi := h i List.mem_cons_self
    obtain ⟨v, e1, e2⟩ := r.get (List.getElem?_eq_getElem hi)
    unfold pick
    rw [List.filterMap_cons, List.filterMap_cons, e1, List.getElem?_eq_getElem hi]
    exact .cons e2 (pick_rep r fun j hj => h j (List.mem_cons_of_mem _ hj))
theorem pick_vals {vs : List V} {ws : List Value} (r : Vals vs ws) : ∀ {is : List Nat}, (∀ i ∈ is, i < vs.length) → Vals (pick is vs) (pick is ws)
  | [], _ => .nil
  | i :: is, h => by
    have hi := h i List.mem_cons_self
    obtain ⟨w, e1, e2⟩ := r.get (List.getElem?_eq_getElem hi)
    unfold pick
    rw [List.filterMap_cons, List.filterMap_cons, e1, List.getElem?_eq_getElem hi]
    exact .cons e2 (pick_vals r fun j hj => h j (List.mem_cons_of_mem _ hj))
def KPick (K : PySem.W.Frag) (fd : FuncData) (ps ks : List Str) (is : List Nat) : Prop := ∀ (s : Shared) (ws : List Value), K.In s.heap → ws.length = ks.length → BindsTo s fd ⟨[], ks.zip ws⟩ (ps.zip (pick is ws))
structure CalK (c : Pm) (P : Program) (w : World) (K : PySem.W.Frag) (mg : Str → Option Value) (base : Heap) (k : Nat) (x : Str) (ps ks : List Str) (is : List Nat) (g : G) : Prop where
  ex : ∃ (f : Addr) (fd : FuncData), mg x = some (.ref f) ∧ PySem.W.keepIn K (.ref f) = true ∧ KPick K fd ps ks is ∧ FnOk P w K mg base (L2N.CX P w) k f fd ps (spG c g)
theorem CalK.mono {P : Program} {w : World} {K : PySem.W.Frag} {mg : Str → Option Value} {base : Heap} {j : Nat} {x : Str} {ps ks : List Str} {is : List Nat} {g : G} (h : CalK c P w K mg base j x ps ks is g) (hk : j ≤ k) : CalK c P w K mg base k x ps ks is g := by
  obtain ⟨f, fd, h1, h2, h3, h4⟩ := h.ex
  exact ⟨f, fd, h1, h2, h3, h4.mono hk⟩
end
end Z

namespace Z
open PySem PySem.Spec PyProof.Rows L2
open Classical
section
variable {X : Cx}
variable {c : Pm} {Wx : WX} {k : Nat} {pos : Pos}
end
end Z

namespace Z
open PySem PySem.Spec PyProof.Rows L2
open Classical
section
variable {X : Cx} {c : Pm} {Wx : WX} {k : Nat} {pos : Pos}
end
end Z

namespace Z
open PySem PySem.Spec PyProof.Rows L2
theorem track {X : Cx} {pins : List (Addr × Obj)} {σ : L2.St} {H : Hp} {s : Shared} {a : Addr} {oe : Obj} {vs : Array Value} {cls : Value} {d : Option Addr} (I : Inv X pins σ H s) (e : s.heap.get? a = some oe) (z : Zc cls d oe) (hd : oe.data = .fields vs) (na : H a = none)
    (n0 : X.s_0.heap.get? a = none) (nl : a ≠ X.env.locals) (np : ∀ p ∈ X.pn ++ pins, p.1 ≠ a) : Inv X pins σ (upd H a (XO cls d a)) s := by
  have ne0 : ∀ b o, X.s_0.heap.get? b = some o → b ≠ a := fun b o q y => by rw [y, n0] at q; cases q
  have neH : ∀ b o, H b = some o → b ≠ a := fun b o q y => by rw [y, na] at q; cases q
  refine ⟨I.ok, I.os, I.bare, ⟨fun b o q n hb hx => I.base.keep b o q n hb hx, fun b o q n hb hx => I.base.slot b o q n hb hx, fun b o q n hx => ?_, I.base.there, fun b xs q => ?_, fun b o u q => ?_, fun b ps q => ?_⟩, I.loc, I.cell, ?_, fun x c q => ?_, fun p hp => ?_, fun b o q => ?_, I.len⟩
  · rw [upd_ne (ne0 b o q)]; exact I.base.free b o q n hx
  · have y := I.base.tups b xs q
    rw [upd_ne (neH _ _ y)]; exact y
  · have y := I.base.frzs b o u q
    rw [upd_ne (neH _ _ y)]; exact y
  · obtain ⟨m, y⟩ := I.base.tbls b ps q
    exact ⟨m, by rw [upd_ne (neH _ _ y)]; exact y⟩
  · rw [upd_ne nl.symm]; exact I.free
  · obtain ⟨v, o, ho, hv⟩ := I.cell x c q
    rw [upd_ne fun y => ?_]
    · exact I.freeC x c q
    · rw [y, e] at ho
      cases ho
      rw [hd] at hv
      cases hv
  · obtain ⟨q1, q2, q3, q4, q5⟩ := I.pin p hp
    exact ⟨q1, by rw [upd_ne (np p hp)]; exact q2, q3, q4, q5⟩
  · by_cases y : b = a
    · subst y
      rw [upd_same] at q
      cases q
      exact ⟨⟨oe, vs, e, z, hd⟩, ⟨oe, e⟩, fun _ _ ⟨o, v, q, r⟩ k => ⟨o, v, k o q, r⟩⟩
    · rw [upd_ne y] at q
      exact (I.hok b o q).stay (fun _ _ _ q => q) (fun c q => by rw [upd_ne (neH _ _ q)]; exact q) fun c xs q => by rw [upd_ne (neH _ _ q)]; exact q
def wCatch (K : PySem.W.Frag) (c : Value) (i j m : Nat) (D : Ends) : WX := fun cls d σ H => PySem.W.exmOne K cls c = some true ∧ (σ.length = m → ∀ a, H a = none → D.nx ((σ.set j (some (.ref a))).set i none) (upd H a (XO cls d a)))
theorem ps_catch {X : Cx} {x n m : Str} {c : Value} {i j : Nat} {body : List Stmt} {np pos pos' p1 p2 p3 : Pos} {tb : WX → TS} (hs : X.stack = X.env :: X.outer) (hf : X.env.frame = some X.env.locals) (hN : X.N.Nodup) (hi : X.N[i]? = some n) (hln : X.env.kindOf n = some .local) (hj : X.N[j]? = some m) (hlm : X.env.kindOf m = some .local)
    (hex : X.ex = []) (hd1 : (n == ("__debug__" : Str)) = false) (hd2 : (n == ("__classdict__" : Str)) = false) (hc : Names X x c)
    (hb : ∀ (W : WX) (pn : List (Addr × Obj)) (xe : Value → Shared → Prop), Takes (X.tr pn xe) W → PassesOwn (model X.prog X.w) X.A X.env xe → PSs (X.tr pn xe) body (tb W))
    (hsw : ∀ (a : Addr) (pn : List (Addr × Obj)), swapsWith (.Name n p2) (some (.Name m p1)) p3.line (X.suite a pn).env = pure false) :
    PS X (.Try body [.ExceptHandler (some (.Name x np)) (some n) [.Assign [.Name m p1] (.Name n p2) p3] pos'] [] [] pos) (fun D σ H => tb (wCatch X.K c i j X.N.length D) D σ H) := by
  refine ⟨fun pins s σ H D I h0 => wpAny_Try_except ?_⟩
  have OK := I.ok
  have FR : X.A.frames = some (X.env :: X.outer) := OK.frames.trans (by rw [hs])
  refine wpAny_mono ((hb (wCatch X.K c i j X.N.length D) (X.pn ++ pins) (fun e s₁ => wpAny (model X.prog X.w) X.A (noteFrame e X.env) (fun _ s₂ => wpAny (model X.prog X.w) X.A (setFlight e none) (fun _ s₃ =>
    wpAny (model X.prog X.w) X.A (handleBy e X.env [.ExceptHandler (some (.Name x np)) (some n) [.Assign [.Name m p1] (.Name n p2) p3] pos']) (SP X pins D) X.xe s₃) X.xe s₂) X.xe s₁) (fun u s' xx => ?_) PassesOwn.looking).run [] s σ H D (I.toTry _) h0) (fun fl s1 hsp => ?_) (fun e s1 he => he)
  · obtain ⟨a, B, sI, pins', σ', H', cls, d, rfl, J', nb, up, sky, na, os, ag, hb1, hyes⟩ := xx
    have J : Inv X pins σ' H' sI := J'.ofTry OK
    rw [show (X.tr (X.pn ++ pins) _).stack = X.env :: X.outer from hs] at sky
    refine Sky.land Zc.steady FR hf sky fun h3 fl3 up3 => ?_
    have J3 : Inv X pins σ' H' { s' with heap := h3 } := J.landed nb fl3.1 (up.trans up3) os ag
    obtain ⟨o3, v3, e3, z3, d3⟩ := fl3.there
    have offF : ∀ {h : Heap} {o : Obj} {w : Array Value}, h.FunFrames B (X.env :: X.outer) → h.get? a = some o → o.data = .fields w → a ∉ frs (X.env :: X.outer) := fun {h o w} ff q dd hm => by
      obtain ⟨_, o', q', hnf⟩ := ff.mem hm
      cases q.symm.trans q'
      exact hnf _ dd
    have aF := offF fl3.2.2.1 e3 d3
    have aL : a ≠ X.env.locals := fun y => aF (List.mem_filterMap.mpr ⟨X.env, List.mem_cons_self, by rw [hf, y]⟩)
    have aFs : a ∉ X.fs := fun hm => by
      obtain ⟨e, he, q⟩ := List.mem_filterMap.mp hm
      exact aF (List.mem_filterMap.mpr ⟨e, List.mem_cons_of_mem _ he, q⟩)
    have newI : sI.heap.get? a = none := by
      cases q : sI.heap.get? a with
      | none => rfl
      | some o =>
        have := nb a o q (by show a ∉ frs X.stack; rw [hs]; exact aF)
        rw [fl3.2.1] at this
        cases this
    have new0 : X.s_0.heap.get? a = none := by
      cases q : X.s_0.heap.get? a with
      | none => rfl
      | some o =>
        obtain ⟨o', q'⟩ := J.base.there a o q (by rw [hex]; exact fun z => nomatch z)
        rw [newI] at q'
        cases q'
    have npin : ∀ p ∈ X.pn ++ pins, p.1 ≠ a := fun p hp y => by
      have := (J'.pin p (List.mem_append_left _ hp)).1
      rw [y, newI] at this
      cases this
    have S3 := J3.suite e3 d3 na aL aFs
    refine wpAny_handleBy_cons (codeAny_handlers_test ?_) (by intro q; cases q)
    have LT : PySem.W.Looks (model X.prog X.w) h3 (typeOf (.ref a)) cls := fun A Q E t k q => wpAny_typeOf_ref (k _ _ e3) (by rw [z3.1]; exact q)
    have LM := PySem.W.exm_one (M := model X.prog X.w) (J3.kIn) LT hb1
    have look : ∀ {Q : Value → Shared → Prop} {E : Value → Shared → Prop}, Q c { s' with heap := h3 } → wpAny (model X.prog X.w) (X.A.mark (some (.ref a))) (eval (.Name x np) X.env) Q E { s' with heap := h3 } := fun {Q E} q => by
      obtain ⟨hg, hdbg, hm | ⟨hm, hv, hnn⟩⟩ := hc
      · exact ld_glob (X := X.suite a ((a, o3) :: (X.pn ++ pins))) S3 hg hm q hdbg
      · exact ld_blt (X := X.suite a ((a, o3) :: (X.pn ++ pins))) S3 hg hm hv q hnn hdbg
    refine look (LM.here ?_)
    refine codeAny_handlers_suite_as ?_
    refine HandSPX.lands_againZ fl3 fun h4 fl4 up4 => ?_
    have J4 : Inv X pins σ' H' { s' with heap := h4 } := J.landed nb fl4.1 ((up.trans up3).trans up4) os ag
    obtain ⟨o4, v4, e4, z4, d4⟩ := fl4.there
    have S4 := J4.suite e4 d4 na aL aFs
    refine store_ok (X := X.suite a ((a, o4) :: (X.pn ++ pins))) (v := .ref a) S4 hN hi (.inl hln) rfl (fun s5 S5 => ?_) (.inr hln)
    have st : PSs (X.suite a ((a, o4) :: (X.pn ++ pins))) [.Assign [.Name m p1] (.Name n p2) p3] (tAsg (tVar i) (gName j)) := pss_one (ps_set (X := X.suite a ((a, o4) :: (X.pn ++ pins))) hN hj (.inl hlm) (pe_var hi (.inl hln) hd1 hd2) (hsw a _) (.inr hlm))
    have il : i < σ'.length := by rw [J.len]; exact (List.getElem?_eq_some_iff.mp hi).1
    refine wpAny_mono (st.run [] s5 _ H' { nx := fun σ6 H6 => σ6 = (σ'.set i (some (.ref a))).set j (some (.ref a)) ∧ H6 = H', rt := fun _ _ => False } S5 ⟨.ref a, List.getElem?_set_self il, rfl, rfl⟩) (fun f s6 hsp => ?_) (fun _ _ y => y.elim)
    cases f with
    | next =>
      obtain ⟨σ6, H6, S6, r1, r2⟩ := hsp
      subst r1
      rw [r2] at S6
      have pa := (S6.pin (a, o4) (List.mem_append_left _ List.mem_cons_self)).1
      have J6 : Inv X pins _ H' s6 := S6.unsuite OK
      have J7 := track J6 pa z4 d4 na new0 aL npin
      refine gone_ok J7 hN hi hln fun s7 J8 => ⟨_, _, J8, ?_⟩
      have q := hyes J.len a na
      rwa [show ((σ'.set i (some (V.ref a))).set j (some (V.ref a))).set i none = (σ'.set j (some (V.ref a))).set i none from by
        by_cases ij : i = j
        · subst ij; simp
        · rw [show (σ'.set i (some (V.ref a))).set j (some (V.ref a)) = (σ'.set j (some (V.ref a))).set i (some (V.ref a)) from List.set_comm _ _ ij, List.set_set]]
    | brk => obtain ⟨_, _, _, y⟩ := hsp; exact y.elim
    | cont => obtain ⟨_, _, _, y⟩ := hsp; exact y.elim
    | ret u => obtain ⟨_, _, _, _, _, y⟩ := hsp; exact y.elim
  · cases fl with
    | next =>
      obtain ⟨σ2, H2, J2, q2⟩ := hsp
      exact wpAny_execs_nil ⟨σ2, H2, J2.ofTry OK, q2⟩
    | brk => obtain ⟨σ2, H2, J2, q2⟩ := hsp; exact ⟨σ2, H2, J2.ofTry OK, q2⟩
    | cont => obtain ⟨σ2, H2, J2, q2⟩ := hsp; exact ⟨σ2, H2, J2.ofTry OK, q2⟩
    | ret u => obtain ⟨v2, σ2, H2, J2, r2, q2⟩ := hsp; exact ⟨v2, σ2, H2, J2.ofTry OK, r2, q2⟩
end Z

namespace Z
open PySem PySem.Spec PyProof.Rows L2
open Classical
section
variable {c : Pm} {Wx : WX} {X : Cx} {fu n k : Nat} {W W' W1 W2 W3 : Dr} {F0 H0 F H F' H' F1 H1 F2 H2 F3 H3 Hs : Hp} {ρ ρ' : En} {σ σ' : L2.St} {u w : V} {x y v : Vl} {Q : VK} {us : List V} {vs : List Vl} {pos : Pos}
def TCaught (K : PySem.W.Frag) (CS : Addr) : (XK → Hp → VK → Prop) → Hp → VK → Prop := fun tl H Q =>
  tl (fun cls d H' => PySem.W.exmOne K cls (.ref CS) = some true ∧ ∀ a, H' a = none → Q (.ref a) (upd H' a (XO cls d a))) H fun _ H' => ∃ v, some (some V.non) = some (some v) ∧ Q v H'
theorem caught_gives {x a m n e q : Str} {sg : Scope} {g CS : Addr} {cdg : Value} {j : Nat} {p1 p2 p3 p4 p5 p6 p7 p8 p9 p10 p11 p12 p13 p14 : Pos} (hnd : [a, m, n].Nodup) (hm : sg.names.lookup m = some .local) (hn : sg.names.lookup n = some .local) (hge : sg.names.lookup e = some .globalImplicit) (hme : X.mg e = some (.ref CS)) (hde : (e == ("__debug__" : Str)) = false)
    (hd1 : (n == ("__debug__" : Str)) = false) (hd2 : (n == ("__classdict__" : Str)) = false) (hd3 : (m == ("__debug__" : Str)) = false) (hd4 : (m == ("__classdict__" : Str)) = false) (hln : p8.line = p8.line)
    (hsw1 : ∀ E, swapsWith (.Constant .none j p2) (some (.Name m p1)) p3.line E = pure false) (hsw2 : ∀ E, swapsWith (.Name n p9) (some (.Name m p8)) p10.line E = pure false) (hsw3 : ∀ E, swapsWith (.Call (.Name a p4) [] [] p5) none p6.line E = pure false) :
    LamX.GivesTo X [a, m, n] x sg g cdg [.Assign [.Name m p1] (.Constant .none j p2) p3, .Try [.Expr (.Call (.Name a p4) [] [] p5) p6] [.ExceptHandler (some (.Name e p7)) (some n) [.Assign [.Name m p8] (.Name n p9) p10] p11] [] [] p12, .Return (some (.Name m p13)) p14] a q (TCaught X.K CS) := by
  intro f c' s H Q tl act hc h
  have hgl : Gl (cxOf C8.CX0 X.prog X.w X.K X.mg X.base [a, m, n] x sg g cdg X.A X.stack s H C8.E0).nox e := hge
  refine ⟨_, pss_cons (ps_set (i := 1) hnd rfl (.inl hm) pe_non (hsw1 _) (.inl rfl)) (pss_cons (ps_catch (X := (cxOf C8.CX0 X.prog X.w X.K X.mg X.base [a, m, n] x sg g cdg X.A X.stack s H C8.E0).nox) (c := .ref CS) (i := 2) (j := 1)
      (tb := fun W D σ H => ∃ Ech : XK, (∀ cls d σ' H', Ech cls d H' → W cls d σ' H') ∧ σ[0]? = some (some (.ref f)) ∧ H c' = some (LamX.CodeO c' q) ∧ tl Ech H fun _ H' => D.nx σ H')
      rfl rfl hnd rfl hn rfl hm rfl hd1 hd2 ⟨hgl, hde, .inl hme⟩ (fun W pn xe tk _ => ?_) (fun _ _ => hsw2 _)) (pss_one (ps_ret (pe_var (i := 1) rfl (.inl hm) hd3 hd4)))), ?_⟩
  · refine ⟨fun pins s' σ H' D I h' => ?_⟩
    obtain ⟨Ech, hW, h1, h2, h3⟩ := h'
    have hp := act W pn xe Ech p4 p5 tk hW
    exact (pss_one (ps_expr hp (hsw3 _))).run pins s' σ H' D I ⟨h1, h2, h3⟩
  · refine ⟨fun cls d H' => PySem.W.exmOne X.K cls (.ref CS) = some true ∧ ∀ a, H' a = none → Q (.ref a) (upd H' a (XO cls d a)), fun cls d σ' H' ⟨e1, e2⟩ => ⟨e1, fun hl b hb => ?_⟩, rfl, hc, ?_⟩
    · have hl : σ'.length = 3 := hl
      refine ⟨.ref b, ?_, e2 b hb⟩
      rw [List.getElem?_set_ne (by decide), List.getElem?_set_self (by omega)]
    · exact h
structure LamAt (c : Pm) (X : Cx) : Prop where
  ex : ∃ cc P, LamX.TabB X.base X.mg cc P ∧ X.env.code = .ref cc ∧ (P, X.env.qual ++ "<lambda>") ∈ c.tb ∧ ∀ p ∈ c.tb, p.1 = P → p.2 = X.env.qual ++ "<lambda>"
structure CauF (c : Pm) (mg : Str → Option Value) (x a : Str) (Ng : List Str) (st : Stmt) (CS : Addr) : Prop where
  ex : ∃ (g : Addr) (fd : FuncData), Fun c.K x x st g fd ∧ mg x = some (.ref g) ∧ L2.Binds c.K fd [a] []
  sc : FnScope Ng [a] (defScope st)
  na : Ng[0]? = some a
  va : Vis (defScope st) a
  give : ∀ (X : Cx) (g : Addr) (cdg : Value) (q : Str), X.K = c.K → X.mg = mg → LamX.GivesTo X Ng x (defScope st) g cdg (defBody st) a q (TCaught X.K CS)
  up : ∀ n C, c.cx n = some C → PySem.W.exmOne c.K (.ref C) (.ref CS) = some true
theorem Cn.lam (n : Cn c Wx k X) {A : Around} {outer : List Env} {s : Shared} {H : Hp} {E : XK} {scope : Scope} {f c' : Addr} {j : Nat} (hr : Room j (A.deeper (LamX.lamEnv X scope s.heap.objs.size f c'))) :
    Cn c (fun cls dd _ H' => E cls dd H') j (LamX.lamCx X A outer s H E scope f c') := ⟨n.hk, rfl, n.nd, L2N.takesN (takes_of rfl rfl rfl rfl), hr⟩
theorem ext_stp {T : Prop} (R : Rel c F0 H0 ρ σ F H W) (e : LamX.ExtN H H1) (t : LamX.Tabs c.tb H1) : Stp c W F H F H1 := by
  have S := R.refl
  refine ⟨Same.refl _, fun a o h => e _ _ (S.sub _ _ h) (S.nt _ _ h).1, fun a o h _ n => e _ _ h n.1, fun _ h _ => h, S.nt, S.av, ?_, S.cl, t, S.ed.up (Same.refl _) fun a o h z => e _ _ h (by obtain ⟨_, _, _, _, rfl⟩ := z; exact fun _ h => (nomatch h))⟩
  rcases S.dr with h | ⟨a0, a1, h, n, e0, e1⟩
  · exact .inl h
  · exact .inr ⟨a0, a1, h, n, e _ _ e0 nt_dK.1, e _ _ e1 nt_lst.1⟩
end
end Z

namespace Z
open PySem PySem.Spec PyProof.Rows L2 He
def pmOf (K : PySem.W.Frag) (cas cxs : List Str) (tf : List Defn) (dl : List Addr) (d2 : Addr) : Pm where
  K := K
  ca := fun n => if n ∈ cas then some (ga K n) else none
  cx := fun n => if n ∈ cxs then some (ga K n) else none
  dl := dl
  d2 := d2
  tb := tf.map fun p => ((cT K p).2, p.1 ++ ".<locals>." ++ "<lambda>")
def insB (K : PySem.W.Frag) (n : Str) : Bool := (Fa.cls n).ok K && (eqO (PySem.W.findIn K (.ref (ga K n)) "__class__") (some (some (.builtin "object.__class__"))) && (eqO (PySem.W.specialIn K (.builtin "object.__class__") "__get__") (some (some (.builtin "getset_descriptor.__get__"))) &&
  (decide (PySem.W.takesIn K (.builtin "object.__class__") = some true) && decide (PySem.W.mroIn K (ga K n) (.type "object") = some true))))
theorem insB_ok {K : PySem.W.Frag} {n : Str} (h : insB K n = true) : InsT K (ga K n) := by
  obtain ⟨h1, h⟩ := ba h
  obtain ⟨h2, h⟩ := ba h
  obtain ⟨h3, h⟩ := ba h
  obtain ⟨h4, h5⟩ := ba h
  exact ⟨cls_ok h1, eqO_ok h2, eqO_ok h3, of_decide_eq_true h4, of_decide_eq_true h5⟩
def excB (K : PySem.W.Frag) (n : Str) : Bool := eqO (PySem.W.findIn K (.ref (ga K n)) "__getattribute__") (some (some (.builtin "BaseException.__getattribute__"))) && (eqO (PySem.W.findIn K (.ref (ga K n)) "__getattr__") (some none) && (decide (PySem.W.subIn K (.ref (ga K n)) (.type "BaseException") = some true) &&
  (PySem.W.hasDictIn K (ga K n) && (eqO (PySem.W.findIn K (.ref (ga K n)) "__class__") (some (some (.builtin "object.__class__"))) && (eqO (PySem.W.specialIn K (.builtin "object.__class__") "__get__") (some (some (.builtin "getset_descriptor.__get__"))) &&
  (decide (PySem.W.takesIn K (.builtin "object.__class__") = some true) && decide (PySem.W.mroIn K (ga K n) (.type "object") = some true)))))))
theorem excB_ok {K : PySem.W.Frag} {n : Str} (h : excB K n = true) : ExcC K (ga K n) := by
  obtain ⟨h1, h⟩ := ba h
  obtain ⟨h2, h⟩ := ba h
  obtain ⟨h3, h⟩ := ba h
  obtain ⟨h4, h⟩ := ba h
  obtain ⟨h5, h⟩ := ba h
  obtain ⟨h6, h⟩ := ba h
  obtain ⟨h7, h8⟩ := ba h
  exact ⟨eqO_ok h1, eqO_ok h2, of_decide_eq_true h3, h4, eqO_ok h5, eqO_ok h6, of_decide_eq_true h7, of_decide_eq_true h8⟩
def isU (K : PySem.W.Frag) : Ty → Value
  | .int => .type "int"
  | .bool => .type "bool"
  | .str => .type "str"
  | .list => .type "list"
  | .tuple => .type "tuple"
  | .dict => .type "dict"
  | .cls n _ => bif n == "ValueError" then .type "ValueError" else .ref (ga K n)
def isB (K : PySem.W.Frag) (cas cxs : List Str) (t : Ty) : Bool :=
  decide (PySem.W.kitOne K (.type "NoneType") (isU K t) = some (isD1 .non t)) && (decide (PySem.W.kitOne K (.type "bool") (isU K t) = some (isD1 (.bl true) t)) && (decide (PySem.W.kitOne K (.type "int") (isU K t) = some (isD1 (.int 0) t)) &&
  (decide (PySem.W.kitOne K (.type "str") (isU K t) = some (isD1 (.str default) t)) && (decide (PySem.W.kitOne K (.type "tuple") (isU K t) = some (isD1 (.tup []) t)) && (decide (PySem.W.kitOne K (.type "list") (isU K t) = some (isD1 (.lst []) t)) &&
  (decide (PySem.W.kitOne K (.type "dict") (isU K t) = some (isD1 (.dic false []) t)) && (cas.all (fun n => decide (PySem.W.kitOne K (.ref (ga K n)) (isU K t) = some (isD1 (.ins n []) t))) &&
  cxs.all (fun n => decide (PySem.W.kitOne K (.ref (ga K n)) (isU K t) = some (isD1 (.exc n []) t))))))))))
section
variable {K : PySem.W.Frag} {cas cxs : List Str} {tf : List Defn} {dl : List Addr} {d2 : Addr}
theorem pm_ca {n : Str} {C : Addr} (h : (pmOf K cas cxs tf dl d2).ca n = some C) : n ∈ cas ∧ C = ga K n := by
  have h : (if n ∈ cas then some (ga K n) else none) = some C := h
  by_cases m : n ∈ cas
  · rw [if_pos m] at h; exact ⟨m, (Option.some.inj h).symm⟩
  · rw [if_neg m] at h; cases h
theorem pm_cx {n : Str} {C : Addr} (h : (pmOf K cas cxs tf dl d2).cx n = some C) : n ∈ cxs ∧ C = ga K n := by
  have h : (if n ∈ cxs then some (ga K n) else none) = some C := h
  by_cases m : n ∈ cxs
  · rw [if_pos m] at h; exact ⟨m, (Option.some.inj h).symm⟩
  · rw [if_neg m] at h; cases h
theorem pm_ca_mk {n : Str} (h : n ∈ cas) : (pmOf K cas cxs tf dl d2).ca n = some (ga K n) := if_pos h
theorem pm_cx_mk {n : Str} (h : n ∈ cxs) : (pmOf K cas cxs tf dl d2).cx n = some (ga K n) := if_pos h
theorem isB_ok {t : Ty} (h : isB K cas cxs t = true) : IsF (pmOf K cas cxs tf dl d2) t (isU K t) := by
  obtain ⟨h1, h⟩ := ba h
  obtain ⟨h2, h⟩ := ba h
  obtain ⟨h3, h⟩ := ba h
  obtain ⟨h4, h⟩ := ba h
  obtain ⟨h5, h⟩ := ba h
  obtain ⟨h6, h⟩ := ba h
  obtain ⟨h7, h⟩ := ba h
  obtain ⟨h8, h9⟩ := ba h
  refine ⟨of_decide_eq_true h1, of_decide_eq_true h2, of_decide_eq_true h3, of_decide_eq_true h4, of_decide_eq_true h5, of_decide_eq_true h6, of_decide_eq_true h7, fun n C e => ?_, fun n C e => ?_⟩
  · obtain ⟨m, rfl⟩ := pm_ca e
    exact of_decide_eq_true (List.all_eq_true.mp h8 n m)
  · obtain ⟨m, rfl⟩ := pm_cx e
    exact of_decide_eq_true (List.all_eq_true.mp h9 n m)
def exB (cas cxs ats : List Str) (tys : List Ty) (top : Str) (tf : List Defn) (K : PySem.W.Frag) : Bool :=
  cas.all (insB K) && (cxs.all (excB K) && (cas.all (fun n => ats.all fun f => (Fa.noat n f).ok K) && (tys.all (isB K cas cxs) && (cxs.all (fun n => (Fa.exm n top true).ok K) &&
  (tf.all (fun p => tf.all fun q => (cT K p).2 != (cT K q).2 || p == q) && cas.all (fun n => eqO (PySem.W.findIn K (.ref (ga K n)) "__ne__") (some (some (.builtin "object.__ne__")))))))))
variable {ats : List Str} {tys : List Ty} {top : Str}
theorem ex_kls (h : exB cas cxs ats tys top tf K = true) : Kls (pmOf K cas cxs tf dl d2) := by
  obtain ⟨h1, h⟩ := ba h
  obtain ⟨h2, h⟩ := ba h
  refine ⟨fun n C e => ?_, fun n C e => ?_⟩
  · obtain ⟨m, rfl⟩ := pm_ca e
    exact insB_ok (List.all_eq_true.mp h1 n m)
  · obtain ⟨m, rfl⟩ := pm_cx e
    exact excB_ok (List.all_eq_true.mp h2 n m)
theorem ex_at (h : exB cas cxs ats tys top tf K = true) {f : Str} (hf : f ∈ ats) : ∀ n C, (pmOf K cas cxs tf dl d2).ca n = some C → Cls K C ∧ NoAttr K C f := fun n C e => by
  obtain ⟨h1, h⟩ := ba h
  obtain ⟨h2, h⟩ := ba h
  obtain ⟨h3, h⟩ := ba h
  obtain ⟨m, rfl⟩ := pm_ca e
  exact ⟨(insB_ok (List.all_eq_true.mp h1 n m)).cl, noat_ok (List.all_eq_true.mp (List.all_eq_true.mp h3 n m) f hf)⟩
theorem ex_is (h : exB cas cxs ats tys top tf K = true) {t : Ty} (ht : t ∈ tys) : IsF (pmOf K cas cxs tf dl d2) t (isU K t) := by
  obtain ⟨h1, h⟩ := ba h
  obtain ⟨h2, h⟩ := ba h
  obtain ⟨h3, h⟩ := ba h
  obtain ⟨h4, h⟩ := ba h
  exact isB_ok (List.all_eq_true.mp h4 t ht)
theorem ex_up (h : exB cas cxs ats tys top tf K = true) : ∀ n C, (pmOf K cas cxs tf dl d2).cx n = some C → PySem.W.exmOne K (.ref C) (.ref (ga K top)) = some true := fun n C e => by
  obtain ⟨h1, h⟩ := ba h
  obtain ⟨h2, h⟩ := ba h
  obtain ⟨h3, h⟩ := ba h
  obtain ⟨h4, h⟩ := ba h
  obtain ⟨h5, h6⟩ := ba h
  obtain ⟨m, rfl⟩ := pm_cx e
  exact exm_ok (List.all_eq_true.mp h5 n m)
theorem ex_tb (h : exB cas cxs ats tys top tf K = true) {p : Defn} (hp : p ∈ tf) : ∀ q ∈ (pmOf K cas cxs tf dl d2).tb, q.1 = (cT K p).2 → q.2 = p.1 ++ ".<locals>." ++ "<lambda>" := fun q hq e => by
  obtain ⟨h1, h⟩ := ba h
  obtain ⟨h2, h⟩ := ba h
  obtain ⟨h3, h⟩ := ba h
  obtain ⟨h4, h⟩ := ba h
  obtain ⟨h5, h⟩ := ba h
  obtain ⟨h6, h7⟩ := ba h
  obtain ⟨r, hr, rfl⟩ := List.mem_map.mp hq
  have z := List.all_eq_true.mp (List.all_eq_true.mp h6 r hr) p hp
  simp only [Bool.or_eq_true, bne_iff_ne, ne_eq, beq_iff_eq] at z
  rcases z with z | z
  · exact absurd e z
  · rw [z]
theorem ex_ne (h : exB cas cxs ats tys top tf K = true) : ∀ C : Addr, ∀ {n : Str}, (pmOf K cas cxs tf dl d2).ca n = some C → PySem.W.findIn K (.ref C) "__ne__" = some (some (.builtin "object.__ne__")) := fun C n e => by
  obtain ⟨h1, h⟩ := ba h
  obtain ⟨h2, h⟩ := ba h
  obtain ⟨h3, h⟩ := ba h
  obtain ⟨h4, h⟩ := ba h
  obtain ⟨h5, h⟩ := ba h
  obtain ⟨h6, h7⟩ := ba h
  obtain ⟨m, rfl⟩ := pm_ca e
  exact eqO_ok (List.all_eq_true.mp h7 n m)
end
theorem fun_of {K : PySem.W.Frag} {x qual : Str} {st : Stmt} {f : Addr} {fd : FuncData} (F : FunD K x qual (defArgs st) (defBody st) (defScope st) [] [] f fd) : Fun K x qual st f fd := by
  obtain ⟨⟨oc, od, dV, kV, doc, pm, an, cdv, ct, osl, e, lk, hc, hd, _⟩, kp⟩ := F
  rcases hd with ⟨_, rfl⟩ | ⟨z, _⟩
  · exact ⟨⟨oc, od, kV, doc, pm, an, cdv, ct, osl, e, lk, hc⟩, kp⟩
  · exact absurd rfl z
section
variable {c : Pm} {Wx : WX} {X : Cx} {fu n k : Nat}
theorem ba_ {a b : Bool} (h : (a && b) = true) : a = true ∧ b = true := Bool.and_eq_true_iff.mp h
structure TbF (c : Pm) (mg : Str → Option Value) (base : Heap) (qual : Str) (fd : FuncData) : Prop where
  ex : ∃ cc P, LamX.TabB base mg cc P ∧ fd.code = .ref cc ∧ (P, qual ++ ".<locals>." ++ "<lambda>") ∈ c.tb ∧ ∀ p ∈ c.tb, p.1 = P → p.2 = qual ++ ".<locals>." ++ "<lambda>"
theorem TbF.at {mg : Str → Option Value} {base : Heap} {qual : Str} {fd : FuncData} (t : TbF c mg base qual fd) {CX : CXT} {P : Program} {w : World} {K : PySem.W.Frag} {N : List Str} {scope : Scope} {f : Addr} {cd : Value} {A : Around} {outer : List Env} {s : Shared} {H : Hp} {E : XK} (h : fd.code = cd) :
    LamAt c (cxOf CX P w K mg base N qual scope f cd A outer s H E) := by
  obtain ⟨cc, P, h1, h2, h3, h4⟩ := t.ex
  exact ⟨cc, P, h1, h.symm.trans h2, h3, h4⟩
end
theorem tbF_of {K : PySem.W.Frag} {tf : List Defn} {cas cxs ats : List Str} {tys : List Ty} {top : Str} {dl : List Addr} {d2 : Addr} {base : Heap} {mg : Str → Option Value} {x : Str} {fd : FuncData} {oc : Value} {od : Option Addr} {osl : Array (Option Value)}
    (hex : exB cas cxs ats tys top tf K = true) (hp : (x, none) ∈ tf) (TB : ∀ p ∈ tf.map (cT K), LamX.TabB base mg p.1 p.2) (lk : K.lookup (fAd K (x, none)) = some ⟨oc, od, .func fd, osl⟩) (hc : PySem.W.codeIn K fd.code x = true) :
    TbF (pmOf K cas cxs tf dl d2) mg base x fd := by
  obtain ⟨cc, e⟩ := codeIn_ref hc
  have ec : codeOf K (x, none) = cc := codeOf_eq lk e
  refine ⟨cc, (cT K (x, none)).2, ?_, e, List.mem_map.mpr ⟨_, hp, rfl⟩, fun q hq e => ex_tb hex hp q hq e⟩
  have := TB _ (List.mem_map.mpr ⟨_, hp, rfl⟩)
  rw [show (cT K (x, none)).1 = cc from ec] at this
  exact this
theorem Fun.lk {K : PySem.W.Frag} {x qual : Str} {st : Stmt} {f : Addr} {fd : FuncData} (F : Fun K x qual st f fd) : (∃ oc od osl, K.lookup f = some ⟨oc, od, .func fd, osl⟩) ∧ PySem.W.codeIn K fd.code qual = true := by
  obtain ⟨⟨oc, od, kV, doc, pm, an, cdv, ct, osl, rfl, lk, hcd⟩, kp⟩ := F
  exact ⟨⟨oc, od, osl, lk⟩, hcd⟩
theorem raiseF_of {K : PySem.W.Frag} {cas cxs : List Str} {tf : List Defn} {dl : List Addr} {d2 : Addr} {mg : Str → Option Value} {n : Str} (h : (Fa.exc n).ok K = true) (hm : mg n = some (.ref (ga K n))) (hn : n ∈ cxs) (F : ExcBaseFacts "ValueError" "ValueError.__new__" "ValueError.__init__" veBase) :
    RaiseF (pmOf K cas cxs tf dl d2) mg n := by
  obtain ⟨h1, h2, h3, h4⟩ := exc_ok h
  exact ⟨_, _, _, _, _, F, h1, hm, h2, h3, h4, pm_cx_mk hn⟩
end Z

namespace Z
open PySem PySem.Spec PyProof.Rows L2
open Classical
section
variable {c : Pm} {Wx : WX} {X : Cx} {fu n k : Nat} {W W' W1 W2 W3 : Dr} {F0 H0 F H F' H' F1 H1 F2 H2 F3 H3 Hs : Hp} {ρ ρ' : En} {σ σ' : L2.St} {u w : V} {x y v : Vl} {Q : VK} {us : List V} {vs : List Vl} {pos : Pos}

def pureG (f : List D → Option (Bool × D)) : G := fun xs W => ofO (f xs) fun r => .ok r W
theorem pureG_some {f : List D → Option (Bool × D)} {xs : List D} {r : Bool × D} {W : Dr} (h : f xs = some r) : pureG f xs W = .ok r W := by unfold pureG; rw [h]; rfl
theorem spG_pure {f : List D → Option (Bool × D)} {E : XK} (h : spG c (pureG f) us H Q E) : ∃ F xs W r, RepL c F us xs ∧ Stp c W F H F H ∧ f xs = some r ∧ ∀ u F' H', Stp c W F H F' H' → ResOk c H F' H' u r → Q u H' := by
  obtain ⟨F, xs, W, r, S, hP⟩ := h
  unfold pureG at hP
  cases e : f xs with
  | none => rw [e] at hP; exact hP.elim
  | some z => rw [e] at hP; exact ⟨F, xs, W, z, r, S, e, hP⟩
theorem fin_newL {us : List V} {xs : List D} (S : Stp c W F H F H) (r : RepL c F us xs) (hQ : ∀ u F' H', Stp c W F H F' H' → ResOk c H F' H' u (true, .lst xs) → Q u H') : ∀ p, H p = none → Q (.ref p) (upd H p (.lst us)) := fun p hp => by
  have hF : F p = none := by
    cases q : F p with
    | none => rfl
    | some o => rw [S.sub _ _ q] at hp; cases hp
  refine hQ _ F _ (S.make hp) ?_
  exact ⟨p, rfl, hF, fun h => S.sm h hp, .of hp, us, upd_same, r⟩
theorem rdE_mono {e : E} {Q Q' : V → Hp → Prop} (h : rdE c Wx e σ H Q) (k : ∀ x H', Q x H' → Q' x H') : rdE c Wx e σ H Q' := by
  obtain ⟨F0, H0, ρ, F, W, R, hP⟩ := h
  refine ⟨F0, H0, ρ, F, W, R, ?_⟩
  revert hP
  cases ev e ρ W with
  | stk => exact fun h => h
  | ex x W' => exact fun h => h
  | ok a W' => exact fun h b F' H' S V => k b H' (h b F' H' S V)

theorem call2_ok {g : G} {ea eb : E} (h : rdE c Wx (.call g (.cons ea (.cons eb .nil))) σ H Q) : rdE c Wx ea σ H (fun x H1 => rdE c Wx eb σ H1 fun y H2 => spG c g [x, y] H2 Q (WE Wx σ)) := by
  obtain ⟨F0, H0, ρ, F, W, R, hP⟩ := h
  simp only [ev, evL, Out.bind_bind, Out.ok_bind] at hP
  refine rd_e R R.refl hP fun x W1 u F1 H1 S1 _ V1 R1 hQ => ?_
  refine rd_e R1 S1 hQ fun y W2 w F2 H2 S2 S12 V2 R2 hQ => ?_
  have AA : ArgOk c ρ σ H F2 H2 [u, w] [x, y] := .cons (V1.step R1 S12) (.cons V2 .nil)
  have RF := (Ft_rel R R2 S2 AA).frz (ts_own AA)
  exact ⟨_, ds [x, y], W2, args_all R R2 S2 AA, RF.stp.refl, call_end (g := g) R S2 AA (ts_own AA) hQ⟩
def strsD : List D → Option (List Str)
  | [] => some []
  | .str x :: r => (strsD r).map (x :: ·)
  | _ => none
theorem rep_strs : ∀ ys : List Str, RepL c F (ys.map V.str) (ys.map D.str)
  | [] => .nil
  | y :: ys => .cons (.str y) (rep_strs ys)
theorem star_go {t : List Nat} (R2 : Rel c F0 H0 ρ σ F2 H2 W2) (ht : ∀ i ∈ t, ∃ x, ρ[i]? = some (.own x)) : ∀ {xs : List V} {ys : List D}, RepL c (Fz F2 H2 σ t) xs ys → Paired (fun u v => ValOk c ρ σ Hs F2 H2 u v) us vs → Apart us vs →
    Paired (fun u v => ValOk c ρ σ Hs F2 H2 u v) (xs ++ us) (ys.map (fun y => vl y t) ++ vs) ∧ Apart (xs ++ us) (ys.map (fun y => vl y t) ++ vs)
  | _, _, .nil, A, B => ⟨A, B⟩
  | _, _, .cons r rs, A, B => ⟨.cons (.of_plain R2 ht r) (star_go R2 ht rs A B).1, fun a h _ => (nomatch h), (star_go R2 ht rs A B).2⟩
theorem l_star {e : Expr} {es : List Expr} {a b : E} {p : Pos} (n : Cn c Wx k X) (ha : PE X e (rdE c Wx a)) (hb : PA X es (rdL c Wx b)) (hs : starEach (.Starred e p :: es) X.env = (true, eval e X.env) :: starEach es X.env := by rfl) : PA X (.Starred e p :: es) (rdL c Wx (.star a b)) := by
  refine pa_wk (StX.pa_star ha hb hs) fun σ H Q ⟨F0, H0, ρ, F, W, R, hP⟩ => ?_
  simp only [evL] at hP
  refine rd_e R R.refl hP fun x W1 u F1 H1 S1 _ V1 R1 hP => ?_
  obtain ⟨ys, hy, hP⟩ := ofO_some hP
  have fin : ∀ {us : List V} {vs : List Vl} {F2 H2 : Hp} {W2 : Dr} {xs : List V}, RepL c (Fz F1 H1 σ x.t) xs ys → Stp c W2 F H F2 H2 → Stp c W2 F1 H1 F2 H2 → Paired (fun u v => ValOk c ρ σ H1 F2 H2 u v) us vs → Apart us vs → Rel c F0 H0 ρ σ F2 H2 W2 → Pst c Wx σ F H (fun vs us F' H' => Paired (fun u v => ValOk c ρ σ H F' H' u v) us vs ∧ Apart us vs) Q (.ok (ys.map (fun y => vl y x.t) ++ vs) W2) → Q (xs ++ us) H2 := by
    intro us vs F2 H2 W2 xs rl S2 S12 A B R2 hP
    exact hP _ F2 H2 S2 (star_go R2 V1.t_own (rl.mono (Fz_step R1 V1.t_own S12)) (Paired.mapP A fun _ _ z => z.start fun a m z => S1.keepN m z) B)
  cases e : x.d <;> rw [e] at hy <;> simp only [D.seq] at hy <;> try (cases hy; done)
  · cases hy
    obtain ⟨p, xs, rfl, h1, h2⟩ := V1.tup R1 e
    exact ⟨p, xs, rfl, .inl (n.hk ▸ Same.sqT (Fz_dn R1.stp.sub) h1), rd_lx R1 S1 hP fun vs W2 us F2 H2 S2 S12 A B R2 hP => fin h2 S2 S12 A B R2 hP⟩
  · cases hy
    obtain ⟨p, xs, rfl, h1, h2⟩ := V1.lst R1 e
    exact ⟨p, xs, rfl, .inr (.inl (.inl h1)), rd_lx R1 S1 hP fun vs W2 us F2 H2 S2 S12 A B R2 hP => fin h2 S2 S12 A B R2 hP⟩

def insD (nm : Str) : D → Bool
  | .ins n _ => n == nm
  | _ => false
def eqG (neg : Bool) (nm : Str) (g : G) : G := fun xs W => match xs with
  | [x, y] => if (insD nm x && insD nm y) = true then match g [x, y] W with
    | .ok (false, .bl b) W' => .ok (false, .bl (b != neg)) W'
    | _ => .stk
    else .stk
  | _ => .stk
theorem ins_of {nm : Str} {d : D} {F : Hp} {x : V} (r : Rep c F x d) (e : insD nm d = true) : ∃ a C dx fs, x = .ref a ∧ F a = some (.ins C dx fs) ∧ c.ca nm = some C := by
  cases d <;> simp only [insD] at e <;> try (cases e; done)
  obtain ⟨a, C, dx, gs, h1, h2, h3, _⟩ := r.insI
  rw [← beq_iff_eq.mp e]
  exact ⟨a, C, dx, gs, h1, h2, h3⟩
def rOEq (C : Addr) (sp : Sp) (neg : Bool) : R2 := fun x y H Q => (∃ a b dx dy fs gs, x = .ref a ∧ y = .ref b ∧ H a = some (.ins C dx fs) ∧ H b = some (.ins C dy gs)) ∧ ∀ E, sp [x, y] H (fun v H' => ∃ r : Bool, v = .bl r ∧ Q (.bl (r != neg)) H') E
theorem spG_eq {neg : Bool} {nm : Str} {g : G} {x y : V} {E : XK} {C : Addr} (hC : c.ca nm = some C) (h : spG c (eqG neg nm g) [x, y] H Q E) : rOEq C (spG c g) neg x y H Q := by
  obtain ⟨F, xs, W, r, S, hP⟩ := h
  cases r with
  | cons r1 r =>
    cases r with
    | cons r2 r =>
      cases r
      rename_i d1 d2
      simp only [eqG] at hP
      split at hP
      · rename_i hd
        rw [Bool.and_eq_true] at hd
        obtain ⟨b, C', dy, gs, rfl, h2, h3⟩ := ins_of r2 hd.2
        rw [hC] at h3
        cases h3
        obtain ⟨a, C', dx, fs, rfl, h1, h3⟩ := ins_of r1 hd.1
        rw [hC] at h3
        cases h3
        refine ⟨⟨a, b, dx, dy, fs, gs, rfl, rfl, S.sub _ _ h1, S.sub _ _ h2⟩, fun E => ⟨F, [d1, d2], W, .cons r1 (.cons r2 .nil), S, ?_⟩⟩
        cases e : g [d1, d2] W with
        | stk => rw [e] at hP; exact hP.elim
        | ex z W' => rw [e] at hP; exact hP.elim
        | ok rr W' =>
          rw [e] at hP
          obtain ⟨nw, d⟩ := rr
          cases nw <;> cases d <;> try (exact hP.elim)
          rename_i b
          intro u F' H' S' hr
          cases hr
          exact ⟨b, rfl, hP _ F' H' S' (.bl _)⟩
      · exact hP.elim
end
section
variable {prog : Program} {w : World} {A A₀ : Around} {E : Value → Shared → Prop} {s : Shared} {K : PySem.W.Frag} {x y C L f : Addr} {h₀ : Heap} {m : Str → Option Value} {ox : Obj} {od : Option Obj}
theorem ne_own {Q : Fin → Shared → Prop} (X : K.In s.heap) (I : PySem.W.InstAt s.heap x ox C od) (hs : PySem.W.findIn K (.ref C) "__eq__" = some (some (.ref f))) (hf : PySem.W.isFn K (.ref f) = true) (hu : A.units < cLine)
    (hcall : wpAny (model prog w) A (call (.ref f) [.ref x, .ref y]) (fun v s' => ∃ b, v = .bool b ∧ Q (.done (.ret (.bool (!b)))) s') E s) :
    wpAny (model prog w) A (Builtin.«object.__ne__» ⟨[.ref x, .ref y], []⟩) Q E s := by
  obtain ⟨hh, gg, dd, tt, oo⟩ := s
  unfold Builtin.«object.__ne__»
  repeat (first
    | with_reducible refine wpAny_cRoomFor hu ?_
    | (refine wpAny_bind (m := callSpecialIfBound? (.ref x) (Str.ofString "__eq__") [.ref y])
        (PySem.W.ifBound_K X I hs hf (wpAny_mono hcall (fun r s' hr => by
          obtain ⟨b, rfl, hq⟩ := hr
          repeat (first | exact hq | exact wpAny_pure hq | exact wpAny_truthy_bool hq | (refine wpAny_bind (m := truthy (.bool _)) (wpAny_truthy_bool ?_)) | wp_step)) fun _ _ e => e)))
    | wp_step)
theorem ifBound_ne {M : Model} {args : List Value} {Q : Option Value → Shared → Prop} (X : K.In s.heap) (I : PySem.W.InstAt s.heap x ox C od) (hs : PySem.W.findIn K (.ref C) "__ne__" = some (some (.builtin "object.__ne__")))
    (h : wpAny M A (call (.builtin "object.__ne__") (.ref x :: args)) (fun v => Q (some v)) E s) : wpAny M A (callSpecialIfBound? (.ref x) "__ne__" args) Q E s := by
  simp only [callSpecialIfBound?, bindSpecialIfBound?]
  refine wpAny_holding (wpAny_bind (wpAny_bind (wpAny_bind (I.type.here ((PySem.W.looks_findIn X hs).here ?_)))))
  simp only [PySem.F.cmp_object.ne.bind]
  refine wpAny_bind (wpAny_askSetting (wpAny_ite ?_))
  have fin : wpAny M A (call (.builtin "object.__ne__") ([.ref x] ++ args) >>= fun v => pure (some v)) Q E s := wpAny_bind (wpAny_mono h (fun v s' h' => wpAny_pure h') fun _ _ h' => h')
  split
  · exact wpAny_bind (wpAny_pure (wpAny_pure fin))
  · exact wpAny_tryCatch (wpAny_bind (wpAny_pure (wpAny_pure fin)))
theorem cmp_ne_K {Q : Value → Shared → Prop} {oy : Obj} {od' : Option Obj} (hu : A.units + 1 < cLine) (F : Fr h₀ L s.heap m) (X₀ : K.In h₀) (I : PySem.W.InstAt s.heap x ox C od) (J : PySem.W.InstAt s.heap y oy C od')
    (hs : PySem.W.findIn K (.ref C) "__eq__" = some (some (.ref f))) (hf : PySem.W.isFn K (.ref f) = true) (hn : PySem.W.findIn K (.ref C) "__ne__" = some (some (.builtin "object.__ne__"))) (ho : PySem.W.mroIn K C (.type "object") = some true)
    (h : wpAny (model prog w) A.in1 (call (.ref f) [.ref x, .ref y]) (fun v s' => ∃ b, v = .bool b ∧ Q (.bool (!b)) s') E s) : wpAny (model prog w) A (richCompare .NotEq (.ref x) (.ref y)) Q E s := by
  have X := X₀.keeps F.keep
  have sub : PySem.W.Looks (model prog w) s.heap (isInstance (.ref x) (.type "object")) true := I.type.andThen (PySem.W.looks_mroIn X ho)
  have one : wpAny (model prog w) A (tryCompare (.ref x) "__ne__" (.ref y)) (fun r s' => ∃ v, r = some v ∧ Q v s') E s := by
    unfold tryCompare
    refine wpAny_bind (ifBound_ne X I hn (wpAny_call (codeAny_call_builtin PySem.F.cmp_object.ne.plain PySem.F.cmpEntry_ne
      (PySem.W.check_slot PySem.F.cmpKind_ne PySem.F.cmpSplit_ne sub (PySem.F.cmpArgs_ne _ _) (ne_own (A := A.in1) X I hs hf hu (wpAny_mono h (fun v s' hv => ?_) fun _ _ e => e))))))
    obtain ⟨b, rfl, hq⟩ := hv
    first | exact ⟨b, rfl, wpAny_pure ⟨_, rfl, hq⟩⟩ | exact ⟨b, rfl, wpAny_pure (wpAny_pure ⟨_, rfl, hq⟩)⟩ | exact ⟨b, rfl, ⟨_, rfl, hq⟩⟩
  unfold richCompare
  simp only [oneThing_ref]
  refine wpAny_holding (wpAny_bind (wpAny_cRoomFor (Nat.lt_of_succ_lt hu) ?_))
  refine wpAny_bind (I.type.here (wpAny_bind (J.type.here ?_)))
  rw [show (Value.ref C != Value.ref C) = false from by simp]
  simp only [Bool.false_eq_true, if_false]
  refine wpAny_bind (wpAny_pure ?_)
  simp only [Bool.false_eq_true, if_false]
  refine wpAny_bind (wpAny_mono one (fun r s' z => ?_) fun _ _ e => e)
  obtain ⟨v, rfl, hq⟩ := z
  exact wpAny_pure hq
end
section
variable {c : Pm} {Wx : WX} {X : Cx} {k : Nat} {H : Hp} {σ : L2.St} {pos : Pos}
theorem run_own {A : Around} {CX : CXT} {f : Addr} {fd : FuncData} {ps : List Str} {sp : Sp} {E : L2.St → XK} {pins : List (Addr × Obj)} {s : Shared} {Q : VK} {us : List Value} {vs : List V} (F : FnOk X.prog X.w X.K X.mg X.base CX k f fd ps sp) (hr : Room k A) (hfr : A.frames = X.A.frames) (hb : Binds X.K fd ps []) (hx : PassesAt CX X σ (E σ))
    (I : Inv X pins σ H s) (r : Vals vs us) (h : sp vs H Q (E σ)) : wpAny (model X.prog X.w) A (call (.ref f) us) (EP X pins σ Q) X.xe s := by
  have hl : us.length = ps.length := by rw [← r.length]; exact F.len _ _ _ _ h
  have b := hb s us I.kIn (by rw [List.append_nil]; exact hl)
  rw [List.append_nil] at b
  have e0 : Env0 X.prog X.w X.K X.mg X.base A X.stack s H := by
    have e := I.env0
    exact ⟨by rw [hfr]; exact e.frames, e.mod, e.bs, e.bsz, e.funs, e.frf, e.hok, e.bare⟩
  refine wpAny_call (codeAny_mono (F.run A X.stack s H ⟨us, []⟩ us vs Q (E σ) hr e0 b r h) fun r s' hq => ?_)
  cases r with
  | error e => exact hx pins H s e s' I hq
  | ok fl =>
    cases fl with
    | ret u => exact I.after hq
    | next => exact False.elim hq
    | brk => exact False.elim hq
    | cont => exact False.elim hq
structure OwnEq (c : Pm) (P : Program) (w : World) (mg : Str → Option Value) (base : Heap) (k : Nat) (nm : Str) (ps : List Str) (g : G) : Prop where
  mth : Mth c P w mg base k nm "__eq__" ps g
  ne : ∀ C, c.ca nm = some C → PySem.W.findIn c.K (.ref C) "__ne__" = some (some (.builtin "object.__ne__")) ∧ PySem.W.mroIn c.K C (.type "object") = some true
theorem op_own {j : Nat} {nm : Str} {ps : List Str} {g : G} {C : Addr} (n : Cn c Wx k X) (M : OwnEq c X.prog X.w X.mg X.base j nm ps g) (hj : j + 1 ≤ k) (hC : c.ca nm = some C) :
    OpR X (compareOp .Eq) (rOEq C (spG c g) false) ∧ OpR X (compareOp .NotEq) (rOEq C (spG c g) true) := by
  obtain ⟨C', f, fd, h1, h2, h3, h4, h5⟩ := M.mth.ex
  rw [hC] at h1
  cases h1
  obtain ⟨m1, m2⟩ := M.ne C hC
  rw [← n.hk] at h2 h3 h4 h5 m1 m2
  refine ⟨fun pins s σ H x y v u Q I rx ry hq => ?_, fun pins s σ H x y v u Q I rx ry hq => ?_⟩
  · obtain ⟨⟨a, b, dx, dy, fs, gs, rfl, rfl, ha, hb'⟩, q⟩ := hq
    cases rx
    cases ry
    obtain ⟨mA, J, _⟩ := ins_get I.hok ha
    obtain ⟨mB, J', _⟩ := ins_get I.hok hb'
    obtain ⟨od, J, _⟩ := J.look
    obtain ⟨od', J', _⟩ := J'.look
    obtain ⟨m, hF⟩ := I.fr
    show wpAny (model X.prog X.w) X.A (richCompare .Eq _ _) (EP X pins σ Q) X.xe s
    refine PySem.W.cmp_K (op := .Eq) (tb := .ref C) n.room.units0 hF I.ok.mod.kin J J'.type (by simp [PySem.W.notFirst]) h3.at_ h3.fn (wpAny_mono (run_own (us := [.ref a, .ref b]) (vs := [.ref a, .ref b]) h5 (n.room.mono (Nat.le_of_succ_le hj)) rfl h4 (L2N.passAt n.tk σ) I (.cons rfl (.cons rfl .nil)) (q _)) (fun v s' z => ?_) fun _ _ e => e)
    obtain ⟨vv, H', I', rv, r, rfl, hQ⟩ := z
    obtain rfl : v = .bool r := rv
    exact ⟨.bl (r != false), H', I', by rw [Bool.bne_false]; rfl, hQ⟩
  · obtain ⟨⟨a, b, dx, dy, fs, gs, rfl, rfl, ha, hb'⟩, q⟩ := hq
    cases rx
    cases ry
    obtain ⟨mA, J, _⟩ := ins_get I.hok ha
    obtain ⟨mB, J', _⟩ := ins_get I.hok hb'
    obtain ⟨od, J, _⟩ := J.look
    obtain ⟨od', J', _⟩ := J'.look
    obtain ⟨m, hF⟩ := I.fr
    show wpAny (model X.prog X.w) X.A (richCompare .NotEq _ _) (EP X pins σ Q) X.xe s
    refine cmp_ne_K (by have := n.hu; omega) hF I.ok.mod.kin J J' h3.at_ h3.fn m1 m2 (wpAny_mono (run_own (A := X.A.in1) (us := [.ref a, .ref b]) (vs := [.ref a, .ref b]) h5 ((n.room.mono hj).in1) rfl h4 (L2N.passAt n.tk σ) I (.cons rfl (.cons rfl .nil)) (q _)) (fun v s' z => ?_) fun _ _ e => e)
    obtain ⟨vv, H', I', rv, r, rfl, hQ⟩ := z
    obtain rfl : v = .bool r := rv
    exact ⟨r, rfl, .bl (r != true), H', I', by cases r <;> rfl, hQ⟩
theorem own_lift {neg : Bool} {nm : Str} {g : G} {ea eb : E} {C : Addr} {Q : VK} (hC : c.ca nm = some C) (h : rdE c Wx (.call (eqG neg nm g) (.cons ea (.cons eb .nil))) σ H Q) : tOp (rOEq C (spG c g) neg) (rdE c Wx ea) (rdE c Wx eb) σ H Q :=
  rdE_mono (call2_ok h) fun x H1 h2 => rdE_mono h2 fun y H2 h3 => spG_eq hC h3
theorem x_own {neg : Bool} {op : CmpOp} {j : Nat} {nm : Str} {ps : List Str} {g : G} {a b : Expr} {ea eb : E} (n : Cn c Wx k X) (M : OwnEq c X.prog X.w X.mg X.base j nm ps g) (ha : PE X a (rdE c Wx ea)) (hb : PE X b (rdE c Wx eb)) (hj : j + 1 ≤ k := by decide) (ho : op = (if neg then .NotEq else .Eq) := by rfl) (hm : behindInMarks op b = false := by first | exact nobehind _ (by decide) (by decide) | rfl) :
    PE X (.Compare a [op] [b] pos) (rdE c Wx (.call (eqG neg nm g) (.cons ea (.cons eb .nil)))) := by
  obtain ⟨C, _, _, hC, _⟩ := M.mth.ex
  obtain ⟨h1, h2⟩ := op_own n M hj hC
  subst ho
  cases neg
  · exact pe_wk (pe_cmpR h1 ha hb hm) fun σ H Q h => own_lift hC h
  · exact pe_wk (pe_cmpR h2 ha hb hm) fun σ H Q h => own_lift hC h
theorem y_own {neg : Bool} {op : CmpOp} {j : Nat} {nm : Str} {ps : List Str} {g : G} {a b : Expr} {ea eb : E} (n : Cn c Wx k X) (M : OwnEq c X.prog X.w X.mg X.base j nm ps g) (ha : PE X a (rdE c Wx ea)) (hb : PE X b (rdE c Wx eb)) (hj : j + 1 ≤ k := by decide) (ho : op = (if neg then .NotEq else .Eq) := by rfl) (hm : behindInMarks op b = false := by first | exact nobehind _ (by decide) (by decide) | rfl) :
    PT X (.Compare a [op] [b] pos) (rdT c Wx (.tv (.call (eqG neg nm g) (.cons ea (.cons eb .nil))))) := by
  obtain ⟨C, _, _, hC, _⟩ := M.mth.ex
  obtain ⟨h1, h2⟩ := op_own n M hj hC
  have fin : ∀ σ H Q, rdT c Wx (.tv (.call (eqG neg nm g) (.cons ea (.cons eb .nil)))) σ H Q → tOp (rOEq C (spG c g) neg) (rdE c Wx ea) (rdE c Wx eb) σ H fun v H' => ∃ b, v = .bl b ∧ Q b H' := by
    intro σ H Q h
    refine own_lift (Wx := Wx) hC ?_
    obtain ⟨F0, H0, ρ, F, W, R, hP⟩ := h
    refine ⟨F0, H0, ρ, F, W, R, ?_⟩
    simp only [evT] at hP
    revert hP
    cases e : ev (.call (eqG neg nm g) (.cons ea (.cons eb .nil))) ρ W with
    | stk => exact fun h => h
    | ex x W' => exact fun h => h
    | ok z W' =>
      intro hP u F' H' S V
      cases ez : z.d <;> simp only [Out.bind, ez, D.isBl, ofO] at hP <;> try (exact hP.elim)
      rename_i b
      exact ⟨b, V.bl (R.step S) ez, hP b F' H' S rfl⟩
  subst ho
  cases neg
  · exact pt_wk (pt_cmpR h1 ha hb hm) fin
  · exact pt_wk (pt_cmpR h2 ha hb hm) fin
end
end Z

namespace Z
open PySem PySem.Spec PyProof.Rows L2
open Classical
section
variable {c : Pm} {Wx : WX} {X : Cx} {fu n k : Nat} {W W' W1 W2 W3 : Dr} {F0 H0 F H F' H' F1 H1 F2 H2 F3 H3 Hs : Hp} {ρ ρ' : En} {σ σ' : L2.St} {u w : V} {x y v : Vl} {Q : VK} {us : List V} {vs : List Vl} {pos : Pos}
abbrev KvG {κ : Type} (kd : κ → D) (c : Pm) (F : Hp) (ks : List (κ × V)) (kvs : List (D × D)) : Prop := Paired (fun (q : κ × V) (p : D × D) => p.1 = kd q.1 ∧ Rep c F q.2 p.2) ks kvs
abbrev KvR (c : Pm) (F : Hp) (ks : List (Key × V)) (kvs : List (D × D)) : Prop := KvG keyD c F ks kvs
section
variable {κ : Type} [DecidableEq κ] {kd : κ → D}
theorem kv_of : ∀ {ks : List (κ × V)} {kvs : List (D × D)}, kvs.map (·.1) = ks.map (fun q => kd q.1) → RepL c F (ks.map (·.2)) (kvs.map (·.2)) → KvG kd c F ks kvs
  | [], [], _, _ => .nil
  | [], _ :: _, h, _ => by cases h
  | _ :: _, [], h, _ => by cases h
  | q :: ks, p :: kvs, h, r => by
    simp only [List.map_cons] at h r
    cases r with
    | cons r rs => exact .cons ⟨(List.cons.inj h).1, r⟩ (kv_of (List.cons.inj h).2 rs)
end
def keyT (k : List Key) : D := .tup (k.map keyD)
noncomputable def sortS (l : List Str) : List Str := if h : ∃ ys : List Str, ys.Perm l ∧ sortedS ys = true then Classical.choose h else []
theorem ltC_tot : ∀ {a b : List Nat}, ltCps a b = false → ltCps b a = false → a = b
  | [], [], _, _ => rfl
  | [], _ :: _, h, _ => by simp [ltCps] at h
  | _ :: _, [], _, h => by simp [ltCps] at h
  | x :: a, y :: b, h1, h2 => by
    simp only [ltCps, Bool.or_eq_false_iff, decide_eq_false_iff_not, Bool.and_eq_false_iff, beq_eq_false_iff_ne] at h1 h2
    have : x = y := by omega
    subst this
    have h3 : ltCps a b = false := h1.2.resolve_left (by simp)
    have h4 : ltCps b a = false := h2.2.resolve_left (by simp)
    rw [ltC_tot h3 h4]
theorem ltC_trans : ∀ {a b c : List Nat}, ltCps b a = false → ltCps c b = false → ltCps c a = false
  | [], _, c, _, _ => by cases c <;> rfl
  | _ :: _, [], _, h, _ => by simp [ltCps] at h
  | _ :: _, _ :: _, [], _, h => by simp [ltCps] at h
  | x :: a, y :: b, z :: c, h1, h2 => by
    simp only [ltCps, Bool.or_eq_false_iff, decide_eq_false_iff_not, Bool.and_eq_false_iff, beq_eq_false_iff_ne] at h1 h2 ⊢
    refine ⟨by omega, ?_⟩
    by_cases e : z = x
    · right
      have e1 : y = x := by omega
      subst e1
      subst e
      exact ltC_trans (h1.2.resolve_left (by simp)) (h2.2.resolve_left (by simp))
    · exact .inl e
theorem rising_pw : ∀ {p : Str} {l : List Str}, risingS p l = true → (p :: l).Pairwise fun a b => ltCps b.cps.toList a.cps.toList = false
  | p, [], _ => by simp
  | p, x :: r, h => by
    simp only [risingS, Bool.and_eq_true, Bool.not_eq_true'] at h
    have ih := rising_pw h.2
    refine List.pairwise_cons.mpr ⟨fun y hy => ?_, ih⟩
    rcases List.mem_cons.mp hy with rfl | hy
    · exact h.1
    · exact ltC_trans h.1 ((List.pairwise_cons.mp ih).1 y hy)
theorem sorted_pw {l : List Str} (h : sortedS l = true) : l.Pairwise fun a b => ltCps b.cps.toList a.cps.toList = false := by
  cases l with
  | nil => exact .nil
  | cons x r => exact rising_pw h
theorem sorted_one : ∀ {a b : List Str}, a.Perm b → sortedS a = true → sortedS b = true → a = b := by
  intro a b p ha hb
  have e : ∀ x y : Str, ltCps y.cps.toList x.cps.toList = false → ltCps x.cps.toList y.cps.toList = false → x = y := fun x y h1 h2 => by
    have q := ltC_tot h2 h1
    cases x; cases y
    congr 1
    exact Array.toList_inj.mp q
  exact p.eq_of_pairwise (fun x y _ _ h1 h2 => e x y h1 h2) (sorted_pw ha) (sorted_pw hb)
theorem sortS_eq {l ys : List Str} (p : ys.Perm l) (s : sortedS ys = true) : sortS l = ys := by
  have h : ∃ ys : List Str, ys.Perm l ∧ sortedS ys = true := ⟨ys, p, s⟩
  unfold sortS
  rw [dif_pos h]
  have q := Classical.choose_spec h
  exact sorted_one (q.1.trans p.symm) q.2 s
noncomputable def sortedDD : List D → Option (Bool × D)
  | [.dic false kvs] => (strsD (kvs.map (·.1))).bind fun ks => if ks.length < 64 then some (true, .lst ((sortS ks).map .str)) else none
  | [.lst xs] => (strsD xs).bind fun ks => if ks.length < 64 then some (true, .lst ((sortS ks).map .str)) else none
  | _ => none
theorem keys_strs : ∀ {ks : List (Key × V)} {kvs : List (D × D)} {ss : List Str}, KvR c F ks kvs → strsD (kvs.map (·.1)) = some ss → ks.map (·.1) = ss.map Sum.inr
  | _, _, _, .nil, h => by cases h; rfl
  | _, _, _, .cons (a := q) (b := p) h t, e => by
    rw [List.map_cons] at e
    obtain ⟨q1, q2⟩ := q
    obtain ⟨p1, p2⟩ := p
    obtain ⟨h1, h2⟩ := h
    simp only at h1 e
    subst h1
    cases q1 with
    | inl i => simp [keyD, strsD] at e
    | inr x =>
      simp only [keyD, strsD, Option.map_eq_some_iff] at e
      obtain ⟨zs, e1, rfl⟩ := e
      rw [List.map_cons, List.map_cons, keys_strs t e1]
theorem rdL_mono {e : E} {Q Q' : List V → Hp → Prop} (h : rdL c Wx e σ H Q) (k : ∀ x H', Q x H' → Q' x H') : rdL c Wx e σ H Q' := by
  obtain ⟨F0, H0, ρ, F, W, R, hP⟩ := h
  refine ⟨F0, H0, ρ, F, W, R, ?_⟩
  revert hP
  cases evL e ρ W with
  | stk => exact fun h => h
  | ex x W' => exact fun h => h
  | ok a W' => exact fun h b F' H' S V => k b H' (h b F' H' S V)
theorem x_bltB {g : G} {r : List V → Hp → VK → Prop} {z : Str} {id : String} {e : Expr} {es : List Expr} {ea : E} {p : Pos} (n : Cn c Wx k X) (hr : ∀ vs H Q E, spG c g vs H Q E → r vs H Q) (hc : CallR X (.builtin id) r) (hv : bootBuiltins z = some (.builtin id)) (hm : X.mg z = none) (ha : PA X (e :: es) (rdL c Wx ea)) (hg : Gl X z := by rfl)
    (hn : z ≠ "__name__" := by decide) (hdb : (z == ("__debug__" : Str)) = false := by decide) (he : starEach (e :: es) X.env = (false, eval e X.env) :: starEach es X.env := by rfl) (hpl : (backTo pos (starEach es X.env)).any (·.1) = false := by rfl) : PE X (.Call (.Name z p) (e :: es) [] pos) (rdE c Wx (.call g ea)) :=
  pe_wk (pe_callB hc hg hm hv ha hn hdb he hpl) fun σ H Q h => rdL_mono (call_ok h) fun vs H1 q => hr _ _ _ _ q
theorem callR_or {f : Value} {r1 r2 : List V → Hp → VK → Prop} (h1 : CallR X f r1) (h2 : CallR X f r2) : CallR X f fun xs H Q => r1 xs H Q ∨ r2 xs H Q := by
  intro pins s σ H xs us Q I rel h
  rcases h with h | h
  · exact h1 pins s σ H xs us Q I rel h
  · exact h2 pins s σ H xs us Q I rel h
theorem boot_sorted' : bootBuiltins "sorted" = some (.builtin "sorted") := by first | rfl | decide +kernel
end
end Z

namespace Z
open PySem PySem.Spec PyProof.Rows L2
open Classical
section
open AutoSeq1 (wpAny_loadPart')
variable {prog : Program} {w : World} {A : Around} {E : Value → Shared → Prop} {s : Shared}
end
section
variable {c : Pm} {Wx : WX} {X : Cx} {fu n k : Nat} {W W' W1 W2 W3 : Dr} {F0 H0 F H F' H' F1 H1 F2 H2 F3 H3 Hs : Hp} {ρ ρ' : En} {σ σ' : L2.St} {u w : V} {x y v : Vl} {Q : VK} {us : List V} {vs : List Vl} {pos : Pos}
theorem RepL.rev {vs : List V} {xs : List D} (r : RepL c F vs xs) : RepL c F vs.reverse xs.reverse := by
  have go : ∀ (vs : List V) (xs : List D), RepL c F vs xs → RepL c F vs.reverse xs.reverse := by
    intro vs
    induction vs with
    | nil => intro xs r; cases r; exact .nil
    | cons v vs ih =>
      intro xs r
      cases r with
      | cons h t =>
        rw [List.reverse_cons, List.reverse_cons]
        exact (ih _ t).append (.cons h .nil)
  exact go _ _ r
end
end Z

namespace Z
open PySem PySem.Spec PyProof.Rows L2 He
open Classical
theorem run1 {CX : CXT} {P : Program} {w : World} {K : PySem.W.Frag} {mg : Str → Option Value} {base : Heap} {k : Nat} {f : Addr} {x qual : Str} {st : Stmt} {fd : FuncData} {N : List Str} {pa : Str} (Fu : Fun K x qual st f fd) (S : FnScope N [pa] (defScope st))
    {A : Around} {outer : List Env} {s : Shared} {H : Hp} {u : Value} {v : V} {Q : VK} {E : XK} (hr : Room (k + 1) A) (e0 : Env0 P w K mg base A outer s H) (hb : ∀ (s : Shared) (u : Value), BindsTo s fd ⟨[u], []⟩ [(pa, u)]) (ru : RelV v u)
    (body : ∀ cdv : Value, fd.code = cdv → Room k (A.deeper (envOfC qual (defScope st) s.heap.objs.size f cdv)) → ∃ t, PSs (cxOf CX P w K mg base N qual (defScope st) f cdv A outer s H E) (defBody st) t ∧ t { nx := fun _ H' => Q .non H', rt := Q } (L2.start N [v]) H) :
    codeAny (model P w) A (.call (.ref f) ⟨[u], []⟩) (CR CX outer P w H s Q E) s := by
  obtain ⟨⟨oc, od, kV, doc, pm, an, cdv, ct, osl, rfl, lk, hcd⟩, kp⟩ := Fu
  obtain ⟨tt, ht, hq⟩ := body cdv rfl (hr.deeper _)
  have KX : K.In s.heap := e0.mod.kin.keeps fun b o z => (e0.bs b o z).1
  have nolim : s.heap.NoLimit := e0.mod.nolimit.keeps fun b o z => (e0.bs b o z).1
  have rr : Vals [v] [u] := .cons ru .nil
  have kinds : ∀ y ∈ [pa].zip [u], (defScope st).names.lookup y.1 = some .local ∨ ((defScope st).names.lookup y.1 = some .cell ∧ ((cellsFrom (s.heap.objs.size + 1) (defScope st).names []).lookup y.1).isSome = true) := by
    intro y hy
    have ey : y.1 ∈ [pa] := (List.of_mem_zip (a := y.1) (b := y.2) hy).1
    rcases S.par y.1 ey with q | q
    · exact .inl q
    · exact .inr ⟨q, PySem.W.cellsFrom_some _ _ _ (.inl q)⟩
  refine codeAny_call_function hr.depth (KX _ _ lk) rfl S.co S.gen rfl (PySem.W.codeRec_of KX hcd) ((hb s u) _ _ _ _ (wpAny_newFunctionEnv_cells S.kind kinds fun env he s1 y => ?_))
  subst he
  refine ⟨nolim.keeps y.toInCall.keep, codeAny_func ?_⟩
  have I := inv_start (CX := CX) (E := E) S hr.hd e0 rfl rr y
  refine wpAny_mono (ht.run [] s1 (L2.start N [v]) H _ I hq) (fun fl s2 hs => ?_) fun e s2 hs => hs
  cases fl with
  | next => obtain ⟨σ2, H2, J, q⟩ := hs; exact ⟨.non, H2, J.os, J.bare, J.base, J.hok, rfl, q⟩
  | ret z => obtain ⟨vz, σ2, H2, J, rz, q⟩ := hs; exact ⟨vz, H2, J.os, J.bare, J.base, J.hok, rz, q⟩
  | brk => obtain ⟨_, _, _, q⟩ := hs; exact q.elim
  | cont => obtain ⟨_, _, _, q⟩ := hs; exact q.elim
section
open LamX
variable {P : Program} {w : World} {K : PySem.W.Frag} {mg mb : Str → Option Value} {a : Addr} {cs : List (Addr × Addr)} {s₁ : Shared} {vs : List Value} {ns : List Int}
abbrev tbs (cs : List (Addr × Addr)) : List Addr := cs.map (·.2)
noncomputable def startH (K : PySem.W.Frag) (a : Addr) (vs : List Value) (ns : List Int) (cs : List (Addr × Addr)) : Hp := fun b =>
  if b ∈ tbs cs then some (.tbl #[]) else if b = a ∧ K.lookup a = none then some (.frz { cls := .type "list", data := .seq vs.toArray } (.lst (ns.map V.int))) else none
theorem law_start (KX : K.In s₁.heap) (hns : s₁.heap.Ns mainGlobals mg) (hb : s₁.heap.Ns builtinsNs mb) (hbb : ∀ x : Str, x ≠ "__name__" → mb x = bootBuiltins x) (hlim : s₁.heap.NoLimit) (hg : s₁.gens = #[])
    (hT : ∀ p ∈ cs, s₁.heap.get? p.2 = some { cls := .none, data := .fields #[] }) (nT : ∀ p ∈ cs, K.lookup p.2 = none) (C : ∀ p ∈ cs, PySem.W.CodeHd s₁.heap p.1 p.2)
    (hbm : ∃ (bm : Addr) (ob : Obj), mg "__builtins__" = some (.ref bm) ∧ bm ≠ builtinsNs ∧ s₁.heap.get? bm = some ob ∧ ob.cls = .type "module" ∧ ob.dict = some builtinsNs ∧ ob.data = .plain)
    (ha : s₁.heap.get? a = some { cls := .type "list", data := .seq vs.toArray }) (hi : IntsAre vs ns) (hl : ns.length ≤ sizeLine) :
    K.In (hidT s₁.heap (startH K a vs ns cs)) ∧ (hidT s₁.heap (startH K a vs ns cs)).Ns mainGlobals mg ∧ (∀ p ∈ cs, TabB (hidT s₁.heap (startH K a vs ns cs)) mg p.1 p.2) ∧ Env0 P w K mg (hidT s₁.heap (startH K a vs ns cs)) callerA [] s₁ (startH K a vs ns cs) ∧
      (∀ p ∈ cs, startH K a vs ns cs p.2 = some (.tbl #[])) ∧ SqL K (startH K a vs ns cs) a (ns.map V.int) := by
  generalize eH : startH K a vs ns cs = H
  have tb : ∀ b, b ∈ tbs cs → s₁.heap.get? b = some { cls := .none, data := .fields #[] } ∧ K.lookup b = none := fun b z => by
    obtain ⟨p, hp, rfl⟩ := List.mem_map.mp z
    exact ⟨hT p hp, nT p hp⟩
  have at_ : ∀ b o, H b = some o → (b ∈ tbs cs ∧ o = .tbl #[]) ∨ (b = a ∧ K.lookup a = none ∧ o = .frz { cls := .type "list", data := .seq vs.toArray } (.lst (ns.map V.int))) := fun b o z => by
    rw [← eH] at z
    unfold startH at z
    split at z
    · rename_i q; cases z; exact .inl ⟨q, rfl⟩
    · split at z
      · rename_i q; cases z; exact .inr ⟨q.1, q.2, rfl⟩
      · cases z
  have sm : ∀ b, b ∈ tbs cs → H b = some (.tbl #[]) := fun b z => by rw [← eH]; exact if_pos z
  -- what is no list and no table's object is not tracked
  have free : ∀ {b : Addr} {o : Obj}, s₁.heap.get? b = some o → (o.cls ≠ .type "list") → (o.data ≠ .fields #[]) → H b = none := fun {b o} z c1 c2 => by
    cases q : H b with
    | none => rfl
    | some u =>
      rcases at_ b u q with ⟨m, _⟩ | ⟨rfl, _⟩
      · rw [(tb b m).1] at z; cases z; exact absurd rfl c2
      · rw [ha] at z; cases z; exact absurd rfl c1
  have freeD : ∀ {b : Addr} {o : Obj} {es : Array DictEntry} {ep : Nat}, s₁.heap.get? b = some o → o.data = .dict es ep → H b = none := fun {b o es ep} z dd => by
    cases q : H b with
    | none => rfl
    | some u =>
      rcases at_ b u q with ⟨m, _⟩ | ⟨rfl, _⟩
      · rw [(tb b m).1] at z; cases z; cases dd
      · rw [ha] at z; cases z; cases dd
  have ns_ : ∀ {b : Addr} {m : Str → Option Value}, s₁.heap.Ns b m → (hidT s₁.heap H).Ns b m := fun {b m} ⟨o, es, ep, z, dd, r⟩ => ⟨o, es, ep, hidT_get z (freeD z dd), dd, r⟩
  have kin : K.In (hidT s₁.heap H) := fun b o z => hidT_get (KX b o z) (by
    cases q : H b with
    | none => rfl
    | some u =>
      rcases at_ b u q with ⟨m, _⟩ | ⟨rfl, n, _⟩
      · rw [(tb b m).2] at z; cases z
      · rw [n] at z; cases z)
  have okH : HOk P w H s₁.heap := fun b o z => by
    rcases at_ b o z with ⟨m, rfl⟩ | ⟨rfl, _, rfl⟩
    · exact (tb b m).1
    · exact ⟨ha, by rw [List.length_map]; exact hl, vs, _, vals_ints hi, ha⟩
  refine ⟨kin, ns_ hns, fun p hp => ⟨?_, ?_, fun z => ?_⟩, ⟨rfl, ⟨kin, ns_ hns, ⟨mb, ns_ hb, hbb⟩, let ⟨mc, h1, h2⟩ := hlim; ⟨mc, ns_ h1, h2⟩⟩, fun b o z => of_hidT z, Nat.le_of_eq (hidT_size _ _), trivial, fun b hb => (nomatch hb), okH, .of_eq hg⟩, fun p hp => sm _ (List.mem_map.mpr ⟨p, hp, rfl⟩), ?_⟩
  · obtain ⟨o, us, file, tf, flags, tg, inF, text, tt, e1, r1, r2, r3, r4⟩ := C p hp
    refine ⟨o, us, file, tf, flags, tg, inF, text, tt, hidT_get e1 (free e1 (by rw [r1]; decide) fun z => ?_), r1, r2, r3, r4⟩
    rw [r2] at z
    cases z
    simp at r3
  · obtain ⟨bm, ob, b1, b2, b3, b4, b5, b6⟩ := hbm
    refine ⟨bm, ob, b1, b2, fun q => ?_, fun q => ?_, hidT_get b3 (free b3 (by rw [b4]; decide) fun z => by rw [b6] at z; cases z), b4, b5, b6⟩
    · obtain ⟨o, es, ep, z, dd, _⟩ := hns
      rw [q, z] at b3; cases b3
      rw [dd] at b6; cases b6
    · rw [q, hT p hp] at b3; cases b3; cases b6
  · obtain ⟨o, es, ep, y, dd, _⟩ := hns
    rw [z, hT p hp] at y; cases y; cases dd
  · cases q : K.lookup a with
    | some o =>
      have y := KX a o q
      rw [ha] at y; cases y
      refine Or.inr ⟨_, vs.toArray, _, q, rfl, rfl, rfl, by rw [List.size_toArray, hi.length]; exact hl, by simpa using vals_ints hi⟩
    | none =>
      refine .inl (.inr ⟨{ cls := .type "list", data := .seq vs.toArray }, ?_⟩)
      rw [← eH]
      unfold startH
      rw [if_neg fun m => ?_, if_pos ⟨rfl, q⟩]
      have y := (tb a m).1
      rw [ha] at y; cases y
theorem law_callG {CX : CXT} {fl : Addr} (KX : K.In s₁.heap) (hns : s₁.heap.Ns mainGlobals mg) (hb : s₁.heap.Ns builtinsNs mb) (hbb : ∀ x : Str, x ≠ "__name__" → mb x = bootBuiltins x) (hlim : s₁.heap.NoLimit) (hg : s₁.gens = #[])
    (hT : ∀ p ∈ cs, s₁.heap.get? p.2 = some { cls := .none, data := .fields #[] }) (nT : ∀ p ∈ cs, K.lookup p.2 = none) (C : ∀ p ∈ cs, PySem.W.CodeHd s₁.heap p.1 p.2)
    (hbm : ∃ (bm : Addr) (ob : Obj), mg "__builtins__" = some (.ref bm) ∧ bm ≠ builtinsNs ∧ s₁.heap.get? bm = some ob ∧ ob.cls = .type "module" ∧ ob.dict = some builtinsNs ∧ ob.data = .plain)
    (ha : s₁.heap.get? a = some { cls := .type "list", data := .seq vs.toArray }) (hi : IntsAre vs ns) (hl : ns.length ≤ sizeLine)
    (F : ∀ (base : Heap) (H : Hp), K.In base → base.Ns mainGlobals mg → (∀ p ∈ cs, TabB base mg p.1 p.2) → Env0 P w K mg base callerA [] s₁ H → (∀ p ∈ cs, H p.2 = some (.tbl #[])) → SqL K H a (ns.map V.int) →
      codeAny (model P w) callerA (.call (.ref fl) ⟨[.ref a], []⟩) (CR CX [] P w H s₁ (fun v _ => v = .bl true) fun _ _ _ => False) s₁)
    (hCX : ∀ H e s', CX [] H s₁ (fun _ _ _ => False) e s' → False) :
    codeAny (model P w) callerA (.call (.ref fl) ⟨[.ref a], []⟩) (fun r s' => r = .ok (.ret (.bool true)) ∧ OldK s₁.heap s'.heap ∧ s'.os = s₁.os ∧ AllBare s'.gens) s₁ := by
  obtain ⟨k1, k2, k3, k4, k5, k6⟩ := law_start (P := P) (w := w) KX hns hb hbb hlim hg hT nT C hbm ha hi hl
  generalize eH : startH K a vs ns cs = H at k1 k2 k3 k4 k5 k6
  have out : ∀ b, H b = none ∨ (∃ p ∈ cs, p.2 = b) ∨ ∃ o xs, H b = some (.frz o (.lst xs)) := fun b => by
    rw [← eH]
    unfold startH
    split
    · rename_i m; obtain ⟨p, hp, q⟩ := List.mem_map.mp m; exact .inr (.inl ⟨p, hp, q⟩)
    · split
      · exact .inr (.inr ⟨_, _, rfl⟩)
      · exact .inl rfl
  refine codeAny_mono (F _ H k1 k2 k3 k4 k5 k6) fun r s2 z => ?_
  match r, z with
  | .error e, z => exact (hCX H e s2 z).elim
  | .ok .next, z => exact False.elim z
  | .ok .brk, z => exact False.elim z
  | .ok .cont, z => exact False.elim z
  | .ok (.ret u), ⟨v, H2, os2, bare, un, ok2, ru, q⟩ =>
    cases (show v = .bl true from q)
    cases (show u = Value.bool true from ru)
    -- a table only grows
    have tabs : ∀ b, (∃ p ∈ cs, p.2 = b) → ∃ more : Array Value, s2.heap.get? b = some { cls := .none, data := .fields more } := fun b ⟨p, hp, e⟩ => by
      obtain ⟨more, z⟩ := un.tbls p.2 #[] (k5 p hp)
      exact ⟨_, e ▸ ok2 p.2 _ z⟩
    have rest : ∀ b o, ¬ (∃ p ∈ cs, p.2 = b) → s₁.heap.get? b = some o → s2.heap.get? b = some o := fun b o n z => by
      rcases out b with h | h | ⟨ob, xs, h⟩
      · exact un.keep b o z h (fun y => nomatch y) (by simp)
      · exact absurd h n
      · have e1 := (k4.hok b _ h).1
        have e2 := (ok2 b _ (un.frzs b ob _ h)).1
        rw [z] at e1
        cases e1
        exact e2
    refine ⟨rfl, ⟨fun b o z => ?_, fun b o z => ?_⟩, os2, bare⟩
    · by_cases m : ∃ p ∈ cs, p.2 = b
      · obtain ⟨more, y⟩ := tabs b m
        obtain ⟨p, hp, rfl⟩ := m
        rw [hT p hp] at z
        cases z
        exact .inr (.inl ⟨((C p hp).tab (hT p hp)).isCodeTable, rfl, #[], more, rfl, by rw [Array.empty_append]; exact y⟩)
      · exact .inl (rest b o m z)
    · by_cases m : ∃ p ∈ cs, p.2 = b
      · obtain ⟨more, y⟩ := tabs b m; exact ⟨_, y⟩
      · exact ⟨o, rest b o m z⟩
end
theorem law_endG {l : PySem.W.OpenLaw} {k n : Nat} {q : Program} {loose : List Str} {XP : (Str → Option Value) → Heap → Prop} {d : DefRec} {fa : List Fa} {fn : List DefD} {tf : List Defn} {ex : PySem.W.Frag → Bool} {x : Str} (cas cxs : List Str)
    (hn : l.most = some 63) (hdf : d.params.defaults = []) (hr : Room (k + 1) callerA)
    (F : ∀ (w : World) (mg : Str → Option Value) (fl : Addr) (h : Heap) (K : PySem.W.Frag), K.In h → SaysX fa fn [] tf ex w h K → h.Ns mainGlobals mg → mg d.name = some (.ref fl) →
      ∃ (fd : FuncData) (N : List Str) (st : Stmt) (z qual : Str), (∀ (s : Shared) (u : Value), BindsTo s fd ⟨[u], []⟩ [(x, u)]) ∧ Fun K z qual st fl fd ∧ FnScope N [x] (defScope st) ∧
        ∀ base : Heap, K.In base → base.Ns mainGlobals mg → (∀ p ∈ tf.map (cT K), LamX.TabB base mg p.1 p.2) → ∀ (A : Around) (outer : List Env) (s : Shared) (H : Hp) (v : V) (Q : VK) (E : XK) (cdv : Value), A.guards = some [] → fd.code = cdv →
          Room k (A.deeper (envOfC qual (defScope st) s.heap.objs.size fl cdv)) → spLaw (pmOf K cas cxs tf [] 0) [v] H Q E →
          ∃ t, PSs (cxOf (L2N.CX l.prog w) l.prog w K mg base N qual (defScope st) fl cdv A outer s H E) (defBody st) t ∧ t { nx := fun _ H' => Q .non H', rt := Q } (L2.start N [v]) H) :
    PySem.W.WalkO q loose XP (hookX n fa fn [] tf ex).says l.row.toRowW d [] (fun f vs => PySem.call f vs) := by
  refine _root_.Att.attach_callB hn hdf fun w s₀ s₁ mg mb fl o pm cd doc a vs ns G Y ho hd hcd hmg hobj hints hlen hbits hg => ?_
  obtain ⟨K, KX, c⟩ := Y
  obtain ⟨fd, N, st, z, qual, hb, Fu, S, body⟩ := F w mg fl _ K KX c G.T.g hmg
  refine law_callG (CX := L2N.CX l.prog w) (cs := tf.map (cT K)) KX G.T.g G.T.b G.T.builtins G.T.nolimit hg (fun p hp => ?_) (fun p hp => ?_) (fun p hp => ?_) G.T.bmain hobj hints (Nat.le_trans hlen (by rw [sizeLine_eq]; decide)) (fun base H k1 k2 k3 e0 hT hS => ?_) fun H e s' y => ?_
  · obtain ⟨r, hq, rfl⟩ := List.mem_map.mp hp; exact c.empty r hq
  · obtain ⟨r, hq, rfl⟩ := List.mem_map.mp hp; exact c.out r hq
  · obtain ⟨r, hq, rfl⟩ := List.mem_map.mp hp; exact PySem.W.codeHd_of_K KX (c.hd r hq)
  · refine run1 Fu S hr e0 hb (v := .ref a) rfl fun cdv hcv hrm => body base k1 k2 k3 callerA [] s₁ H (.ref a) (fun v _ => v = .bl true) (fun _ _ _ => False) cdv rfl hcv hrm ⟨a, ns, rfl, sqS_of hS, hlen, fun p hp => ?_, fun _ => rfl⟩
    obtain ⟨r, hq, rfl⟩ := List.mem_map.mp hp
    exact LamX.TabS.nil (hT _ (List.mem_map.mpr ⟨r, hq, rfl⟩))
  · obtain ⟨_, _, _, _, _, _, _, _, _, _, _, _, y⟩ := y
    exact y
section
variable {c : Pm} {Wx : WX} {X : Cx} {fu n k : Nat} {W W' W1 W2 W3 : Dr} {F0 H0 F H F' H' F1 H1 F2 H2 F3 H3 Hs : Hp} {ρ ρ' : En} {σ σ' : L2.St} {u w : V} {x y v : Vl} {Q : VK} {us : List V} {vs : List Vl} {pos : Pos}
theorem boot_repr' : bootBuiltins "repr" = some (.builtin "repr") := by first | rfl | decide +kernel
end
end Z

namespace Z
open PySem PySem.Spec PyProof.Rows L2
open Classical
section
variable {c : Pm} {Wx : WX} {X : Cx} {fu n k : Nat} {W W' W1 W2 W3 : Dr} {F0 H0 F H F' H' F1 H1 F2 H2 F3 H3 Hs : Hp} {ρ ρ' : En} {σ σ' : L2.St} {u w : V} {x y v : Vl} {Q : VK} {us : List V} {vs : List Vl} {pos : Pos}
end
end Z

namespace Z
open PySem PySem.Spec PyProof.Rows L2
open Classical
section
variable {c : Pm} {Wx : WX} {X : Cx} {fu n k : Nat} {W W' W1 W2 W3 : Dr} {F0 H0 F H F' H' F1 H1 F2 H2 F3 H3 Hs FF : Hp} {ρ ρ' : En} {σ σ' : L2.St} {u w : V} {x y v : Vl} {Q : VK} {us : List V} {vs : List Vl} {pos : Pos}
end
end Z

namespace Z
open PySem PySem.Spec PyProof.Rows L2
open Classical
section
variable {c : Pm} {Wx : WX} {X : Cx} {fu n k : Nat} {W W' W1 W2 W3 : Dr} {F0 H0 F H F' H' F1 H1 F2 H2 F3 H3 Hs : Hp} {ρ ρ' : En} {σ σ' : L2.St} {u w : V} {x y v : Vl} {Q : VK} {us : List V} {vs : List Vl} {pos : Pos}
theorem val_imm (R : Rel c F0 H0 ρ σ F H W) (kv : ValOk c ρ σ Hs F H u v) (m : v.d.imm = true) : Rep c F u v.d := by
  have r := kv.rep R rfl fun F H p h => by
    cases e : v.d <;> rw [e] at h m <;> first | exact h.elim | (simp [D.imm] at m; done)
  obtain ⟨a1, a2⟩ := Fz_soft R kv.t_own
  exact Rep.soft a1 a2 r m
end
end Z

namespace Z
open PySem PySem.Spec PyProof.Rows L2
open Classical
section
variable {c : Pm} {Wx : WX} {X : Cx} {fu n k : Nat} {W W' W1 W2 W3 : Dr} {F0 H0 F H F' H' F1 H1 F2 H2 F3 H3 Hs : Hp} {ρ ρ' : En} {σ σ' : L2.St} {u w : V} {x y v : Vl} {Q : VK} {us : List V} {vs : List Vl} {pos : Pos}
theorem Rel.un {i : Nat} (R : Rel c F0 H0 ρ σ F H W) : Rel c F0 H0 (ρ.set i .un) σ F H W := by
  refine ⟨by rw [List.length_set]; exact R.len, R.stp, fun j s e => ?_, fun j1 j2 d1 d2 p e1 e2 e3 e4 => ?_⟩
  · by_cases q : i = j
    · subst q
      have hl : i < ρ.length := by
        have := (List.getElem?_eq_some_iff.mp e).1
        rwa [List.length_set] at this
      rw [List.getElem?_set_self hl] at e
      cases e
      have hs : i < σ.length := R.len ▸ hl
      show σ[i]? ≠ none
      rw [List.getElem?_eq_getElem hs]
      exact fun z => nomatch z
    · rw [List.getElem?_set_ne q] at e
      exact R.slot j s e
  · have a : ∀ {j : Nat} {d' : D}, (ρ.set i .un)[j]? = some (.own d') → ρ[j]? = some (.own d') := fun {j d'} e => by
      by_cases q : i = j
      · subst q
        have hl : i < ρ.length := by
          have := (List.getElem?_eq_some_iff.mp e).1
          rwa [List.length_set] at this
        rw [List.getElem?_set_self hl] at e
        cases e
      · rwa [List.getElem?_set_ne q] at e
    exact R.dist j1 j2 d1 d2 p (a e1) (a e2) e3 e4
theorem Rel.kill (R : Rel c F0 H0 ρ σ F H W) : ∀ is : List Nat, Rel c F0 H0 (Z.wip ρ is) σ F H W
  | [] => R
  | i :: is => (R.kill is).un
theorem kl_ok {D : Ends} {b : S} {is js : List Nat} (h : rdS c Wx fu (.kl is b js) D σ H) : rdS c Wx fu b D σ H := by
  obtain ⟨F0, H0, ρ, F, W, R, hP⟩ := h
  refine ⟨F0, H0, Z.wip ρ is, F, W, R.kill is, ?_⟩
  simp only [evS] at hP
  revert hP
  cases evS fu b (Z.wip ρ is) W with
  | nx ρ' W' => exact fun h σ' F' H' R e => h σ' F' H' (R.kill js) e
  | bk ρ' W' => exact fun h σ' F' H' R e => h σ' F' H' (R.kill js) e
  | ct ρ' W' => exact fun h σ' F' H' R e => h σ' F' H' (R.kill js) e
  | rt v ρ W => exact fun h => h
  | rt2 i y ρ W => exact fun h => h
  | ex x ρ W => exact fun h => h
  | stk => exact fun h => h
theorem z_kl (is js : List Nat) {st : Stmt} {b : S} (h : PS X st (rdS c Wx fu b)) : PS X st (rdS c Wx fu (.kl is b js)) := ps_wk h fun _ _ _ => kl_ok
theorem z_kls (is js : List Nat) {st : List Stmt} {b : S} (h : PSs X st (rdS c Wx fu b)) : PSs X st (rdS c Wx fu (.kl is b js)) := pss_wk h fun _ _ _ => kl_ok

def pdv (d : D) : PyData := d.pd.getD .none
def leD (a b : D) : Bool := PySem.W.dataLe false pdv a b
noncomputable def sortL (xs : List D) : List D := xs.mergeSort (PySem.W.dataLe false pdv)
def SortOk (xs : List D) : Prop := (∀ x ∈ xs, ∃ p, x.pd = some p) ∧ PySem.W.AllAlike (xs.map pdv) ∧ PySem.W.Sortable (xs.map pdv)
def rSortD (c : Pm) : List V → Hp → VK → Prop := fun vs H Q => ∃ (a : Addr) (us : List V) (F : Hp) (xs : List D), vs = [.ref a] ∧ H a = some (.lst us) ∧ Same F H ∧ RepL c F us xs ∧ SortOk xs ∧ ∀ us' p, RepL c F us' (sortL xs) → H p = none → Q (.ref p) (upd H p (.lst us'))
theorem each_of_rep {R : Value → D → Prop} {F : Hp} (hR : ∀ v u d, RelV u v → Rep c F u d → R v d) : ∀ {us : List V} {vs : List Value} {xs : List D}, Vals us vs → RepL c F us xs → PySem.W.EachIs R vs xs
  | _, _, _, .nil, .nil => .nil
  | _, _, _, .cons r t, .cons r' t' => .cons (hR _ _ _ r r') (each_of_rep hR t t')
theorem rep_of_each {F : Hp} : ∀ {vs : List Value} {xs : List D}, PySem.W.EachIs (fun v d => ∃ u, RelV u v ∧ Rep c F u d) vs xs → ∃ us, Vals us vs ∧ RepL c F us xs
  | _, _, .nil => ⟨[], .nil, .nil⟩
  | _, _, .cons ⟨u, h1, h2⟩ t => by
    obtain ⟨us, h3, h4⟩ := rep_of_each t
    exact ⟨u :: us, .cons h1 h3, .cons h2 h4⟩
theorem EachIs.and {R S : Value → D → Prop} : ∀ {vs : List Value} {xs : List D}, PySem.W.EachIs R vs xs → (∀ v x, x ∈ xs → R v x → S v x) → PySem.W.EachIs S vs xs
  | _, _, .nil, _ => .nil
  | _, _, .cons h t, k => .cons (k _ _ List.mem_cons_self h) (EachIs.and t fun v x hx => k v x (List.mem_cons_of_mem _ hx))
theorem cr_sortedD (hk : X.K = c.K) (hu : X.A.units + 64 < cLine) : CallR X (.builtin "sorted") (rSortD c) := by
  intro pins s σ H vs us Q I r h
  obtain ⟨a, zs, F, xs, rfl, hs, sF, rx, ⟨hp, hal, hso⟩, q⟩ := h
  obtain ⟨its, rv, hl, hz⟩ := I.list (a := a) (xs := zs) (.inl (.inl hs))
  rw [Vals.ref1 r]
  have e := each_of_rep (c := c) (F := F) (R := fun v d => ∃ u, RelV u v ∧ Rep c F u d) (fun v u d h1 h2 => ⟨u, h1, h2⟩) rv rx
  refine PySem.W.sorted_data (β := D) (enc := pdv) (bs := xs) (R := fun v d => ∃ u, RelV u v ∧ Rep c F u d) hl.isList e ?_ hal hso (by rw [← rx.length]; exact hz) (fun b hb => ?_) fun out ho eo => ?_
  · refine EachIs.and e fun v x hx ⟨u, h1, h2⟩ => ?_
    obtain ⟨p, hp⟩ := hp x hx
    have hd : Dp X.K H u p := by rw [hk]; exact dp_mono sF (rep_dp _ _ _ _ hp h2)
    obtain ⟨as, ha⟩ := Dp.reads I p u v hd h1
    refine ⟨as, ?_⟩
    unfold pdv; rw [hp]; exact ha
  · obtain ⟨p, hp⟩ := hp b hb
    have hd := (pyN_ok _ _ _ hp).2
    have : pdv b = p := by unfold pdv; rw [hp]; rfl
    rw [this]
    omega
  · obtain ⟨us', k1, k2⟩ := rep_of_each eo
    obtain ⟨ep, he'⟩ := PyProof.Rows.sortedAll_at s.heap its out.toArray
    have hlen : us'.length ≤ sizeLine := by
      rw [k1.length, ho, ← rx.length]
      exact hz
    exact ⟨.ref _, upd H (s.heap.objs.size + 1) (.lst us'), I.laid (t' := s.toks) (fun _ _ => PyProof.Rows.sortedAll_old) (Nat.le_succ _) ⟨hlen, out, ep, k1, he'⟩, rfl, q _ _ k2 (I.hok.fresh (Nat.le_succ _))⟩
def rSortDT (c : Pm) : List V → Hp → VK → Prop := fun vs H Q => ∃ (a : Addr) (ks : List (List Key × V)), vs = [.ref a] ∧ Rd H a (.dT ks) ∧ SortOk (ks.map fun q => keyT q.1) ∧ ∀ us' bs p, IsKeys H ks bs → (∀ F : Hp, (∀ b ∈ bs, F b = H b) → RepL c F us' (sortL (ks.map fun q => keyT q.1))) → H p = none → Q (.ref p) (upd H p (.lst us'))
theorem repl_keys : ∀ {F : Hp} (k : List Key), RepL c F (k.map kV) (k.map keyD)
  | _, [] => .nil
  | _, .inl i :: k => .cons (.int i) (repl_keys k)
  | _, .inr i :: k => .cons (.str i) (repl_keys k)
theorem keys_rep {F : Hp} : ∀ {ks : List (List Key × V)} {bs : List Addr}, IsKeys H ks bs → (∀ b ∈ bs, F b = H b) → RepL c F (bs.map V.ref) (ks.map fun q => keyT q.1)
  | _, _, .nil, _ => .nil
  | _, _, .cons h t, e => .cons (.tup (by rw [e _ List.mem_cons_self]; exact h) (repl_keys _)) (keys_rep t fun b hb => e b (List.mem_cons_of_mem _ hb))
theorem cr_sortedDT (hk : X.K = c.K) (hu : X.A.units + 64 < cLine) (hc : X.calm = true) : CallR X (.builtin "sorted") (rSortDT c) := by
  intro pins s σ H vs us Q I r h
  obtain ⟨d, kvs, rfl, hd, ⟨hp, hal, hso⟩, q⟩ := h
  rw [Vals.ref1 r]
  obtain ⟨z, hs, ks, pr, o, es, ep, ho, hx, hdt, he, hn⟩ := (show ObjOk X.prog X.w H s.heap d (.dT kvs) from hd.ok I.hok)
  have l1 : es.size = ks.length := size_of_entries he
  have l2 : kvs.length = ks.length := Paired.len pr
  refine Calls.call_function_entry PyProof.Rows.kind_sorted PyProof.Rows.plain_sorted PyProof.Rows.entry_sorted (PyProof.Rows.args_sorted1 _) ?_
  unfold Builtin.«sorted»
  refine wpAny_bind (m := checkCount "sorted" 1 1 _) (wpAny_pure ?_)
  refine wpAny_bind (PySem.W.kdu_collect (A := X.A.in1) (kdl_raw hs hx hdt) (I.ok.hd hc) ho (by omega) fun h' tk acc kp it => ?_)
  have ea : acc.toList = ks.map fun x => Value.ref x.2.1 := by
    have hl : acc.toList.length = ks.length := by rw [Array.length_toList, it.1]; exact l1
    apply List.ext_getElem?
    intro j
    rw [List.getElem?_map]
    cases hj : acc.toList[j]? with
    | none =>
      have h1 := List.getElem?_eq_none_iff.mp hj
      rw [List.getElem?_eq_none (by omega)]
      rfl
    | some v =>
      obtain ⟨en, hen, hv⟩ := it.2 j v (by rw [← Array.getElem?_toList]; exact hj)
      have qe := entry_at he j
      rw [hen] at qe
      cases hb : ks[j]? with
      | none =>
        rw [hb] at qe
        exact nomatch (show some en = none from qe)
      | some b =>
        rw [hb] at qe
        have e2 : en = entryOfKey (tupleKind (mixKind X.prog X.w)) b := Option.some.inj qe
        rw [hv, e2]
        rfl
  generalize hbs : ks.map (fun x => x.2.1) = bs
  have eb : acc.toList = bs.map Value.ref := by rw [ea, ← hbs, List.map_map]; rfl
  have ik : IsKeys H kvs bs := hbs ▸ isKeys_of pr
  generalize hF : (fun a => if a ∈ bs then H a else none : Hp) = F
  have hFb : ∀ b ∈ bs, F b = H b := fun b hb => by rw [← hF]; exact if_pos hb
  have sF : Same F H := fun a o e => by
    rw [← hF] at e
    by_cases m : a ∈ bs
    · simpa [m] using e
    · simp [m] at e
  have rx := keys_rep (c := c) (F := F) ik hFb
  have rv : Vals (bs.map V.ref) acc.toList := by rw [eb]; exact vals_refs _
  generalize hvs : acc.toList = vs at rv
  generalize hxs : (kvs.map fun q => keyT q.1) = xs at rx hp hal hso q
  have hz : vs.length ≤ sizeLine := by rw [← rv.length, rx.length, ← hxs, List.length_map]; exact z
  have I1 : Inv X pins σ H { s with heap := h', toks := tk } := I.kept kp
  refine wpAny_bind (wpAny_newList ?_ hz)
  have hoL : (h'.push (seqObj "list" vs.toArray 0)).get? h'.objs.size = some (seqObj "list" vs.toArray 0) := Heap.get?_push_size _ rfl
  show wpAny _ _ _ _ _ { s with heap := h'.push (seqObj "list" vs.toArray 0), toks := tk }
  have e := each_of_rep (c := c) (F := F) (R := fun v d => ∃ u, RelV u v ∧ Rep c F u d) (fun v u d h1 h2 => ⟨u, h1, h2⟩) rv rx
  have keep : ∀ b o, h'.get? b = some o → (PySem.W.sortingHeap (h'.push (seqObj "list" vs.toArray 0)) h'.objs.size vs).get? b = some o := fun b o e => by
    have hb : b < h'.objs.size := Heap.lt_size e
    exact PySem.W.sortingHeap_old (Nat.ne_of_lt hb) (Heap.get?_push_of_some _ e)
  have er : PySem.W.EachIs (fun v b => ∃ as, Reads (PySem.W.sortingHeap (h'.push (seqObj "list" vs.toArray 0)) h'.objs.size vs) v (pdv b) as) vs xs := by
    refine EachIs.and e fun v x hx ⟨u, h1, h2⟩ => ?_
    obtain ⟨p, hp⟩ := hp x hx
    have hd : Dp X.K H u p := by rw [hk]; exact dp_mono sF (rep_dp _ _ _ _ hp h2)
    obtain ⟨as, ha⟩ := Dp.reads I1 p u v hd h1
    refine ⟨as, PyProof.Rows.Reads.keeps keep ?_⟩
    unfold pdv; rw [hp]; exact ha
  refine wpAny_bind (wpAny_holding (wpAny_call_entry PyProof.Rows.slot_list_sort ⟨_, hoL, rfl⟩ PyProof.Rows.entry_list_sort
    (PySem.W.list_sort_vals (κ := PySem.W.dataKind (PySem.W.sortingHeap (h'.push (seqObj "list" vs.toArray 0)) h'.objs.size vs) (xs.map pdv)) (s := { s with heap := h'.push (seqObj "list" vs.toArray 0), toks := tk }) hoL
      (PySem.W.SortsAt.data (s := { s with heap := PySem.W.sortingHeap (h'.push (seqObj "list" vs.toArray 0)) h'.objs.size vs, toks := tk }) (PySem.W.each_map (R := fun v d => ∃ as, Reads (PySem.W.sortingHeap (h'.push (seqObj "list" vs.toArray 0)) h'.objs.size vs) v d as) pdv er) hal hso (PySem.W.bound_map (enc := pdv) fun b hb => ?_)) hz ⟨_, rfl, ?_⟩) (PyProof.Rows.args_list_sort _)))
  · obtain ⟨p, hp⟩ := hp b hb
    have hd := (pyN_ok _ _ _ hp).2
    have : pdv b = p := by unfold pdv; rw [hp]; rfl
    rw [this]
    show X.A.units + 2 + p.depth < cLine
    omega
  · have eo := PySem.W.sortVals_data (enc := pdv) (R := fun v d => ∃ u, RelV u v ∧ Rep c F u d) false e er hal
    obtain ⟨us', k1, k2⟩ := rep_of_each eo
    obtain ⟨e', he'⟩ := PyProof.Rows.sortedHeap_at (vs := vs) (out := (PySem.W.sortVals (PySem.W.dataKind (PySem.W.sortingHeap (h'.push (seqObj "list" vs.toArray 0)) h'.objs.size vs) (xs.map pdv)) false vs vs).toArray) hoL
    have hlen : us'.length ≤ sizeLine := by
      rw [k1.length, PySem.W.sortVals_length false rfl]
      exact hz
    refine wpAny_pure ⟨_, rfl, .ref h'.objs.size, upd H h'.objs.size (.lst us'), I1.laid (t' := tk) (fun b u e => ?_) (Nat.le_refl _)
      (show ObjOk X.prog X.w _ _ _ (.lst us') from ⟨hlen, _, e', k1, he'⟩), rfl, q us' bs _ ik (fun F2 hF2 => k2.mono fun a o e => by
      rw [← hF] at e
      by_cases m : a ∈ bs
      · rw [hF2 a m]; simpa [m] using e
      · simp [m] at e) (I1.hok.fresh (Nat.le_refl _))⟩
    have hb : b < h'.objs.size := Heap.lt_size e
    rw [PyProof.Rows.sortedHeap_old (Nat.ne_of_lt hb) (by rw [size_push']; exact Nat.lt_succ_of_lt hb)]
    exact Heap.get?_push_of_some _ e
noncomputable def sortAnyD : List D → Option (Bool × D)
  | [.lst xs] => if SortOk xs then some (true, .lst (sortL xs)) else none
  | [.dic false kvs] => sortedDD [.dic false kvs]
  | [.dic true kvs] => if SortOk (kvs.map (·.1)) then some (true, .lst (sortL (kvs.map (·.1)))) else none
  | _ => none
theorem isKeys_tup : ∀ {ks : List (List Key × V)} {bs : List Addr}, IsKeys H ks bs → ∀ b ∈ bs, ∃ xs, H b = some (.tup xs)
  | _, _, .nil, b, hb => by simp at hb
  | _, _, .cons h t, b, hb => (List.mem_cons.mp hb).elim (fun e => e ▸ ⟨_, h⟩) (isKeys_tup t b)
theorem Stp.addT {bs : List Addr} (S : Stp c W F H F H) (hb : ∀ b ∈ bs, ∃ xs, H b = some (.tup xs)) : Stp c W F H (fun a => if a ∈ bs then H a else F a) H := by
  have av : ∀ a ∈ c.mv, a ∉ bs := fun a ha m => by
    obtain ⟨xs, e⟩ := hb a m
    unfold Pm.mv at ha
    rcases List.mem_append.mp ha with ha | ha
    · rcases S.dr with h | ⟨a0, a1, h, n, e0, e1⟩
      · rw [h] at ha; cases ha
      · rw [h] at ha
        simp only [List.mem_cons, List.not_mem_nil, or_false] at ha
        rcases ha with rfl | rfl
        · rw [e] at e0; cases e0
        · rw [e] at e1; cases e1
    · obtain ⟨p, hp, rfl⟩ := List.mem_map.mp ha
      obtain ⟨ps, e1, _⟩ := S.tabs p hp
      rw [e] at e1
      cases e1
  refine ⟨fun a o e => ?_, fun a o e => ?_, fun _ _ e _ _ => e, fun a e t => ?_, fun a o e => ?_, fun a ha => ?_, S.dr, fun hd => ?_, S.tabs, S.ed.up (fun a o e => by
    by_cases m : a ∈ bs
    · simp only [if_pos m]; exact S.sub _ _ e
    · simp only [if_neg m]; exact e) fun a o e _ => e⟩
  · by_cases m : a ∈ bs
    · simp only [if_pos m]; exact S.sub _ _ e
    · simp only [if_neg m]; exact e
  · by_cases m : a ∈ bs
    · simpa only [if_pos m] using e
    · simp only [if_neg m] at e; exact S.sub _ _ e
  · have m : a ∉ bs := fun m => by
      obtain ⟨xs, e1⟩ := hb a m
      obtain ⟨o, e2, ob⟩ := t
      rw [e1] at e2
      cases e2
      exact ob.2 _ rfl
    simp only [if_neg m]; exact e
  · by_cases m : a ∈ bs
    · simp only [if_pos m] at e
      obtain ⟨xs, e1⟩ := hb a m
      rw [e1] at e
      cases e
      exact nt_tup
    · simp only [if_neg m] at e; exact S.nt _ _ e
  · simp only [if_neg (av a ha)]; exact S.av a ha
  · have e := S.cl hd
    by_cases m : c.d2 ∈ bs
    · simp only [if_pos m]; exact S.sub _ _ e
    · simp only [if_neg m]; exact e
theorem x_sortedA {a : Expr} {ea : E} {p : Pos} (n : Cn c Wx k X) (hm : X.mg "sorted" = none) (ha : PA X [a] (rdL c Wx ea)) (hg : Gl X "sorted" := by rfl) (he : starEach [a] X.env = (false, eval a X.env) :: starEach [] X.env := by rfl) (hpl : (backTo pos (starEach [] X.env)).any (·.1) = false := by rfl) :
    PE X (.Call (.Name "sorted" p) [a] [] pos) (rdE c Wx (.call (pureG sortAnyD) ea)) := by
  refine x_bltB n (fun vs H Q E h => ?_) (callR_or (cr_sortedD (c := c) n.hk n.hu) (callR_or (call_sortedD n.calm) (cr_sortedDT (c := c) n.hk n.hu n.calm))) boot_sorted' hm ha hg (by decide) (by decide) he hpl
  obtain ⟨F, xs, W, r, rr, S, hf, hQ⟩ := spG_pure h
  match xs, rr, hf with
  | [.lst zs], .cons r1 .nil, hf =>
    simp only [sortAnyD] at hf
    split at hf <;> cases hf
    rename_i hl
    obtain ⟨p, ws, rfl, e1, e2⟩ := r1.lstI
    exact .inl ⟨p, ws, F, zs, rfl, S.sub _ _ e1, S.sub, e2, hl, fun us' q r' hp => fin_newL S r' hQ q hp⟩
  | [.dic false kvs], .cons r1 .nil, hf =>
    simp only [sortAnyD, sortedDD, Option.bind_eq_some_iff] at hf
    obtain ⟨ks, hk, hf⟩ := hf
    split at hf <;> cases hf
    rename_i hl
    cases r1 with
    | dicK h1 h2 h3 => exact .inr (.inl ⟨_, _, ks, rfl, Rd.mono S.sub h1, keys_strs (kv_of h2 h3) hk, hl, fun ys q p1 p2 hp => by
        rw [sortS_eq p1 p2] at hQ
        exact fin_newL S (rep_strs ys) hQ q hp⟩)
  | [.dic true kvs], .cons r1 .nil, hf =>
    simp only [sortAnyD] at hf
    split at hf <;> cases hf
    rename_i hl
    cases r1 with
    | dicT h1 h2 h3 =>
      rename_i ks
      have ek : kvs.map (·.1) = ks.map fun q => keyT q.1 := h2
      refine .inr (.inr ⟨_, _, rfl, Rd.mono S.sub h1, by rw [← ek]; exact hl, fun us' bs q ik r' hp => ?_⟩)
      have S2 := S.addT (isKeys_tup ik)
      have r2 : RepL c (fun a => if a ∈ bs then H a else F a) us' (sortL (kvs.map (·.1))) := by
        rw [ek]
        exact r' _ fun b hb => if_pos hb
      have hq : (fun a => if a ∈ bs then H a else F a : Hp) q = none := by
        cases e : (fun a => if a ∈ bs then H a else F a : Hp) q with
        | none => rfl
        | some o =>
          have := S2.sub _ _ e
          rw [hp] at this
          cases this
      exact hQ _ _ _ (S2.trans (S2.refl.make hp)) ⟨q, rfl, hq, fun h => S2.sm h hp, .of hp, us', upd_same, r2⟩
end
end Z

namespace Z
open PySem PySem.Spec PyProof.Rows L2
open Classical
def Pin (o : Obj) : HO := .frz o (.ext fun _ => True)
noncomputable def pinned (L : List Addr) (h : Heap) (H : Hp) : Hp := fun b => if b ∈ L then (h.get? b).map Pin else H b
noncomputable def loose (L : List Addr) (H : Hp) : Hp := fun b => if b ∈ L then none else H b
noncomputable def repin (L : List Addr) (H0 H : Hp) : Hp := fun b => if b ∈ L then H0 b else H b
section
variable {P : Program} {w : World} {L : List Addr} {h h' base : Heap} {H H' HZ : Hp} {a b : Addr} {o : HO} {outer : List Env} {K : PySem.W.Frag} {mg : Str → Option Value} {A : Around} {s s' : Shared} {Q Q' : VK} {u : Value} {E : XK}
theorem pinned_in (hb : b ∈ L) : pinned L h H b = (h.get? b).map Pin := if_pos hb
theorem pinned_out (hb : b ∉ L) : pinned L h H b = H b := if_neg hb
structure Pb (L : List Addr) (outer : List Env) (base h : Heap) (H : Hp) : Prop where
  no : ∀ b ∈ L, H b = none
  at_ : ∀ b ∈ L, ∃ o, h.get? b = some o
  ba : ∀ b ∈ L, base.get? b = none
  fr : ∀ b ∈ L, b ∉ frs outer
theorem Pb.pin (p : Pb L outer base h H) (hb : b ∈ L) : ∃ o, h.get? b = some o ∧ pinned L h H b = some (Pin o) := by
  obtain ⟨o, e⟩ := p.at_ b hb
  exact ⟨o, e, by rw [pinned_in hb, e]; rfl⟩
theorem Pb.out (p : Pb L outer base h H) (e : H b = some o) : b ∉ L := fun hb => by rw [p.no b hb] at e; cases e
theorem Pb.up (p : Pb L outer base h H) (e : H b = some o) : pinned L h H b = some o := (pinned_out (p.out e)).trans e
end
end Z

namespace Z
open PySem PySem.Spec PyProof.Rows L2
open Classical
section
variable {X : Cx} {pins : List (Addr × Obj)} {σ : L2.St} {H HZ : Hp} {s s1 : Shared}
def tJob (i : Nat) (f c' : Addr) (q : Str) (L : List Addr) (pin : Hp) (E : XK) (tl : XK → Hp → VK → Prop) : TE := fun σZ HZ Q => σZ[i]? = some (some (.ref f)) ∧ (∀ b ∈ L, HZ b = pin b) ∧ HZ c' = some (LamX.CodeO c' q) ∧
  tl (fun cls d H' => (∀ b ∈ L, H' b = none) → E cls d (repin L HZ H')) (loose L HZ) (fun u H' => (∀ b ∈ L, H' b = none) → Q u (repin L HZ H'))
end
end Z

namespace Z
open PySem PySem.Spec PyProof.Rows L2
open Classical
section
variable {c : Pm} {Wx : WX} {X : Cx} {fu n k : Nat} {W W' W1 W2 W3 : Dr} {F0 H0 F H F' H' F1 H1 F2 H2 F3 H3 Hs : Hp} {ρ ρ' : En} {σ σ' : L2.St} {u w : V} {x y v : Vl} {Q : VK} {us : List V} {vs : List Vl} {pos : Pos} {L : List Addr}
end
end Z

namespace Z
open PySem PySem.Spec PyProof.Rows L2
open Classical
section
variable {c : Pm} {Wx : WX} {X : Cx} {fu n k mm : Nat} {W W' W1 W2 W3 : Dr} {F0 H0 F H F' H' F1 H1 F2 H2 F3 H3 Hs Hl H4 : Hp} {ρ ρ' : En} {σ σ' : L2.St} {u w e2 : V} {x y v : Vl} {Q : VK} {us : List V} {vs : List V} {pos : Pos} {L : List Addr} {f a1 : Addr} {N : List Str} {d2 : D} {xs : List D}
structure JobR (c : Pm) (F Hl H : Hp) (W : Dr) (L : List Addr) (pin : Hp) (c' : Addr) (q : Str) (oc : Out Vl) (tl : XK → Hp → VK → Prop) : Prop where
  st : Stp c W F H F H
  pin : ∀ b ∈ L, H b = pin b
  pn : ∀ b ∈ L, ∃ o, H b = some (Pin o)
  no : ∀ b ∈ L, Hl b = none
  fo : ∀ b ∈ L, F b = none
  out : ∀ b, b ∉ L → H b = Hl b
  code : H c' = some (LamX.CodeO c' q)
  run : ∀ (E : XK) (H3 : Hp) (Q : VK), Stp c W F Hl F (loose L H3) → (match oc with
    | .ok v W2 => ∀ u F2 H2, Stp c W2 F (loose L H3) F2 H2 → (v.k = .pl → v.t = [] → Rep c F2 u v.d) → Q u H2
    | .ex x W2 => ∀ cls dd F2 H2, Stp c W2 F (loose L H3) F2 H2 → ExOk c F2 x cls dd → E cls dd H2
    | .stk => False) → tl E (loose L H3) Q
def SaidB (c : Pm) (Z : Cx) (j : Nat) (a : Str) (h : Out Vl → Out Vl) (body : List Stmt) : Prop :=
  ∀ (f c' : Addr) (q : Str) (L : List Addr) (pin : Hp) (tl : XK → Hp → VK → Prop) (W : Dr) (oc : Out Vl) (F Hl H : Hp) (Q : VK),
    (∀ (Y : Cx) (Wx : WX) (E : XK) (i : Nat) (p1 p2 : Pos), Y.prog = Z.prog → Y.w = Z.w → Y.K = Z.K → Y.mg = Z.mg → Y.base = Z.base → Room (j + 1) Y.A → Takes Y Wx → (∀ cls d σ' H', E cls d H' → Wx cls d σ' H') → Y.N[i]? = some a → Vis Y.env.scope a →
      PE Y (.Call (.Name a p1) [] [] p2) (tJob i f c' q L pin E tl)) →
    JobR c F Hl H W L pin c' q oc tl →
    (match h oc with
      | .ok v W' => ∀ u F2 H2, Stp c W' F H F2 H2 → (∃ r, v = vo r [] ∧ ResOk c H F2 H2 u r) → Q u H2
      | _ => False) →
    ∃ t, PSs Z body t ∧ t { nx := fun _ H' => Q .non H', rt := Q } (L2.start Z.N [.ref f]) H
structure SaidF (c : Pm) (P : Program) (w : World) (K : PySem.W.Frag) (mg : Str → Option Value) (base : Heap) (j : Nat) (x : Str) (h : Out Vl → Out Vl) : Prop where
  ex : ∃ (g : Addr) (fd : FuncData) (st : Stmt) (Ng : List Str) (a : Str), Fun K x x st g fd ∧ mg x = some (.ref g) ∧ L2.Binds K fd [a] [] ∧ FnScope Ng [a] (defScope st) ∧ (a == ("__debug__" : Str)) = false ∧ (a == ("__classdict__" : Str)) = false ∧
    ∀ (A : Around) (outer : List Env) (s : Shared) (H : Hp), Room (j + 3) (A.deeper (envOfC x (defScope st) s.heap.objs.size g fd.code)) → SaidB c (cxOf C8.CX0 P w K mg base Ng x (defScope st) g fd.code A outer s H C8.E0) j a h (defBody st)
  ne : ∀ o x W, h o ≠ .ex x W
theorem e_dic1 {a : Str} {i : Int} {j1 j2 p1 p2} : PE X (.Dict [some (.Constant (.str a) j1 p1)] [.Constant (.int i) j2 p2] pos) (rdE c Wx (.cst (.dic false [(.str a, .int i)]))) :=
  pe_wk (pe_disp (pps_cons pe_str pe_int pps_nil) rfl rfl (by simp) (by simp)) fun σ H Q ⟨F0, H0, ρ, F, W, R, hP⟩ => by
    simp only [ev] at hP
    intro p hp
    have S := R.refl.makeF (o := .dK [(Sum.inr a, .int i)]) hp
    refine ⟨upd_same, [(Sum.inr a, .int i)], rfl, by simp, ?_⟩
    rw [upd_upd]
    exact hP _ _ _ S (.of_rep (.dicK (.inl upd_same) rfl (.cons (.int i) .nil)) rfl rfl)
end
end Z

namespace Z
open PySem PySem.Spec PyProof.Rows L2
open Classical
theorem tuple_mulS (l : Addr) (items : Array Value) (n : Nat) (dd : Option Addr) (sl : Array (Option Value)) (x : Int) (u : Tok) (c0 : (decide (x < -(2 ^ 63)) || decide (x ≥ 2 ^ 63)) = false) (c1 : (items.isEmpty || x == 1) = true) :
    Meets (Builtin.«tuple.__mul__» ⟨[.ref l, .int x u], []⟩) (fun _ R s => s.heap.get? l = some { cls := .type "tuple", dict := dd, data := .seq items n, slots := sl } ∧ R (.ok (.ret (Value.ref l))) s) :=
  .of_wp fun prog w A R s h => by
    obtain ⟨hp, g, d, tk, os⟩ := s
    obtain ⟨hl, h⟩ := h
    have f1 := AutoSeq1.idx_int
    wp_walk using wpAny_loadPart' hl
    repeat (first
      | (refine wpAny_ite_false (decide_eq_false (by rw [c0]; exact Bool.false_ne_true)) ?_; wp_walk using wpAny_loadPart' hl)
      | (refine wpAny_ite_true (decide_eq_true c1) ?_; wp_walk using wpAny_loadPart' hl)
      | (refine wpAny_ite_true c1 ?_; wp_walk using wpAny_loadPart' hl))
    exact ⟨_, rfl, h⟩
theorem tuple_mul0 (l : Addr) (items : Array Value) (n : Nat) (dd : Option Addr) (sl : Array (Option Value)) (x : Int) (u : Tok) (c0 : (decide (x < -(2 ^ 63)) || decide (x ≥ 2 ^ 63)) = false) (c1 : (items.isEmpty || x == 1) = false) (c2 : (decide (x ≤ 0) || items.isEmpty) = true) :
    Meets (Builtin.«tuple.__mul__» ⟨[.ref l, .int x u], []⟩) (fun _ R s => s.heap.get? l = some { cls := .type "tuple", dict := dd, data := .seq items n, slots := sl } ∧
      R (.ok (.ret (Value.ref s.heap.objs.size))) { s with heap := s.heap.push { cls := Value.type "tuple", data := Data.seq #[] }, toks := s.toks }) :=
  .of_wp fun prog w A R s h => by
    obtain ⟨hp, g, d, tk, os⟩ := s
    obtain ⟨hl, h⟩ := h
    have f1 := AutoSeq1.idx_int
    wp_walk using wpAny_loadPart' hl
    repeat (first
      | (refine wpAny_ite_false (decide_eq_false (by rw [c0]; exact Bool.false_ne_true)) ?_; wp_walk using wpAny_loadPart' hl)
      | (refine wpAny_ite_false (decide_eq_false (by rw [c1]; exact Bool.false_ne_true)) ?_; wp_walk using wpAny_loadPart' hl)
      | (refine wpAny_ite_true (decide_eq_true c2) ?_; wp_walk using wpAny_loadPart' hl))
    exact ⟨_, rfl, h⟩
def rRepTA (K : PySem.W.Frag) : R2 := fun x y H Q => ∃ l k xs, x = .ref l ∧ y = .int k ∧ SqT K H l xs ∧ 0 ≤ k ∧ k ≤ 1000 ∧ xs.length ≤ 1000 ∧ ((xs = [] ∨ k = 1) → Q (.ref l) H) ∧ (xs ≠ [] → k ≠ 1 → ∀ p, H p = none → Q (.ref p) (upd H p (.tup (List.replicate k.toNat xs).flatten)))
section
variable {X : Cx} {c : Pm} {Wx : WX} {pos : Pos}
theorem op_repTA : OpR X (binaryOp .Mult) (rRepTA X.K) := by
  intro pins s σ H x y v u Q I rx ry h
  obtain ⟨l, k, xs, rfl, rfl, hT, h1, h2, hz, q1, q2⟩ := h
  by_cases hk : 2 ≤ k ∧ xs ≠ []
  · exact op_repT pins s σ H _ _ v u Q I rx ry ⟨l, k, xs, rfl, rfl, hT, hk.2, hk.1, h2, hz, q2 hk.2 (by omega)⟩
  cases rx
  obtain ⟨t, rfl⟩ := ry
  obtain ⟨its, r, ⟨⟨cls, dd, data, sl⟩, ho, hc, n, hd⟩, hs⟩ := I.tuple hT
  simp only at hc hd
  subst hc hd
  have hle : its.length = xs.length := r.length.symm
  have c0 : (decide (k < -(2 ^ 63)) || decide (k ≥ 2 ^ 63)) = false := by
    rw [decide_eq_false (by omega), decide_eq_false (by omega)] <;> rfl
  by_cases hs1 : xs = [] ∨ k = 1
  · have c1 : (its.toArray.isEmpty || k == 1) = true := by
      rcases hs1 with e | e
      · have : its = [] := by
          cases its with
          | nil => rfl
          | cons a b => rw [e] at hle; simp at hle
        subst this
        rfl
      · rw [e]; simp
    refine wpAny_binaryOp_repeat_ref (T := "tuple") (U := "int") (by decide) ⟨_, ho, rfl⟩ (fun s' => typeIs_int s' k t) noFill_tuple_mul F.fills_int_mul F.slot_int_rmul repeat_tuple F.slot_int_index.lookup
      (call_meets F.slot_int_rmul (typeIs_int s k t) F.entry_int_rmul (F.args_int_rmul_2 _ _) (int_rmul_tuple k t l its.toArray n dd sl)
        ⟨ho, rfl, ⟨_, ho, rfl⟩, call_meets F.slot_tuple_mul ⟨_, ho, rfl⟩ F.entry_tuple_mul (F.args_tuple_mul_2 _ _) (tuple_mulS l its.toArray n dd sl k t c0 c1) ⟨ho, ?_⟩⟩)
    exact ⟨.ref l, H, I, rfl, q1 hs1⟩
  · have hx : xs ≠ [] := fun e => hs1 (.inl e)
    have hk1 : k ≠ 1 := fun e => hs1 (.inr e)
    have hk0 : k = 0 := by
      by_cases z : 2 ≤ k
      · exact absurd ⟨z, hx⟩ hk
      · omega
    subst hk0
    have hi : its.toArray.isEmpty = false := by
      cases its with
      | nil => exact absurd (List.eq_nil_of_length_eq_zero hle.symm) hx
      | cons a b => rfl
    have c1 : (its.toArray.isEmpty || (0 : Int) == 1) = false := by rw [hi]; rfl
    have c2 : (decide ((0 : Int) ≤ 0) || its.toArray.isEmpty) = true := by rw [hi]; rfl
    refine wpAny_binaryOp_repeat_ref (T := "tuple") (U := "int") (by decide) ⟨_, ho, rfl⟩ (fun s' => typeIs_int s' 0 t) noFill_tuple_mul F.fills_int_mul F.slot_int_rmul repeat_tuple F.slot_int_index.lookup
      (call_meets F.slot_int_rmul (typeIs_int s 0 t) F.entry_int_rmul (F.args_int_rmul_2 _ _) (int_rmul_tuple 0 t l its.toArray n dd sl)
        ⟨ho, rfl, ⟨_, ho, rfl⟩, call_meets F.slot_tuple_mul ⟨_, ho, rfl⟩ F.entry_tuple_mul (F.args_tuple_mul_2 _ _) (tuple_mul0 l its.toArray n dd sl 0 t c0 c1 c2) ⟨ho, ?_⟩⟩)
    refine ⟨.ref s.heap.objs.size, _, I.laid (t' := s.toks) (o := .tup []) (fun b ob q => Heap.get?_push_of_some _ q) (Nat.le_refl _) ?_, rfl, q2 hx (by decide) _ (I.hok.fresh (Nat.le_refl _))⟩
    exact ⟨Nat.zero_le _, [], .nil, IsTup.new _ _⟩
def repTD : List D → Option (Bool × D)
  | [.tup a, .int k] => if 0 ≤ k ∧ k ≤ 1000 ∧ a.length ≤ 1000 then some (false, .tup (List.replicate k.toNat a).flatten) else none
  | _ => none
theorem x_repT {k : Nat} {a b : Expr} {ea eb : E} (n : Cn c Wx k X) (ha : PE X a (rdE c Wx ea)) (hb : PE X b (rdE c Wx eb)) : PE X (.BinOp a .Mult b pos) (rdE c Wx (.call (pureG repTD) (.cons ea (.cons eb .nil)))) := by
  refine pe_wk (pe_op op_repTA ha hb) fun σ H Q h => rdE_mono (call2_ok h) fun x H1 h => rdE_mono h fun y H2 h => ?_
  obtain ⟨F', xs, W', z, r, S, hf, hQ⟩ := spG_pure h
  obtain _ | ⟨r1, _ | ⟨r2, _ | _⟩⟩ := r
  rename_i d1 d2
  cases d1 <;> cases d2 <;> try (cases hf)
  rename_i xs i
  obtain ⟨l, vs, rfl, hT, r⟩ := r1.tupP
  have hf : (if 0 ≤ i ∧ i ≤ 1000 ∧ xs.length ≤ 1000 then some (false, D.tup (List.replicate i.toNat xs).flatten) else none) = some z := hf
  split at hf
  · rename_i hz
    cases hf
    refine ⟨l, i, vs, rfl, r2.intI, .inl (.inl (S.sub _ _ hT)), hz.1, hz.2.1, by rw [r.length]; exact hz.2.2, fun hs => ?_, fun h1 h2 p hp => ?_⟩
    · refine hQ _ F' H2 S ?_
      show Rep c F' (.ref l) (.tup (List.replicate i.toNat xs).flatten)
      have : (List.replicate i.toNat xs).flatten = xs := by
        rcases hs with e | e
        · subst e
          cases r
          simp
        · rw [e]; simp
      rw [this]
      exact .tup hT r
    · have S2 := S.makeF (o := .tup (List.replicate i.toNat vs).flatten) hp
      exact hQ _ _ _ S2 (.tup upd_same ((r.mono S2.f).times _))
  · cases hf
theorem names_set {F0 H : Hp} : ∀ (is : List Nat) {us : List V} {σ : L2.St} {Q : L2.St → Hp → Prop}, us.length = is.length → Q (setAll σ is us) H → gNames is us σ H Q
  | [], [], σ, Q, _, h => ⟨rfl, h⟩
  | i :: is, u :: us, σ, Q, hl, h => ⟨u, us, rfl, names_set (F0 := F0) is (by simpa using hl) h⟩
  | [], _ :: _, _, _, hl, _ => by simp at hl
  | _ :: _, [], _, _, hl, _ => by simp at hl
theorem z_parU {k fu : Nat} {tg : Expr} {es : List Expr} {ea : E} {is : List Nat} {m : Nat} {pt2} {k2} (n : Cn c Wx k X) (ha : PA X es (rdL c Wx ea)) (hg : PG X tg (gTup X.K m (gNames is))) (hm : m = is.length := by rfl) (hml : is.length ≤ 100 := by decide)
    (hs : swapsWithSole [tg] (.Tuple es k2 pt2) pos.line X.env = pure false := by rfl) (hw : swappedStores [tg] (.Tuple es k2 pt2) X.env = pure none := by rfl)
    (h1 : (assignEach [tg] X.env).map (·.2) = [assign tg X.env] := by rfl) : PS X (.Assign [tg] (.Tuple es k2 pt2) pos) (rdS c Wx fu (.par is ea)) := by
  refine ps_wk (ps_asg (pe_tup ha) hg hs hw h1) fun D σ H ⟨F0, H0, ρ, F, W, R, hP⟩ => ?_
  simp only [evS] at hP
  refine st_l R hP fun vs W1 us F1 H1 S1 A ap R1 hP => ?_
  have hl : vs.length = is.length := by
    by_cases h : vs.length = is.length ∧ is.Nodup
    · exact h.1
    · rw [if_neg h] at hP; exact hP.elim
  have hu : us.length = is.length := by rw [Paired.len A]; exact hl
  refine ⟨by rw [hu, sizeLine_eq]; omega, fun p hp => ⟨p, us, rfl, .inl (.inl upd_same), by rw [hu, hm], ?_⟩⟩
  have Sm := R1.stp.refl.make (o := .tup us) hp
  have A' : ArgOk c ρ σ H F1 (upd H1 p (.tup us)) us vs := Paired.mapP A fun _ _ z => z.step R1 Sm
  exact names_set (F0 := F1) is hu (par_ok R (R1.step Sm) (S1.trans Sm) A' ap hP)
end
end Z

namespace Z
open PySem PySem.Spec PyProof.Rows L2
open Classical
def scD : D → Option PyData
  | .int i => some (.int i)
  | .str x => some (.str x)
  | _ => none
def scV : V → Option PyData
  | .int i => some (.int i)
  | .str x => some (.str x)
  | _ => none
def keyPd : Key → PyData
  | .inl i => .int i
  | .inr x => .str x
def pdK : List (D × D) → Option (List (PyData × PyData))
  | [] => some []
  | (k, v) :: r => match scD k, scD v, pdK r with
    | some a, some b, some q => some ((a, b) :: q)
    | _, _, _ => none
def pdV : List (Key × V) → Option (List (PyData × PyData))
  | [] => some []
  | (k, v) :: r => match scV v, pdV r with
    | some b, some q => some ((keyPd k, b) :: q)
    | _, _ => none
section
variable {c : Pm} {Wx : WX} {X : Cx} {F : Hp} {pos : Pos} {k : Nat}
theorem scD_rep {u : V} {d : D} {p : PyData} (r : Rep c F u d) (h : scD d = some p) : scV u = some p := by
  cases r <;> first | exact h | (cases h)
theorem pdK_rep : ∀ {kvs : List (D × D)} {ks : List (Key × V)} {q : List (PyData × PyData)}, kvs.map (·.1) = ks.map (fun q => keyD q.1) → RepL c F (ks.map (·.2)) (kvs.map (·.2)) → pdK kvs = some q → pdV ks = some q
  | [], [], q, _, _, h => h
  | (k, v) :: r, (k', v') :: r', q, e, R, h => by
    simp only [List.map_cons, List.cons.injEq] at e
    obtain ⟨e1, e2⟩ := e
    simp only [List.map_cons] at R
    obtain _ | ⟨R1, R2⟩ := R
    simp only [pdK] at h
    cases h1 : scD k <;> cases h2 : scD v <;> cases h3 : pdK r <;> rw [h1, h2, h3] at h <;> simp only at h <;> try (cases h; done)
    rename_i A B R
    cases h
    have q1 := scD_rep R1 h2
    have q2 := pdK_rep e2 R2 h3
    have q3 : keyPd k' = A := by
      rw [e1] at h1
      cases k' <;> simp only [keyD, scD] at h1 <;> exact Option.some.inj h1
    simp only [pdV, q1, q2, q3]
  | [], _ :: _, _, e, _, _ => by simp at e
  | _ :: _, [], _, e, _, _ => by simp at e
theorem sc_reads {h : Heap} {v : V} {u : Value} {p : PyData} (r : RelV v u) (e : scV v = some p) : Reads h u p [] := by
  cases v <;> try (cases e; done)
  · cases e
    obtain ⟨t, rfl⟩ := r
    exact .int _ t
  · cases e
    obtain ⟨t, rfl⟩ := r
    exact .str _ t
theorem kv_reads {P : Program} {w : World} {h : Heap} : ∀ {ks : List (Key × V)} {vs : List (Key × Value)} {es : List DictEntry} {q : List (PyData × PyData)}, KV ks vs → Pairs (mixKind P w) es vs → pdV ks = some q →
    ReadsAll h (es.map (·.key)) (q.map (·.1)) [] ∧ ReadsAll h (es.map (·.val)) (q.map (·.2)) []
  | _, _, _, q, .nil, .nil, e => by cases e; exact ⟨.nil, .nil⟩
  | (k, v) :: ks, (k2, u) :: vs, en :: es, q, .cons r rs, .cons p1 p2 ps, e => by
    simp only [pdV] at e
    cases h1 : scV v <;> cases h2 : pdV ks <;> rw [h1, h2] at e <;> simp only at e <;> try (cases e; done)
    cases e
    obtain ⟨i1, i2⟩ := kv_reads (h := h) rs ps h2
    have hk : k = k2 := r.1
    have rv : RelV v u := r.2
    have p1 : keyIs k2 en.key = true := p1
    have p2 : en.val = u := p2
    subst hk
    refine ⟨?_, ?_⟩
    · have : Reads h en.key (keyPd k) [] := by
        rcases keyIs_shape p1 with ⟨i, t, rfl, e⟩ | ⟨x, t, rfl, e⟩
        · rw [e]; exact .int _ t
        · rw [e]; exact .str _ t
      exact ReadsAll.cons (as := []) (bs := []) this i1
    · rw [List.map_cons, List.map_cons, p2]
      exact ReadsAll.cons (as := []) (bs := []) (sc_reads rv h1) i2
end
end Z

namespace Z
open PySem PySem.Spec PyProof.Rows L2
open Classical
end Z

namespace Z
open PySem PySem.Spec PyProof.Rows L2
open Classical
def dn (xs : List Str) : Nat → Nat
  | 0 => 0
  | i + 1 => if (xs.take i).any (· == xs.getD i Str.empty) then dn xs i else dn xs i + 1
section
variable {prog : Program} {w : World} {A : Around} {R : Result → Shared → Prop} {I : Addr} {fp wr : List Addr} {G : Array GenState → Array GenState → Prop} {n : Nat} {P : Nat → Value → Prop} {St : Nat → Shared → Prop}
end
section
variable {prog : Program} {w : World} {A : Around} {E : Value → Shared → Prop} {s : Shared}
end
section
variable {X : Cx}
end
section
variable {c : Pm} {Wx : WX} {X : Cx} {pos : Pos} {k : Nat}
end
end Z

namespace Z
open PySem PySem.Spec PyProof.Rows L2
open PySem.W (Frag Looks findIn typeIn keepIn subIn nsIn mroIn clsIn codeIn kxs_mw ks_superObj ks_superIn ksFn ksEnv)
def eA (f : Str) (p1 p2 : Pos) : Arguments := { posonlyargs := [], args := [{ arg := "self", annotation := none, pos := p1 }, { arg := f, annotation := none, pos := p2 }], vararg := none, kwonlyargs := [], kw_defaults := [], kwarg := none, defaults := [] }
def eB (f m : Str) (j : Nat) (p0 p1 p2 p3 p4 p5 q1 q2 q3 q4 : Pos) : List Stmt :=
  [.Expr (.Call (.Attribute (.Call (.Name "super" p0) [] [] p1) "__init__" p2) [.Constant (.str m) j p3] [] p4) p5, .Assign [.Attribute (.Name "self" q1) f q2] (.Name f q3) q4]
structure ScOk (f : Str) (sc : Scope) : Prop where
  kind : sc.kind = .function
  co : sc.isCoroutine = false
  gen : sc.isGenerator = false
  sup : sc.names.lookup ("super" : Str) = some .globalImplicit
  cl : sc.names.lookup ("__class__" : Str) = some .free
  self : sc.names.lookup ("self" : Str) = some .local
  fld : sc.names.lookup f = some .local
  nocell : ∀ x ∈ sc.names, x.2 ≠ .cell
structure OwnT (P : Program) (K : Frag) (mg : Str → Option Value) (x f : Str) (C fI : Addr) : Prop where
  gC : mg x = some (.ref C)
  noS : mg "super" = none
  cls : OexC K C
  noN : findIn K (.ref C) f = some none
  iC : findIn K (.ref C) "__init__" = some (some (.ref fI))
  tI : typeIn K (.ref fI) = some (.type "function")
  slf : mroIn K C (.ref C) = some true
  sup : ks_superIn K C C "__init__" = some (some (.builtin "ValueError.__init__"))
  ve : subIn K (.ref C) (.type "ValueError") = some true
  opq : nsIn K cStatics "thirdparty.any" = some none
  hf : f ≠ "self"
  hb : f = "at" ∨ f = "row" ∨ f = "limit"
  hd : (f == ("__debug__" : Str)) = false
  top : (P.main.scope.names.lookup ("super" : Str)).isSome = false
  fn : ∃ (oc : Value) (od : Option Addr) (qual : Str) (sc : Scope) (doc pm : Value) (an : Option Addr) (cda : Addr) (ct : Value) (cc : Addr) (osl : Array (Option Value)) (m : Str) (j : Nat) (p1 p2 a0 a1 a2 a3 a4 a5 b1 b2 b3 b4 : Pos),
    K.lookup fI = some ⟨oc, od, .func (ksFn "__init__" qual (eA f p1 p2) (eB f m j a0 a1 a2 a3 a4 a5 b1 b2 b3 b4) sc .none .none doc pm an (.ref cda) ct cc), osl⟩ ∧ codeIn K (.ref cda) qual = true ∧ ScOk f sc ∧ (a2.endLine == a4.line) = true ∧
    (∃ ccl cdd vs ccs file tf, K.lookup cda = some ⟨ccl, cdd, .fields vs, ccs⟩ ∧ vs[2]? = some (.str file tf) ∧ ((P.main.file : Str) == file) = true) ∧ ∃ cl cld csl, K.lookup cc = some ⟨cl, cld, .cell (some (.ref C)), csl⟩
structure OwnEnd (h h' : Heap) (x C dx t1 : Addr) (f : Str) (v : Value) : Prop where
  keep : ∀ b o, b ≠ x → h.get? b = some o → h'.get? b = some o
  obj : h'.get? x = some { cls := .ref C, dict := some dx, data := .fields #[.ref t1, .none, .none, .none, .bool false, .none] }
  dbig : h.objs.size ≤ dx
  dne : dx ≠ x
  ns : h'.Ns1 dx (fun y => if y = f then some v else none)
section
variable {P : Program} {w : World} {A : Around} {E : Value → Shared → Prop} {R : Result → Shared → Prop} {s : Shared} {K : Frag} {mg mb : Str → Option Value} {x f : Str} {C fI : Addr}
end
section
variable {X : Cx} {x f : Str} {C fI : Addr} {p pos pos2 : Pos} {a : Expr}
end
section
variable {c : Pm} {Wx : WX} {X : Cx} {fu n k : Nat} {W W' W1 W2 W3 : Dr} {F0 H0 F H F' H' F1 H1 F2 H2 F3 H3 Hs : Hp} {ρ ρ' : En} {σ σ' : L2.St} {u w : V} {x y v : Vl} {Q : VK} {us : List V} {vs : List Vl} {pos : Pos}
structure OwnErr (c : Pm) (P : Program) (mg : Str → Option Value) (x f : Str) : Prop where
  ex : ∃ C fI, OwnT P c.K mg x f C fI ∧ c.cx x = some C
end
end Z

namespace Z
open PySem PySem.Spec PyProof.Rows L2 He
open PySem.W (Frag findIn typeIn keepIn subIn nsIn mroIn clsIn codeIn ks_superIn)
def argsB (f : Str) (a : Arguments) : Bool := match a with
  | ⟨[], [⟨s, none, _⟩, ⟨g, none, _⟩], none, [], [], none, []⟩ => decide (s = "self") && decide (g = f)
  | _ => false
def bodyB (f : Str) (b : FuncBody) : Bool := match b with
  | .stmts [.Expr (.Call (.Attribute (.Call (.Name s _) [] [] _) i p2) [.Constant (.str _) _ _] [] p4) _, .Assign [.Attribute (.Name se _) g _] (.Name h _) _] =>
    decide (s = "super") && (decide (i = "__init__") && (decide (se = "self") && (decide (g = f) && (decide (h = f) && (p2.endLine == p4.line)))))
  | _ => false
def scB (f : Str) (s : Scope) : Bool := decide (s.kind = .function) && (!s.isCoroutine && (!s.isGenerator && (decide (s.names.lookup ("super" : Str) = some .globalImplicit) && (decide (s.names.lookup ("__class__" : Str) = some .free) &&
  (decide (s.names.lookup ("self" : Str) = some .local) && (decide (s.names.lookup f = some .local) && s.names.all fun q => !decide (q.2 = .cell)))))))
def clsB (K : Frag) (C : Addr) : Bool := match K.lookup C with
  | some ⟨.type t, _, .cls cd, sl⟩ => decide (t = "type") && (match cd.mro, sl.toList with
    | .ref C' :: bm, [_, _, _, _, some (.builtin n), _] => decide (C' = C) && (decide (n = "ValueError.__new__") && (!cd.hasDel && (cd.hasDict && HandSPX.refsVE bm)))
    | _, _ => false)
  | _ => false
def cellB (K : Frag) (C : Addr) (cl : List (Str × Addr)) : Bool := match cl with
  | [(n, cc)] => decide (n = "__class__") && (match K.lookup cc with
    | some ⟨_, _, .cell (some (.ref D)), _⟩ => decide (D = C)
    | _ => false)
  | _ => false
def fileB (P : Program) (K : Frag) (c : Value) : Bool := match c with
  | .ref a => (match K.lookup a with
    | some ⟨_, _, .fields vs, _⟩ => (match (vs[2]? : Option Value) with
      | some (.str file _) => (P.main.file : Str) == file
      | _ => false)
    | _ => false)
  | _ => false
def noneB (v : Value) : Bool := match v with
  | .none => true
  | _ => false
def initB (P : Program) (K : Frag) (C fI : Addr) (f : Str) : Bool := match K.lookup fI with
  | some ⟨_, _, .func fd, _⟩ => decide (fd.name = "__init__") && (argsB f fd.params && (bodyB f fd.body && (scB f fd.scope && (decide (fd.globals = mainGlobals) && (decide (fd.builtins = builtinsNs) &&
    (noneB fd.defaults && (noneB fd.kwdefaults && (cellB K C fd.closure && (codeIn K fd.code fd.qualname && fileB P K fd.code)))))))))
  | _ => false
def initOf (K : Frag) (C : Addr) : Addr := match findIn K (.ref C) "__init__" with
  | some (some (.ref a)) => a
  | _ => 0
def ownB (P : Program) (K : Frag) (q : Str × Str) : Bool :=
  clsB K (ga K q.1) && (eqO (findIn K (.ref (ga K q.1)) "__setattr__") (some (some (.builtin "object.__setattr__"))) && (decide (subIn K (.ref (ga K q.1)) (.type "BaseException") = some true) && (decide (typeIn K (.ref (ga K q.1)) = some (.type "type")) && (keepIn K (.ref (ga K q.1)) &&
  (eqO (findIn K (.ref (ga K q.1)) q.2) (some none) && (eqO (findIn K (.ref (ga K q.1)) "__init__") (some (some (.ref (initOf K (ga K q.1))))) && (decide (typeIn K (.ref (initOf K (ga K q.1))) = some (.type "function")) && (decide (mroIn K (ga K q.1) (.ref (ga K q.1)) = some true) &&
  (eqO (ks_superIn K (ga K q.1) (ga K q.1) "__init__") (some (some (.builtin "ValueError.__init__"))) && (decide (subIn K (.ref (ga K q.1)) (.type "ValueError") = some true) && (eqO (nsIn K cStatics "thirdparty.any") (some none) &&
  (!(P.main.scope.names.lookup ("super" : Str)).isSome && initB P K (ga K q.1) (initOf K (ga K q.1)) q.2))))))))))))
def exatB (cxs ats : List Str) (K : Frag) : Bool := cxs.all fun n => ats.all fun f => eqO (findIn K (.ref (ga K n)) f) (some none)
def obsY (n : Nat) (fa : List Fa) (fn : List DefD) (tf : List Defn) (ex : Frag → Bool) (g : Addr → Option Obj) : AlX := (obsT fa fn [] (frT g (asD g n ++ [cStatics, sysModules])), ex (frT g (asD g n ++ [cStatics, sysModules])) && tabsB g tf (frT g (asD g n ++ [cStatics, sysModules])))
theorem saysY_of {n : Nat} {fa : List Fa} {fn : List DefD} {tf : List Defn} {ex : Frag → Bool} {w : World} {h : Heap} (e : obsY n fa fn tf ex h.get? = valX fn [] w) : SaysX fa fn [] tf ex w h (frT h.get? (asD h.get? n ++ [cStatics, sysModules])) := by
  unfold obsY at e
  generalize asD h.get? n ++ [cStatics, sysModules] = as at e ⊢
  obtain ⟨h1, h2⟩ := ba (congrArg (fun z : AlX => z.2) e)
  have key : ∀ p ∈ tf, PySem.W.codeHdIn (frT h.get? as) (cT (frT h.get? as) p).1 (cT (frT h.get? as) p).2 = true ∧ ∃ o, h.get? (cT (frT h.get? as) p).2 = some o ∧ emptyTab o = true := fun p hp => by
    obtain ⟨h3, h4⟩ := ba (List.all_eq_true.mp h2 p hp)
    refine ⟨h3, ?_⟩
    revert h4
    cases h.get? (cT (frT h.get? as) p).2 with
    | none => exact fun h4 => by cases h4
    | some o => exact fun h4 => ⟨o, rfl, h4⟩
  refine ⟨congrArg (fun z : AlX => z.1) e, h1, fun p hp => (key p hp).1, fun p hp => ?_, fun p hp => ?_⟩ <;> obtain ⟨_, o, q, z⟩ := key p hp
  · exact frT_none q z
  · rw [q, emptyTab_eq z]
def hookY (n : Nat) (fa : List Fa) (fn : List DefD) (tf : List Defn) (ex : Frag → Bool) : PySem.W.Hook where
  α := AlX
  obs := fun s => obsY n fa fn tf ex s.heap.get?
  val := fun w => valX fn [] w
  says := (hookX n fa fn [] tf ex).says
  of := fun _ _ e => ⟨_, frT_in, saysY_of e⟩
  keeps := (hookX n fa fn [] tf ex).keeps
theorem obsY_eq {n : Nat} {fa : List Fa} {fn : List DefD} {tf : List Defn} {ex : Frag → Bool} {g : Addr → Option Obj} {s : Shared} (h : ∀ a, g a = s.heap.get? a) : obsY n fa fn tf ex g = (hookY n fa fn tf ex).obs s := by
  have e : g = s.heap.get? := funext h
  rw [e]
  rfl
end Z

namespace Z
open PySem PySem.Spec PyProof.Rows L2
open Classical
section
variable {c : Pm} {Wx : WX} {X : Cx} {fu n k : Nat} {W W' W1 W2 W3 : Dr} {F0 H0 F H F' H' F1 H1 F2 H2 F3 H3 Hs : Hp} {ρ ρ' : En} {σ σ' : L2.St} {u w : V} {x y v : Vl} {Q : VK} {us : List V} {vs : List Vl} {pos : Pos}
end
end Z

namespace Z
open PySem PySem.Spec PyProof.Rows L2
section
variable {c : Pm} {Wx : WX} {X : Cx} {pos : Pos} {k : Nat}
end
end Z

namespace Z
open PySem PySem.Spec PyProof.Rows L2
section
variable {c : Pm} {Wx : WX} {X : Cx} {fu n k : Nat} {W W' W1 W2 W3 : Dr} {F0 H0 F H F' H' F1 H1 F2 H2 F3 H3 Hs : Hp} {ρ ρ' : En} {σ σ' : L2.St} {u w : V} {x y v : Vl} {Q : VK} {us : List V} {vs : List Vl} {pos : Pos}
end
end Z

namespace Z
open PySem PySem.Spec PyProof.Rows L2
open PySem.W (Frag Looks findIn)
section
variable {M : Model} {A : Around} {E : Value → Shared → Prop} {h : Heap} {g : Array GenState} {d : Drawn} {t : Nat} {os : OsState}
variable {nm q : Str} {C N : Addr} {bs bm bmB : List Value} {hdct : Bool} {sn : List Str} {sub : List Value} {ab : Bool} {col : Option Bool} {dd : Option Addr} {k0 k1 k2 k3 k5 : Option Value} {B newId initId : String}
end
section
variable {prog : Program} {w : World} {A : Around} {E : Value → Shared → Prop} {R : Result → Shared → Prop} {h : Heap} {g : Array GenState} {d : Drawn} {t : Nat} {os : OsState}
variable {nm q : Str} {C N : Addr} {bs bm bmB : List Value} {hdct : Bool} {sn : List Str} {sub : List Value} {ab : Bool} {col : Option Bool} {dd : Option Addr} {k0 k1 k2 k3 k5 : Option Value} {B newId initId : String} {kw : List (Str × Value)}
end
section
variable {P : Program} {w : World} {A : Around} {R : Result → Shared → Prop} {s : Shared} {K : Frag} {mg mb : Str → Option Value} {x f : Str} {C fI : Addr}
end
section
variable {X : Cx} {x f : Str} {C fI : Addr} {p pos : Pos}
end
section
variable {c : Pm} {Wx : WX} {X : Cx} {k : Nat} {pos : Pos}
end
end Z

namespace Z
open PySem PySem.Spec PyProof.Rows L2
open Classical
def SysD (K : PySem.W.Frag) : Prop := ∃ o, K.lookup sysModules = some o ∧ o.cls = .type "dict"
def sysB (K : PySem.W.Frag) : Bool := match K.lookup sysModules with
  | some ⟨.type t, _, _, _⟩ => decide (t = "dict")
  | _ => false
theorem sysB_ok {K : PySem.W.Frag} (h : sysB K = true) : SysD K := by
  unfold sysB at h
  split at h
  · rename_i t _ _ _ e
    exact ⟨_, e, congrArg Value.type (of_decide_eq_true h)⟩
  · cases h
section
variable {c : Pm} {Wx : WX} {X : Cx} {F : Hp} {pos : Pos} {k : Nat}
end
end Z

namespace Z
open PySem PySem.Spec PyProof.Rows L2
section
variable {c : Pm} {Wx : WX} {X : Cx} {fu n k : Nat} {σ : L2.St} {H : Hp} {Q : VK} {pos : Pos}
def KPickM (K : PySem.W.Frag) (fd : FuncData) (ps ks : List Str) (is : List Nat) : Prop := ∀ (s : Shared) (v : Value) (ws : List Value), K.In s.heap → ws.length = ks.length → BindsTo s fd ⟨[v], ks.zip ws⟩ (ps.zip (v :: pick is ws))
theorem Fun.kpickM {K : PySem.W.Frag} {x qual : Str} {st : Stmt} {f : Addr} {fd : FuncData} {ps ks : List Str} {is : List Nat} (F : Fun K x qual st f fd)
    (h : ∀ (kV doc pm : Value) (an : Option Addr) (cdv ct v : Value) (us : List Value), us.length = ks.length → bindArgs (PySem.W.fnOf x qual (defArgs st) (defBody st) (defScope st) .none kV doc pm an cdv ct) ⟨[v], ks.zip us⟩ = pure (ps.zip (v :: pick is us))) : KPickM K fd ps ks is := by
  obtain ⟨⟨oc, od, kV, doc, pm, an, cdv, ct, osl, rfl, lk, hcd⟩, kp⟩ := F
  exact fun s v us _ hl => .of_eq (h kV doc pm an cdv ct v us hl)
structure MakK (c : Pm) (P : Program) (w : World) (mg : Str → Option Value) (base : Heap) (k : Nat) (x : Str) (ps ks : List Str) (is : List Nat) (g : G) : Prop where
  ex : ∃ (C f : Addr) (fd : FuncData) (gi : Nat → G), mg x = some (.ref C) ∧ c.ca x = some C ∧ L2.Mk c.K C f ∧ KPickM c.K fd ps ks is ∧ FnOk P w c.K mg base (L2N.CX P w) k f fd ps (spI c x C gi) ∧ ∀ p xs W, gi p xs W = g xs W
theorem run_makeK {pins : List (Addr × Obj)} {s : Shared} {ws : List Value} {zs : List V} {C f : Addr} {fd : FuncData} {ps ks : List Str} {is : List Nat} {sp : Sp} {CX : CXT} {E : XK} (M : L2.Mk X.K C f) (Fn : FnOk X.prog X.w X.K X.mg X.base CX k f fd ps sp) (hr : Room (k + 1) X.A) (hb : KPickM X.K fd ps ks is)
    (hx : ∀ (pins : List (Addr × Obj)) (H : Hp) (s : Shared) (e : Value) (s' : Shared), Inv X pins σ H s → CX X.stack H s E e s' → X.xe e s') (I : Inv X pins σ H s) (r : Vals zs ws) (hl : zs.length = ks.length) (hi : ∀ i ∈ is, i < zs.length)
    (h : ∀ x dx, H x = none → H dx = none → dx ≠ x → sp (.ref x :: pick is zs) (upd (upd H dx (.own x)) x (.ins C dx [])) (fun v H2 => v = .non ∧ Q (.ref x) H2) E) : wpAny (model X.prog X.w) X.A (call (.ref C) [] (ks.zip ws)) (EP X pins σ Q) X.xe s := by
  have q0 := h (s.heap.objs.size + 1) s.heap.objs.size (I.hok.fresh (Nat.le_succ _)) (I.hok.fresh (Nat.le_refl _)) (Nat.ne_of_lt (Nat.lt_succ_self _))
  have J := Inv.made (C := C) I
  have rr : Vals (V.ref (s.heap.objs.size + 1) :: pick is zs) (Value.ref (s.heap.objs.size + 1) :: pick is ws) := .cons rfl (pick_vals r hi)
  have b := hb _ (Value.ref (s.heap.objs.size + 1)) ws J.kIn (r.length.symm.trans hl)
  refine wpAny_call (make_map (f := f) I.kIn M.makes M.init (beq_iff_eq.mp M.fn) (codeAny_mono (Fn.run _ X.stack _ _ _ _ _ _ E (hr.make C [] (ks.zip ws)) (J.env0.make C [] (ks.zip ws)) b rr q0) fun res s2 hq => ?_))
  match res, hq with
  | .error e, hq => exact hx pins _ _ e s2 J hq
  | .ok (.ret u), hq =>
    obtain ⟨v, H2, J2, rv, ev, q2⟩ := J.after hq
    cases ev
    exact ⟨rv, V.ref (s.heap.objs.size + 1), H2, J2, rfl, q2⟩
theorem x_makek {j : Nat} {x : Str} {ps ks : List Str} {is : List Nat} {g : G} {kws : List Keyword} {ea : E} {p : Pos} (n : Cn c Wx k X) (h : MakK c X.prog X.w X.mg X.base j x ps ks is g) (hkw : PK X kws (rdL c Wx ea)) (hj : j + 1 ≤ k := by decide) (hg : Gl X x := by rfl) (hdb : (x == ("__debug__" : Str)) = false := by decide)
    (hall : (backToKw pos (keywordEach kws X.env)).all (·.1.isSome) = true := by rfl) (hks : (backToKw pos (keywordEach kws X.env)).filterMap (·.1) = ks := by rfl)
    (hpl : ((backTo pos (starEach [] X.env)).any (·.1) || (backToKw pos (keywordEach kws X.env)).any (·.1.isNone)) = false := by rfl) (hm : is.all (· < ks.length) = true := by decide) : PE X (.Call (.Name x p) [] kws pos) (rdE c Wx (.callk g ks.length is ea)) := by
  obtain ⟨C, f, fd, gi, h1, h2, h3, h4, h5, h6⟩ := h.ex
  rw [← n.hk] at h3 h4 h5
  refine ⟨fun pins s σ H Q I ⟨F0, H0, ρ, F, W, R, hP⟩ => ?_⟩
  simp only [ev] at hP
  have q : rdL c Wx ea σ H fun zs H2 => zs.length = ks.length ∧ (∀ i ∈ is, i < zs.length) ∧ ∀ a dx, H2 a = none → H2 dx = none → dx ≠ a → spI c x C gi (.ref a :: pick is zs) (upd (upd H2 dx (.own a)) a (.ins C dx [])) (fun v H3 => v = .non ∧ Q (.ref a) H3) (WE Wx σ) := by
    refine rd_l R R.refl hP fun vs W1 us F1 H1 S1 _ A R1 hP => ?_
    by_cases hl : vs.length = ks.length
    · rw [if_pos hl] at hP
      have RF := (Ft_rel R R1 S1 A).frz (ts_own A)
      have hlu : us.length = ks.length := (Paired.len A).trans hl
      have hi : ∀ i ∈ is, i < ks.length := fun i z => by simpa using List.all_eq_true.mp hm i z
      refine ⟨hlu, fun i z => by rw [hlu]; exact hi i z, fun a dx ha hdx hne => ?_⟩
      have hr : RepL c (Fz (Ft F1 H1 us vs) H1 σ (ts vs)) (pick is us) (pick is (ds vs)) := pick_rep (args_all R R1 S1 A) fun i z => by
        unfold ds
        rw [List.length_map, hl]
        exact hi i z
      refine ⟨a, dx, pick is us, Fz (Ft F1 H1 us vs) H1 σ (ts vs), H1, pick is (ds vs), W1, rfl, ha, hdx, hne, rfl, h2, hr, RF.stp.refl, ?_⟩
      rw [h6]
      have q := call_end (g := g) R S1 A (ts_own A) hP
      cases e : g (pick is (ds vs)) W1 with
      | ok r W' => rw [e] at q; exact fun F' H' S' r' => ⟨rfl, q _ F' H' S' r'⟩
      | ex x W' => rw [e] at q; exact q
      | stk => rw [e] at q; exact q
    · rw [if_neg hl] at hP; exact hP.elim
  refine wpAny_Call_Name_kw (ld_glob I hg h1 ?_ hdb)
  refine PySem.W.callWith_KW0 (h₀ := X.base) I.ok.mod.kin h3.kp hall (thn (hkw.run pos pins s σ H _ I q) fun ws s1 ⟨zs, H1, I1, r, l1, l2, q1⟩ => ⟨I1.kIn, ?_⟩) hpl
  rw [hks]
  exact run_makeK h3 h5 (n.room.mono hj) h4 (L2N.passAt n.tk σ) I1 r l1 l2 q1
end
end Z

namespace Z
open PySem PySem.Spec PyProof.Rows L2
open Classical
section
variable {c : Pm} {Wx : WX} {X : Cx} {fu n k : Nat} {W W' W1 W2 W3 : Dr} {F0 H0 F H F' H' F1 H1 F2 H2 F3 H3 Hs : Hp} {ρ ρ' : En} {σ σ' : L2.St} {u w : V} {x y v : Vl} {Q : VK} {us : List V} {vs : List Vl} {pos : Pos}
def TCap (c : Pm) (i : Nat) (ea : E) : TE := fun σ H Q => ∃ F0 H0 ρ F W xs, Rel c F0 H0 ρ σ F H W ∧ ρ[i]? = some (.own (.lst xs)) ∧ match ev ea ρ W with
  | .ok v W2 => v.k = .pl ∧ v.t = [] ∧ xs.length < cap ∧ ∀ F' H', Rel c F0 H0 (ρ.set i (.own (.lst (xs ++ [v.d])))) σ F' H' W2 → Same F F' → Q .non H'
  | .ex (.exc nm fs) W2 => ∀ u F' H', Rel c F0 H0 ρ σ F' H' W2 → Same F F' → Rep c F' u (.exc nm fs) → Q u H'
  | _ => False
theorem pe_capp {x a y : Str} {i : Nat} {Ng : List Str} {st : Stmt} {CS : Addr} {params : Arguments} {e : Expr} {scope : Scope} {ea : E} {j : Nat} {p lpos p4 p5 p8 posc : Pos} (n : Cn c Wx k X) (LA : LamAt c X) (CF : CauF c X.mg x a Ng st CS)
    (hb : ∀ (A : Around) (outer : List Env) (s : Shared) (H : Hp) (E : XK) (f c' : Addr), Cn c (fun cls dd _ H' => E cls dd H') j (LamX.lamCx X A outer s H E scope f c') → PE (LamX.lamCx X A outer s H E scope f c') e (rdE c (fun cls dd _ H' => E cls dd H') ea))
    (hvy : Vis scope y) (hNy : X.N[i]? = some y := by rfl) (hj : j + 2 ≤ k := by decide) (L : LamX.lamSB X.env.scope scope = true := by rfl) (hdef : defaultsOf params X.env = ([], []) := by rfl)
    (hbind : ∀ (q : Str) (cl : List (Str × Addr)) (pm cv ctv : Value), bindArgs (PySem.W.kla_fn "<lambda>" q params (.Call (.Attribute (.Name y p4) "append" p5) [e] [] p8) scope cl pm cv ctv) ⟨[], []⟩ = pure [] := by intros; rfl)
    (hg : Gl X x := by rfl) (hdb : (x == ("__debug__" : Str)) = false := by decide) (hd : (a == ("__debug__" : Str)) = false := by decide) (hcd : (a == ("__classdict__" : Str)) = false := by decide) (hdy : (y == ("__debug__" : Str)) = false := by decide) (hcy : (y == ("__classdict__" : Str)) = false := by decide)
    (hbase : ∀ env : Env, attributeBase (.Name y p4) "append" env (eval (.Name y p4) env) = eval (.Name y p4) env := by intros; rfl) (hline : (p5.endLine == p8.line) = true := by rfl)
    (hst : ∀ (A : Around) (outer : List Env) (s : Shared) (H : Hp) (E : XK) (f c' : Addr), starEach [e] (LamX.lamCx X A outer s H E scope f c').env = [(false, eval e (LamX.lamCx X A outer s H E scope f c').env)] := by intros; rfl)
    (hfw : ∀ (A : Around) (outer : List Env) (s : Shared) (H : Hp) (E : XK) (f c' : Addr), ((backTo p8 (starEach [e] (LamX.lamCx X A outer s H E scope f c').env)).all (fun x => !x.1) && (backToKw p8 (keywordEach [] (LamX.lamCx X A outer s H E scope f c').env)).all (fun x => x.1.isSome)
      && decide (([e] : List Expr).length + ([] : List Keyword).length + (if ([] : List Keyword).isEmpty then 0 else 1) < 30)) = true := by intros; rfl) :
    PE X (.Call (.Name x p) [.Lambda params (.Call (.Attribute (.Name y p4) "append" p5) [e] [] p8) scope lpos] [] posc) (TCap c i ea) := by
  obtain ⟨g, fd, ⟨⟨oc, od, kV, doc, pm, an, cdv, ct, osl, rfl, lk, hcd2⟩, kp⟩, hm, hbd⟩ := CF.ex
  obtain ⟨cc, P, TB, hcode, hmT, hu⟩ := LA.ex
  rw [← n.hk] at lk hcd2 kp hbd
  refine pe_wk (LamX.pe_lamcall (T := c.tb) (k := j) (t := fun E => tBM X.K "list" rAppend (tVar i) (tCons (rdE c (fun cls dd _ H' => E cls dd H') ea) tNil)) hg hm kp lk hcd2 hbd CF.sc CF.na CF.va (CF.give X g cdv _ n.hk rfl) TB hcode hmT hu (n.room.mono hj) (LamX.lamS_by L) hdef hbind
    (fun A outer s H E f c' hr => pe_bm (X := LamX.lamCx X A outer s H E scope f c') PySem.F.plainAttrs_list PySem.F.slot_list_append (by rfl) mt_append (pe_var (i := i) hNy hvy hdy hcy) (pa_cons (hb A outer s H E f c' (n.lam hr)) pa_nil (hst A outer s H E f c')) (hbase _) (hfw A outer s H E f c') hline (hst A outer s H E f c') (by rfl)) hdb hd hcd) fun σ H Q ⟨F0, H0, ρ, F, W, xs, R, e0, hP⟩ => ?_
  refine ⟨R.stp.tabs, fun H1 eN T1 => ?_⟩
  have S1 := ext_stp (T := True) R eN T1
  have R1 := R.step S1
  obtain ⟨p, ws0, h1, h2, h3⟩ := own_lst R1 e0
  refine ⟨.ref p, h1, .inl ⟨rfl, ws0, .inl (.inl h2)⟩, F0, H0, ρ, F, W, R1, ?_⟩
  cases e2 : ev ea ρ W with
  | stk => rw [e2] at hP; exact hP.elim
  | ok v W2 =>
    rw [e2] at hP
    obtain ⟨k1, k2, k3, hP⟩ := hP
    refine fun u F2 H2 S2 V2 => ?_
    have R2 := R1.step S2
    obtain ⟨p', ws, h4, h5, h6⟩ := own_lst R2 e0
    rw [h1] at h4
    have q := L2.V.ref.inj (Option.some.inj (Option.some.inj h4))
    subst q
    have r := V2.at_
    rw [k1, k2, Fz_nil] at r
    refine ⟨p, ws, u, rfl, rfl, h5, by rw [h6.length, ← cap_eq]; exact k3, .non, rfl, ?_⟩
    exact hP _ _ (R2.mut (o' := .lst (xs ++ [v.d])) e0 h1 ⟨_, upd_same, h6.append (.cons r .nil)⟩) fun a o q => S2.f _ _ q
  | ex x W2 =>
    rw [e2] at hP
    cases x <;> try (exact hP.elim)
    rename_i nm fs
    refine fun cls dd F2 H2 S2 hx => ?_
    obtain ⟨C, g1, rfl, g2⟩ := hx
    refine ⟨n.hk ▸ CF.up _ _ g1, fun b hb => ?_⟩
    have R2 := R1.step S2
    have S3 := R2.refl.makeF (o := XO (.ref C) dd b) hb
    have ne : ∀ q o, F2 q = some o → q ≠ b := fun q o e => ne_of_none (R2.stp.sub _ _ e) hb
    have up : Same F2 (upd F2 b (XO (.ref C) dd b)) := fun q o e => by rw [upd_ne (ne q o e)]; exact e
    have r : Rep c (upd F2 b (XO (.ref C) dd b)) (.ref b) (.exc nm fs) := by
      cases fs with
      | nil =>
        simp only at g2
        subst g2
        exact .exc0 upd_same g1
      | cons q fs =>
        simp only at g2
        obtain ⟨m, d, gs, rfl, k1, k2⟩ := g2
        exact .exc1 upd_same g1 (up _ _ k1) (k2.mono up) (by simp)
    exact hP _ _ _ (R2.step S3) (fun a o q => S3.f _ _ (S2.f _ _ q)) r
theorem frz0 : Z.frz ρ [] = ρ := by
  unfold Z.frz
  refine List.ext_getElem? fun i => ?_
  rw [List.getElem?_mapIdx]
  cases ρ[i]? with
  | none => rfl
  | some s => cases s <;> simp
theorem Rel.put1 {i p : Nat} {d : D} (R : Rel c F0 H0 ρ σ F H W) (hp : H p = none) (r : Rep c F u d) : Rel c F0 H0 (ρ.set i (.own (.lst [d]))) (σ.set i (some (.ref p))) F (upd H p (.lst [u])) W := by
  have S := R.refl.make (o := .lst [u]) hp
  have V : ValOk c ρ σ H F (upd H p (.lst [u])) (.ref p) ⟨.lst [d], .fr, []⟩ := ⟨fun i h => by simp [Vl.all] at h, p, rfl, ?_, ?_, .of hp, ?_⟩
  · have q := R.put (i := i) (R.step S) V
    simpa [Z.put, Vl.all, Vl.isFr, frz0, Fz_nil] using q
  · cases h : F p with
    | none => rfl
    | some o => have := R.stp.sub _ _ h; rw [hp] at this; cases this
  · exact fun h => R.stp.sm h hp
  · rw [Fz_nil]
    exact ⟨_, upd_same, .cons r .nil⟩
theorem z_cpl {x a y z : Str} {i jz : Nat} {Ng : List Str} {st : Stmt} {CS : Addr} {params : Arguments} {e : Expr} {scope : Scope} {ea : E} {j : Nat} {p lpos p4 p5 p8 pos' posc posl : Pos} (n : Cn c Wx k X) (LA : LamAt c X) (CF : CauF c X.mg x a Ng st CS)
    (hb : ∀ (A : Around) (outer : List Env) (s : Shared) (H : Hp) (E : XK) (f c' : Addr), Cn c (fun cls dd _ H' => E cls dd H') j (LamX.lamCx X A outer s H E scope f c') → PE (LamX.lamCx X A outer s H E scope f c') e (rdE c (fun cls dd _ H' => E cls dd H') ea))
    (hlz : Loc X.env.scope z) (hvy : Vis scope y) (hNz : X.N[jz]? = some z := by rfl) (hNy : X.N[i]? = some y := by rfl) (hj : j + 2 ≤ k := by decide) (L : LamX.lamSB X.env.scope scope = true := by rfl) (hdef : defaultsOf params X.env = ([], []) := by rfl)
    (hbind : ∀ (q : Str) (cl : List (Str × Addr)) (pm cv ctv : Value), bindArgs (PySem.W.kla_fn "<lambda>" q params (.Call (.Attribute (.Name y p4) "append" p5) [e] [] p8) scope cl pm cv ctv) ⟨[], []⟩ = pure [] := by intros; rfl)
    (hg : Gl X x := by rfl) (hdb : (x == ("__debug__" : Str)) = false := by decide) (hd : (a == ("__debug__" : Str)) = false := by decide) (hcd : (a == ("__classdict__" : Str)) = false := by decide) (hdy : (y == ("__debug__" : Str)) = false := by decide) (hcy : (y == ("__classdict__" : Str)) = false := by decide)
    (hbase : ∀ env : Env, attributeBase (.Name y p4) "append" env (eval (.Name y p4) env) = eval (.Name y p4) env := by intros; rfl) (hline : (p5.endLine == p8.line) = true := by rfl)
    (hst : ∀ (A : Around) (outer : List Env) (s : Shared) (H : Hp) (E : XK) (f c' : Addr), starEach [e] (LamX.lamCx X A outer s H E scope f c').env = [(false, eval e (LamX.lamCx X A outer s H E scope f c').env)] := by intros; rfl)
    (hfw : ∀ (A : Around) (outer : List Env) (s : Shared) (H : Hp) (E : XK) (f c' : Addr), ((backTo p8 (starEach [e] (LamX.lamCx X A outer s H E scope f c').env)).all (fun x => !x.1) && (backToKw p8 (keywordEach [] (LamX.lamCx X A outer s H E scope f c').env)).all (fun x => x.1.isSome)
      && decide (([e] : List Expr).length + ([] : List Keyword).length + (if ([] : List Keyword).isEmpty then 0 else 1) < 30)) = true := by intros; rfl)
    (hs2 : starEach [.Call (.Name x p) [.Lambda params (.Call (.Attribute (.Name y p4) "append" p5) [e] [] p8) scope lpos] [] posc] X.env = [(false, eval (.Call (.Name x p) [.Lambda params (.Call (.Attribute (.Name y p4) "append" p5) [e] [] p8) scope lpos] [] posc) X.env)] := by rfl)
    (hsw : swapsWith (.List [.Call (.Name x p) [.Lambda params (.Call (.Attribute (.Name y p4) "append" p5) [e] [] p8) scope lpos] [] posc] posl) (some (.Name z pos')) pos.line X.env = pure false := by rfl) (hfn : X.fn z = true ∨ X.env.scope.names.lookup z = some .local := by exact .inl rfl) :
    PS X (.Assign [.Name z pos'] (.List [.Call (.Name x p) [.Lambda params (.Call (.Attribute (.Name y p4) "append" p5) [e] [] p8) scope lpos] [] posc] posl) pos) (rdS c Wx fu (.cpl i jz ea)) := by
  refine ps_wk (ps_set (i := jz) n.nd hNz hlz (pe_lst (pa_cons (pe_capp n LA CF hb hvy hNy hj L hdef hbind hg hdb hd hcd hdy hcy hbase hline hst hfw) pa_nil hs2)) hsw hfn) fun D σ H ⟨F0, H0, ρ, F, W, R, hP⟩ => ?_
  simp only [evS] at hP
  cases e0 : ρ[i]? with
  | none => rw [e0] at hP; exact hP.elim
  | some s =>
    rw [e0] at hP
    cases s with
    | un => exact hP.elim
    | slf _ _ _ => exact hP.elim
    | val d => exact hP.elim
    | own d =>
      cases d <;> try (exact hP.elim)
      rename_i xs
      simp only at hP
      have h1 : 1 ≤ sizeLine := by rw [sizeLine_eq]; decide
      refine ⟨F0, H0, ρ, F, W, xs, R, e0, ?_⟩
      cases e2 : ev ea ρ W with
      | stk => rw [e2] at hP; exact hP.elim
      | ok v W2 =>
        rw [e2] at hP
        simp only at hP
        by_cases hl : v.k = .pl ∧ v.t = [] ∧ xs.length < cap
        · rw [if_pos hl] at hP
          obtain ⟨k1, k2, k3⟩ := hl
          exact ⟨k1, k2, k3, fun F2 H2 R2 up => ⟨h1, fun q hq => hP _ _ _ (R2.put1 hq .non) up⟩⟩
        · rw [if_neg hl] at hP; exact hP.elim
      | ex x W2 =>
        rw [e2] at hP
        cases x <;> try (exact hP.elim)
        exact fun u F2 H2 R2 up r => ⟨h1, fun q hq => hP _ _ _ (R2.put1 hq r) up⟩
theorem z_cpa {x a y z : Str} {i jz : Nat} {Ng : List Str} {st : Stmt} {CS : Addr} {params : Arguments} {e : Expr} {scope : Scope} {ea : E} {j : Nat} {p lpos p4 p5 p8 posc p2 apos cpos : Pos} (n : Cn c Wx k X) (LA : LamAt c X) (CF : CauF c X.mg x a Ng st CS)
    (hb : ∀ (A : Around) (outer : List Env) (s : Shared) (H : Hp) (E : XK) (f c' : Addr), Cn c (fun cls dd _ H' => E cls dd H') j (LamX.lamCx X A outer s H E scope f c') → PE (LamX.lamCx X A outer s H E scope f c') e (rdE c (fun cls dd _ H' => E cls dd H') ea))
    (hvz : Vis X.env.scope z) (hvy : Vis scope y) (hNz : X.N[jz]? = some z := by rfl) (hNy : X.N[i]? = some y := by rfl) (hj : j + 2 ≤ k := by decide) (L : LamX.lamSB X.env.scope scope = true := by rfl) (hdef : defaultsOf params X.env = ([], []) := by rfl)
    (hbind : ∀ (q : Str) (cl : List (Str × Addr)) (pm cv ctv : Value), bindArgs (PySem.W.kla_fn "<lambda>" q params (.Call (.Attribute (.Name y p4) "append" p5) [e] [] p8) scope cl pm cv ctv) ⟨[], []⟩ = pure [] := by intros; rfl)
    (hg : Gl X x := by rfl) (hdb : (x == ("__debug__" : Str)) = false := by decide) (hd : (a == ("__debug__" : Str)) = false := by decide) (hcd : (a == ("__classdict__" : Str)) = false := by decide) (hdy : (y == ("__debug__" : Str)) = false := by decide) (hcy : (y == ("__classdict__" : Str)) = false := by decide)
    (hdz : (z == ("__debug__" : Str)) = false := by decide) (hcz : (z == ("__classdict__" : Str)) = false := by decide)
    (hbase : ∀ env : Env, attributeBase (.Name y p4) "append" env (eval (.Name y p4) env) = eval (.Name y p4) env := by intros; rfl) (hline : (p5.endLine == p8.line) = true := by rfl)
    (hst : ∀ (A : Around) (outer : List Env) (s : Shared) (H : Hp) (E : XK) (f c' : Addr), starEach [e] (LamX.lamCx X A outer s H E scope f c').env = [(false, eval e (LamX.lamCx X A outer s H E scope f c').env)] := by intros; rfl)
    (hfw : ∀ (A : Around) (outer : List Env) (s : Shared) (H : Hp) (E : XK) (f c' : Addr), ((backTo p8 (starEach [e] (LamX.lamCx X A outer s H E scope f c').env)).all (fun x => !x.1) && (backToKw p8 (keywordEach [] (LamX.lamCx X A outer s H E scope f c').env)).all (fun x => x.1.isSome)
      && decide (([e] : List Expr).length + ([] : List Keyword).length + (if ([] : List Keyword).isEmpty then 0 else 1) < 30)) = true := by intros; rfl)
    (hs2 : starEach [.Call (.Name x p) [.Lambda params (.Call (.Attribute (.Name y p4) "append" p5) [e] [] p8) scope lpos] [] posc] X.env = [(false, eval (.Call (.Name x p) [.Lambda params (.Call (.Attribute (.Name y p4) "append" p5) [e] [] p8) scope lpos] [] posc) X.env)] := by rfl)
    (hbase2 : attributeBase (.Name z p2) "append" X.env (eval (.Name z p2) X.env) = eval (.Name z p2) X.env := by rfl)
    (hfew2 : ((backTo cpos (starEach [.Call (.Name x p) [.Lambda params (.Call (.Attribute (.Name y p4) "append" p5) [e] [] p8) scope lpos] [] posc] X.env)).all (fun x => !x.1) && (backToKw cpos (keywordEach [] X.env)).all (fun x => x.1.isSome)
      && decide (([.Call (.Name x p) [.Lambda params (.Call (.Attribute (.Name y p4) "append" p5) [e] [] p8) scope lpos] [] posc] : List Expr).length + ([] : List Keyword).length + (if ([] : List Keyword).isEmpty then 0 else 1) < 30)) = true := by rfl)
    (hline2 : (apos.endLine == cpos.line) = true := by rfl)
    (hsw : swapsWith (.Call (.Attribute (.Name z p2) "append" apos) [.Call (.Name x p) [.Lambda params (.Call (.Attribute (.Name y p4) "append" p5) [e] [] p8) scope lpos] [] posc] [] cpos) none pos.line X.env = pure false := by rfl) :
    PS X (.Expr (.Call (.Attribute (.Name z p2) "append" apos) [.Call (.Name x p) [.Lambda params (.Call (.Attribute (.Name y p4) "append" p5) [e] [] p8) scope lpos] [] posc] [] cpos) pos) (rdS c Wx fu (.cpa i jz ea)) := by
  refine ps_wk (ps_expr (pe_bm F.plainAttrs_list F.slot_list_append (by rfl) mt_append (pe_var hNz hvz hdz hcz) (pa_cons (pe_capp n LA CF hb hvy hNy hj L hdef hbind hg hdb hd hcd hdy hcy hbase hline hst hfw) pa_nil hs2) hbase2 hfew2 hline2 hs2 (by rfl)) hsw) fun D σ H ⟨F0, H0, ρ, F, W, R, hP⟩ => ?_
  simp only [evS] at hP
  cases e0 : ρ[i]? with
  | none => rw [e0] at hP; exact hP.elim
  | some s =>
    rw [e0] at hP
    cases s with
    | un => exact hP.elim
    | slf _ _ _ => exact hP.elim
    | val d => exact hP.elim
    | own d =>
      cases d <;> try (exact hP.elim)
      rename_i xs
      cases e1 : ρ[jz]? with
      | none => rw [e1] at hP; exact hP.elim
      | some s =>
        rw [e1] at hP
        cases s with
        | un => exact hP.elim
        | slf _ _ _ => exact hP.elim
        | val d => exact hP.elim
        | own d =>
          cases d <;> try (exact hP.elim)
          rename_i ys
          simp only at hP
          by_cases hh : ys.length < cap ∧ i ≠ jz
          · rw [if_pos hh] at hP
            obtain ⟨hy, hij⟩ := hh
            obtain ⟨p, ws0, h1, h2, h3⟩ := own_lst R e1
            refine ⟨.ref p, h1, .inl ⟨rfl, ws0, .inl (.inl h2)⟩, F0, H0, ρ, F, W, xs, R, e0, ?_⟩
            cases e2 : ev ea ρ W with
            | stk => rw [e2] at hP; exact hP.elim
            | ok v W2 =>
              rw [e2] at hP
              simp only at hP
              by_cases hl : v.k = .pl ∧ v.t = [] ∧ xs.length < cap
              · rw [if_pos hl] at hP
                obtain ⟨k1, k2, k3⟩ := hl
                refine ⟨k1, k2, k3, fun F2 H2 R2 up => ?_⟩
                have e1' : (ρ.set i (.own (.lst (xs ++ [v.d]))))[jz]? = some (.own (.lst ys)) := by rw [List.getElem?_set_ne hij]; exact e1
                obtain ⟨p', ws, h4, h5, h6⟩ := own_lst R2 e1'
                rw [h1] at h4
                have q := L2.V.ref.inj (Option.some.inj (Option.some.inj h4))
                subst q
                refine ⟨p, ws, .non, rfl, rfl, h5, by rw [h6.length, ← cap_eq]; exact hy, ?_⟩
                exact hP _ _ _ (R2.mut e1' h1 ⟨_, upd_same, h6.append (.cons .non .nil)⟩) up
              · rw [if_neg hl] at hP; exact hP.elim
            | ex x W2 =>
              rw [e2] at hP
              cases x <;> try (exact hP.elim)
              refine fun u F2 H2 R2 up r => ?_
              obtain ⟨p', ws, h4, h5, h6⟩ := own_lst R2 e1
              rw [h1] at h4
              have q := L2.V.ref.inj (Option.some.inj (Option.some.inj h4))
              subst q
              refine ⟨p, ws, u, rfl, rfl, h5, by rw [h6.length, ← cap_eq]; exact hy, ?_⟩
              exact hP _ _ _ (R2.mut e1 h1 ⟨_, upd_same, h6.append (.cons r .nil)⟩) up
          · rw [if_neg hh] at hP; exact hP.elim
theorem z_tapp {o e : Expr} {eo ee : E} {apos cpos : Pos} (n : Cn c Wx k X) (ho : PE X o (rdE c Wx eo)) (he : PE X e (rdE c Wx ee))
    (hbase : attributeBase o "append" X.env (eval o X.env) = eval o X.env := by rfl)
    (hfew : ((backTo cpos (starEach [e] X.env)).all (fun x => !x.1) && (backToKw cpos (keywordEach [] X.env)).all (fun x => x.1.isSome)
      && decide (([e] : List Expr).length + ([] : List Keyword).length + (if ([] : List Keyword).isEmpty then 0 else 1) < 30)) = true := by rfl)
    (hline : (apos.endLine == cpos.line) = true := by rfl) (hs : starEach [e] X.env = [(false, eval e X.env)] := by rfl) (hsw : swapsWith (.Call (.Attribute o "append" apos) [e] [] cpos) none pos.line X.env = pure false := by rfl) :
    PS X (.Expr (.Call (.Attribute o "append" apos) [e] [] cpos) pos) (rdS c Wx fu (.tapp eo ee)) := by
  refine ps_wk (ps_expr (pe_bm F.plainAttrs_list F.slot_list_append (by rfl) mt_append ho (pa_cons he pa_nil hs) hbase hfew hline hs (by rfl)) hsw) fun D σ H ⟨F0, H0, ρ, F, W, R, hP⟩ => ?_
  simp only [evS] at hP
  refine st_e R hP fun v W1 u F1 H1 S1 V1 R1 hP => ?_
  cases hk : v.k with
  | pl => rw [hk] at hP; exact hP.elim
  | me i => rw [hk] at hP; exact hP.elim
  | fr =>
    rw [hk] at hP
    cases hd : v.d <;> rw [hd] at hP <;> try (exact hP.elim)
    rename_i xs
    simp only at hP
    by_cases hl : xs.length < cap
    · rw [if_pos hl] at hP
      have a1 := V1.at_
      rw [hk, hd] at a1
      obtain ⟨p, rfl, b2, b3, b4, ws0, b5, b6⟩ := a1
      refine ⟨.inl ⟨rfl, ws0, .inl (.inl b5)⟩, st_e R1 (hP.up S1.f) fun y W2 w F2 H2 S2 V2 R2 hP => ?_⟩
      have a2 := (V1.step R1 S2).at_
      rw [hk, hd] at a2
      obtain ⟨p', e1, c2, c3, c4, ws, c5, c6⟩ := a2
      cases e1
      refine ⟨p, ws, w, rfl, rfl, c5, by rw [c6.length, ← cap_eq]; exact hl, ?_⟩
      exact hP _ _ _ (R.setD (R.step (S1.trans S2)) c2 c4 c3 (fun q => by rw [c5]; exact fun z => by cases z) (fun q => by rw [c5]; exact fun z => by cases z) (.of c5 nt_lst)) S2.f
    · rw [if_neg hl] at hP; exact hP.elim
end
end Z

namespace Z
open PySem PySem.Spec PyProof.Rows L2
section
variable {c : Pm} {Wx : WX} {X : Cx} {fu n k : Nat} {σ : L2.St} {H : Hp} {Q : VK} {pos : Pos}
theorem runN {CX : CXT} {P : Program} {w : World} {K : PySem.W.Frag} {mg : Str → Option Value} {base : Heap} {k : Nat} {f : Addr} {x qual : Str} {st : Stmt} {fd : FuncData} {N ps : List Str} (Fu : Fun K x qual st f fd) (S : FnScope N ps (defScope st))
    {A : Around} {outer : List Env} {s : Shared} {H : Hp} {args : Args} {us : List Value} {vs : List V} {Q : VK} {E : XK} (hr : Room (k + 1) A) (e0 : Env0 P w K mg base A outer s H) (hb : BindsTo s fd args (ps.zip us)) (ru : Vals vs us) (hl : vs.length = ps.length)
    (body : ∀ cdv : Value, fd.code = cdv → Room k (A.deeper (envOfC qual (defScope st) s.heap.objs.size f cdv)) → ∃ t, PSs (cxOf CX P w K mg base N qual (defScope st) f cdv A outer s H E) (defBody st) t ∧ t { nx := fun _ H' => Q .non H', rt := Q } (L2.start N vs) H) :
    codeAny (model P w) A (.call (.ref f) args) (CR CX outer P w H s Q E) s := by
  obtain ⟨⟨oc, od, kV, doc, pm, an, cdv, ct, osl, rfl, lk, hcd⟩, kp⟩ := Fu
  obtain ⟨tt, ht, hq⟩ := body cdv rfl (hr.deeper _)
  have KX : K.In s.heap := e0.mod.kin.keeps fun b o z => (e0.bs b o z).1
  have nolim : s.heap.NoLimit := e0.mod.nolimit.keeps fun b o z => (e0.bs b o z).1
  have kinds : ∀ y ∈ ps.zip us, (defScope st).names.lookup y.1 = some .local ∨ ((defScope st).names.lookup y.1 = some .cell ∧ ((cellsFrom (s.heap.objs.size + 1) (defScope st).names []).lookup y.1).isSome = true) := by
    intro y hy
    have ey : y.1 ∈ ps := (List.of_mem_zip (a := y.1) (b := y.2) hy).1
    rcases S.par y.1 ey with q | q
    · exact .inl q
    · exact .inr ⟨q, PySem.W.cellsFrom_some _ _ _ (.inl q)⟩
  refine codeAny_call_function hr.depth (KX _ _ lk) rfl S.co S.gen rfl (PySem.W.codeRec_of KX hcd) (hb _ _ _ _ (wpAny_newFunctionEnv_cells S.kind kinds fun env he s1 y => ?_))
  subst he
  refine ⟨nolim.keeps y.toInCall.keep, codeAny_func ?_⟩
  have I := inv_start (CX := CX) (E := E) S hr.hd e0 hl ru y
  refine wpAny_mono (ht.run [] s1 (L2.start N vs) H _ I hq) (fun fl s2 hs => ?_) fun e s2 hs => hs
  cases fl with
  | next => obtain ⟨σ2, H2, J, q⟩ := hs; exact ⟨.non, H2, J.os, J.bare, J.base, J.hok, rfl, q⟩
  | ret z => obtain ⟨vz, σ2, H2, J, rz, q⟩ := hs; exact ⟨vz, H2, J.os, J.bare, J.base, J.hok, rz, q⟩
  | brk => obtain ⟨σ2, H2, J, q⟩ := hs; exact q.elim
  | cont => obtain ⟨σ2, H2, J, q⟩ := hs; exact q.elim
structure FnG (P : Program) (w : World) (K : PySem.W.Frag) (mg : Str → Option Value) (base : Heap) (CX : CXT) (k : Nat) (f : Addr) (fd : FuncData) (ps : List Str) (sp : Sp) : Prop where
  len : ∀ vs H Q E, sp vs H Q E → vs.length = ps.length
  run : ∀ (A : Around) (outer : List Env) (s : Shared) (H : Hp) (args : Args) (us : List Value) (vs : List V) (Q : VK) (E : XK), A.guards = some [] → Room k A → Env0 P w K mg base A outer s H → BindsTo s fd args (ps.zip us) → Vals vs us → sp vs H Q E →
    codeAny (model P w) A (.call (.ref f) args) (CR CX outer P w H s Q E) s
theorem FnG.mono {P : Program} {w : World} {K : PySem.W.Frag} {mg : Str → Option Value} {base : Heap} {CX : CXT} {j k : Nat} {f : Addr} {fd : FuncData} {ps : List Str} {sp : Sp} (F : FnG P w K mg base CX j f fd ps sp) (h : j ≤ k) :
    FnG P w K mg base CX k f fd ps sp := ⟨F.len, fun A outer s H args us vs Q E hg hr => F.run A outer s H args us vs Q E hg (hr.mono h)⟩
theorem fn_okG {P : Program} {w : World} {K : PySem.W.Frag} {mg : Str → Option Value} {base : Heap} {x qual : Str} {st : Stmt} {f : Addr} {fd : FuncData} {N ps : List Str} {b : S} (F : Fun K x qual st f fd) (S : FnScope N ps (defScope st))
    (hb : ∀ (cdv : Value) (A : Around) (outer : List Env) (s : Shared) (H : Hp) (E : XK), A.guards = some [] → Room k (A.deeper (envOfC qual (defScope st) s.heap.objs.size f cdv)) →
      L2N.Takes (cxOf (L2N.CX P w) P w K mg base N qual (defScope st) f cdv A outer s H E) (fun cls dd _ H' => E cls dd H') →
      PSs (cxOf (L2N.CX P w) P w K mg base N qual (defScope st) f cdv A outer s H E) (defBody st) (rdS c (fun cls dd _ H' => E cls dd H') fu b)) :
    FnG P w K mg base (L2N.CX P w) (k + 1) f fd ps (spG c (run fu N.length ps.length b)) :=
  ⟨fun vs H Q E h => spG_len h, fun A outer s H args us vs Q E hg hr e0 hbd ru h => runN F S hr e0 hbd ru (spG_len h) fun cdv hc hrm => ⟨_, hb cdv A outer s H E hg hrm (L2N.takes_of rfl rfl rfl rfl), (body_ok h).2⟩⟩
structure CalG (c : Pm) (P : Program) (w : World) (K : PySem.W.Frag) (mg : Str → Option Value) (base : Heap) (k : Nat) (x : Str) (ps : List Str) (g : G) : Prop where
  ex : ∃ (f : Addr) (fd : FuncData), mg x = some (.ref f) ∧ PySem.W.keepIn K (.ref f) = true ∧ Binds K fd ps [] ∧ FnG P w K mg base (L2N.CX P w) k f fd ps (spG c g)
theorem x_callG {j : Nat} {x : Str} {ps : List Str} {g : G} {e : Expr} {es : List Expr} {ea : E} {p : Pos} (n : Cn c Wx k X) (GD : X.A.guards = some []) (h : CalG c X.prog X.w X.K X.mg X.base j x ps g) (ha : PA X (e :: es) (rdL c Wx ea)) (hj : j ≤ k := by decide) (hg : Gl X x := by rfl) (hdb : (x == ("__debug__" : Str)) = false := by decide)
    (he : starEach (e :: es) X.env = (false, eval e X.env) :: starEach es X.env := by rfl) (hpl : (backTo pos (starEach es X.env)).any (·.1) = false := by rfl) : PE X (.Call (.Name x p) (e :: es) [] pos) (rdE c Wx (.call g ea)) := by
  obtain ⟨f, fd, h1, h2, h3, h4⟩ := h.ex
  refine ⟨fun pins s σ H Q I h => ?_⟩
  refine wpAny_Call_Name_kw (ld_glob I hg h1 ?_ hdb)
  refine PySem.W.callWith_K (h₀ := X.base) I.ok.mod.kin h2 (thn (ha.run pos pins s σ H _ I (call_ok h)) fun ws s1 ⟨zs, H1, I1, r, q1⟩ => ⟨I1.kIn, ?_⟩) he hpl
  have b := h3 s1 ws I1.kIn (by rw [List.append_nil]; exact r.length.symm.trans (h4.len _ _ _ _ q1))
  rw [List.append_nil] at b
  refine wpAny_call (codeAny_mono ((h4.mono hj).run X.A X.stack s1 H1 _ ws zs Q (WE Wx σ) GD n.room I1.env0 b r q1) fun res s2 hq => ?_)
  match res, hq with
  | .error e, hq => exact (L2N.passAt n.tk σ) pins H1 s1 e s2 I1 hq
  | .ok (.ret u), hq => exact I1.after hq
end
end Z

namespace Z
open PySem PySem.Spec PyProof.Rows L2
open Classical
section
variable {c : Pm} {Wx : WX} {X : Cx} {fu n k : Nat} {σ : L2.St} {H : Hp} {Q : VK} {pos : Pos}
def TabOk (c : Pm) (P : Program) (w : World) (K : PySem.W.Frag) (mg : Str → Option Value) (base : Heap) (j : Nat) : List (Str × G) → Prop
  | [] => True
  | (f, g) :: r => (mg f = some (.ref (He.ga c.K f)) ∧ ∃ ps, Cal c P w K mg base j f ps g) ∧ TabOk c P w K mg base j r
theorem TabOk.get {P : Program} {w : World} {K : PySem.W.Frag} {mg : Str → Option Value} {base : Heap} {j : Nat} {f : Str} {g : G} : ∀ {tb : List (Str × G)}, TabOk c P w K mg base j tb → tb.lookup f = some g → mg f = some (.ref (He.ga c.K f)) ∧ ∃ ps, Cal c P w K mg base j f ps g
  | [], _, e => by cases e
  | (f', g') :: r, ⟨h, t⟩, e => by
    rw [List.lookup_cons] at e
    by_cases q : f = f'
    · subst q
      rw [beq_self_eq_true] at e
      cases e
      exact h
    · rw [show (f == f') = false from by simpa using q] at e
      exact TabOk.get t e
end
end Z

namespace Z
open PySem PySem.Spec PyProof.Rows L2
open Classical
def plD (nm : Str) : D → Bool
  | .ins n _ => n == nm
  | .non => true
  | .bl _ => true
  | .int _ => true
  | .str _ => true
  | .tup _ => true
  | .lst _ => true
  | .dic t _ => !t
  | _ => false
def eqA (neg : Bool) (nm : Str) (g : G) : G := fun xs W => match xs with
  | [x, y] => if (insD nm x && plD nm y) = true then match g [x, y] W with
    | .ok (false, .bl b) W' => .ok (false, .bl (b != neg)) W'
    | _ => .stk
    else .stk
  | _ => .stk
section
variable {prog : Program} {w : World} {A A₀ : Around} {E : Value → Shared → Prop} {s : Shared} {K : PySem.W.Frag} {x C L f : Addr} {y : Value} {h₀ : Heap} {m : Str → Option Value} {ox : Obj} {od : Option Obj}
theorem ne_ownA {Q : Fin → Shared → Prop} (X : K.In s.heap) (I : PySem.W.InstAt s.heap x ox C od) (hs : PySem.W.findIn K (.ref C) "__eq__" = some (some (.ref f))) (hf : PySem.W.isFn K (.ref f) = true) (hu : A.units < cLine)
    (hcall : wpAny (model prog w) A (call (.ref f) [.ref x, y]) (fun v s' => ∃ b, v = .bool b ∧ Q (.done (.ret (.bool (!b)))) s') E s) :
    wpAny (model prog w) A (Builtin.«object.__ne__» ⟨[.ref x, y], []⟩) Q E s := by
  obtain ⟨hh, gg, dd, tt, oo⟩ := s
  unfold Builtin.«object.__ne__»
  repeat (first
    | with_reducible refine wpAny_cRoomFor hu ?_
    | (refine wpAny_bind (m := callSpecialIfBound? (.ref x) (Str.ofString "__eq__") [y])
        (PySem.W.ifBound_K X I hs hf (wpAny_mono hcall (fun r s' hr => by
          obtain ⟨b, rfl, hq⟩ := hr
          repeat (first | exact hq | exact wpAny_pure hq | exact wpAny_truthy_bool hq | (refine wpAny_bind (m := truthy (.bool _)) (wpAny_truthy_bool ?_)) | wp_step)) fun _ _ e => e)))
    | wp_step)
theorem cmp_neA {Q : Value → Shared → Prop} {tb : Value} (hu : A.units + 1 < cLine) (F : Fr h₀ L s.heap m) (X₀ : K.In h₀) (I : PySem.W.InstAt s.heap x ox C od) (J : PySem.W.Looks (model prog w) s.heap (typeOf y) tb) (nf : PySem.W.notFirst K C tb = true)
    (hs : PySem.W.findIn K (.ref C) "__eq__" = some (some (.ref f))) (hf : PySem.W.isFn K (.ref f) = true) (hn : PySem.W.findIn K (.ref C) "__ne__" = some (some (.builtin "object.__ne__"))) (ho : PySem.W.mroIn K C (.type "object") = some true)
    (h : wpAny (model prog w) A.in1 (call (.ref f) [.ref x, y]) (fun v s' => ∃ b, v = .bool b ∧ Q (.bool (!b)) s') E s) : wpAny (model prog w) A (richCompare .NotEq (.ref x) y) Q E s := by
  have X := X₀.keeps F.keep
  have sub : PySem.W.Looks (model prog w) s.heap (isInstance (.ref x) (.type "object")) true := I.type.andThen (PySem.W.looks_mroIn X ho)
  have one : wpAny (model prog w) A (tryCompare (.ref x) "__ne__" y) (fun r s' => ∃ v, r = some v ∧ Q v s') E s := by
    unfold tryCompare
    refine wpAny_bind (ifBound_ne X I hn (wpAny_call (codeAny_call_builtin PySem.F.cmp_object.ne.plain PySem.F.cmpEntry_ne
      (PySem.W.check_slot PySem.F.cmpKind_ne PySem.F.cmpSplit_ne sub (PySem.F.cmpArgs_ne _ _) (ne_ownA (A := A.in1) X I hs hf hu (wpAny_mono h (fun v s' hv => ?_) fun _ _ e => e))))))
    obtain ⟨b, rfl, hq⟩ := hv
    first | exact ⟨b, rfl, wpAny_pure ⟨_, rfl, hq⟩⟩ | exact ⟨b, rfl, wpAny_pure (wpAny_pure ⟨_, rfl, hq⟩)⟩ | exact ⟨b, rfl, ⟨_, rfl, hq⟩⟩
  unfold richCompare
  simp only [oneThing_ref]
  refine wpAny_holding (wpAny_bind (wpAny_cRoomFor (Nat.lt_of_succ_lt hu) ?_))
  refine wpAny_bind (I.type.here (wpAny_bind (J.here ?_)))
  split
  · rename_i q
    have e : PySem.W.subIn K tb (.ref C) = some false := by
      rcases Bool.or_eq_true_iff.mp nf with e | e
      · rw [beq_iff_eq.mp e] at q; simp at q
      · exact beq_iff_eq.mp e
    refine wpAny_bind ((PySem.W.looks_subIn X e).here ?_)
    simp only [Bool.false_eq_true, if_false]
    refine wpAny_bind (wpAny_mono one (fun r s' z => ?_) fun _ _ e => e)
    obtain ⟨v, rfl, hq⟩ := z
    exact wpAny_pure hq
  · refine wpAny_bind (wpAny_pure ?_)
    simp only [Bool.false_eq_true, if_false]
    refine wpAny_bind (wpAny_mono one (fun r s' z => ?_) fun _ _ e => e)
    obtain ⟨v, rfl, hq⟩ := z
    exact wpAny_pure hq
end
section
variable {c : Pm} {Wx : WX} {X : Cx} {fu n k : Nat} {W W' W1 W2 W3 : Dr} {F0 H0 F H F' H' F1 H1 F2 H2 F3 H3 Hs : Hp} {ρ ρ' : En} {σ σ' : L2.St} {u w : V} {x y v : Vl} {Q : VK} {us : List V} {vs : List Vl} {pos : Pos}
def rOA (K : PySem.W.Frag) (C : Addr) (sp : Sp) (neg : Bool) : R2 := fun x y H Q => (∃ a dx fs, x = .ref a ∧ H a = some (.ins C dx fs)) ∧ (∃ t, TyZ K H y t ∧ PySem.W.notFirst K C t = true) ∧ ∀ E, sp [x, y] H (fun v H' => ∃ r : Bool, v = .bl r ∧ Q (.bl (r != neg)) H') E
theorem nf_ty {K : PySem.W.Frag} {C : Addr} : ∀ T : String, T ∈ ["NoneType", "bool", "int", "str", "tuple", "list", "dict"] → PySem.W.notFirst K C (.type T) = true := by
  intro T h
  unfold PySem.W.notFirst PySem.W.subIn
  simp only [List.mem_cons, List.not_mem_nil, or_false] at h
  rcases h with rfl | rfl | rfl | rfl | rfl | rfl | rfl <;> rfl
theorem spG_eqA {neg : Bool} {nm : Str} {g : G} {x y : V} {E : XK} {C : Addr} {H : Hp} {Q : VK} (kl : Kls c) (hC : c.ca nm = some C) (h : spG c (eqA neg nm g) [x, y] H Q E) : rOA c.K C (spG c g) neg x y H Q := by
  obtain ⟨F, xs, W, r, S, hP⟩ := h
  cases r with
  | @cons _ _ d1 _ r1 r =>
    cases r with
    | @cons _ _ d2 _ r2 r =>
      cases r
      simp only [eqA] at hP
      split at hP
      · rename_i hd
        rw [Bool.and_eq_true] at hd
        obtain ⟨a, C', dx, fs, rfl, h1, h3⟩ := ins_of r1 hd.1
        rw [hC] at h3
        cases h3
        refine ⟨⟨a, dx, fs, rfl, S.sub _ _ h1⟩, ?_, fun E => ⟨F, [d1, d2], W, .cons r1 (.cons r2 .nil), S, ?_⟩⟩
        · have hp := hd.2
          cases r2 with
          | non => exact ⟨_, .base (.base .non), nf_ty _ (by simp)⟩
          | bl b => exact ⟨_, .base (.base (.bl b)), nf_ty _ (by simp)⟩
          | int b => exact ⟨_, .base (.base (.int b)), nf_ty _ (by simp)⟩
          | str b => exact ⟨_, .base (.base (.str b)), nf_ty _ (by simp)⟩
          | tup e1 _ => exact ⟨_, .base (.base (.tup (S.sub _ _ e1))), nf_ty _ (by simp)⟩
          | lst e1 _ => exact ⟨_, .base (.base (.lst (S.sub _ _ e1))), nf_ty _ (by simp)⟩
          | @dicK a' ks kvs e1 _ _ =>
            rcases e1 with e1 | ⟨o, e1⟩
            · exact ⟨_, .base (.base (.dK (S.sub _ _ e1))), nf_ty _ (by simp)⟩
            · exact ⟨_, .base (.fDict (S.sub _ _ e1)), nf_ty _ (by simp)⟩
          | @ins a' C' dx' n gs fs e1 e2 e3 =>
            have : n = nm := by simpa [plD] using hp
            subst this
            rw [hC] at e2
            cases e2
            have i := kl.ins _ _ hC
            exact ⟨_, .base (.base (.ins (S.sub _ _ e1) i.cl i.ha i.hn i.ht i.hm)), by unfold PySem.W.notFirst; rw [beq_self_eq_true, Bool.true_or]⟩
          | drw _ => simp [plD] at hp
          | scr _ => simp [plD] at hp
          | dicT _ _ _ => simp [plD] at hp
          | fn => simp [plD] at hp
          | edt => simp [plD] at hp
          | any => simp [plD] at hp
          | exc0 _ _ => simp [plD] at hp
          | exc1 _ _ _ _ _ => simp [plD] at hp
        · cases e : g [d1, d2] W with
          | stk => rw [e] at hP; exact hP.elim
          | ex z W' => rw [e] at hP; exact hP.elim
          | ok rr W' =>
            rw [e] at hP
            obtain ⟨nw, d⟩ := rr
            cases nw <;> cases d <;> try (exact hP.elim)
            rename_i b
            intro u F' H' S' hr
            cases hr
            exact ⟨b, rfl, hP _ F' H' S' (.bl _)⟩
      · exact hP.elim
theorem op_ownA {j : Nat} {nm : Str} {ps : List Str} {g : G} {C : Addr} (n : Cn c Wx k X) (M : OwnEq c X.prog X.w X.mg X.base j nm ps g) (hj : j + 1 ≤ k) (hC : c.ca nm = some C) :
    OpR X (compareOp .Eq) (rOA c.K C (spG c g) false) ∧ OpR X (compareOp .NotEq) (rOA c.K C (spG c g) true) := by
  obtain ⟨C', f, fd, h1, h2, h3, h4, h5⟩ := M.mth.ex
  rw [hC] at h1
  cases h1
  obtain ⟨m1, m2⟩ := M.ne C hC
  have hk := n.hk
  rw [← hk] at h2 h3 h4 h5 m1 m2 ⊢
  refine ⟨fun pins s σ H x y v u Q I rx ry hq => ?_, fun pins s σ H x y v u Q I rx ry hq => ?_⟩
  · obtain ⟨⟨a, dx, fs, rfl, ha⟩, ⟨t, ty, nf⟩, q⟩ := hq
    cases rx
    obtain ⟨mA, J, _⟩ := ins_get I.hok ha
    obtain ⟨od, J, _⟩ := J.look
    obtain ⟨P, kx, hP, _⟩ := kit_z I ry ty
    have J' := kx.ty (model X.prog X.w) s.heap I.kIn hP
    obtain ⟨m, hF⟩ := I.fr
    show wpAny (model X.prog X.w) X.A (richCompare .Eq _ _) (EP X pins σ Q) X.xe s
    refine PySem.W.cmp_K (op := .Eq) (tb := t) n.room.units0 hF I.ok.mod.kin J J' nf h3.at_ h3.fn (wpAny_mono (run_own (us := [.ref a, u]) (vs := [.ref a, y]) h5 (n.room.mono (Nat.le_of_succ_le hj)) rfl h4 (L2N.passAt n.tk σ) I (.cons rfl (.cons ry .nil)) (q _)) (fun v s' z => ?_) fun _ _ e => e)
    obtain ⟨vv, H', I', rv, r, rfl, hQ⟩ := z
    obtain rfl : v = .bool r := rv
    exact ⟨.bl (r != false), H', I', by rw [Bool.bne_false]; rfl, hQ⟩
  · obtain ⟨⟨a, dx, fs, rfl, ha⟩, ⟨t, ty, nf⟩, q⟩ := hq
    cases rx
    obtain ⟨mA, J, _⟩ := ins_get I.hok ha
    obtain ⟨od, J, _⟩ := J.look
    obtain ⟨P, kx, hP, _⟩ := kit_z I ry ty
    have J' := kx.ty (model X.prog X.w) s.heap I.kIn hP
    obtain ⟨m, hF⟩ := I.fr
    show wpAny (model X.prog X.w) X.A (richCompare .NotEq _ _) (EP X pins σ Q) X.xe s
    refine cmp_neA (by have := n.hu; omega) hF I.ok.mod.kin J J' nf h3.at_ h3.fn m1 m2 (wpAny_mono (run_own (A := X.A.in1) (us := [.ref a, u]) (vs := [.ref a, y]) h5 ((n.room.mono hj).in1) rfl h4 (L2N.passAt n.tk σ) I (.cons rfl (.cons ry .nil)) (q _)) (fun v s' z => ?_) fun _ _ e => e)
    obtain ⟨vv, H', I', rv, r, rfl, hQ⟩ := z
    obtain rfl : v = .bool r := rv
    exact ⟨r, rfl, .bl (r != true), H', I', by cases r <;> rfl, hQ⟩
theorem own_liftA {neg : Bool} {nm : Str} {g : G} {ea eb : E} {C : Addr} {Q : VK} {σ : L2.St} {H : Hp} (kl : Kls c) (hC : c.ca nm = some C) (h : rdE c Wx (.call (eqA neg nm g) (.cons ea (.cons eb .nil))) σ H Q) : tOp (rOA c.K C (spG c g) neg) (rdE c Wx ea) (rdE c Wx eb) σ H Q :=
  rdE_mono (call2_ok h) fun x H1 h2 => rdE_mono h2 fun y H2 h3 => spG_eqA kl hC h3
theorem y_ownA {neg : Bool} {op : CmpOp} {j : Nat} {nm : Str} {ps : List Str} {g : G} {a b : Expr} {ea eb : E} (n : Cn c Wx k X) (kl : Kls c) (M : OwnEq c X.prog X.w X.mg X.base j nm ps g) (ha : PE X a (rdE c Wx ea)) (hb : PE X b (rdE c Wx eb)) (hj : j + 1 ≤ k := by decide) (ho : op = (if neg then .NotEq else .Eq) := by rfl) (hm : behindInMarks op b = false := by first | exact nobehind _ (by decide) (by decide) | rfl) :
    PT X (.Compare a [op] [b] pos) (rdT c Wx (.tv (.call (eqA neg nm g) (.cons ea (.cons eb .nil))))) := by
  obtain ⟨C, _, _, hC, _⟩ := M.mth.ex
  obtain ⟨h1, h2⟩ := op_ownA n M hj hC
  have fin : ∀ σ H Q, rdT c Wx (.tv (.call (eqA neg nm g) (.cons ea (.cons eb .nil)))) σ H Q → tOp (rOA c.K C (spG c g) neg) (rdE c Wx ea) (rdE c Wx eb) σ H fun v H' => ∃ b, v = .bl b ∧ Q b H' := by
    intro σ H Q h
    refine own_liftA (Wx := Wx) kl hC ?_
    obtain ⟨F0, H0, ρ, F, W, R, hP⟩ := h
    refine ⟨F0, H0, ρ, F, W, R, ?_⟩
    simp only [evT] at hP
    revert hP
    cases e : ev (.call (eqA neg nm g) (.cons ea (.cons eb .nil))) ρ W with
    | stk => exact fun h => h
    | ex x W' => exact fun h => h
    | ok z W' =>
      intro hP u F' H' S V
      cases ez : z.d <;> simp only [Out.bind, ez, D.isBl, ofO] at hP <;> try (exact hP.elim)
      rename_i b
      exact ⟨b, V.bl (R.step S) ez, hP b F' H' S rfl⟩
  subst ho
  cases neg
  · exact pt_wk (pt_cmpR h1 ha hb hm) fin
  · exact pt_wk (pt_cmpR h2 ha hb hm) fin
end
end Z

namespace Z
open PySem PySem.Spec PyProof.Rows L2
open Classical
def txs : List D → Option (List Str)
  | [] => some []
  | .str s :: r => (txs r).map (s :: ·)
  | _ :: _ => none
def txT : D → Option (List Str)
  | .tup xs => txs xs
  | _ => none
def rowsD : List D → Option (List (List Str))
  | [] => some []
  | x :: r => match txT x, rowsD r with
    | some a, some b => some (a :: b)
    | _, _ => none
def pdR (l : List Str) : PyData := .tuple (l.map .str)
def thR (l : List Str) : D := .tup (l.map .str)
def stP : PyData → Str
  | .str s => s
  | _ => ""
def rowP : PyData → List Str
  | .tuple xs => xs.map stP
  | _ => []
theorem rowP_pdR (l : List Str) : rowP (pdR l) = l := by
  simp only [rowP, pdR, List.map_map]
  exact (List.map_congr_left fun _ _ => rfl).trans (List.map_id l)
def minR (x : List Str) (xs : List (List Str)) : List Str := rowP (PySem.W.minD (pdR x) (xs.map pdR))
noncomputable def minTD : List D → Option (Bool × D)
  | [.lst xs] => match rowsD xs with
    | some (l :: ls) => some (false, thR (minR l ls))
    | _ => none
  | _ => none
theorem txs_map : ∀ {xs : List D} {l : List Str}, txs xs = some l → xs = l.map .str
  | [], _, h => by cases h; rfl
  | .str s :: r, l, h => by
    simp only [txs, Option.map_eq_some_iff] at h
    obtain ⟨a, h1, rfl⟩ := h
    rw [txs_map h1]; rfl
theorem rowsD_map : ∀ {xs : List D} {l : List (List Str)}, rowsD xs = some l → xs = l.map thR
  | [], _, h => by cases h; rfl
  | x :: r, l, h => by
    simp only [rowsD] at h
    split at h
    · rename_i a b h1 h2
      cases h
      rw [List.map_cons, rowsD_map h2]
      cases x <;> simp only [txT] at h1 <;> try (cases h1; done)
      rw [txs_map h1]; rfl
    · cases h
theorem alikeM_strs : ∀ (a b : List Str), PySem.W.alikeAll (a.map PyData.str) (b.map PyData.str) = true
  | [], _ => by simp [PySem.W.alikeAll]
  | _ :: _, [] => by simp [PySem.W.alikeAll]
  | x :: a, y :: b => by simp only [List.map_cons, PySem.W.alikeAll, PySem.W.alike, Bool.true_and]; exact alikeM_strs a b
theorem depthM_strs : ∀ a : List Str, PyData.depthAll (a.map PyData.str) = 0
  | [] => rfl
  | x :: a => by simp [PyData.depthAll, PyData.depth, depthM_strs a]
theorem depth_rows : ∀ a : List (List Str), PyData.depthAll (a.map pdR) ≤ 1
  | [] => by simp [PyData.depthAll]
  | x :: a => by
    have := depth_rows a
    have h : PyData.depth (pdR x) ≤ 1 := by simp [pdR, PyData.depth, depthM_strs]
    simp only [List.map_cons, PyData.depthAll]
    omega
theorem alike_rows (ls : List (List Str)) : PySem.W.AlikeAll (ls.map pdR) := by
  refine ⟨fun x hx y hy => ?_, fun x hx => ?_⟩
  · obtain ⟨a, _, rfl⟩ := List.mem_map.mp hx
    obtain ⟨b, _, rfl⟩ := List.mem_map.mp hy
    exact alikeM_strs a b
  · obtain ⟨a, _, rfl⟩ := List.mem_map.mp hx
    exact fun h => nomatch h
theorem pyNLM_strs (n : Nat) : ∀ l : List Str, D.pyNL n (l.map .str) = some (l.map .str)
  | [] => rfl
  | x :: l => by cases n <;> simp only [List.map_cons, D.pyNL, D.pyN, pyNLM_strs _ l]
theorem pd_thR {l : List Str} : (thR l).pd = some (pdR l) := by
  show (D.pyNL 11 (l.map .str)).map PyData.tuple = _
  rw [pyNLM_strs]; rfl
section
variable {c : Pm} {Wx : WX} {X : Cx} {fu n k : Nat} {σ : L2.St} {H : Hp} {Q : VK} {pos : Pos}
def rMinT (c : Pm) : List V → Hp → VK → Prop := fun vs H Q => ∃ (a : Addr) (us : List V) (F : Hp) (l : List Str) (ls : List (List Str)), vs = [.ref a] ∧ SqL c.K H a us ∧ Same F H ∧ RepL c F us ((l :: ls).map thR) ∧ ∀ u, Rep c F u (thR (minR l ls)) → Q u H
theorem cr_minT (hk : X.K = c.K) (hc : X.calm = true) (hu : X.A.units + 64 < cLine) : CallR X (.builtin "min") (rMinT c) := by
  intro pins s σ H vs us Q I r h
  obtain ⟨a, zs, F, l, ls, rfl, hs, sF, rx, q⟩ := h
  rw [← hk] at hs
  obtain ⟨its, rv, hl, hz⟩ := I.list hs
  rw [Vals.ref1 r]
  have hrd : ∀ (zs : List V) (its : List Value) (rs : List (List Str)), Vals zs its → RepL c F zs (rs.map thR) → ∃ as, ReadsAll s.heap its (rs.map pdR) as := by
    intro zs
    induction zs with
    | nil =>
      intro its rs rv rx
      cases rv
      cases rs with
      | nil => exact ⟨_, .nil⟩
      | cons a b => cases rx
    | cons z zs ih =>
      intro its rs rv rx
      cases rv with
      | cons r t =>
        cases rs with
        | nil => cases rx
        | cons a b =>
          cases rx with
          | cons r' t' =>
            obtain ⟨as, h1⟩ := ih _ _ t t'
            have hd : Dp X.K H z (pdR a) := by rw [hk]; exact dp_mono sF (rep_dp _ _ _ _ pd_thR r')
            obtain ⟨bs, h2⟩ := Dp.reads I _ _ _ hd r
            exact ⟨_, .cons h2 h1⟩
  obtain ⟨as, hrd⟩ := hrd zs its (l :: ls) rv rx
  refine PySem.W.min_list_data (x := pdR l) (xs := ls.map pdR) (I.ok.hd hc) hl.isList (by simpa using hrd) (alike_rows (l :: ls)) (by have := depth_rows (l :: ls); rw [List.map_cons] at this; show X.A.units + 1 + _ < _; omega) fun i v h' tk bs hi hr hk' => ?_
  have hi' : its[i]? = some v := by simpa using hi
  obtain ⟨u, hu, ru⟩ : ∃ u, zs[i]? = some u ∧ RelV u v := by
    have := rv.length
    have hlt : i < its.length := (List.getElem?_eq_some_iff.mp hi').1
    obtain ⟨w, h1, h2⟩ := rv.get (List.getElem?_eq_getElem (l := zs) (i := i) (by omega))
    rw [hi'] at h1
    cases h1
    exact ⟨_, List.getElem?_eq_getElem _, h2⟩
  obtain ⟨x, hx, rr⟩ := rx.getV hu
  rw [List.getElem?_map, Option.map_eq_some_iff] at hx
  obtain ⟨b, hb, rfl⟩ := hx
  have hd : Dp X.K H u (pdR b) := by rw [hk]; exact dp_mono sF (rep_dp _ _ _ _ pd_thR rr)
  obtain ⟨bs2, h2⟩ := Dp.reads I _ _ _ hd ru
  have e := (Reads.unique (PyProof.Rows.Reads.keeps hk' h2) _ _ hr).1
  have em : minR l ls = b := by
    unfold minR
    rw [← e, rowP_pdR]
  exact ⟨u, H, I.kept hk', ru, q u (by rw [em]; exact rr)⟩
theorem boot_min' : bootBuiltins "min" = some (.builtin "min") := by first | rfl | decide +kernel
theorem x_minT {a : Expr} {ea : E} {p : Pos} (n : Cn c Wx k X) (hm : X.mg "min" = none) (ha : PA X [a] (rdL c Wx ea)) (hg : Gl X "min" := by rfl) (he : starEach [a] X.env = (false, eval a X.env) :: starEach [] X.env := by rfl) (hpl : (backTo pos (starEach [] X.env)).any (·.1) = false := by rfl) :
    PE X (.Call (.Name "min" p) [a] [] pos) (rdE c Wx (.call (pureG minTD) ea)) := by
  refine x_bltB n (fun vs H Q E h => ?_) (cr_minT n.hk n.calm n.hu) boot_min' hm ha hg (by decide) (by decide) he hpl
  obtain ⟨F, xs, W, r, rr, S, hf, hQ⟩ := spG_pure h
  match xs, rr, hf with
  | [.lst ds], .cons (v := v) r1 .nil, hf =>
    simp only [minTD] at hf
    split at hf
    · rename_i l ls hl
      cases hf
      cases r1 with
      | @lst a us _ h1 h2 =>
        rw [rowsD_map hl] at h2
        exact ⟨a, us, F, l, ls, rfl, .inl (.inl (S.sub _ _ h1)), S.sub, h2, fun u ru => hQ _ F _ S ru⟩
    · cases hf
end
end Z

namespace Z
open PySem PySem.Spec PyProof.Rows L2
open Classical
section
variable {c : Pm} {Wx : WX} {X : Cx} {fu n k : Nat} {σ : L2.St} {H : Hp} {Q : VK} {pos : Pos}
end
end Z

namespace Z
open PySem PySem.Spec PyProof.Rows L2
section
variable {c : Pm} {Wx : WX} {X : Cx} {fu n k : Nat} {σ : L2.St} {H : Hp} {Q : VK} {pos : Pos}
end
end Z

namespace Z
open PySem PySem.Spec PyProof.Rows L2
section
variable {c : Pm} {Wx : WX} {X : Cx} {fu n k : Nat} {σ : L2.St} {H : Hp} {Q : VK} {pos : Pos}
end
end Z

namespace Z
open PySem PySem.Spec PyProof.Rows L2 He
end Z

namespace Z
open PySem PySem.Spec PyProof.Rows L2
open Classical
section
variable {c : Pm} {Wx : WX} {X : Cx} {fu n k : Nat} {σ : L2.St} {H : Hp} {Q : VK} {pos : Pos}
end
end Z

namespace Z
open PySem PySem.Spec PyProof.Rows L2
open Classical
section
variable {c : Pm} {Wx : WX} {X : Cx} {fu n k : Nat} {σ : L2.St} {H : Hp} {Q : VK} {pos : Pos}
def neNilD : List D → Option (Bool × D)
  | [.lst xs, .lst []] => some (false, .bl (!xs.isEmpty))
  | _ => none
def rNeNil (K : PySem.W.Frag) : R2 := fun x y H Q => ∃ a b xs, x = .ref a ∧ y = .ref b ∧ SqL K H a xs ∧ SqL K H b [] ∧ Q (.bl (!xs.isEmpty)) H
theorem op_neNil (hu : X.A.units < cLine) : OpR X (compareOp .NotEq) (rNeNil X.K) := by
  intro pins s σ H x y v u Q I rx ry h
  obtain ⟨a, b, xs, rfl, rfl, ea, eb, q⟩ := h
  obtain rfl : v = Value.ref a := rx
  obtain rfl : u = Value.ref b := ry
  obtain ⟨its, r1, ⟨oa, na, a1, a2, a3, a4⟩, _⟩ := I.list ea
  obtain ⟨itb, r2, ⟨ob, nb, b1, b2, b3, b4⟩, _⟩ := I.list eb
  have la : s.heap.IsList a its.toArray := ⟨oa, a1, by first | exact a2 | exact a3 | exact a4, na, by first | exact a2 | exact a3 | exact a4⟩
  have lb : s.heap.IsList b itb.toArray := ⟨ob, b1, by first | exact b2 | exact b3 | exact b4, nb, by first | exact b2 | exact b3 | exact b4⟩
  cases r2
  cases xs with
  | nil =>
    cases r1
    exact PySem.SeqAt.RcNeAt.lists (e := fun _ => true) la lb rfl hu (fun j h1 _ => absurd h1 (by simp)) _ _ _ _ ⟨.bl _, H, I, rfl, q⟩
  | cons z zs =>
    cases r1
    exact PySem.SeqAt.RcNeAt.lists_lengths la lb (by simp) hu _ _ _ _ ⟨.bl _, H, I, rfl, q⟩
theorem neNil_ok {x y : V} {E : XK} (n : Cn c Wx k X) (h : spG c (pureG neNilD) [x, y] H Q E) : rNeNil X.K x y H Q := by
  obtain ⟨F, xs, W, r, rr, S, hf, hQ⟩ := spG_pure h
  match xs, rr, hf with
  | [.lst xs, .lst []], .cons r1 (.cons r2 .nil), hf =>
    cases hf
    obtain ⟨p, us, rfl, e1, e2⟩ := r1.lstI
    obtain ⟨p2, us2, rfl, e3, e4⟩ := r2.lstI
    cases e4
    have : us.isEmpty = xs.isEmpty := by cases e2 <;> rfl
    exact ⟨p, p2, us, rfl, rfl, .inl (.inl (S.sub _ _ e1)), .inl (.inl (S.sub _ _ e3)), by rw [this]; exact hQ _ F _ S (.bl _)⟩
theorem test_bl {g : G} {es : E} {Q : Bool → Hp → Prop} (h : rdT c Wx (.tv (.call g es)) σ H Q) : rdE c Wx (.call g es) σ H fun v H' => ∃ b, v = .bl b ∧ Q b H' := by
  obtain ⟨F0, H0, ρ, F, W, R, hP⟩ := h
  refine ⟨F0, H0, ρ, F, W, R, ?_⟩
  simp only [evT] at hP
  revert hP
  cases e : ev (.call g es) ρ W with
  | stk => exact fun h => h
  | ex x W' => exact fun h => h
  | ok z W' =>
    intro hP u F' H' S V
    cases ez : z.d <;> simp only [Out.bind, ez, D.isBl, ofO] at hP <;> try (exact hP.elim)
    rename_i b
    exact ⟨b, V.bl (R.step S) ez, hP b F' H' S rfl⟩
theorem y_neNil {a b : Expr} {ea eb : E} (n : Cn c Wx k X) (ha : PE X a (rdE c Wx ea)) (hb : PE X b (rdE c Wx eb)) (hm : behindInMarks .NotEq b = false := by first | exact nobehind _ (by decide) (by decide) | rfl) :
    PT X (.Compare a [.NotEq] [b] pos) (rdT c Wx (.tv (.call (pureG neNilD) (.cons ea (.cons eb .nil))))) := by
  refine pt_wk (pt_cmpR (op_neNil (by have := n.hu; omega)) ha hb hm) fun σ H Q h => rdE_mono (call2_ok (test_bl h)) fun x H1 h2 => rdE_mono h2 fun y H2 h3 => ?_
  exact neNil_ok n h3
end
end Z

set_option pp.maxSteps 300
namespace Z
open PySem PySem.Spec PyProof.Rows L2
section
variable {X : Cx}
structure Blk (X : Cx) (pins : List (Addr × Obj)) (σ : L2.St) (scope : Scope) (tg : Expr) (fp : List Addr) (ce : Env) (J : It) (it : Addr) (tn : Nat → Heap → Prop) (sB : Shared) (HB : Hp) : Prop where
  def_ : Inv X pins σ HB sB
  turn : Turn X.prog X.w X.K tg J fp it tn
  fr : ∀ b ∈ fp, FpOk X pins HB b ∧ b < sB.heap.objs.size
  env : ce.locals = sB.heap.objs.size
variable {pins pm : List (Addr × Obj)} {σ σ' : L2.St} {scope : Scope} {tg : Expr} {fp : List Addr} {ce : Env} {J : It} {it : Addr} {tn : Nat → Heap → Prop} {sB s' : Shared} {HB H' : Hp} {i : Nat}
theorem blk_fp (I : Inv (X.blk sB HB scope ce fp) [] σ' H' s') (none_ : ∀ b ∈ fp, H' b = none) : ∀ b ∈ fp, FpOk (X.blk sB HB scope ce fp) [] H' b := fun b hb =>
  ⟨none_ b hb, (I.ok.exf b hb).1, I.ok.exfs b hb, .inl hb, fun x c e => (I.ok.exf b hb).2 x c e, fun p hp => absurd (show p ∈ ([] : List (Addr × Obj)) ++ [] from hp) (by simp)⟩
theorem Blk.stop (B : Blk X pins σ scope tg fp ce J it tn sB HB) (calm : X.calm = true) (I : Inv (X.blk sB HB scope ce fp) [] σ' H' s') (st : tn i s'.heap) (none_ : ∀ b ∈ fp, H' b = none) (go : J.stop i H') :
    wpAny (model X.prog X.w) X.A (pyNext (.ref it)) (fun r s2 => r = none ∧ Inv X pins σ H' s2 ∧ ∃ m, s2.heap.Ns sB.heap.objs.size m ∧ FpOk X pins H' sB.heap.objs.size) (fun _ _ => False) s' := by
  refine thnF (B.turn.done (X.blk sB HB scope ce fp) rfl rfl rfl calm i [] s' σ' H' (fun _ _ => False) I (blk_fp I none_) st go) fun r s2 ⟨e, I2⟩ => ⟨e, ?_, ?_⟩
  · exact B.def_.call' (ch := fp) I2.os I2.base I2.hok I2.bare fun b hb => by
      obtain ⟨⟨_, q1, _, q2, q3, q4⟩, _⟩ := B.fr b hb
      exact ⟨q2, q1, q3, q4⟩
  · have away : H' sB.heap.objs.size = none := by
      have z : H' ce.locals = none := I2.free
      rwa [B.env] at z
    obtain ⟨m, ns, _⟩ := I2.loc
    have ns : s2.heap.Ns ce.locals m := ns
    rw [B.env] at ns
    exact ⟨m, ns, B.def_.fpOk (Nat.le_refl _) away⟩
variable {s : Shared} {H : Hp} {Q : VK} {kx vx iter : Expr} {ifs : List Expr} {rest : List Comprehension} {own : List (Str × Nat)} {pos pos' : Pos} {wi : TI} {use : Option (Value → Sem Unit)} {Qf : Value → Shared → Prop} {ob : HO}
end
end Z

set_option pp.maxSteps 300
namespace Z
open PySem PySem.Spec PyProof.Rows L2
section
variable {prog : Program} {w : World} {A : Around} {R : Result → Shared → Prop} {s : Shared} {kx vx t0 i0 t1 i1 : Expr} {f0 f1 : List Expr} {scope : Scope} {pos : Pos} {it : Value} {D : Addr} {env : Env}
end
section
variable {X : Cx} {σ : L2.St} {H : Hp} {Q : VK} {kx vx tg iter tg1 iter1 : Expr} {ifs ifs1 : List Expr} {scope : Scope} {own : List (Str × Nat)} {vs1 : List Nat} {pos : Pos} {wi wi1 : TI} {ob : HO}
end
end Z

set_option pp.maxSteps 300
namespace Z
open PySem PySem.Spec PyProof.Rows L2
open Classical
def Sqj (K : PySem.W.Frag) (H : Hp) (a : Addr) (ys : List V) (J : It) : Prop := (SqL K H a ys ∧ J = Itl K a) ∨ (SqT K H a ys ∧ J = Itt K a)
theorem Sqj.mono {K : PySem.W.Frag} {H H' : Hp} {a : Addr} {ys : List V} {J : It} (s : Same H H') (h : Sqj K H a ys J) : Sqj K H' a ys J := by
  rcases h with ⟨h, e⟩ | ⟨h, e⟩
  · refine .inl ⟨?_, e⟩
    rcases h with (h | ⟨o, h⟩) | h
    · exact .inl (.inl (s _ _ h))
    · exact .inl (.inr ⟨o, s _ _ h⟩)
    · exact .inr h
  · exact .inr ⟨Same.sqT s h, e⟩
theorem Sqj.go {K : PySem.W.Frag} {H : Hp} {a : Addr} {ys : List V} {J : It} {i : Nat} {y : V} (h : Sqj K H a ys J) (e : ys[i]? = some y) : J.go i H := by
  rcases h with ⟨h, rfl⟩ | ⟨h, rfl⟩
  · exact ⟨ys, y, h, e⟩
  · exact ⟨ys, y, h, e⟩
theorem Sqj.yld {K : PySem.W.Frag} {H H' : Hp} {a : Addr} {ys : List V} {J : It} {i : Nat} {x : V} (h : Sqj K H a ys J) (g : J.yld i H x H') : H' = H ∧ ys[i]? = some x := by
  rcases h with ⟨h, rfl⟩ | ⟨h, rfl⟩
  · exact ⟨g.1, g.2 ys h⟩
  · exact ⟨g.1, g.2 ys h⟩
theorem Sqj.stop {K : PySem.W.Frag} {H : Hp} {a : Addr} {ys : List V} {J : It} {i : Nat} (h : Sqj K H a ys J) (e : ys.length ≤ i) : J.stop i H := by
  rcases h with ⟨h, rfl⟩ | ⟨h, rfl⟩
  · exact ⟨ys, h, e⟩
  · exact ⟨ys, h, e⟩
section
variable {c : Pm} {Wx : WX} {X : Cx} {fu n k : Nat} {σ : L2.St} {H : Hp} {Q : VK} {pos : Pos}
end
end Z

set_option pp.maxSteps 300
namespace Z
open PySem PySem.Spec PyProof.Rows L2
open Classical
section
variable {c : Pm} {Wx : WX} {X : Cx} {fu n k : Nat} {σ : L2.St} {H : Hp} {Q : VK} {pos : Pos}
end
end Z

namespace Z
open PySem PySem.Spec PyProof.Rows L2
section
variable {c : Pm} {Wx : WX} {X : Cx} {fu n k : Nat} {σ : L2.St} {H : Hp} {Q : VK} {pos : Pos}
end
end Z

namespace Z
open PySem PySem.Spec PyProof.Rows L2
section
variable {X : Cx}
end
end Z

set_option pp.maxSteps 300
namespace Z
open PySem PySem.Spec PyProof.Rows L2
open Classical
section
variable {c : Pm} {Wx : WX} {X : Cx} {fu n k : Nat} {W W' W1 W2 : Dr} {F0 H0 F H F' H' F1 H1 : Hp} {ρ : En} {σ : L2.St} {Q : VK} {pos : Pos}
end
end Z

set_option pp.maxSteps 300
namespace Z
open PySem PySem.Spec PyProof.Rows L2
open Classical
section
variable {c : Pm} {Wx : WX} {X : Cx} {fu n k : Nat} {σ : L2.St} {H : Hp} {Q : VK} {pos : Pos}
end
end Z

set_option pp.maxSteps 300
namespace HT
open PySem PySem.Spec PyProof.Rows
section
variable {prog : Program} {w : World} {A : Around} {E : Value → Shared → Prop} {s : Shared}
end
end HT
namespace Z
open PySem PySem.Spec PyProof.Rows L2
open Classical
section
variable {c : Pm} {Wx : WX} {X : Cx} {fu n k : Nat} {σ : L2.St} {H : Hp} {Q : VK} {pos : Pos}
end
end Z

set_option pp.maxSteps 300
namespace Z
open PySem PySem.Spec PyProof.Rows L2
open Classical
section
variable {c : Pm} {Wx : WX} {X : Cx} {fu k : Nat} {pos : Pos}
theorem Cn.nox (n : Cn c Wx k X) : Cn c WXF k X.nox := ⟨n.hk, n.calm, n.nd, L2N.takes0, n.room⟩
end
section
variable {c : Pm} {Wx : WX} {X : Cx} {fu n k : Nat} {W W' W1 W2 W3 : Dr} {F0 H0 F H F' H' F1 H1 F2 H2 F3 H3 Hs : Hp} {ρ ρ' : En} {σ σ' : L2.St} {u w : V} {x y v : Vl} {Q : VK} {us : List V} {vs : List Vl} {pos : Pos}
end
end Z

set_option pp.maxSteps 300
namespace Z
open PySem PySem.Spec PyProof.Rows L2
open Classical
section
variable {prog : Program} {w : World} {A : Around} {E : Value → Shared → Prop} {s : Shared}
end

end Z

set_option pp.maxSteps 300
namespace Z
open PySem PySem.Spec PyProof.Rows L2
open Classical
section
variable {c : Pm} {Wx : WX} {X : Cx} {fu n k : Nat} {W W' W1 W2 W3 : Dr} {F0 H0 F H F' H' F1 H1 F2 H2 F3 H3 Hs FF : Hp} {ρ ρ' : En} {σ σ' : L2.St} {u w : V} {x y v : Vl} {Q : VK} {us : List V} {vs : List Vl} {pos : Pos}
end
end Z

set_option pp.maxSteps 300
namespace Z
open PySem PySem.Spec PyProof.Rows L2
open Classical
end Z

set_option pp.maxSteps 300
namespace Z
open PySem PySem.Spec PyProof.Rows L2
open Classical
def IsDk (u : HO) : Prop := (∃ ks, u = .dK ks) ∨ ∃ ks, u = .dT ks
theorem IsDk.nfrz {u : HO} (h : IsDk u) {o : Obj} {v : HO} : u ≠ .frz o v := by rcases h with ⟨ks, rfl⟩ | ⟨ks, rfl⟩ <;> exact fun z => by cases z
def Dpp (p p' : HO) : Prop := ∃ u od, IsDk u ∧ ((p = u ∧ p' = .frz od u) ∨ (p = .frz od u ∧ p' = u))
theorem Dpp.nt {p p' : HO} (h : Dpp p p') : Nt p ∧ Nt p' := by
  obtain ⟨u, od, dk, ⟨rfl, rfl⟩ | ⟨rfl, rfl⟩⟩ := h <;> rcases dk with ⟨ks, rfl⟩ | ⟨ks, rfl⟩ <;> exact ⟨⟨fun _ z => (nomatch z), fun ⟨_, _, _, _, z⟩ => (nomatch z)⟩, ⟨fun _ z => (nomatch z), fun ⟨_, _, _, _, z⟩ => (nomatch z)⟩⟩
theorem Dpp.ob {p p' : HO} (h : Dpp p p') : Ob p ∧ Ob p' := by
  obtain ⟨u, od, dk, ⟨rfl, rfl⟩ | ⟨rfl, rfl⟩⟩ := h <;> rcases dk with ⟨ks, rfl⟩ | ⟨ks, rfl⟩ <;> exact ⟨⟨⟨fun _ z => (nomatch z), fun ⟨_, _, _, _, z⟩ => (nomatch z)⟩, fun _ z => (nomatch z)⟩, ⟨⟨fun _ z => (nomatch z), fun ⟨_, _, _, _, z⟩ => (nomatch z)⟩, fun _ z => (nomatch z)⟩⟩
structure Sw (d : Addr) (p p' : HO) (X X' : Hp) : Prop where
  off : ∀ a, a ≠ d → X' a = X a
  at_ : (X d = some p ∧ X' d = some p') ∨ (X' d = X d ∧ X d ≠ some p)
section
variable {c : Pm} {d : Addr} {p p' : HO} {X X' F F' H H' F0 F0' H0 H0' : Hp} {W : Dr} {σ : L2.St} {ρ : En}
theorem Sw.get (s : Sw d p p' X X') {a : Addr} {o : HO} (e : X a = some o) (h : o ≠ p) : X' a = some o := by
  by_cases q : a = d
  · subst q
    rcases s.at_ with ⟨q, _⟩ | ⟨q, _⟩
    · rw [q] at e; cases e; exact absurd rfl h
    · rw [q]; exact e
  · rw [s.off a q]; exact e
theorem Sw.none (s : Sw d p p' X X') {a : Addr} (e : X a = none) : X' a = none := by
  by_cases q : a = d
  · subst q
    rcases s.at_ with ⟨q, _⟩ | ⟨q, _⟩
    · rw [q] at e; cases e
    · rw [q]; exact e
  · rw [s.off a q]; exact e
theorem Sw.nil (s : Sw d p p' X X') (dp : Dpp p p') {a : Addr} (e : Nil X a) : Nil X' a := fun ⟨o, h, ob⟩ => by
  by_cases q : a = d
  · subst q
    rcases s.at_ with ⟨q, q'⟩ | ⟨q, _⟩
    · exact e ⟨_, q, dp.ob.1⟩
    · rw [q] at h; exact e ⟨o, h, ob⟩
  · rw [s.off a q] at h; exact e ⟨o, h, ob⟩
theorem Dpp.np {p p' o : HO} (dp : Dpp p p') (h1 : ∀ ks, o ≠ .dK ks) (h2 : ∀ ks, o ≠ .dT ks) (h3 : ∀ o' ks, o ≠ .frz o' (.dK ks)) (h4 : ∀ o' ks, o ≠ .frz o' (.dT ks)) : o ≠ p := by
  obtain ⟨u, od, dk, ⟨rfl, rfl⟩ | ⟨rfl, rfl⟩⟩ := dp <;> rcases dk with ⟨ks, rfl⟩ | ⟨ks, rfl⟩
  · exact h1 _
  · exact h2 _
  · exact h3 _ _
  · exact h4 _ _
theorem Sw.rd (s : Sw d p p' X X') (dp : Dpp p p') {a : Addr} {v : HO} (dv : IsDk v) (e : Rd X a v) : Rd X' a v := by
  by_cases h : a = d
  · subst h
    rcases s.at_ with ⟨q, q'⟩ | ⟨q, _⟩
    · obtain ⟨u, od, dk, ⟨rfl, rfl⟩ | ⟨rfl, rfl⟩⟩ := dp
      · rcases e with e | ⟨o, e⟩
        · rw [q] at e; cases e; exact .inr ⟨_, q'⟩
        · rw [q] at e; cases e; exact absurd rfl dk.nfrz
      · rcases e with e | ⟨o, e⟩
        · rw [q] at e; cases e; exact absurd rfl dv.nfrz
        · rw [q] at e; cases e; exact .inl q'
    · unfold Rd; rw [q]; exact e
  · unfold Rd; rw [s.off a h]; exact e
theorem Sw.fz (sF : Sw d p p' F F') (sH : Sw d p p' H H') (hF : F d = some p) (hH : H d = some p) (t : List Nat) : Sw d p p' (Fz F H σ t) (Fz F' H' σ t) := by
  have f1 : F' d = some p' := by rcases sF.at_ with ⟨_, q⟩ | ⟨_, q⟩ <;> first | exact q | exact absurd hF q
  have f2 : H' d = some p' := by rcases sH.at_ with ⟨_, q⟩ | ⟨_, q⟩ <;> first | exact q | exact absurd hH q
  refine ⟨fun a ha => ?_, .inl ?_⟩
  · by_cases q : AtS σ t a
    · rw [Fz_in q, Fz_in q, sH.off a ha]
    · rw [Fz_out q, Fz_out q, sF.off a ha]
  · by_cases q : AtS σ t d
    · rw [Fz_in q, Fz_in q]; exact ⟨hH, f2⟩
    · rw [Fz_out q, Fz_out q]; exact ⟨hF, f1⟩
end
end Z

set_option pp.maxSteps 300
namespace Z
open PySem PySem.Spec PyProof.Rows L2
open Classical
section
variable {c : Pm} {Wx : WX} {X : Cx} {fu k : Nat} {d : Addr} {p p' : HO} {F F' H H' F0 F0' H0 H0' : Hp} {W : Dr} {σ : L2.St} {ρ : En} {od : Obj} {pos : Pos}
end
end Z

set_option pp.maxSteps 300
namespace Z
open PySem PySem.Spec PyProof.Rows L2
open Classical
section
variable {c : Pm} {Wx : WX} {X : Cx} {fu n k : Nat} {W W1 W2 : Dr} {F0 H0 F H F1 H1 : Hp} {ρ : En} {σ : L2.St} {Q : VK} {pos : Pos}
end
end Z

set_option pp.maxSteps 300
namespace Z
open PySem PySem.Spec PyProof.Rows L2
open Classical
section
variable {c : Pm} {Wx : WX} {X : Cx} {fu n k : Nat} {W W1 W2 : Dr} {F0 H0 F H F1 H1 : Hp} {ρ : En} {σ : L2.St} {Q : VK} {pos : Pos}
end
end Z

set_option pp.maxSteps 300
namespace Z
open PySem PySem.Spec PyProof.Rows L2
open Classical
section
variable {c : Pm} {Wx : WX} {X : Cx} {fu n k : Nat} {W W1 W2 : Dr} {F0 H0 F H F1 H1 : Hp} {ρ : En} {σ : L2.St} {Q : VK} {pos : Pos} {us : List V} {E : XK}
def Pst2 (c : Pm) (E : XK) (F H : Hp) (Q : VK) : Out (Option (D × D)) → Prop
  | .ok none W' => ∀ F' H', Stp c W' F H F' H' → Q .non H'
  | .ok (some (d, y)) W' => ∀ p q w F' H', Stp c W' F H F' H' → F' p = some (.tup [.ref q, w]) → F' q = none → q ∉ c.mv → Nil H q → OwnAt c F' H' q d → Rep c F' w y → Q (.ref p) H'
  | .ex x W' => ∀ cls dd F' H', Stp c W' F H F' H' → ExOk c F' x cls dd → E cls dd H'
  | .stk => False
def spG2 (c : Pm) (g : G2) (us : List V) (H : Hp) (Q : VK) (E : XK) : Prop := ∃ F xs W, RepL c F us xs ∧ Stp c W F H F H ∧ Pst2 c E F H Q (g xs W)
structure Cal2 (c : Pm) (P : Program) (w : World) (K : PySem.W.Frag) (mg : Str → Option Value) (base : Heap) (k : Nat) (x : Str) (ps : List Str) (g : G2) : Prop where
  ex : ∃ (f : Addr) (fd : FuncData), mg x = some (.ref f) ∧ PySem.W.keepIn K (.ref f) = true ∧ Binds K fd ps [] ∧ FnOk P w K mg base (L2N.CX P w) k f fd ps (spG2 c g)
end
end Z

set_option pp.maxSteps 300
namespace Z
open PySem PySem.Spec PyProof.Rows L2
open Classical
section
variable {c : Pm} {Wx : WX} {X : Cx} {fu n k : Nat} {W W' W1 W2 W3 : Dr} {F0 H0 F H F' H' F1 H1 F2 H2 F3 H3 Hs : Hp} {ρ ρ' : En} {σ σ' : L2.St} {u w : V} {x y v : Vl} {Q : VK} {us : List V} {vs : List Vl} {pos : Pos}
end
end Z

set_option pp.maxSteps 300
namespace Z
open PySem PySem.Spec PyProof.Rows L2
open Classical
section
variable {c : Pm} {Wx : WX} {X : Cx} {n : Nat} {W W' W1 W2 : Dr} {F0 H0 F H F' H' F1 H1 F2 H2 Hs : Hp} {ρ ρ' : En} {σ σ' : L2.St} {u w : V} {x y v : Vl} {Q : VK}
end
end Z

set_option pp.maxSteps 300
namespace HotX
open PySem PySem.Spec PyProof.Rows
end HotX
namespace L2H
open PySem PySem.Spec PyProof.Rows L2 HotX
end L2H

set_option pp.maxSteps 300
namespace L2H
open PySem PySem.Spec PyProof.Rows L2
section
variable {X : Cx} {pins : List (Addr × Obj)} {σ : L2.St} {H : Hp} {s : Shared}
end
section
variable {X : Cx} {x n : Str} {c : Value} {i : Nat} {body suite : List Stmt} {b₀ : Stmt} {np pos pos' : Pos} {tb : WX → TS} {ts : Addr → Value → Option Addr → TS} {Wout : WX}
end
end L2H

set_option pp.maxSteps 300
namespace Z
open PySem PySem.Spec PyProof.Rows L2 L2H
open Classical
section
variable {X : Cx} {x f : Str} {C fI : Addr} {p pos pos2 : Pos} {a : Expr}
end
section
variable {c : Pm} {Wx : WX} {X : Cx} {fu n k : Nat} {W W' W1 W2 W3 : Dr} {F0 H0 F H F' H' F1 H1 F2 H2 F3 H3 Hs : Hp} {ρ ρ' : En} {σ σ' : L2.St} {u w : V} {x y v : Vl} {Q : VK} {us : List V} {vs : List Vl} {pos : Pos}
theorem Cn.tr (n : Cn c Wx k X) {Wy : WX} {pn : List (Addr × Obj)} {xe : Value → Shared → Prop} (tk : L2N.Takes (X.tr pn xe) Wy) : Cn c Wy k (X.tr pn xe) := ⟨n.hk, n.calm, n.nd, tk, n.room⟩
structure Cau (c : Pm) (K : PySem.W.Frag) (CS : Value) (cs : List Str) : Prop where
  hit : ∀ nm C, c.cx nm = some C → PySem.W.exmOne K (.ref C) CS = some (cs.contains nm)
end
end Z
namespace Z
open PySem PySem.Spec PyProof.Rows L2 L2H
open Classical
section
variable {c : Pm} {Wx : WX} {X : Cx} {fu n k : Nat} {W W' W1 W2 W3 : Dr} {F0 H0 F H F' H' F1 H1 F2 H2 F3 H3 Hs : Hp} {ρ ρ' : En} {σ σ' : L2.St} {u w : V} {x y v : Vl} {Q : VK} {us : List V} {vs : List Vl} {pos : Pos}
structure CalL (c : Pm) (P : Program) (w : World) (K : PySem.W.Frag) (mg : Str → Option Value) (base : Heap) (k : Nat) (x : Str) (ps : List Str) (g : G) : Prop where
  ex : ∃ (f : Addr) (fd : FuncData), mg x = some (.ref f) ∧ PySem.W.keepIn K (.ref f) = true ∧ Binds K fd ps [] ∧ FnOk P w K mg base (L2.CX P w) k f fd ps (spG c g)
end
end Z

namespace Z
open PySem PySem.Spec PyProof.Rows L2 L2H He
section
variable {K : PySem.W.Frag} {cas cxs : List Str} {tf : List Defn} {dl : List Addr} {d2 : Addr} {hands : List (Str × List Str)} {x : Str} {cs : List Str}
end
end Z

set_option pp.maxSteps 300
namespace Z
open PySem PySem.Spec PyProof.Rows L2
open Classical
section
variable {c : Pm} {Wx : WX} {X : Cx} {fu k : Nat} {d : Addr} {F F' H H' F0 F0' H0 H0' : Hp} {W : Dr} {σ : L2.St} {ρ : En} {od : Obj} {pos : Pos}
end
end Z

set_option pp.maxSteps 300
namespace Z
open PySem PySem.Spec PyProof.Rows L2
open Classical
section
open PySem.W
variable {prog : Program} {w : World} {A : Around} {E : Value → Shared → Prop} {s : Shared} {T : String} {r d : Addr} {n : Nat} {P : Nat → Value → Prop} {OK : Heap → Prop}
end
section
variable {X : Cx} {pins : List (Addr × Obj)} {σ : L2.St} {H : Hp} {s : Shared}
end
section
variable {X : Cx} {e : Expr} {es : List Expr} {te : TE} {t : TA} {p apos cpos : Pos}
end
section
variable {c : Pm} {Wx : WX} {X : Cx} {fu n k : Nat} {W W' W1 W2 W3 : Dr} {F0 H0 F H F' H' F1 H1 F2 H2 F3 H3 Hs : Hp} {ρ ρ' : En} {σ σ' : L2.St} {u w : V} {x y v : Vl} {us : List V} {vs : List Vl} {pos : Pos}
end
end Z

set_option pp.maxSteps 300
namespace Z
open PySem PySem.Spec PyProof.Rows L2
open Classical
def keyX (e : Int × Value) : Str := match e.2 with
  | .str k _ => k
  | _ => Str.empty
def TxtE (P : Program) (w : World) (e : Int × Value) : Prop := ∃ y tk, e.2 = Value.str y tk ∧ e.1 = (strKind P w).hash y
structure SetX (P : Program) (w : World) (h : Heap) (a : Addr) (ys : List Str) : Prop where
  obj : ∃ o es ep t, h.get? a = some o ∧ o.ExactSet ∧ o.data = .set es ep t ∧ ((∀ e ∈ es.toList, TxtE P w e) ∧ (es.toList.map keyX).Perm ys) ∧
    (es.size < scanBound ∧ t.fits es.size = true) ∧ Ris t.place.toList ∧ (w.params.followText "set-order" = true ∨ t.led = true)
  nd : ys.Nodup
section
variable {P : Program} {w : World} {A : Around} {E : Value → Shared → Prop} {s : Shared} {a : Addr} {ys : List Str}
theorem SetX.keep {h h' : Heap} (R : SetX P w h a ys) (k : ∀ o, h.get? a = some o → h'.get? a = some o) : SetX P w h' a ys := by
  obtain ⟨⟨o, es, ep, t, e, r⟩, n⟩ := R
  exact ⟨⟨o, es, ep, t, k o e, r⟩, n⟩
end
section
variable {P : Program} {w : World} {A : Around} {R : Result → Shared → Prop} {I : Addr} {fp wr : List Addr} {G : Array GenState → Array GenState → Prop} {n : Nat} {Pv : Nat → Value → Prop} {St : Nat → Shared → Prop}
def Mem (xs : List Str) (i : Nat) (ys : List Str) : Prop := ys.length ≤ i ∧ ∀ x, x ∈ ys ↔ x ∈ xs.take i
theorem Mem.next {xs ys zs : List Str} {i : Nat} {y : Str} (m : Mem xs i ys) (hy : xs[i]? = some y) (h : ∀ x, x ∈ zs ↔ x = y ∨ x ∈ ys) (l : zs.length ≤ ys.length + 1) : Mem xs (i + 1) zs := by
  refine ⟨by have := m.1; omega, fun x => ?_⟩
  rw [h, m.2, List.take_add_one, hy]
  simp only [Option.toList_some, List.mem_append, List.mem_singleton]
  exact Or.comm
end
section
variable {P : Program} {w : World} {A : Around} {E : Value → Shared → Prop} {s : Shared}
end
section
variable {P : Program} {w : World} {A : Around} {E : Value → Shared → Prop} {s : Shared} {a : Addr} {ys : List Str}
end
section
variable {X : Cx}
end
section
variable {c : Pm} {Wx : WX} {X : Cx} {pos : Pos} {k : Nat}
end
end Z

namespace Z
open PySem PySem.Spec PyProof.Rows L2
open Classical
section
variable {c : Pm} {Wx : WX} {X : Cx} {fu n k : Nat} {W W' W1 W2 W3 : Dr} {F0 H0 F H F' H' F1 H1 F2 H2 F3 H3 Hs : Hp} {ρ ρ' : En} {σ σ' : L2.St} {u w : V} {x y v : Vl} {Q : VK} {us : List V} {vs : List Vl} {pos : Pos}
theorem edGet_mem {a : Addr} {r : D × D} (h : edGet W a = some r) : (a, r.1, r.2) ∈ W.ed := by
  unfold edGet at h
  rw [Option.map_eq_some_iff] at h
  obtain ⟨q, h1, h2⟩ := h
  have h3 := List.find?_some h1
  simp only [decide_eq_true_eq] at h3
  have h4 := List.mem_of_find?_eq_some h1
  subst h2
  subst h3
  exact h4
theorem EdAt.get {a : Addr} {r : D × D} (h : EdAt c W F H) (e : edGet W a = some r) : ∃ C dx v1 v2, c.ca "Editor" = some C ∧ H a = some (.ins C dx [("e_step", v1), ("e_undone", v2)]) ∧ Rep c F v1 r.1 ∧ Rep c F v2 r.2 ∧ r.1.imm = true ∧ r.2.imm = true := h _ _ _ (edGet_mem e)
theorem EdAt.put {p C dx : Addr} {v1 v2 u : V} {kk : Bool} {d : D} (h : EdAt c W F H) (hC : c.ca "Editor" = some C) (hp : H p = some (.ins C dx [("e_step", v1), ("e_undone", v2)])) (r : Rep c F u d) (m : d.imm = true) :
    EdAt c (edPut W kk p d) F (upd H p (.ins C dx [("e_step", if kk then v1 else u), ("e_undone", if kk then u else v2)])) := by
  intro a s t ha
  unfold edPut at ha
  simp only [List.mem_map] at ha
  obtain ⟨⟨b, s0, t0⟩, hb, e⟩ := ha
  obtain ⟨C', dx', w1, w2, h1, h2, h3, h4, h5, h6⟩ := h b s0 t0 hb
  by_cases q : b = p
  · subst q
    rw [if_pos rfl] at e
    rw [hp] at h2
    cases h2
    cases kk
    · simp only [Bool.false_eq_true, if_false, Prod.mk.injEq] at e ⊢
      obtain ⟨rfl, rfl, rfl⟩ := e
      exact ⟨C, dx, u, v2, hC, upd_same, r, h4, m, h6⟩
    · simp only [if_true, Prod.mk.injEq] at e ⊢
      obtain ⟨rfl, rfl, rfl⟩ := e
      exact ⟨C, dx, v1, u, hC, upd_same, h3, r, h5, m⟩
  · rw [if_neg q] at e
    simp only [Prod.mk.injEq] at e
    obtain ⟨rfl, rfl, rfl⟩ := e
    exact ⟨C', dx', w1, w2, h1, by rw [upd_ne q]; exact h2, h3, h4, h5, h6⟩
def spE (c : Pm) (C : Addr) (g : Nat → GE) : Sp := fun vs H Q E => ∃ x dx us F Hb xs W, vs = .ref x :: us ∧ Hb x = none ∧ Hb dx = none ∧ dx ≠ x ∧ H = upd (upd Hb dx (.own x)) x (.ins C dx []) ∧ c.ca "Editor" = some C ∧ RepL c F us xs ∧ Stp c W F Hb F Hb ∧
  match g x xs W with
  | .ok r W' => ∀ F' H', Stp c W' F Hb F' H' → (∃ dx v1 v2, H' x = some (.ins C dx [("e_step", v1), ("e_undone", v2)]) ∧ Rep c F' v1 r.1 ∧ Rep c F' v2 r.2) → Q .non H'
  | .ex e W' => ∀ cls dd F' H', Stp c W' F Hb F' H' → ExOk c F' e cls dd → E cls dd H'
  | .stk => False
structure MakE (c : Pm) (P : Program) (w : World) (mg : Str → Option Value) (base : Heap) (k : Nat) (x : Str) (ps : List Str) (g : GE) : Prop where
  ex : ∃ (C f : Addr) (fd : FuncData) (gi : Nat → GE), mg x = some (.ref C) ∧ c.ca "Editor" = some C ∧ L2.Mk c.K C f ∧ Binds c.K fd ps [] ∧ FnOk P w c.K mg base (L2N.CX P w) k f fd ps (spE c C gi) ∧ ∀ p xs W, gi p xs W = g xs W
theorem MakE.mono {P : Program} {w : World} {mg : Str → Option Value} {base : Heap} {j : Nat} {x : Str} {ps : List Str} {g : GE} (h : MakE c P w mg base j x ps g) (hk : j ≤ k) : MakE c P w mg base k x ps g := by
  obtain ⟨C, f, fd, gi, h1, h2, h3, h4, h5, h6⟩ := h.ex
  exact ⟨C, f, fd, gi, h1, h2, h3, h4, h5.mono hk, h6⟩
theorem reps_imm (R : Rel c F0 H0 ρ σ F1 H1 W1) : ∀ {us : List V} {vs : List Vl}, ArgOk c ρ σ Hs F1 H1 us vs → (∀ v ∈ vs, v.d.imm = true) → RepL c F1 us (ds vs)
  | _, _, .nil, _ => .nil
  | _, _, .cons h t, m => .cons (val_imm R h (m _ List.mem_cons_self)) (reps_imm R t fun v hv => m v (List.mem_cons_of_mem _ hv))
end
end Z

namespace Z
open PySem
noncomputable section
def atE (V : Dr) (L : List (Addr × D × D)) : Dr := { V with ed := L }
def Out.at {α : Type} (o : Out α) (L : List (Addr × D × D)) : Out α := match o with
  | .ok a W => .ok a (atE W L)
  | .ex x W => .ex x (atE W L)
  | .stk => .stk
def SOut.at (o : SOut) (L : List (Addr × D × D)) : SOut := match o with
  | .nx ρ W => .nx ρ (atE W L)
  | .bk ρ W => .bk ρ (atE W L)
  | .ct ρ W => .ct ρ (atE W L)
  | .rt v ρ W => .rt v ρ (atE W L)
  | .ex x ρ W => .ex x ρ (atE W L)
  | .rt2 i y ρ W => .rt2 i y ρ (atE W L)
  | .stk => .stk
def FrG (g : G) : Prop := ∀ xs W L, g xs (atE W L) = (g xs W).at L
section
variable {α β : Type} {L : List (Addr × D × D)} {ρ : En} {fu : Nat}
structure Fr (x : E) (L : List (Addr × D × D)) : Prop where
  e : ∀ ρ W, ev x ρ (atE W L) = (ev x ρ W).at L
  t : ∀ ρ W, evT x ρ (atE W L) = (evT x ρ W).at L
  a : ∀ ρ W, evA x ρ (atE W L) = (evA x ρ W).at L
  l : ∀ ρ W, evL x ρ (atE W L) = (evL x ρ W).at L
  o : ∀ ρ W, evO x ρ (atE W L) = (evO x ρ W).at L
  i : ∀ ρ W, evI x ρ (atE W L) = (evI x ρ W).at L
theorem FrG.ok {g : G} (h : FrG g) {xs : List D} {V V' : Dr} {r : Bool × D} (e : g xs V = .ok r V') (L : List (Addr × D × D)) : g xs (atE V L) = .ok r (atE V' L) := by rw [h, e]; rfl
theorem FrG.ex {g : G} (h : FrG g) {xs : List D} {V V' : Dr} {x : D} (e : g xs V = .ex x V') (L : List (Addr × D × D)) : g xs (atE V L) = .ex x (atE V' L) := by rw [h, e]; rfl
end
end
end Z

namespace Z
open PySem PySem.Spec PyProof.Rows L2
open Classical
section
variable {c : Pm} {Wx : WX} {X : Cx} {fu n k mm : Nat} {W W' W1 W2 W3 : Dr} {F0 H0 F H F' H' F1 H1 F2 H2 F3 H3 Hs Hl H4 : Hp} {ρ ρ' : En} {σ σ' : L2.St} {u w e2 : V} {x y v : Vl} {Q : VK} {us : List V} {vs : List V} {pos : Pos} {L : List Addr} {f a1 : Addr} {N : List Str} {d2 : D} {xs : List D}
end
end Z

namespace Z
open PySem PySem.Spec PyProof.Rows L2
open Classical
def spGE (c : Pm) (g : GE) : Sp := fun vs H Q E => ∃ F xs W, RepL c F vs xs ∧ Stp c W F H F H ∧ match g xs W with
  | .ok r W' => ∀ a F' H', a ∉ W.ed.map (·.1) → Stp c { W' with ed := (a, r.1, r.2) :: W'.ed } F H F' H' → Q (.ref a) H'
  | .ex x W' => ∀ cls dd F' H', Stp c W' F H F' H' → ExOk c F' x cls dd → E cls dd H'
  | .stk => False
section
variable {c : Pm} {Wx : WX} {X : Cx} {fu n k : Nat} {W W' W1 W2 W3 : Dr} {F0 H0 F H F' H' F1 H1 F2 H2 F3 H3 Hs : Hp} {ρ ρ' : En} {σ σ' : L2.St} {u w : V} {x y v : Vl} {Q : VK} {us : List V} {vs : List Vl} {pos : Pos}
structure MthC (c : Pm) (P : Program) (w : World) (mg : Str → Option Value) (base : Heap) (k : Nat) (nm m : Str) (ps : List Str) (g : GE) : Prop where
  ex : ∃ (C f : Addr) (fd : FuncData), c.ca nm = some C ∧ Cls c.K C ∧ Meth c.K C m f ∧ Binds c.K fd ps [] ∧ FnOk P w c.K mg base (L2N.CX P w) k f fd ps (spGE c g)
  no1 : ∀ d W, (∀ p, d ≠ .edt p) → g [d] W = .stk
  no2 : ∀ p W, edGet W p = none → g [.edt p] W = .stk
end
end Z

namespace Z
open PySem PySem.Spec PyProof.Rows L2
open Classical
def OwnN (c : Pm) (H F' H' : Hp) (l : Addr) (xs : List D) : Prop := F' l = none ∧ l ∉ c.mv ∧ Nil H l ∧ ∃ us, H' l = some (.lst us) ∧ RepL c F' us xs
def spT (c : Pm) (g : GT) : Sp := fun vs H Q E => ∃ F xs W, RepL c F vs xs ∧ Stp c W F H F H ∧ match g xs W with
  | .ok r W' => ∀ t l0 l1 F' H', Stp c W' F H F' H' → F' t = some (.tup [.ref l0, .ref l1]) → l0 ≠ l1 → OwnN c H F' H' l0 r.1 → OwnN c H F' H' l1 r.2 → Q (.ref t) H'
  | .ex x W' => ∀ cls dd F' H', Stp c W' F H F' H' → ExOk c F' x cls dd → E cls dd H'
  | .stk => False
def tRetT (c : Pm) (ea eb : Z.E) : TS := fun D σ H => ∃ F0 H0 ρ F W xs ys W', Rel c F0 H0 ρ σ F H W ∧ evL (.cons ea (.cons eb .nil)) ρ W = .ok [⟨.lst xs, .fr, []⟩, ⟨.lst ys, .fr, []⟩] W' ∧
  ∀ t l0 l1 F' H', Stp c W' F H F' H' → F' t = some (.tup [.ref l0, .ref l1]) → l0 ≠ l1 → OwnN c H F' H' l0 xs → OwnN c H F' H' l1 ys → D.rt (.ref t) H'
def pairOf : List Vl → Option (List D × List D)
  | [x, y] => match x.d, x.k, x.t, y.d, y.k, y.t with
    | .lst a, .fr, [], .lst b, .fr, [] => some (a, b)
    | _, _, _, _, _, _ => none
  | _ => none
theorem pairOf_some {L : List Vl} {p : List D × List D} (h : pairOf L = some p) : L = [⟨.lst p.1, .fr, []⟩, ⟨.lst p.2, .fr, []⟩] := by
  match L, h with
  | [⟨d1, k1, t1⟩, ⟨d2, k2, t2⟩], h =>
    cases d1 <;> cases k1 <;> cases t1 <;> first | (cases h; done) | skip
    cases d2 <;> cases k2 <;> cases t2 <;> first | (cases h; done) | skip
    simp only [pairOf] at h
    cases h
    rfl
section
variable {c : Pm} {Wx : WX} {X : Cx} {fu n k : Nat} {W W' W1 W2 W3 : Dr} {F0 H0 F H F' H' F1 H1 F2 H2 F3 H3 Hs : Hp} {ρ ρ' : En} {σ σ' : L2.St} {u w : V} {x y v : Vl} {Q : VK} {us : List V} {vs : List Vl} {pos : Pos}
theorem z_retT {a b : Expr} {ea eb : Z.E} {kt : Nat} {pt : Pos} (ha : PE X a (rdE c Wx ea)) (hb : PE X b (rdE c Wx eb)) (h1 : starEach [a, b] X.env = (false, eval a X.env) :: starEach [b] X.env := by rfl) (h2 : starEach [b] X.env = (false, eval b X.env) :: starEach [] X.env := by rfl) :
    PS X (.Return (some (.Tuple [a, b] kt pt)) pos) (tRetT c ea eb) := by
  refine ps_wk (ps_ret (pe_tup (l_cons ha (l_cons hb l_nil h2) h1))) fun D σ H ⟨F0, H0, ρ, F, W, xs, ys, W', R, e, hP⟩ => ?_
  show rdL c Wx (.cons ea (.cons eb .nil)) σ H fun us H1 => us.length ≤ sizeLine ∧ ∀ p, H1 p = none → D.rt (.ref p) (upd H1 p (.tup us))
  refine ⟨F0, H0, ρ, F, W, R, ?_⟩
  rw [e]
  intro us F1 H1 S1 ⟨A, ap⟩
  match us, A, ap with
  | [u0, u1], .cons a0 (.cons a1 .nil), ap =>
    have b0 := a0.at_
    have b1 := a1.at_
    obtain ⟨l0, rfl, p1, p2, p3, us0, p4, p5⟩ := b0
    obtain ⟨l1, rfl, q1, q2, q3, us1, q4, q5⟩ := b1
    rw [Fz_nil] at p5 q5
    have ne : l0 ≠ l1 := fun z => ap.1 l0 rfl rfl (.inl ⟨rfl, by rw [z]⟩)
    refine ⟨by show 2 ≤ sizeLine; rw [sizeLine_eq]; decide, fun t ht => ?_⟩
    have S2 := S1.trans (S1.refl.makeF (o := .tup [.ref l0, .ref l1]) ht)
    have t0 : l0 ≠ t := ne_of_none p4 ht
    have t1 : l1 ≠ t := ne_of_none q4 ht
    have up : Same F1 (upd F1 t (.tup [.ref l0, .ref l1])) := fun q o e => by rw [upd_ne (ne_of_none (S1.sub _ _ e) ht)]; exact e
    exact hP t l0 l1 _ _ S2 upd_same ne ⟨(upd_ne t0).trans p1, p2, p3, us0, (upd_ne t0).trans p4, RepL.mono up p5⟩ ⟨(upd_ne t1).trans q1, q2, q3, us1, (upd_ne t1).trans q4, RepL.mono up q5⟩
theorem Stp.putF {l : Addr} {us : List V} (S : Stp c W F H F1 H1) (h1 : F1 l = none) (hN : Nil H l) (hm : l ∉ c.mv) (hl : H1 l = some (.lst us)) : Stp c W F H (upd F1 l (.lst us)) H1 := by
  have up : Same F1 (upd F1 l (.lst us)) := fun a o e => by rw [upd_ne fun z => by rw [z, h1] at e; cases e]; exact e
  refine ⟨fun a o e => up a o (S.f a o e), fun a o e => ?_, S.h, fun a e t => ?_, fun a o e => ?_, fun a m => ?_, S.dr, fun hd => up _ _ (S.cl hd), S.tabs, S.ed.up up fun a o e _ => e⟩
  · by_cases z : a = l
    · subst z; rw [upd_same] at e; cases e; exact hl
    · rw [upd_ne z] at e; exact S.sub a o e
  · rw [upd_ne (show a ≠ l from fun z => hN (z ▸ t))]; exact S.new a e t
  · by_cases z : a = l
    · subst z; rw [upd_same] at e; cases e; exact nt_lst
    · rw [upd_ne z] at e; exact S.nt a o e
  · rw [upd_ne (show a ≠ l from fun z => hm (z ▸ m))]; exact S.av a m
structure MthT (c : Pm) (P : Program) (w : World) (mg : Str → Option Value) (base : Heap) (k : Nat) (nm m : Str) (ps : List Str) (g : GT) : Prop where
  ex : ∃ (C f : Addr) (fd : FuncData), c.ca nm = some C ∧ Cls c.K C ∧ Meth c.K C m f ∧ Binds c.K fd ps [] ∧ FnOk P w c.K mg base (L2N.CX P w) k f fd ps (spT c g)
end
end Z

namespace Z
open PySem PySem.Spec PyProof.Rows L2
open Classical
section
variable {c : Pm} {Wx : WX} {X : Cx} {fu n k : Nat} {W W' W1 W2 W3 : Dr} {F0 H0 F H F' H' F1 H1 F2 H2 F3 H3 Hs : Hp} {ρ ρ' : En} {σ σ' : L2.St} {u w : V} {x y v : Vl} {Q : VK} {us : List V} {vs : List Vl} {pos : Pos}
structure CalT (c : Pm) (P : Program) (w : World) (K : PySem.W.Frag) (mg : Str → Option Value) (base : Heap) (k : Nat) (x : Str) (ps : List Str) (g : GT) : Prop where
  ex : ∃ (f : Addr) (fd : FuncData), mg x = some (.ref f) ∧ PySem.W.keepIn K (.ref f) = true ∧ Binds K fd ps [] ∧ FnOk P w K mg base (L2N.CX P w) k f fd ps (spT c g)
theorem z_unpT (i j : Nat) {jj : Nat} {x zi zj : Str} {ps : List Str} {g : GT} {e : Expr} {es : List Expr} {ea : Z.E} {p pi pj tp cpos : Pos} {kt : Nat} (n : Cn c Wx k X) (h : CalT c X.prog X.w X.K X.mg X.base jj x ps g) (ha : PA X (e :: es) (rdL c Wx ea))
    (li : Loc X.env.scope zi) (lj : Loc X.env.scope zj) (hi : X.N[i]? = some zi := by rfl) (hj : X.N[j]? = some zj := by rfl) (fi : X.fn zi = true ∨ X.env.scope.names.lookup zi = some .local := by exact .inl rfl) (fj : X.fn zj = true ∨ X.env.scope.names.lookup zj = some .local := by exact .inl rfl)
    (hk : jj ≤ k := by decide) (hg : Gl X x := by rfl) (hdb : (x == ("__debug__" : Str)) = false := by decide)
    (he : starEach (e :: es) X.env = (false, eval e X.env) :: starEach es X.env := by rfl) (hpl : (backTo cpos (starEach es X.env)).any (·.1) = false := by rfl)
    (hs : swapsWithSole [.Tuple [.Name zi pi, .Name zj pj] kt tp] (.Call (.Name x p) (e :: es) [] cpos) pos.line X.env = pure false := by rfl) (hw : swappedStores [.Tuple [.Name zi pi, .Name zj pj] kt tp] (.Call (.Name x p) (e :: es) [] cpos) X.env = pure none := by rfl)
    (h1 : (assignEach [.Tuple [.Name zi pi, .Name zj pj] kt tp] X.env).map (·.2) = [assign (.Tuple [.Name zi pi, .Name zj pj] kt tp) X.env] := by rfl) :
    PS X (.Assign [.Tuple [.Name zi pi, .Name zj pj] kt tp] (.Call (.Name x p) (e :: es) [] cpos) pos) (rdS c Wx fu (.unpT i j g ea)) := by
  obtain ⟨f, fd, a1, a2, a3, a4⟩ := h.ex
  have hgt : PG X (.Tuple [.Name zi pi, .Name zj pj] kt tp) (gTup X.K 2 (gCons (gName i) (gCons (gName j) gNil))) := pg_tup n.calm (pgs_cons (pg_name n.nd hi li fi) (pgs_cons (pg_name n.nd hj lj fj) pgs_nil))
  refine ps_wk (ps_asg (pe_callS a4 (n.room.mono hk) hg a1 a2 a3 (fun σ => L2N.passAt n.tk σ) ha hdb he hpl) hgt hs hw h1) fun D σ H ⟨F0, H0, ρ, F, W, R, hP⟩ => ?_
  simp only [evS] at hP
  refine st_l R hP fun vs W1 us F1 H1 S1 A ap R1 hP => ?_
  by_cases hm : (∀ v ∈ vs, v.d.imm = true) ∧ i ≠ j
  · rw [if_pos hm] at hP
    refine ⟨F1, ds vs, W1, reps_imm R1 A hm.1, R1.refl, ?_⟩
    cases e1 : g (ds vs) W1 with
    | stk => rw [e1] at hP; exact hP.elim
    | ex y W3 =>
      rw [e1] at hP
      exact fun cls dd F' H' S' hx => hP cls dd σ F' H' (R1.step S') hx
    | ok r W3 =>
      rw [e1] at hP
      simp only [Out.st] at hP
      intro t l0 l1 F3 H3 S3 ht ne ⟨x1, x2, x3, us0, x4, x5⟩ ⟨y1, y2, y3, us1, y4, y5⟩
      have R3 := R1.step S3
      have old : ∀ l, Nil H1 l → ∀ (m : Nat) (x : Z.D), ρ[m]? = some (.own x) → σ[m]? = some (some (.ref l)) → False := fun l hn m x q1 q2 => by
        obtain ⟨p', k1, k2, k3, k4, k5⟩ := R1.own q1
        rw [q2] at k1
        cases k1
        exact hn k5.thr
      have Ra := R3.seto (i := i) (d := .lst r.1) x1 x2 (R1.stp.keepN x2 x3) ⟨us0, x4, x5⟩ fun m x q1 q2 => (old l0 x3 m x q1 q2).elim
      have Rb := Ra.seto (i := j) (d := .lst r.2) y1 y2 (R1.stp.keepN y2 y3) ⟨us1, y4, y5⟩ fun m x q1 q2 => by
        by_cases z : i = m
        · subst z
          exfalso
          rw [List.getElem?_set] at q2
          simp only [if_true] at q2
          split at q2
          · cases q2; exact ne rfl
          · cases q2
        · rw [List.getElem?_set_ne z] at q1 q2
          exact (old l1 y3 m x q1 q2).elim
      exact ⟨t, [.ref l0, .ref l1], rfl, .inl (.inl (S3.sub _ _ ht)), rfl, .ref l0, [.ref l1], rfl, .ref l1, [], rfl, rfl, hP _ F3 H3 Rb fun a o q => S3.f _ _ (S1.f _ _ q)⟩
  · rw [if_neg hm] at hP; exact hP.elim
noncomputable def pair3G (N m : Nat) (B1 B2 B3 : S) (e1 e2 : Z.E) : GT := fun xs W => if xs.length = m then (match evS 1000000 (.seq B1 (.seq B2 B3)) (xs.map .val ++ List.replicate (N - m) .un) W with
  | .nx ρ2 W2 => match evL (.cons e1 (.cons e2 .nil)) ρ2 W2 with
    | .ok L W3 => (match pairOf L with
      | some p => .ok p W3
      | none => .stk)
    | _ => .stk
  | _ => .stk) else .stk
theorem pair3_ok {P : Program} {w : World} {mg : Str → Option Value} {base : Heap} {x qual : Str} {N ps : List Str} {st s1 s2 s3 : Stmt} {f : Addr} {fd : FuncData} {e1 e2 : Expr} {a1 a2 : Z.E} {B1 B2 B3 : S} {k2 : Nat} {q6 q7 : Pos} (Fu : Fun c.K x qual st f fd) (S : FnScope N ps (defScope st))
    (hst : defBody st = [s1, s2, s3, .Return (some (.Tuple [e1, e2] k2 q6)) q7])
    (hb : ∀ (cdv : Value) (A : Around) (outer : List Env) (s : Shared) (H : Hp) (E : XK), Room k (A.deeper (envOfC qual (defScope st) s.heap.objs.size f cdv)) →
      L2N.Takes (cxOf (L2N.CX P w) P w c.K mg base N qual (defScope st) f cdv A outer s H E) (fun cls dd _ H' => E cls dd H') →
      PS (cxOf (L2N.CX P w) P w c.K mg base N qual (defScope st) f cdv A outer s H E) s1 (rdS c (fun cls dd _ H' => E cls dd H') 1000000 B1) ∧
      PS (cxOf (L2N.CX P w) P w c.K mg base N qual (defScope st) f cdv A outer s H E) s2 (rdS c (fun cls dd _ H' => E cls dd H') 1000000 B2) ∧
      PS (cxOf (L2N.CX P w) P w c.K mg base N qual (defScope st) f cdv A outer s H E) s3 (rdS c (fun cls dd _ H' => E cls dd H') 1000000 B3) ∧
      PE (cxOf (L2N.CX P w) P w c.K mg base N qual (defScope st) f cdv A outer s H E) e1 (rdE c (fun cls dd _ H' => E cls dd H') a1) ∧
      PE (cxOf (L2N.CX P w) P w c.K mg base N qual (defScope st) f cdv A outer s H E) e2 (rdE c (fun cls dd _ H' => E cls dd H') a2) ∧
      starEach [e1, e2] (cxOf (L2N.CX P w) P w c.K mg base N qual (defScope st) f cdv A outer s H E).env = (false, eval e1 (cxOf (L2N.CX P w) P w c.K mg base N qual (defScope st) f cdv A outer s H E).env) :: starEach [e2] (cxOf (L2N.CX P w) P w c.K mg base N qual (defScope st) f cdv A outer s H E).env ∧
      starEach [e2] (cxOf (L2N.CX P w) P w c.K mg base N qual (defScope st) f cdv A outer s H E).env = (false, eval e2 (cxOf (L2N.CX P w) P w c.K mg base N qual (defScope st) f cdv A outer s H E).env) :: starEach [] (cxOf (L2N.CX P w) P w c.K mg base N qual (defScope st) f cdv A outer s H E).env) :
    FnOk P w c.K mg base (L2N.CX P w) (k + 1) f fd ps (spT c (pair3G N.length ps.length B1 B2 B3 a1 a2)) := by
  refine Fu.okC S (fun vs H Q E h => ?_) fun cdv A outer s H vs Q E hr h => ?_
  · obtain ⟨F, xs, W, r, _, hP⟩ := h
    rw [r.length]
    unfold pair3G at hP
    by_cases hl : xs.length = ps.length
    · exact hl
    · rw [if_neg hl] at hP; exact hP.elim
  obtain ⟨b1, b2, b3, b4, b5, b6, b7⟩ := hb cdv A outer s H E hr (L2N.takes_of rfl rfl rfl rfl)
  refine ⟨_, hst ▸ pss_cons b1 (pss_cons b2 (pss_cons b3 (pss_one (z_retT b4 b5 b6 b7)))), ?_⟩
  obtain ⟨F, xs, W, r, S0, hP⟩ := h
  unfold pair3G at hP
  by_cases hl : xs.length = ps.length
  · rw [if_pos hl] at hP
    have R : Rel c F H (xs.map Sl.val ++ List.replicate (N.length - ps.length) .un) (L2.start N vs) F H W := by
      have := rel_start (N := N) r S0
      rw [hl] at this
      exact this
    simp only [evS] at hP
    refine ⟨F, H, _, F, W, R, ?_⟩
    cases c1 : evS 1000000 B1 (xs.map Sl.val ++ List.replicate (N.length - ps.length) .un) W <;> rw [c1] at hP <;> try (exact hP.elim)
    rename_i ρ1 W1
    intro σ1 F1 H1 R1 _
    refine ⟨F, H, _, F1, W1, R1, ?_⟩
    simp only at hP
    cases c2 : evS 1000000 B2 ρ1 W1 <;> rw [c2] at hP <;> try (exact hP.elim)
    rename_i ρ2 W2
    intro σ2 F2 H2 R2 _
    refine ⟨F, H, _, F2, W2, R2, ?_⟩
    simp only at hP
    cases c3 : evS 1000000 B3 ρ2 W2 <;> rw [c3] at hP <;> try (exact hP.elim)
    rename_i ρ3 W3
    intro σ3 F3 H3 R3 _
    simp only at hP
    cases eL : evL (.cons a1 (.cons a2 .nil)) ρ3 W3 with
    | stk => rw [eL] at hP; exact hP.elim
    | ex y W4 => rw [eL] at hP; exact hP.elim
    | ok L W4 =>
      rw [eL] at hP
      simp only at hP
      cases ep : pairOf L with
      | none => rw [ep] at hP; exact hP.elim
      | some p =>
        rw [ep] at hP
        refine ⟨F, H, ρ3, F3, W3, p.1, p.2, W4, R3, by rw [eL, pairOf_some ep], fun t l0 l1 F' H' S' h1 h2 h3 h4 => ?_⟩
        obtain ⟨x1, x2, x3, x4⟩ := h3
        obtain ⟨y1, y2, y3, y4⟩ := h4
        exact hP t l0 l1 F' H' (R3.stp.trans S') h1 h2 ⟨x1, x2, R3.stp.keepN x2 x3, x4⟩ ⟨y1, y2, R3.stp.keepN y2 y3, y4⟩
  · rw [if_neg hl] at hP; exact hP.elim
def spPk (c : Pm) (g : G) : Sp := fun zs H Q E => ∃ F u p us xs W, zs = [u, .ref p] ∧ Rep c F u .drw ∧ F p = some (.lst us) ∧ RepL c F us xs ∧ Stp c W F H F H ∧ match g [.drw, .int us.length] W with
  | .ok (_, .int i) W' => (match atD us i with
    | some v => ∀ F' H', Stp c W' F H F' H' → Q v H'
    | none => False)
  | .ex x W' => ∀ cls dd F' H', Stp c W' F H F' H' → ExOk c F' x cls dd → E cls dd H'
  | _ => False
structure CalP (c : Pm) (P : Program) (w : World) (K : PySem.W.Frag) (mg : Str → Option Value) (base : Heap) (k : Nat) (x : Str) (ps : List Str) (g : G) : Prop where
  ex : ∃ (f : Addr) (fd : FuncData), mg x = some (.ref f) ∧ PySem.W.keepIn K (.ref f) = true ∧ Binds K fd ps [] ∧ FnOk P w K mg base (L2N.CX P w) k f fd ps (spPk c g)
theorem pickP_ok {P : Program} {w : World} {mg : Str → Option Value} {base : Heap} {x qual a b : Str} {st : Stmt} {f : Addr} {fd : FuncData} {g : G} {ei : Expr} {q1 q2 q3 : Pos} (Fu : Fun c.K x qual st f fd) (S : FnScope [a, b] [a, b] (defScope st))
    (hst : defBody st = [.Return (some (.Subscript (.Name b q1) ei q2)) q3]) (va : Vis (defScope st) b) (hd : (b == ("__debug__" : Str)) = false) (hcd : (b == ("__classdict__" : Str)) = false)
    (hb : ∀ (cdv : Value) (A : Around) (outer : List Env) (s : Shared) (H : Hp) (E : XK), Room k (A.deeper (envOfC qual (defScope st) s.heap.objs.size f cdv)) →
      L2N.Takes (cxOf (L2N.CX P w) P w c.K mg base [a, b] qual (defScope st) f cdv A outer s H E) (fun cls dd _ H' => E cls dd H') →
      PE (cxOf (L2N.CX P w) P w c.K mg base [a, b] qual (defScope st) f cdv A outer s H E) ei (rdE c (fun cls dd _ H' => E cls dd H') (.call g (.cons (.var 0) (.cons (.bi .len (.cons (.var 1) .nil)) .nil)))) ∧ PlainIx ei) :
    FnOk P w c.K mg base (L2N.CX P w) (k + 1) f fd [a, b] (spPk c g) := by
  refine Fu.okC S (fun vs H Q E h => ?_) fun cdv A outer s H vs Q E hr h => ?_
  · obtain ⟨F, u, p, us, xs, W, rfl, _⟩ := h
    rfl
  obtain ⟨b1, b2⟩ := hb cdv A outer s H E hr (L2N.takes_of rfl rfl rfl rfl)
  refine ⟨_, hst ▸ pss_one (ps_ret (pe_ix ix_seq (pe_var (i := 1) rfl va hd hcd) b1 b2)), ?_⟩
  obtain ⟨F, u, p, us, xs, W, rfl, ru, hp, rl, S0, hP⟩ := h
  have R : Rel c F H [.val .drw, .val (.lst xs)] (L2.start [a, b] [u, .ref p]) F H W := rel_start (N := [a, b]) (.cons ru (.cons (.lst hp rl) .nil)) S0
  refine ⟨.ref p, rfl, ?_⟩
  show rdE c _ _ _ _ _
  refine ⟨F, H, _, F, W, R, ?_⟩
  have e : ev (.call g (.cons (.var 0) (.cons (.bi .len (.cons (.var 1) .nil)) .nil))) [.val .drw, .val (.lst xs)] W = (g [.drw, .int us.length] W).bind fun r W => .ok (vo r []) W := by
    simp only [ev, evL, List.getElem?_cons_zero, List.getElem?_cons_succ, Out.bind, biD, lenD, ds, List.map_cons, List.map_nil, ofO, vo, vl, rl.length, ts, List.flatMap_cons, List.flatMap_nil, Vl.all, List.append_nil]
    rfl
  rw [e]
  cases eg : g [.drw, .int us.length] W with
  | stk => rw [eg] at hP; exact hP.elim
  | ex y W1 => rw [eg] at hP; exact hP
  | ok r W1 =>
    rw [eg] at hP
    obtain ⟨fr, d⟩ := r
    cases d <;> try (exact hP.elim)
    rename_i i
    simp only at hP
    cases ea : atD us i with
    | none => rw [ea] at hP; exact hP.elim
    | some v =>
      rw [ea] at hP
      intro y F1 H1 S1 V1
      have R1 := R.step S1
      have vi : V1.at_ = V1.at_ := rfl
      have ey : y = .int i := by
        cases fr with
        | false => exact V1.int R1 rfl
        | true => exact V1.int R1 rfl
      exact .inl ⟨p, us, i, v, rfl, ey, .inl (.inl (S1.h p _ (S0.sub _ _ hp) (fun z => by have := S0.av p z; rw [hp] at this; cases this) nt_lst)), ea, hP F1 H1 S1⟩
noncomputable def dropT (F : Hp) (us : List V) (vs : List Vl) (p : Addr) : Hp := fun a => if TmpAt us vs a ∨ a = p then none else F a
theorem dropT_in {us : List V} {vs : List Vl} {p a : Addr} (h : TmpAt us vs a ∨ a = p) : dropT F us vs p a = none := if_pos h
theorem dropT_out {us : List V} {vs : List Vl} {p a : Addr} (h : ¬ (TmpAt us vs a ∨ a = p)) : dropT F us vs p a = F a := if_neg h
theorem tmp_soft : ∀ {us : List V} {vs : List Vl}, ArgOk c ρ σ Hs F2 H2 us vs → ∀ {a : Addr}, TmpAt us vs a → ((∃ vs, H2 a = some (.lst vs)) ∨ (∃ ks, H2 a = some (.dK ks)) ∨ ∃ ks, H2 a = some (.dT ks))
  | _, _, .nil, a, h => h.elim
  | _, _, .cons (a := u) (b := v) r t, a, h => by
    rcases h with ⟨h1, h2⟩ | h
    · have k := r.at_
      rw [h1] at k
      obtain ⟨p, e1, e2, e3, e4, e5⟩ := k
      rw [h2] at e1
      have q : a = p := V.ref.inj e1
      subst q
      exact e5.obj
    · exact tmp_soft t h
theorem tmp_mem : ∀ {us : List V} {vs : List Vl} {q : Nat} {u : V} {v : Vl} {a : Addr}, us[q]? = some u → vs[q]? = some v → v.k = .fr → u = .ref a → TmpAt us vs a
  | _ :: _, _ :: _, 0, _, _, _, h1, h2, h3, h4 => by
    simp only [List.getElem?_cons_zero, Option.some.injEq] at h1 h2
    subst h1 h2
    exact .inl ⟨h3, h4⟩
  | _ :: us, _ :: vs, q + 1, _, _, _, h1, h2, h3, h4 => by
    simp only [List.getElem?_cons_succ] at h1 h2
    exact .inr (tmp_mem h1 h2 h3 h4)
  | [], _, _, _, _, _, h1, _, _, _ => by simp at h1
  | _ :: _, [], _, _, _, _, _, h2, _, _ => by simp at h2
theorem plain_ts : ∀ {vs : List Vl}, vs.all Vl.plain = true → ts vs = [] ∧ ∀ v ∈ vs, v.t = [] ∧ (v.k = .pl ∨ v.k = .fr)
  | [], _ => ⟨rfl, fun _ h => by cases h⟩
  | v :: vs, h => by
    simp only [List.all_cons, Bool.and_eq_true] at h
    obtain ⟨a1, a2⟩ := plain_ts h.2
    have hv : v.t = [] ∧ (v.k = .pl ∨ v.k = .fr) := by
      have := h.1
      unfold Vl.plain at this
      split at this
      · rename_i e1 e2; exact ⟨e2, .inl e1⟩
      · rename_i e1 e2; exact ⟨e2, .inr e1⟩
      · cases this
    refine ⟨?_, fun w hw => ?_⟩
    · unfold ts at a1 ⊢
      rw [List.flatMap_cons, a1, List.append_nil]
      unfold Vl.all
      rcases hv.2 with e | e <;> rw [e, hv.1]
    · rcases List.mem_cons.mp hw with rfl | hw
      · exact hv
      · exact a2 w hw
theorem ExOk.soft {A : Addr → Prop} {x : D} {cls : Value} {dd : Option Addr} (hA : ∀ a, A a → Soft F a) (hF : ∀ a, ¬ A a → F' a = F a) (h : ExOk c F x cls dd) : ExOk c F' x cls dd := by
  cases x <;> try (exact h.elim)
  obtain ⟨C, e1, e2, e3⟩ := h
  rename_i n fs
  refine ⟨C, e1, e2, ?_⟩
  cases fs with
  | nil => exact e3
  | cons q fs =>
    obtain ⟨m, a, gs, k1, k2, k3⟩ := e3
    refine ⟨m, a, gs, k1, (hF a fun z => ?_).trans k2, k3.soft hA hF m⟩
    rcases hA a z with q | ⟨xs, q⟩ | ⟨xs, q⟩ | ⟨xs, q⟩ <;> rw [k2] at q <;> cases q
theorem Stp.dropT {p : Addr} {us ls : List V} {vs : List Vl} (S2 : Stp c W2 F H F2 H2) (A : ArgOk c ρ σ H F2 H2 us vs) (hp : H2 p = none) (S3 : Stp c W3 (upd (Ft F2 H2 us vs) p (.lst ls)) (upd H2 p (.lst ls)) F3 H3) : Stp c W3 F H (dropT F3 us vs p) H3 ∧ Same F2 (Z.dropT F3 us vs p) ∧ (∀ a, TmpAt us vs a → H3 a = H2 a) ∧ ∀ x cls dd, ExOk c F3 x cls dd → ExOk c (Z.dropT F3 us vs p) x cls dd := by
  have neT : ∀ a, TmpAt us vs a → a ≠ p := fun a h z => Nil.of (z ▸ hp) (tmp_at A h).2.2.2
  have fT : ∀ a, TmpAt us vs a → upd (Ft F2 H2 us vs) p (.lst ls) a = H2 a := fun a h => by
    rw [upd_ne (neT a h)]
    exact if_pos h
  have hT : ∀ a, TmpAt us vs a → F3 a = H2 a ∧ H3 a = H2 a := fun a h => by
    obtain ⟨o, e, _⟩ := (tmp_at A h).2.2.2
    have e1 := S3.f a o ((fT a h).trans e)
    exact ⟨e1.trans e.symm, (S3.sub a o e1).trans e.symm⟩
  have hP : F3 p = some (.lst ls) := S3.f p _ upd_same
  have out2 : ∀ a o, F2 a = some o → ¬ (TmpAt us vs a ∨ a = p) := fun a o e z => by
    rcases z with z | rfl
    · rw [(tmp_at A z).1] at e; cases e
    · rw [S2.sub _ _ e] at hp; cases hp
  have up : Same F2 (Z.dropT F3 us vs p) := fun a o e => by
    have z := out2 a o e
    rw [dropT_out z]
    refine S3.f a o ?_
    rw [upd_ne fun q => z (.inr q)]
    exact Ft_up S2.sub _ _ e
  have dn : ∀ a o, Z.dropT F3 us vs p a = some o → F3 a = some o := fun a o e => by
    by_cases z : TmpAt us vs a ∨ a = p
    · rw [dropT_in z] at e; cases e
    · rwa [dropT_out z] at e
  have hA : ∀ a, (TmpAt us vs a ∨ a = p) → Soft F3 a := fun a z => by
    rcases z with z | rfl
    · unfold Soft
      rw [(hT a z).1]
      rcases tmp_soft A z with q | q | q
      · exact .inr (.inl q)
      · exact .inr (.inr (.inl q))
      · exact .inr (.inr (.inr q))
    · exact .inr (.inl ⟨_, hP⟩)
  have hF : ∀ a, ¬ (TmpAt us vs a ∨ a = p) → Z.dropT F3 us vs p a = F3 a := fun a z => dropT_out z
  have nop : ∀ a, Thr H2 a → a ≠ p := fun a h z => Nil.of (z ▸ hp) h
  refine ⟨⟨fun a o e => up a o (S2.f a o e), fun a o e => S3.sub a o (dn a o e), fun a o e m n => ?_, fun a e t => ?_, fun a o e => S3.nt a o (dn a o e), fun a m => ?_, S3.dr, fun h => (dropT_out (out2 _ _ (S2.cl h))).trans (S3.cl h), S3.tabs, S3.ed.soft hA hF⟩, up, fun a h => (hT a h).2, fun _ _ _ h => ExOk.soft hA hF h⟩
  · have e2 := S2.h a o e m n
    exact S3.h a o (by rw [upd_ne fun z => by rw [z, hp] at e2; cases e2]; exact e2) m n
  · by_cases z : TmpAt us vs a ∨ a = p
    · exact dropT_in z
    · rw [dropT_out z]
      by_cases m : a ∈ c.mv
      · exact S3.av a m
      · have t2 : Thr H2 a := S2.there m t
        refine S3.new a ?_ ?_
        · rw [upd_ne (nop a t2)]
          exact (if_neg fun q => z (.inl q)).trans (S2.new a e t)
        · obtain ⟨o, e2, k⟩ := t2
          exact ⟨o, by rw [upd_ne (nop a ⟨o, e2, k⟩)]; exact e2, k⟩
  · by_cases z : TmpAt us vs a ∨ a = p
    · exact dropT_in z
    · rw [dropT_out z]; exact S3.av a m
theorem x_pkD (i : Nat) {j : Nat} {x z : Str} {ps : List Str} {g : G} {es : List Expr} {ee : Z.E} {p zp lp : Pos} (n : Cn c Wx k X) (h : CalP c X.prog X.w X.K X.mg X.base j x ps g) (hv : Vis X.env.scope z) (he : PA X es (rdL c Wx ee)) (hj : j ≤ k := by decide) (hN : X.N[i]? = some z := by rfl) (hg : Gl X x := by rfl)
    (hd : (z == ("__debug__" : Str)) = false := by decide) (hcd : (z == ("__classdict__" : Str)) = false := by decide) (hdb : (x == ("__debug__" : Str)) = false := by decide)
    (h1 : starEach [.Name z zp, .List es lp] X.env = (false, eval (.Name z zp) X.env) :: starEach [.List es lp] X.env := by rfl) (h2 : starEach [.List es lp] X.env = (false, eval (.List es lp) X.env) :: starEach [] X.env := by rfl) (hpl : (backTo pos (starEach [.Name z zp, .List es lp] X.env)).any (·.1) = false := by rfl) :
    PE X (.Call (.Name x p) [.Name z zp, .List es lp] [] pos) (rdE c Wx (.pkD i g ee)) := by
  obtain ⟨f, fd, a1, a2, a3, a4⟩ := h.ex
  refine pe_wk (pe_callS a4 (n.room.mono hj) hg a1 a2 a3 (fun σ => L2N.passAt n.tk σ) (pa_cons (pe_var (i := i) hN hv hd hcd) (pa_cons (pe_lst (pos := lp) he) pa_nil h2) h1) hdb h1 hpl) fun σ H Q ⟨F0, H0, ρ, F, W, R, hP⟩ => ?_
  simp only [ev] at hP
  cases e0 : ρ[i]? with
  | none => rw [e0] at hP; exact hP.elim
  | some s =>
  rw [e0] at hP
  cases s <;> try (exact hP.elim)
  rename_i d
  cases d <;> try (exact hP.elim)
  obtain ⟨u, q1, q2⟩ := R.slot i _ e0
  refine ⟨u, q1, ?_⟩
  show rdL c Wx ee σ H _
  refine rd_l R R.refl hP fun vs W1 us F1 H1 S1 _ A R1 hP => ?_
  have hlen := Paired.len A
  by_cases hc : vs.length ≤ cap ∧ vs.all Vl.plain = true
  · rw [if_pos hc] at hP
    refine ⟨by rw [hlen, ← cap_eq]; exact hc.1, fun p hp => ?_⟩
    obtain ⟨t1, t2⟩ := plain_ts hc.2
    have RF := Ft_rel R R1 S1 A
    have SF := RF.refl.makeF (o := .lst us) hp
    have RL : RepL c (Ft F1 H1 us vs) us (ds vs) := by
      have := args_all R R1 S1 A
      rwa [t1, Fz_nil] at this
    have ru : Rep c (Ft F1 H1 us vs) u .drw := (q2.mono S1.f).mono (Ft_up S1.sub)
    refine ⟨upd (Ft F1 H1 us vs) p (.lst us), u, p, us, ds vs, W1, rfl, ru.mono SF.f, upd_same, RL.mono SF.f, SF.refl, ?_⟩
    rw [hlen]
    cases eg : g [.drw, .int vs.length] W1 with
    | stk => rw [eg] at hP; exact hP.elim
    | ex y W2 =>
      rw [eg] at hP
      intro cls dd F' H' S' hx
      obtain ⟨T1, T2, T3, T4⟩ := Stp.dropT S1 A hp S'
      exact hP cls dd _ H' T1 (T4 _ _ _ hx)
    | ok r W2 =>
      rw [eg] at hP
      obtain ⟨fr, d⟩ := r
      simp only [Out.bind] at hP
      cases d <;> try (exact hP.elim)
      rename_i i
      simp only at hP ⊢
      cases ei : ixOf vs.length i with
      | none => rw [ei] at hP; exact hP.elim
      | some q =>
        rw [ei] at hP
        simp only [ofO] at hP
        cases ev : vs[q]? with
        | none => rw [ev] at hP; exact hP.elim
        | some v =>
          rw [ev] at hP
          obtain ⟨w, e1, V⟩ := Paired.at_ A ev
          have ea : atD us i = some w := by
            show (ixOf us.length i).bind _ = _
            rw [hlen, ei]
            exact e1
          rw [ea]
          intro F' H' S'
          obtain ⟨T1, T2, T3, T4⟩ := Stp.dropT S1 A hp S'
          refine hP w _ H' T1 ?_
          obtain ⟨k1, k2⟩ := t2 v (List.mem_of_getElem? ev)
          refine ⟨fun m hm => ?_, ?_⟩
          · rw [Vl.all, k1] at hm
            rcases k2 with e | e <;> rw [e] at hm <;> cases hm
          · have V2 := V.at_
            rcases k2 with e | e
            · rw [e, k1, Fz_nil] at V2 ⊢
              exact V2.mono T2
            · rw [e, k1, Fz_nil] at V2 ⊢
              obtain ⟨b, b1, b2, b3, b4, b5⟩ := V2
              have tb : TmpAt us vs b := tmp_mem e1 ev e b1
              exact ⟨b, b1, dropT_in (.inl tb), b3, b4, b5.mono T2 fun o e => (T3 b tb).trans e⟩
  · rw [if_neg hc] at hP; exact hP.elim
mutual
inductive Dg (K : PySem.W.Frag) (H : Hp) : V → PyData → Prop
  | non : Dg K H .non .none
  | bl (b : Bool) : Dg K H (.bl b) (.bool b)
  | int (i : Int) : Dg K H (.int i) (.int i)
  | str (x : Str) : Dg K H (.str x) (.str x)
  | lst {a : Addr} {xs : List V} {ds : List PyData} : SqL K H a xs → DgAll K H xs ds → Dg K H (.ref a) (.list ds)
  | tup {a : Addr} {xs : List V} {ds : List PyData} : SqT K H a xs → DgAll K H xs ds → Dg K H (.ref a) (.tuple ds)
  | dic {a : Addr} {ks : List (Key × V)} {q : List (PyData × PyData)} : Rd H a (.dK ks) → pdV ks = some q → Dg K H (.ref a) (.dict q)
inductive DgAll (K : PySem.W.Frag) (H : Hp) : List V → List PyData → Prop
  | nil : DgAll K H [] []
  | cons {v : V} {vs : List V} {d : PyData} {ds : List PyData} : Dg K H v d → DgAll K H vs ds → DgAll K H (v :: vs) (d :: ds)
end
mutual
theorem Dg.reads {pins : List (Addr × Obj)} {σ : L2.St} {H : Hp} {s : Shared} (I : Inv X pins σ H s) (sy : SysD X.K) : ∀ (d : PyData) (v : V) (u : Value), Dg X.K H v d → RelV v u → ∃ as, Reads s.heap u d as ∧ sysModules ∉ as
  | .none, _, _, h, r => by
    cases h
    cases r
    exact ⟨_, Reads.none, by simp⟩
  | .bool b, _, _, h, r => by
    cases h
    cases r
    exact ⟨_, Reads.bool b, by simp⟩
  | .int i, _, _, h, r => by
    cases h
    obtain ⟨t, rfl⟩ := r
    exact ⟨_, Reads.int i t, by simp⟩
  | .str x, _, _, h, r => by
    cases h
    obtain ⟨t, rfl⟩ := r
    exact ⟨_, Reads.str x t, by simp⟩
  | .list ds, _, _, h, r => by
    cases h with
    | lst hs ha =>
      cases r
      obtain ⟨its, rv, ⟨o, n, ho, hc, _, hd⟩, _⟩ := I.list hs
      obtain ⟨as, hr, hn⟩ := Dg.readsAll I sy ds _ its ha rv
      refine ⟨_, Reads.list ho hc hd hr, fun hm => ?_⟩
      rcases List.mem_cons.mp hm with e | e
      · obtain ⟨o2, l2, c2⟩ := sy
        have g2 := I.kIn _ _ l2
        rw [e, ho] at g2
        cases g2
        rw [hc] at c2
        exact absurd c2 (by decide)
      · exact hn e
  | .tuple ds, _, _, h, r => by
    cases h with
    | tup hs ha =>
      cases r
      obtain ⟨its, rv, ⟨o, ho, hc, n, hd⟩, _⟩ := I.tuple hs
      obtain ⟨as, hr, hn⟩ := Dg.readsAll I sy ds _ its ha rv
      exact ⟨_, Reads.tuple ho hc hd hr, hn⟩
  | .dict q, _, _, h, r => by
    cases h with
    | dic hR hq =>
      cases r
      obtain ⟨z, hs, vs, r0, o, es, ep, ho, hx, hdt, _, hp, _⟩ := hR.ok I.hok
      obtain ⟨i1, i2⟩ := kv_reads (h := s.heap) r0 hp hq
      refine ⟨_, Reads.dict ho hx.1 hdt i1 i2, fun hm => ?_⟩
      simp only [List.append_nil, List.mem_singleton] at hm
      exact beq_eq_false_iff_ne.mp hs hm.symm
theorem Dg.readsAll {pins : List (Addr × Obj)} {σ : L2.St} {H : Hp} {s : Shared} (I : Inv X pins σ H s) (sy : SysD X.K) : ∀ (ds : List PyData) (vs : List V) (us : List Value), DgAll X.K H vs ds → Vals vs us → ∃ as, ReadsAll s.heap us ds as ∧ sysModules ∉ as
  | [], _, _, h, r => by
    cases h
    cases r
    exact ⟨_, ReadsAll.nil, by simp⟩
  | d :: ds, _, _, h, r => by
    cases h with
    | cons h1 h2 =>
      cases r with
      | cons r1 r2 =>
        obtain ⟨as, i1, i2⟩ := Dg.reads I sy d _ _ h1 r1
        obtain ⟨bs, j1, j2⟩ := Dg.readsAll I sy ds _ _ h2 r2
        exact ⟨_, ReadsAll.cons i1 j1, fun hm => (List.mem_append.mp hm).elim i2 j2⟩
end
mutual
def pdG : D → Option PyData
  | .non => some .none
  | .bl b => some (.bool b)
  | .int i => some (.int i)
  | .str x => some (.str x)
  | .tup xs => (pdGs xs).map .tuple
  | .lst xs => (pdGs xs).map .list
  | .dic false kvs => (pdK kvs).map .dict
  | _ => none
def pdGs : List D → Option (List PyData)
  | [] => some []
  | x :: xs => match pdG x, pdGs xs with
    | some y, some ys => some (y :: ys)
    | _, _ => none
end
mutual
theorem rep_dg : ∀ {d : D} {v : V} {p : PyData}, pdG d = some p → Rep c F v d → Same F H → Dg c.K H v p
  | .non, _, _, e, r, s => by cases r; cases e; exact .non
  | .bl b, _, _, e, r, s => by cases r; cases e; exact .bl _
  | .int b, _, _, e, r, s => by cases r; cases e; exact .int _
  | .str b, _, _, e, r, s => by cases r; cases e; exact .str _
  | .tup xs, _, _, e, r, s => by
    simp only [pdG] at e
    rw [Option.map_eq_some_iff] at e
    obtain ⟨ps, h, rfl⟩ := e
    cases r with
    | tup h1 h2 => exact .tup (.inl (.inl (s _ _ h1))) (reps_dg h h2 s)
  | .lst xs, _, _, e, r, s => by
    simp only [pdG] at e
    rw [Option.map_eq_some_iff] at e
    obtain ⟨ps, h, rfl⟩ := e
    cases r with
    | lst h1 h2 => exact .lst (.inl (.inl (s _ _ h1))) (reps_dg h h2 s)
  | .dic false kvs, _, _, e, r, s => by
    simp only [pdG] at e
    rw [Option.map_eq_some_iff] at e
    obtain ⟨q, h, rfl⟩ := e
    cases r with
    | dicK h1 h2 h3 => exact .dic (Rd.mono s h1) (pdK_rep h2 h3 h)
  | .dic true kvs, _, _, e, r, s => by simp [pdG] at e
  | .ins _ _, _, _, e, r, s => by simp [pdG] at e
  | .exc _ _, _, _, e, r, s => by simp [pdG] at e
  | .drw, _, _, e, r, s => by simp [pdG] at e
  | .fn _, _, _, e, r, s => by simp [pdG] at e
  | .scr _, _, _, e, r, s => by simp [pdG] at e
  | .edt _, _, _, e, r, s => by simp [pdG] at e
  | .any, _, _, e, r, s => by simp [pdG] at e
theorem reps_dg : ∀ {ds : List D} {vs : List V} {ps : List PyData}, pdGs ds = some ps → RepL c F vs ds → Same F H → DgAll c.K H vs ps
  | [], _, _, e, .nil, s => by cases e; exact .nil
  | d :: ds, _, _, e, .cons r rs, s => by
    simp only [pdGs] at e
    cases h1 : pdG d <;> cases h2 : pdGs ds <;> rw [h1, h2] at e <;> simp only at e <;> try (cases e; done)
    cases e
    exact .cons (rep_dg h1 r s) (reps_dg h2 rs s)
end
noncomputable def reprQD : List D → Option (Bool × D)
  | [d] => (pdG d).bind fun p => if p.showable = true ∧ p.shown.length ≤ cap ∧ p.depth ≤ 50 then some (false, .str p.shown) else none
  | _ => none
def rReprQ (K : PySem.W.Frag) : List V → Hp → VK → Prop := fun xs H Q => ∃ (v : V) (p : PyData), xs = [v] ∧ Dg K H v p ∧ p.showable = true ∧ p.depth ≤ 50 ∧ p.shown.length ≤ sizeLine ∧ Q (.str p.shown) H
theorem cr_reprQ (hu : X.A.units + 64 < cLine) (GD : X.A.guards = some []) (sy : SysD X.K) : CallR X (.builtin "repr") (rReprQ X.K) := by
  intro pins s σ H xs us Q I r h
  obtain ⟨v, p, rfl, hd, h1, h2, h3, q⟩ := h
  obtain ⟨u, rfl, ru⟩ := vals1 r
  obtain ⟨as, rd, hsm⟩ := Dg.reads I sy p _ _ hd ru
  cases rd with
  | none => exact PySem.P.repr_of_none ⟨.str _, H, I.tok _, ⟨_, rfl⟩, q⟩
  | bool b => exact PySem.P.repr_of_bool ⟨.str _, H, I.tok _, ⟨_, rfl⟩, q⟩
  | int i t => exact PySem.P.repr_of_int (of_decide_eq_true h1) ⟨.str _, H, I.tok _, ⟨_, rfl⟩, q⟩
  | str x t => exact PySem.P.repr_of_str ⟨.str _, H, I.tok _, ⟨_, rfl⟩, q⟩ (hsz := h3)
  | list a b e d => exact repr_of_reads' (.list a b e d) h1 (fun _ => hsm) GD (by omega) (fun _ _ z => z) (fun h' u tk hk => ⟨.str _, H, I.kept hk, ⟨_, rfl⟩, q⟩) h3
  | tuple a b e d => exact repr_of_reads' (.tuple a b e d) h1 (fun _ => hsm) GD (by omega) (fun _ _ z => z) (fun h' u tk hk => ⟨.str _, H, I.kept hk, ⟨_, rfl⟩, q⟩) h3
  | dict a b e d f => exact repr_of_reads' (.dict a b e d f) h1 (fun _ => hsm) GD (by omega) (fun _ _ z => z) (fun h' u tk hk => ⟨.str _, H, I.kept hk, ⟨_, rfl⟩, q⟩) h3
theorem x_reprQ {a : Expr} {ea : Z.E} {p : Pos} (n : Cn c Wx k X) (GD : X.A.guards = some []) (sy : SysD c.K) (hm : X.mg "repr" = none) (ha : PA X [a] (rdL c Wx ea)) (hg : Gl X "repr" := by rfl) (he : starEach [a] X.env = (false, eval a X.env) :: starEach [] X.env := by rfl) (hpl : (backTo pos (starEach [] X.env)).any (·.1) = false := by rfl) :
    PE X (.Call (.Name "repr" p) [a] [] pos) (rdE c Wx (.call (pureG reprQD) ea)) := by
  rw [← n.hk] at sy
  refine x_bltB n (fun vs H Q E h => ?_) (cr_reprQ n.hu GD sy) boot_repr' hm ha hg (by decide) (by decide) he hpl
  obtain ⟨F, xs, W, r, rr, S, hf, hQ⟩ := spG_pure h
  match xs, rr, hf with
  | [d], .cons (v := v) r1 .nil, hf =>
    simp only [reprQD] at hf
    rw [Option.bind_eq_some_iff] at hf
    obtain ⟨p, hp, hf⟩ := hf
    split at hf <;> cases hf
    rename_i hz
    exact ⟨v, p, rfl, n.hk ▸ rep_dg hp r1 S.sub, hz.1, hz.2.2, by rw [← cap_eq]; exact hz.2.1, hQ _ F _ S (.str _)⟩
  | [], _, hf => simp [reprQD] at hf
  | _ :: _ :: _, _, hf => simp [reprQD] at hf
def azD (x y : Str) : List D → Option (Bool × D)
  | [.str s] => some (false, .bl (!decide (s.cps.toList < x.cps.toList) && !decide (y.cps.toList < s.cps.toList)))
  | _ => none
theorem y_az {x y : Str} {a b d : Expr} {eb : Z.E} (n : Cn c Wx k X) (ha : PE X a (rdE c Wx (.cst (.str x)))) (hb : PE X b (rdE c Wx eb)) (hd : PE X d (rdE c Wx (.cst (.str y)))) (hm : lastMarks [.LtE, .LtE] [b, d] = false := by rfl) :
    PT X (.Compare a [.LtE, .LtE] [b, d] pos) (rdT c Wx (.tv (.call (pureG (azD x y)) (.cons eb .nil)))) := by
  refine pt_wk (pt_chain op_le_str op_le_str ha hb hd hm) fun σ H Q ⟨F0, H0, ρ, F, W, R, hP⟩ => ?_
  simp only [evT, ev, evL, Out.bind_bind, ofO_bind, ite_bind, Out.ok_bind] at hP
  refine ⟨F0, H0, ρ, F, W, R, fun u F1 H1 S1 V1 => ?_⟩
  have R1 := R.step S1
  obtain rfl := V1.str R1 rfl
  refine ⟨F0, H0, ρ, F1, W, R1, ?_⟩
  cases e1 : ev eb ρ W with
  | stk => rw [e1] at hP; exact hP.elim
  | ex y W2 =>
    rw [e1] at hP
    exact fun cls dd F' H' S' hx => hP cls dd F' H' (S1.trans S') hx
  | ok v W2 =>
    rw [e1] at hP
    intro w F2 H2 S2 V2
    have R2 := R1.step S2
    simp only [Out.bind] at hP
    cases e2 : v.d <;> simp only [ds, List.map_cons, List.map_nil, e2, pureG, azD] at hP <;> try (exact hP.elim)
    rename_i t
    obtain rfl := V2.str R2 e2
    refine ⟨x, t, rfl, rfl, _, rfl, ?_⟩
    have hv : ∀ b t, vo (false, D.bl b) t = ⟨.bl b, .pl, []⟩ := fun _ _ => rfl
    simp only [ofO, hv, D.isBl] at hP
    cases h1 : decide (t.cps.toList < x.cps.toList) with
    | true =>
      rw [h1] at hP
      exact ⟨false, rfl, hP false F2 H2 (S1.trans S2) rfl⟩
    | false =>
      rw [h1] at hP
      refine ⟨F0, H0, ρ, F2, W2, R2, fun u F3 H3 S3 V3 => ?_⟩
      obtain rfl := V3.str (R2.step S3) rfl
      exact ⟨t, y, rfl, rfl, _, rfl, hP _ F3 H3 ((S1.trans S2).trans S3) rfl⟩
end
end Z

namespace Z
open PySem
noncomputable section
def B__law_mixed_1 : S := (.seq (.asg 4 (.bin .Mod (.bi .int (.cons (.bin .Add (.bin .Add (.bin .Mult (.var 4) (.cst (.int 48271))) (.var 5)) (.var 1)) .nil)) (.var 3)))
  .skip)
def B__law_mixed_2 : S := (.seq (.asg 4 (.bin .Add (.bin .Mult (.cst (.int 57731)) (.var 1)) (.bin .FloorDiv (.var 3) (.cst (.int 29)))))
  (.seq (.for (.nm 5) (.wk (.drc (.var 0))) B__law_mixed_1)
  (.seq (.asg 2 (.bin .Add (.bin .Mult (.var 2) (.cst (.int 2147483647))) (.bin .Mod (.bi .int (.cons (.bin .Pow (.var 4) (.cst (.int 5))) .nil)) (.var 3))))
  .skip)))
def B__law_mixed : S := (.seq (.par [1, 2] (.cons (.bin .Add (.drg true (.var 0)) (.cst (.int 1))) (.cons (.cst (.int 0)) .nil)))
  (.seq (.drs true 0 (.var 1))
  (.seq (.for (.nm 3) (.wk (.lst (.cons (.cst (.int 2147483629)) (.cons (.cst (.int 2147483587)) (.cons (.cst (.int 2147483579)) (.cons (.cst (.int 2147483563)) .nil)))))) B__law_mixed_2)
  (.seq (.ret (.var 2))
  .skip))))
def G__law_mixed : G := run 1000000 6 1 B__law_mixed
def B__law_take : S := (.seq (.iff (.tv (.cmp .Eq (.drg false (.var 0)) (.cst (.int 0)))) (.seq (.drs false 0 (.ite (.tv (.drn (.var 0))) (.drp (.var 0)) (.call G__law_mixed (.cons (.var 0) .nil))))
  .skip) .skip)
  (.seq (.asg 2 (.bin .Mod (.bi .int (.cons (.drg false (.var 0)) .nil)) (.var 1)))
  (.seq (.drs false 0 (.bin .FloorDiv (.drg false (.var 0)) (.var 1)))
  (.seq (.ret (.var 2))
  .skip))))
def G__law_take : G := run 1000000 3 2 B__law_take
def B__law_pick : S := (.seq (.ret (.ix (.var 1) (.call G__law_take (.cons (.var 0) (.cons (.bi .len (.cons (.var 1) .nil)) .nil)))))
  .skip)
def G__law_pick : G := run 1000000 2 2 B__law_pick
def T__law_shuffled_1 : E := (.tv (.cmp .NotEq (.var 2) (.lst .nil)))
def B__law_shuffled_2 : S := (.seq (.popp 3 2 (.cons (.call G__law_take (.cons (.var 0) (.cons (.bi .len (.cons (.var 2) .nil)) .nil))) .nil))
  .skip)
def B__law_shuffled : S := (.seq (.par [2, 3] (.cons (.bi .list (.cons (.var 1) .nil)) (.cons (.lst .nil) .nil)))
  (.seq (.whl T__law_shuffled_1 B__law_shuffled_2)
  (.seq (.ret (.var 3))
  .skip)))
def G__law_shuffled : G := run 1000000 4 2 B__law_shuffled
def B__law_hues : S := (.seq (.ret (.sl (.call G__law_shuffled (.cons (.var 0) (.cons (.lst (.cons (.cst (.str "a")) (.cons (.cst (.str "b")) (.cons (.cst (.str "c")) (.cons (.cst (.str "x")) (.cons (.cst (.str "ab")) (.cons (.cst (.str "ba")) (.cons (.cst (.str "zz")) (.cons (.cst (.str "zzzz")) (.cons (.cst (.str "zzzy")) (.cons (.cst (.str "aaab")) (.cons (.cst (.str "aaaa")) (.cons (.cst (.str "q")) .nil))))))))))))) .nil))) .no (.pt (.var 1))))
  .skip)
def G__law_hues : G := run 1000000 2 2 B__law_hues
def E__law_lines_1 : E := (.tup (.cons (.call G__law_pick (.cons (.var 0) (.cons (.var 1) .nil))) .nil))
def B__law_lines_2 : S := (.seq (.asg 7 (.call G__law_take (.cons (.var 0) (.cons (.var 4) .nil))))
  (.seq (.setix 5 (.var 7) (.bin .Add (.ix (.var 5) (.var 7)) (.tup (.cons (.call G__law_pick (.cons (.var 0) (.cons (.var 1) .nil))) .nil))))
  .skip))
def B__law_lines : S := (.seq (.asg 4 (.bin .Add (.cst (.int 1)) (.call G__law_take (.cons (.var 0) (.cons (.var 2) .nil)))))
  (.seq (.asg 5 (.lc E__law_lines_1 (.nm 6) (.rng (.cons (.var 4) .nil)) .nil [6]))
  (.seq (.for (.nm 6) (.rng (.cons (.call G__law_take (.cons (.var 0) (.cons (.bin .Add (.bin .Sub (.var 3) (.var 4)) (.cst (.int 1))) .nil))) .nil)) B__law_lines_2)
  (.seq (.ret (.var 5))
  .skip))))
def G__law_lines : G := run 1000000 8 4 B__law_lines
def E_is_color_1 : E := (.cmp .In (.var 1) (.gl (.str "abcdefghijklmnopqrstuvwxyz")))
def B_is_color : S := (.seq (.iff (.or (.not (.tv (.isi (.var 0) [.str]))) (.not (.tv (.chn .LtE .LtE (.cst (.int 1)) (.bi .len (.cons (.var 0) .nil)) (.gl (.int 4)))))) (.seq (.ret (.cst (.bl false)))
  .skip) .skip)
  (.seq (.ret (.bi .all (.cons (.lc E_is_color_1 (.nm 1) (.wk (.var 0)) .nil [1]) .nil)))
  .skip))
def G_is_color : G := run 1000000 2 1 B_is_color
def E_is_thread_1 : E := (.call G_is_color (.cons (.var 1) .nil))
def B_is_thread : S := (.seq (.ret (.and (.isi (.var 0) [.tuple]) (.and (.cmp .Gt (.bi .len (.cons (.var 0) .nil)) (.cst (.int 0))) (.bi .all (.cons (.lc E_is_thread_1 (.nm 1) (.wk (.var 0)) .nil [1]) .nil)))))
  .skip)
def G_is_thread : G := run 1000000 2 1 B_is_thread
def E_beads_in_1 : E := (.bi .len (.cons (.var 1) .nil))
def B_beads_in : S := (.seq (.ret (.bi .sum (.cons (.lc E_beads_in_1 (.nm 1) (.wk (.var 0)) .nil [1]) .nil)))
  .skip)
def G_beads_in : G := run 1000000 2 1 B_beads_in
def E_are_threads_1 : E := (.call G_is_thread (.cons (.var 1) .nil))
def B_are_threads : S := (.seq (.iff (.or (.not (.tv (.isi (.var 0) [.list, .tuple]))) (.not (.tv (.chn .LtE .LtE (.cst (.int 1)) (.bi .len (.cons (.var 0) .nil)) (.gl (.int 8)))))) (.seq (.ret (.cst (.bl false)))
  .skip) .skip)
  (.seq (.ret (.and (.bi .all (.cons (.lc E_are_threads_1 (.nm 1) (.wk (.var 0)) .nil [1]) .nil)) (.cmp .LtE (.call G_beads_in (.cons (.var 0) .nil)) (.gl (.int 60)))))
  .skip))
def G_are_threads : G := run 1000000 2 1 B_are_threads
def B_State___init__ : S := (.seq (.iff (.not (.tv (.call G_are_threads (.cons (.var 1) .nil)))) (.seq (.raise "NoState" [] .nil)
  .skip) .skip)
  (.seq (.fld 0 "s_lines" (.bi .tuple (.cons (.var 1) .nil)))
  .skip))
def GI_State (p : Nat) : G := runC 1000000 2 2 p "State" B_State___init__
def G_State : G := fun xs W => GI_State 0 xs W
def Ty_NoState : Ty := .cls "NoState" []
def Ty_NoThread : Ty := .cls "NoThread" []
def Ty_NoBead : Ty := .cls "NoBead" []
def Ty_NoSwap : Ty := .cls "NoSwap" []
def B__law_told : S := (.seq (.iff (.tv (.cmp .Is (.var 0) (.cst .non))) (.seq (.ret (.cst (.str "")))
  .skip) .skip)
  (.seq (.asg 1 (.lst (.cons (.isi (.var 0) [Ty_NoState]) (.cons (.isi (.var 0) [Ty_NoThread]) (.cons (.isi (.var 0) [Ty_NoBead]) .nil)))))
  (.seq (.app 1 (.isi (.var 0) [Ty_NoSwap]))
  (.seq (.ret (.ite (.tv (.cmp .Eq (.bm .count (.var 1) (.cons (.cst (.bl true)) .nil)) (.cst (.int 1)))) (.ix (.lst (.cons (.cst (.str "state")) (.cons (.cst (.str "thread")) (.cons (.cst (.str "bead")) (.cons (.cst (.str "swap")) .nil))))) (.bm .index (.var 1) (.cons (.cst (.bl true)) .nil))) (.cst (.str "other"))))
  .skip))))
def G__law_told : G := run 1000000 2 1 B__law_told
def B__law_odd : S := (.seq (.asg 1 (.lst (.cons (.cst .non) (.cons (.cst (.bl true)) (.cons (.cst (.bl false)) (.cons (.neg (.cst (.int 1))) (.cons (.bin .Pow (.cst (.int 10)) (.cst (.int 40))) (.cons (.cst (.str "")) (.cons (.cst (.str "A")) (.cons (.cst (.str "abcde")) (.cons (.cst (.str "a b")) (.cons (.tup .nil) (.cons (.lst .nil) (.cons (.cst (.dic false [])) (.cons (.tup (.cons (.cst (.str "A")) .nil)) (.cons (.tup (.cons (.cst (.str "abcde")) .nil)) (.cons (.tup (.cons (.cst (.str "a")) (.cons (.cst (.int 1)) .nil))) .nil)))))))))))))))))
  (.seq (.ret (.call G__law_pick (.cons (.var 0) (.cons (.bin .Add (.var 1) (.lst (.cons (.tup (.cons (.cst .non) .nil)) (.cons (.lst (.cons (.cst (.str "a")) .nil)) (.cons (.cst (.dic false [(.str "a", .int 1)])) (.cons (.tup (.cons (.tup .nil) .nil)) (.cons (.lst (.cons (.tup .nil) .nil)) (.cons (.lst (.cons (.tup (.cons (.cst (.str "a")) (.cons (.cst (.str "")) .nil))) .nil)) (.cons (.cst (.str "1")) (.cons (.tup (.cons (.cst (.str "a")) (.cons (.tup (.cons (.cst (.str "a")) .nil)) .nil))) (.cons (.lst (.cons (.cst (.str "A")) .nil)) .nil))))))))))) .nil))))
  .skip))
def G__law_odd : G := run 1000000 2 1 B__law_odd
end
end Z
namespace Qk69
open PySem Z
noncomputable section
def Ty_Tangle : Ty := .cls "Tangle" []
def B_Tangle___eq__ : S := (.seq (.iff (.not (.tv (.isi (.var 1) [Ty_Tangle]))) (.seq (.ret (.cst (.bl false)))
  .skip) .skip)
  (.seq (.ret (.and (.cmp .Eq (.attr (.var 0) "t_lines") (.attr (.var 1) "t_lines")) (.cmp .Eq (.attr (.var 0) "t_rings") (.attr (.var 1) "t_rings"))))
  .skip))
def G_Tangle___eq__ : G := run 1000000 2 2 B_Tangle___eq__
def B_Tangle_rings : S := (.seq (.ret (.bi .list (.cons (.attr (.var 0) "t_rings") .nil)))
  .skip)
def G_Tangle_rings : G := run 1000000 1 1 B_Tangle_rings
def B_Tangle_threads : S := (.seq (.ret (.bi .list (.cons (.attr (.var 0) "t_lines") .nil)))
  .skip)
def G_Tangle_threads : G := run 1000000 1 1 B_Tangle_threads
def T__law_are_rows_1 : E := (.cons (.or (.not (.tv (.isi (.var 1) [.tuple]))) (.tv (.cmp .Eq (.var 1) (.tup .nil)))) .nil)
def T__law_are_rows_2 : E := (.cons (.not (.tv (.call (pureG (azD "a" "z")) (.cons (.var 3) .nil)))) .nil)
def B__law_are_rows_3 : S := (.kl [] (.seq (.iff (.or (.not (.tv (.isi (.var 2) [.str]))) (.or (.not (.tv (.chn .LtE .LtE (.cst (.int 1)) (.bi .len (.cons (.var 2) .nil)) (.cst (.int 4))))) (.tv (.call (pureG neNilD) (.cons (.lc (.var 3) (.nm 3) (.wk (.var 2)) T__law_are_rows_2 [3]) (.cons (.lst .nil) .nil)))))) (.seq (.ret (.cst (.bl false)))
  .skip) .skip)
  .skip) [2])
def B__law_are_rows_4 : S := (.kl [] (.seq (.kl [2] (.for (.nm 2) (.wk (.var 1)) B__law_are_rows_3) [2, 1])
  .skip) [2, 1])
def B__law_are_rows : S := (.seq (.iff (.or (.not (.tv (.isi (.var 0) [.list, .tuple]))) (.tv (.call (pureG neNilD) (.cons (.lc (.var 1) (.nm 1) (.wk (.var 0)) T__law_are_rows_1 [1]) (.cons (.lst .nil) .nil))))) (.seq (.ret (.cst (.bl false)))
  .skip) .skip)
  (.seq (.kl [] (.for (.nm 1) (.wk (.var 0)) B__law_are_rows_4) [2, 1, 0])
  (.seq (.ret (.cst (.bl true)))
  .skip)))
def G__law_are_rows : G := run 1000000 4 1 B__law_are_rows
def E__law_least_turn_1 : E := (.bin .Add (.sl (.var 0) (.pt (.var 1)) .no) (.sl (.var 0) .no (.pt (.var 1))))
def B__law_least_turn : S := (.seq (.ret (.call (pureG minTD) (.cons (.lc E__law_least_turn_1 (.nm 1) (.rng (.cons (.bi .len (.cons (.var 0) .nil)) .nil)) .nil [1]) .nil)))
  .skip)
def G__law_least_turn : G := run 1000000 2 1 B__law_least_turn
def B_turned : S := (.seq (.ret (.bin .Add (.sl (.var 0) (.pt (.var 1)) .no) (.sl (.var 0) .no (.pt (.var 1)))))
  .skip)
def G_turned : G := run 1000000 2 2 B_turned
def E__law_is_due_1 : E := (.bi .len (.cons (.var 2) .nil))
def B__law_is_due : S := (.seq (.iff (.or (.not (.tv (.call G__law_are_rows (.cons (.var 0) .nil)))) (.or (.not (.tv (.call G__law_are_rows (.cons (.var 1) .nil)))) (.tv (.cmp .Gt (.bi .len (.cons (.var 0) .nil)) (.cst (.int 8)))))) (.seq (.ret (.cst (.bl false)))
  .skip) .skip)
  (.seq (.ret (.chn .LtE .LtE (.cst (.int 1)) (.bi .sum (.cons (.lc E__law_is_due_1 (.nm 2) (.wk (.bin .Add (.bi .list (.cons (.var 0) .nil)) (.bi .list (.cons (.var 1) .nil)))) .nil [2]) .nil)) (.cst (.int 60))))
  .skip))
def G__law_is_due : G := run 1000000 3 2 B__law_is_due
def E__law_knot_1 : E := (.call G__law_least_turn (.cons (.var 2) .nil))
def B__law_knot : S := (.seq (.ret (.tup (.cons (.bi .tuple (.cons (.var 0) .nil)) (.cons (.bi .tuple (.cons (.call (pureG sortAnyD) (.cons (.lc E__law_knot_1 (.nm 2) (.wk (.var 1)) .nil [2]) .nil)) .nil)) .nil))))
  .skip)
def G__law_knot : G := run 1000000 3 2 B__law_knot
def B__law_told : S := (.seq (.iff (.or (.not (.tv (.isi (.mth "threads" "Tangle" G_Tangle_threads (.var 0) .nil) [.list]))) (.not (.tv (.isi (.mth "rings" "Tangle" G_Tangle_rings (.var 0) .nil) [.list])))) (.seq (.ret (.cst (.str "none")))
  .skip) .skip)
  (.seq (.ret (.call (pureG reprQD) (.cons (.tup (.cons (.bi .tuple (.cons (.mth "threads" "Tangle" G_Tangle_threads (.var 0) .nil) .nil)) (.cons (.bi .tuple (.cons (.mth "rings" "Tangle" G_Tangle_rings (.var 0) .nil) .nil)) .nil))) .nil)))
  .skip))
def G__law_told : G := run 1000000 1 1 B__law_told
def E_least_turn_1 : E := (.call G_turned (.cons (.var 0) (.cons (.var 1) .nil)))
def B_least_turn : S := (.seq (.ret (.call (pureG minTD) (.cons (.lc E_least_turn_1 (.nm 1) (.rng (.cons (.bi .len (.cons (.var 0) .nil)) .nil)) .nil [1]) .nil)))
  .skip)
def G_least_turn : G := run 1000000 2 1 B_least_turn
def E_are_tangled_1 : E := (.call G_is_thread (.cons (.var 2) .nil))
def E_are_tangled_2 : E := (.bi .len (.cons (.var 2) .nil))
def B_are_tangled : S := (.seq (.iff (.or (.not (.tv (.isi (.var 0) [.list, .tuple]))) (.or (.not (.tv (.isi (.var 1) [.list, .tuple]))) (.tv (.cmp .Gt (.bi .len (.cons (.var 0) .nil)) (.gl (.int 8)))))) (.seq (.ret (.cst (.bl false)))
  .skip) .skip)
  (.seq (.iff (.not (.tv (.bi .all (.cons (.lc E_are_tangled_1 (.nm 2) (.wk (.lst (.star (.var 0) (.star (.var 1) .nil)))) .nil [2]) .nil)))) (.seq (.ret (.cst (.bl false)))
  .skip) .skip)
  (.seq (.ret (.chn .LtE .LtE (.cst (.int 1)) (.bi .sum (.cons (.lc E_are_tangled_2 (.nm 2) (.wk (.lst (.star (.var 0) (.star (.var 1) .nil)))) .nil [2]) .nil)) (.gl (.int 60))))
  .skip)))
def G_are_tangled : G := run 1000000 3 2 B_are_tangled
def E_Tangle___init___1 : E := (.call G_least_turn (.cons (.var 3) .nil))
def B_Tangle___init__ : S := (.seq (.iff (.not (.tv (.call G_are_tangled (.cons (.var 1) (.cons (.var 2) .nil))))) (.seq (.raise "NoState" [] .nil)
  .skip) .skip)
  (.seq (.fld 0 "t_lines" (.bi .tuple (.cons (.var 1) .nil)))
  (.seq (.fld 0 "t_rings" (.bi .tuple (.cons (.call (pureG sortAnyD) (.cons (.lc E_Tangle___init___1 (.nm 3) (.wk (.var 2)) .nil [3]) .nil)) .nil)))
  .skip)))
def GI_Tangle (p : Nat) : G := runC 1000000 4 3 p "Tangle" B_Tangle___init__
def G_Tangle : G := fun xs W => GI_Tangle 0 xs W
def B__law_bent : S := (.seq (.iff (.or (.not (.tv (.isi (.var 1) [.list]))) (.tv (.cmp .Eq (.call G__law_take (.cons (.var 0) (.cons (.cst (.int 6)) .nil))) (.cst (.int 0))))) (.seq (.ret (.pkD 0 G__law_take (.cons (.cst .non) (.cons (.cst (.int 5)) (.cons (.cst (.str "ab")) (.cons (.cst (.dic false [])) (.cons (.tup (.cons (.cst (.str "a")) .nil)) (.cons (.lst .nil) (.cons (.lst (.cons (.tup .nil) .nil)) (.cons (.lst (.cons (.lst (.cons (.cst (.str "a")) .nil)) .nil)) (.cons (.lst (.cons (.tup (.cons (.cst (.str "A")) .nil)) .nil)) (.cons (.bin .Mult (.lst (.cons (.tup (.cons (.cst (.str "a")) .nil)) .nil)) (.cst (.int 9))) (.cons (.bin .Mult (.lst (.cons (.tup (.cons (.cst (.str "a")) .nil)) .nil)) (.cst (.int 8))) .nil)))))))))))))
  .skip) .skip)
  (.seq (.par [2, 3] (.cons (.call G__law_take (.cons (.var 0) (.cons (.bin .Add (.bi .len (.cons (.var 1) .nil)) (.cst (.int 1))) .nil))) (.cons (.call G__law_take (.cons (.var 0) (.cons (.cst (.int 4)) .nil))) .nil)))
  (.seq (.iff (.tv (.cmp .Eq (.var 3) (.cst (.int 0)))) (.seq (.ret (.bin .Add (.bin .Add (.sl (.var 1) .no (.pt (.var 2))) (.lst (.cons (.call G__law_pick (.cons (.var 0) (.cons (.lst (.cons (.call G__law_odd (.cons (.var 0) .nil)) (.cons (.tup (.cons (.cst (.str "a")) (.cons (.cst (.str "abcde")) .nil))) (.cons (.call (pureG repTD) (.cons (.tup (.cons (.cst (.str "a")) .nil)) (.cons (.cst (.int 60)) .nil))) (.cons (.call (pureG repTD) (.cons (.tup (.cons (.cst (.str "b")) .nil)) (.cons (.cst (.int 44)) .nil))) .nil))))) .nil))) .nil))) (.sl (.var 1) (.pt (.var 2)) .no)))
  .skip) .skip)
  (.seq (.ret (.ite (.tv (.cmp .Eq (.var 3) (.cst (.int 1)))) (.bin .Add (.sl (.var 1) .no (.pt (.var 2))) (.sl (.var 1) (.pt (.bin .Add (.var 2) (.cst (.int 1)))) .no)) (.ite (.tv (.cmp .Eq (.var 3) (.cst (.int 2)))) (.bi .tuple (.cons (.var 1) .nil)) (.bin .Add (.var 1) (.var 1)))))
  .skip))))
def G__law_bent : G := run 1000000 4 2 B__law_bent
def GT__law_tangled : GT := pair3G 5 2 (.asg 2 (.call G__law_hues (.cons (.var 0) (.cons (.bin .Add (.cst (.int 1)) (.call G__law_take (.cons (.var 0) (.cons (.cst (.int 4)) .nil)))) .nil)))) (.asg 3 (.call G__law_lines (.cons (.var 0) (.cons (.var 2) (.cons (.ite (.tv (.cmp .Gt (.var 1) (.cst (.int 9)))) (.call G__law_pick (.cons (.var 0) (.cons (.lst (.cons (.cst (.int 4)) (.cons (.cst (.int 4)) (.cons (.cst (.int 7)) .nil)))) .nil))) (.cst (.int 4))) (.cons (.var 1) .nil)))))) (.asg 4 (.call G__law_take (.cons (.var 0) (.cons (.bin .Add (.bi .len (.cons (.var 3) .nil)) (.cst (.int 1))) .nil)))) (.sl (.var 3) .no (.pt (.var 4))) (.sl (.var 3) (.pt (.var 4)) .no)
def B_law_1 : S := (.kl [] (.seq (.iff (.tv (.cmp .Eq (.call G__law_take (.cons (.var 1) (.cons (.cst (.int 2)) .nil))) (.cst (.int 0)))) (.seq (.asg 4 (.call G__law_bent (.cons (.var 1) (.cons (.var 4) .nil))))
  .skip) (.seq (.asg 5 (.call G__law_bent (.cons (.var 1) (.cons (.var 5) .nil))))
  .skip))
  .skip) [6])
def T_law_2 : E := (.cons (.not (.tv (.isi (.var 14) [Ty_NoState]))) .nil)
def E_law_3 : E := (.bin .Add (.sl (.var 13) (.pt (.cst (.int 1))) .no) (.sl (.var 13) .no (.pt (.cst (.int 1)))))
def B_law_4 : S := (.seq (.asg 2 (.tup (.cons (.var 10) (.cons (.var 11) .nil))))
  .skip)
def B_law_5 : S := (.seq (.iff (.tv (.cmp .NotEq (.call G__law_told (.cons (.var 11) .nil)) (.call (pureG reprQD) (.cons (.var 10) .nil)))) (.seq (.ret (.cst (.bl false)))
  .skip) .skip)
  B_law_4)
def B_law_6 : S := (.seq (.tapp (.mth "threads" "Tangle" G_Tangle_threads (.var 11) .nil) (.cst .non))
  (.seq (.tapp (.mth "rings" "Tangle" G_Tangle_rings (.var 11) .nil) (.cst .non))
  (.seq (.iff (.tv (.isi (.var 4) [.list])) (.seq (.app 4 (.tup (.cons (.cst (.str "q")) .nil)))
  .skip) .skip)
  B_law_5)))
def B_law_7 : S := (.seq (.iff (.and (.tv (.cmp .IsNot (.var 2) (.cst .non))) (.tv (.cmp .NotEq (.call (eqG false "Tangle" G_Tangle___eq__) (.cons (.var 11) (.cons (.ix (.var 2) (.cst (.int 1))) .nil))) (.cmp .Eq (.var 10) (.ix (.var 2) (.cst (.int 0))))))) (.seq (.ret (.cst (.bl false)))
  .skip) .skip)
  B_law_6)
def B_law_8 : S := (.seq (.asg 12 (.lc E_law_3 (.nm 13) (.wk (.var 5)) .nil [13]))
  (.seq (.iff (.or (.tv (.call (eqG true "Tangle" G_Tangle___eq__) (.cons (.call G_Tangle (.cons (.var 4) (.cons (.var 12) .nil))) (.cons (.var 11) .nil)))) (.or (.tv (.call (eqG true "Tangle" G_Tangle___eq__) (.cons (.ix (.var 8) (.cst (.int 1))) (.cons (.var 11) .nil)))) (.or (.tv (.call (eqA false "Tangle" G_Tangle___eq__) (.cons (.var 11) (.cons (.var 10) .nil)))) (.not (.tv (.call (eqA true "Tangle" G_Tangle___eq__) (.cons (.var 11) (.cons (.cst .non) .nil)))))))) (.seq (.ret (.cst (.bl false)))
  .skip) .skip)
  B_law_7))
def B_law_9 : S := (.seq (.par [10, 11] (.cons (.call G__law_knot (.cons (.var 4) (.cons (.var 5) .nil))) (.cons (.ix (.var 8) (.cst (.int 0))) .nil)))
  (.seq (.iff (.or (.tv (.cmp .NotEq (.var 9) (.lst (.cons (.cst .non) (.cons (.cst .non) .nil))))) (.tv (.cmp .NotEq (.call G__law_told (.cons (.var 11) .nil)) (.call (pureG reprQD) (.cons (.var 10) .nil))))) (.seq (.ret (.cst (.bl false)))
  .skip) .skip)
  B_law_8))
def B_law_10 : S := (.seq (.iff (.not (.tv (.call G__law_is_due (.cons (.var 4) (.cons (.var 5) .nil))))) (.seq (.iff (.tv (.call (pureG neNilD) (.cons (.lc (.cst (.int 1)) (.nm 14) (.wk (.var 9)) T_law_2 [14]) (.cons (.lst .nil) .nil)))) (.seq (.ret (.cst (.bl false)))
  .skip) .skip)
  (.seq .cont
  .skip)) .skip)
  B_law_9)
def B_law_11 : S := (.kl [] (.seq (.unpT 4 5 GT__law_tangled (.cons (.var 1) (.cons (.cst (.int 16)) .nil)))
  (.seq (.kl [6] (.for (.nm 6) (.rng (.cons (.call G__law_pick (.cons (.var 1) (.cons (.lst (.cons (.cst (.int 0)) (.cons (.cst (.int 0)) (.cons (.cst (.int 1)) (.cons (.cst (.int 2)) .nil))))) .nil))) .nil)) B_law_1) [6])
  (.seq (.par [7, 8] (.cons (.call (pureG reprQD) (.cons (.lst (.cons (.var 4) (.cons (.var 5) .nil))) .nil)) (.cons (.lst .nil) .nil)))
  (.seq (.cpl 8 9 (.call G_Tangle (.cons (.var 4) (.cons (.var 5) .nil))))
  (.seq (.cpa 8 9 (.callk G_Tangle 2 [1, 0] (.cons (.var 5) (.cons (.var 4) .nil))))
  (.seq (.iff (.tv (.cmp .NotEq (.call (pureG reprQD) (.cons (.lst (.cons (.var 4) (.cons (.var 5) .nil))) .nil)) (.var 7))) (.seq (.ret (.cst (.bl false)))
  .skip) .skip)
  B_law_10)))))) [6, 9, 12, 8, 10, 11, 5, 7, 4, 3])
def B_law : S := (.seq (.asg 2 (.cst .non))
  (.seq (.kl [] (.for (.nm 3) (.rng (.cons (.bin .Add (.cst (.int 6)) (.bi .min (.cons (.bi .len (.cons (.var 0) .nil)) (.cons (.cst (.int 30)) .nil)))) .nil)) B_law_11) [6, 1, 9, 12, 8, 10, 2, 11, 5, 0, 7, 4, 3])
  (.seq (.ret (.cst (.bl true)))
  .skip)))
def RunOk : Prop := ∀ ns : List Int, ns.length ≤ 63 → ∃ ρ' W', evS 1000000 B_law (law0 14 1 ns) (dr0 ns) = .rt ⟨.bl true, .pl, []⟩ ρ' W'
end
end Qk69
namespace Qk69
open PySem PySem.Spec PyProof.Rows L2 Z
def top (i : Nat) : Stmt := PySem.Challenge.pw_tradedtails_k69_tangles_made_or_refused.main.body.getD i (.Pass ⟨0, 0, 0, 0⟩)
structure Tx (c : Pm) (mg : Str → Option Value) : Prop where
  kl : Kls c
  at_t_lines : ∀ n C, c.ca n = some C → Cls c.K C ∧ NoAttr c.K C "t_lines"
  at_t_rings : ∀ n C, c.ca n = some C → Cls c.K C ∧ NoAttr c.K C "t_rings"
  n_all : mg "all" = none
  n_int : mg "int" = none
  n_isinstance : mg "isinstance" = none
  n_len : mg "len" = none
  n_list : mg "list" = none
  n_min : mg "min" = none
  n_range : mg "range" = none
  n_repr : mg "repr" = none
  n_sorted : mg "sorted" = none
  n_str : mg "str" = none
  n_sum : mg "sum" = none
  n_tuple : mg "tuple" = none
  g_LETTERS : ∃ uu, mg "LETTERS" = some uu ∧ RelV (.str "abcdefghijklmnopqrstuvwxyz") uu
  g_MOST_BEADS : ∃ uu, mg "MOST_BEADS" = some uu ∧ RelV (.int 60) uu
  g_MOST_LETTERS : ∃ uu, mg "MOST_LETTERS" = some uu ∧ RelV (.int 4) uu
  g_MOST_THREADS : ∃ uu, mg "MOST_THREADS" = some uu ∧ RelV (.int 8) uu
  m_NoState : mg "NoState" = some (.ref (He.ga c.K "NoState"))
  is_NoState : IsF c Ty_NoState (.ref (He.ga c.K "NoState"))
  m_Tangle : mg "Tangle" = some (.ref (He.ga c.K "Tangle"))
  is_Tangle : IsF c Ty_Tangle (.ref (He.ga c.K "Tangle"))
  is_list : IsF c .list (.type "list")
  is_str : IsF c .str (.type "str")
  is_tuple : IsF c .tuple (.type "tuple")
  r_NoState : RaiseF c mg "NoState"
  sys : SysD c.K
variable {c : Pm} {P : Program} {w : World} {mg : Str → Option Value} {base : Heap}
abbrev s__law_caught : Stmt := top 21
theorem sc__law_caught : FnScope ["_law_job", "_law_found", "_law_error"] ["_law_job"] (defScope s__law_caught) := ⟨rfl, rfl, rfl, by decide +kernel, rfl, by decide +kernel, by decide +kernel⟩
theorem cau_mk {g : Addr} {fd : FuncData} (F : Fun c.K "_law_caught" "_law_caught" s__law_caught g fd) (hm : mg "_law_caught" = some (.ref g)) (hb : L2.Binds c.K fd ["_law_job"] []) (ht : mg "ThreadError" = some (.ref (He.ga c.K "ThreadError"))) (up : ∀ n C, c.cx n = some C → PySem.W.exmOne c.K (.ref C) (.ref (He.ga c.K "ThreadError")) = some true) : CauF c mg "_law_caught" "_law_job" ["_law_job", "_law_found", "_law_error"] s__law_caught (He.ga c.K "ThreadError") :=
  ⟨⟨g, fd, F, hm, hb⟩, sc__law_caught, rfl, .inl rfl, fun X g cdv q hk hmg => caught_gives (by decide) rfl rfl rfl (by rw [hmg]; exact ht) (by decide) (by decide) (by decide) (by decide) (by decide) rfl (fun _ => rfl) (fun _ => rfl) (fun _ => rfl), up⟩
abbrev s_Tangle___eq__ : Stmt := inClass (top 14) 3
theorem sc_Tangle___eq__ : FnScope ["self", "other"] ["self", "other"] (defScope s_Tangle___eq__) := ⟨rfl, rfl, rfl, by decide +kernel, rfl, by decide +kernel, by decide +kernel⟩
theorem ok_Tangle___eq__ {f : Addr} {fd : FuncData} (Fu : Fun c.K "__eq__" "Tangle.__eq__" s_Tangle___eq__ f fd) (T : Tx c mg) : FnOk P w c.K mg base (L2N.CX P w) 1 f fd ["self", "other"] (spG c G_Tangle___eq__) :=
  fn_ok Fu sc_Tangle___eq__ fun cdv A outer s H E hr tk => have n := Cn.fn rfl sc_Tangle___eq__ hr tk; (s_cons (s_if (t_not (y_val (x_isi n T.kl T.is_Tangle (.own _) (x_var 1 n (.inl rfl)) (x_cls n T.m_Tangle) T.n_isinstance))) (s_cons (s_ret e_bl)
  s_nil) s_nil)
  (s_cons (s_ret (e_and (x_cmp n (x_attr n T.at_t_lines (x_var 0 n (.inl rfl))) (x_attr n T.at_t_lines (x_var 1 n (.inl rfl)))) (x_one (x_cmp n (x_attr n T.at_t_rings (x_var 0 n (.inl rfl))) (x_attr n T.at_t_rings (x_var 1 n (.inl rfl)))))))
  s_nil))
abbrev s_Tangle_rings : Stmt := inClass (top 14) 2
theorem sc_Tangle_rings : FnScope ["self"] ["self"] (defScope s_Tangle_rings) := ⟨rfl, rfl, rfl, by decide +kernel, rfl, by decide +kernel, by decide +kernel⟩
theorem ok_Tangle_rings {f : Addr} {fd : FuncData} (Fu : Fun c.K "rings" "Tangle.rings" s_Tangle_rings f fd) (T : Tx c mg) : FnOk P w c.K mg base (L2N.CX P w) 1 f fd ["self"] (spG c G_Tangle_rings) :=
  fn_ok Fu sc_Tangle_rings fun cdv A outer s H E hr tk => have n := Cn.fn rfl sc_Tangle_rings hr tk; (s_cons (s_ret (x_list n T.n_list (x_cons (x_attr n T.at_t_rings (x_var 0 n (.inl rfl))) l_nil)))
  s_nil)
abbrev s_Tangle_threads : Stmt := inClass (top 14) 1
theorem sc_Tangle_threads : FnScope ["self"] ["self"] (defScope s_Tangle_threads) := ⟨rfl, rfl, rfl, by decide +kernel, rfl, by decide +kernel, by decide +kernel⟩
theorem ok_Tangle_threads {f : Addr} {fd : FuncData} (Fu : Fun c.K "threads" "Tangle.threads" s_Tangle_threads f fd) (T : Tx c mg) : FnOk P w c.K mg base (L2N.CX P w) 1 f fd ["self"] (spG c G_Tangle_threads) :=
  fn_ok Fu sc_Tangle_threads fun cdv A outer s H E hr tk => have n := Cn.fn rfl sc_Tangle_threads hr tk; (s_cons (s_ret (x_list n T.n_list (x_cons (x_attr n T.at_t_lines (x_var 0 n (.inl rfl))) l_nil)))
  s_nil)
abbrev s__law_are_rows : Stmt := top 28
theorem sc__law_are_rows : FnScope ["_law_some", "_law_row", "_law_hue", "_law_sign"] ["_law_some"] (defScope s__law_are_rows) := ⟨rfl, rfl, rfl, by decide +kernel, rfl, by decide +kernel, by decide +kernel⟩
theorem ok__law_are_rows {f : Addr} {fd : FuncData} (Fu : Fun c.K "_law_are_rows" "_law_are_rows" s__law_are_rows f fd) (T : Tx c mg) : FnOk P w c.K mg base (L2N.CX P w) 1 f fd ["_law_some"] (spG c G__law_are_rows) :=
  fn_ok Fu sc__law_are_rows fun cdv A outer s H E hr tk => have n := Cn.fn rfl sc__law_are_rows hr tk; (s_cons (s_if (w_or (t_not (y_val (x_isi2 n T.kl T.is_list (.ty "list") T.is_tuple (.ty "tuple") (x_var 0 n (.inl rfl)) (x_ty n T.n_list boot_list) (x_ty n T.n_tuple boot_tuple) T.n_isinstance))) (w_or1 (y_neNil n (x_lc (own := [("_law_row", 1)]) n (x_wk n (x_var 0 n (.inl rfl)) (pi_str (x_var 0 n (.inl rfl)))) (g_nm (by decide)) (by rfl) (fun _ _ _ _ _ => (pg_name (n.blk).nd rfl (.inl rfl) (.inr rfl))) (fun _ _ _ _ _ => (a_oneT (w_or (t_not (y_val (x_isi (n.blk) T.kl T.is_tuple (.ty "tuple") (x_var 1 (n.blk) (.inl rfl)) (x_ty (n.blk) T.n_tuple boot_tuple) T.n_isinstance))) (w_or1 (y_cmp (n.blk) (x_var 1 (n.blk) (.inl rfl)) (e_tup l_nil)))).pt)) (fun _ _ _ _ _ => (x_var 1 (n.blk) (.inl rfl)))) (e_lst l_nil)))).pt (s_cons (s_ret e_bl)
  s_nil) s_nil)
  (s_cons (z_kl [] [2, 1, 0] (z_for (own := [1]) n (passes_of rfl) (x_wk n (x_var 0 n (.inl rfl)) (pi_str (x_var 0 n (.inl rfl)))) (pg_name n.nd rfl (.inl rfl) (.inl rfl)) (g_nm (by decide)) (z_kls [] [2, 1] (s_cons (z_kl [2] [2, 1] (z_for (own := [2]) n (passes_of rfl) (x_wk n (x_var 1 n (.inl rfl)) (pi_str (x_var 1 n (.inl rfl)))) (pg_name n.nd rfl (.inl rfl) (.inl rfl)) (g_nm (by decide)) (z_kls [] [2] (s_cons (s_if (w_or (t_not (y_val (x_isi n T.kl T.is_str (.ty "str") (x_var 2 n (.inl rfl)) (x_ty n T.n_str boot_str) T.n_isinstance))) (w_or (t_not (y_chn n e_int (x_len n T.n_len (x_cons (x_var 2 n (.inl rfl)) l_nil)) e_int)) (w_or1 (y_neNil n (x_lc (own := [("_law_sign", 3)]) n (x_wk n (x_var 2 n (.inl rfl)) (pi_str (x_var 2 n (.inl rfl)))) (g_nm (by decide)) (by rfl) (fun _ _ _ _ _ => (pg_name (n.blk).nd rfl (.inl rfl) (.inr rfl))) (fun _ _ _ _ _ => (a_oneT (t_not (y_az (n.blk) e_str (x_var 3 (n.blk) (.inl rfl)) e_str)))) (fun _ _ _ _ _ => (x_var 3 (n.blk) (.inl rfl)))) (e_lst l_nil))))).pt (s_cons (s_ret e_bl)
  s_nil) s_nil)
  s_nil))))
  s_nil))))
  (s_cons (s_ret e_bl)
  s_nil)))
abbrev s__law_least_turn : Stmt := top 25
theorem sc__law_least_turn : FnScope ["_law_ring", "_law_at"] ["_law_ring"] (defScope s__law_least_turn) := ⟨rfl, rfl, rfl, by decide +kernel, rfl, by decide +kernel, by decide +kernel⟩
theorem ok__law_least_turn {f : Addr} {fd : FuncData} (Fu : Fun c.K "_law_least_turn" "_law_least_turn" s__law_least_turn f fd) (T : Tx c mg) : FnOk P w c.K mg base (L2N.CX P w) 1 f fd ["_law_ring"] (spG c G__law_least_turn) :=
  fn_ok Fu sc__law_least_turn fun cdv A outer s H E hr tk => have n := Cn.fn rfl sc__law_least_turn hr tk; (s_cons (s_ret (x_minT n T.n_min (x_cons (x_lc (own := [("_law_at", 1)]) n (x_rng1 n T.n_range (x_cons (x_len n T.n_len (x_cons (x_var 0 n (.inr (.inl rfl))) l_nil)) l_nil)) (g_nm (by decide)) (by rfl) (fun _ _ _ _ _ => (pg_name (n.blk).nd rfl (.inl rfl) (.inr rfl))) (fun _ _ _ _ _ => a_nilT) (fun _ _ _ _ _ => (x_bin (bin_add (n.blk).hk) (x_sl (n.blk) (x_var 0 (n.blk) (.inr (.inl rfl))) (o_some (x_var 1 (n.blk) (.inl rfl))) o_none) (x_sl (n.blk) (x_var 0 (n.blk) (.inr (.inl rfl))) o_none (o_some (x_var 1 (n.blk) (.inl rfl))))))) l_nil)))
  s_nil)
abbrev s__law_mixed : Stmt := top 17
theorem sc__law_mixed : FnScope ["_law_draw", "_law_turn", "_law_found", "_law_prime", "_law_blend", "_law_cell"] ["_law_draw"] (defScope s__law_mixed) := ⟨rfl, rfl, rfl, by decide +kernel, rfl, by decide +kernel, by decide +kernel⟩
theorem ok__law_mixed {f : Addr} {fd : FuncData} (Fu : Fun c.K "_law_mixed" "_law_mixed" s__law_mixed f fd) (T : Tx c mg) : FnOk P w c.K mg base (L2N.CX P w) 1 f fd ["_law_draw"] (spG c G__law_mixed) :=
  fn_ok Fu sc__law_mixed fun cdv A outer s H E hr tk => have n := Cn.fn rfl sc__law_mixed hr tk; (s_cons (z_par 1 2 n (x_cons (x_bin (bin_add n.hk) (x_drg true n (x_var 0 n (.inl rfl))) e_int) (x_cons e_int l_nil)))
  (s_cons (z_drs true 0 n (x_var 1 n (.inl rfl)) (.inl rfl))
  (s_cons (z_for (own := [3]) n (passes_of rfl) (x_wk n (e_lst (x_cons e_int (x_cons e_int (x_cons e_int (x_cons e_int l_nil))))) (pi_str (e_lst (x_cons e_int (x_cons e_int (x_cons e_int (x_cons e_int l_nil))))))) (pg_name n.nd rfl (.inl rfl) (.inl rfl)) (g_nm (by decide)) (s_cons (z_set 4 n (x_bin (bin_add n.hk) (x_bin (bin_mul n.hk) e_int (x_var 1 n (.inl rfl))) (x_bin (bin_div) (x_var 3 n (.inl rfl)) e_int)) (.inl rfl))
  (s_cons (z_for (own := [5]) n (passes_of rfl) (x_wk n (x_drc n (x_var 0 n (.inl rfl))) (pi_str (x_drc n (x_var 0 n (.inl rfl))))) (pg_name n.nd rfl (.inl rfl) (.inl rfl)) (g_nm (by decide)) (s_cons (z_set 4 n (x_bin (bin_mod) (x_int n T.n_int (x_cons (x_bin (bin_add n.hk) (x_bin (bin_add n.hk) (x_bin (bin_mul n.hk) (x_var 4 n (.inl rfl)) e_int) (x_var 5 n (.inl rfl))) (x_var 1 n (.inl rfl))) l_nil)) (x_var 3 n (.inl rfl))) (.inl rfl))
  s_nil))
  (s_cons (z_set 2 n (x_bin (bin_add n.hk) (x_bin (bin_mul n.hk) (x_var 2 n (.inl rfl)) e_int) (x_bin (bin_mod) (x_int n T.n_int (x_cons (x_bin (bin_pow) (x_var 4 n (.inl rfl)) e_int) l_nil)) (x_var 3 n (.inl rfl)))) (.inl rfl))
  s_nil))))
  (s_cons (s_ret (x_var 2 n (.inl rfl)))
  s_nil))))
abbrev s_is_color : Stmt := top 8
theorem sc_is_color : FnScope ["value", "letter"] ["value"] (defScope s_is_color) := ⟨rfl, rfl, rfl, by decide +kernel, rfl, by decide +kernel, by decide +kernel⟩
theorem ok_is_color {f : Addr} {fd : FuncData} (Fu : Fun c.K "is_color" "is_color" s_is_color f fd) (T : Tx c mg) : FnOk P w c.K mg base (L2N.CX P w) 1 f fd ["value"] (spG c G_is_color) :=
  fn_ok Fu sc_is_color fun cdv A outer s H E hr tk => have n := Cn.fn rfl sc_is_color hr tk; (s_cons (s_if (w_or (t_not (y_val (x_isi n T.kl T.is_str (.ty "str") (x_var 0 n (.inl rfl)) (x_ty n T.n_str boot_str) T.n_isinstance))) (w_or1 (t_not (y_chn n e_int (x_len n T.n_len (x_cons (x_var 0 n (.inl rfl)) l_nil)) (x_gl n T.g_MOST_LETTERS (fun _ => .int _)))))).pt (s_cons (s_ret e_bl)
  s_nil) s_nil)
  (s_cons (s_ret (x_all n T.n_all (x_cons (x_lc (own := [("letter", 1)]) n (x_wk n (x_var 0 n (.inl rfl)) (pi_str (x_var 0 n (.inl rfl)))) (g_nm (by decide)) (by rfl) (fun _ _ _ _ _ => (pg_name (n.blk).nd rfl (.inl rfl) (.inr rfl))) (fun _ _ _ _ _ => a_nilT) (fun _ _ _ _ _ => (x_cmp (n.blk) (x_var 1 (n.blk) (.inl rfl)) (x_gl (n.blk) T.g_LETTERS (fun _ => .str _))))) l_nil)))
  s_nil))
abbrev s_turned : Stmt := top 11
theorem sc_turned : FnScope ["ring", "at"] ["ring", "at"] (defScope s_turned) := ⟨rfl, rfl, rfl, by decide +kernel, rfl, by decide +kernel, by decide +kernel⟩
theorem ok_turned {f : Addr} {fd : FuncData} (Fu : Fun c.K "turned" "turned" s_turned f fd) (T : Tx c mg) : FnOk P w c.K mg base (L2N.CX P w) 1 f fd ["ring", "at"] (spG c G_turned) :=
  fn_ok Fu sc_turned fun cdv A outer s H E hr tk => have n := Cn.fn rfl sc_turned hr tk; (s_cons (s_ret (x_bin (bin_add n.hk) (x_sl n (x_var 0 n (.inl rfl)) (o_some (x_var 1 n (.inl rfl))) o_none) (x_sl n (x_var 0 n (.inl rfl)) o_none (o_some (x_var 1 n (.inl rfl))))))
  s_nil)
abbrev s__law_is_due : Stmt := top 29
theorem sc__law_is_due : FnScope ["_law_strands", "_law_rings_here", "_law_row"] ["_law_strands", "_law_rings_here"] (defScope s__law_is_due) := ⟨rfl, rfl, rfl, by decide +kernel, rfl, by decide +kernel, by decide +kernel⟩
theorem ok__law_is_due {f : Addr} {fd : FuncData} (Fu : Fun c.K "_law_is_due" "_law_is_due" s__law_is_due f fd) (T : Tx c mg) (C__law_are_rows : Cal c P w c.K mg base 1 "_law_are_rows" ["_law_some"] G__law_are_rows) : FnOk P w c.K mg base (L2N.CX P w) 2 f fd ["_law_strands", "_law_rings_here"] (spG c G__law_is_due) :=
  fn_ok Fu sc__law_is_due fun cdv A outer s H E hr tk => have n := Cn.fn rfl sc__law_is_due hr tk; (s_cons (s_if (w_or (t_not (y_val (x_call n C__law_are_rows (x_cons (x_var 0 n (.inl rfl)) l_nil)))) (w_or (t_not (y_val (x_call n C__law_are_rows (x_cons (x_var 1 n (.inl rfl)) l_nil)))) (w_or1 (y_cmp n (x_len n T.n_len (x_cons (x_var 0 n (.inl rfl)) l_nil)) e_int)))).pt (s_cons (s_ret e_bl)
  s_nil) s_nil)
  (s_cons (s_ret (x_chn n e_int (x_sum n T.n_sum (x_cons (x_lc (own := [("_law_row", 2)]) n (x_wk n (x_bin (bin_add n.hk) (x_list n T.n_list (x_cons (x_var 0 n (.inl rfl)) l_nil)) (x_list n T.n_list (x_cons (x_var 1 n (.inl rfl)) l_nil))) (pi_str (x_bin (bin_add n.hk) (x_list n T.n_list (x_cons (x_var 0 n (.inl rfl)) l_nil)) (x_list n T.n_list (x_cons (x_var 1 n (.inl rfl)) l_nil))))) (g_nm (by decide)) (by rfl) (fun _ _ _ _ _ => (pg_name (n.blk).nd rfl (.inl rfl) (.inr rfl))) (fun _ _ _ _ _ => a_nilT) (fun _ _ _ _ _ => (x_len (n.blk) T.n_len (x_cons (x_var 2 (n.blk) (.inl rfl)) l_nil)))) l_nil)) e_int))
  s_nil))
abbrev s__law_knot : Stmt := top 26
theorem sc__law_knot : FnScope ["_law_strands", "_law_rings_here", "_law_ring"] ["_law_strands", "_law_rings_here"] (defScope s__law_knot) := ⟨rfl, rfl, rfl, by decide +kernel, rfl, by decide +kernel, by decide +kernel⟩
theorem ok__law_knot {f : Addr} {fd : FuncData} (Fu : Fun c.K "_law_knot" "_law_knot" s__law_knot f fd) (T : Tx c mg) (C__law_least_turn : Cal c P w c.K mg base 1 "_law_least_turn" ["_law_ring"] G__law_least_turn) : FnOk P w c.K mg base (L2N.CX P w) 2 f fd ["_law_strands", "_law_rings_here"] (spG c G__law_knot) :=
  fn_ok Fu sc__law_knot fun cdv A outer s H E hr tk => have n := Cn.fn rfl sc__law_knot hr tk; (s_cons (s_ret (e_tup (x_cons (x_tuple n T.n_tuple (x_cons (x_var 0 n (.inl rfl)) l_nil)) (x_cons (x_tuple n T.n_tuple (x_cons (x_sortedA n T.n_sorted (x_cons (x_lc (own := [("_law_ring", 2)]) n (x_wk n (x_var 1 n (.inl rfl)) (pi_str (x_var 1 n (.inl rfl)))) (g_nm (by decide)) (by rfl) (fun _ _ _ _ _ => (pg_name (n.blk).nd rfl (.inl rfl) (.inr rfl))) (fun _ _ _ _ _ => a_nilT) (fun _ _ _ _ _ => (x_call (n.blk) C__law_least_turn (x_cons (x_var 2 (n.blk) (.inl rfl)) l_nil)))) l_nil)) l_nil)) l_nil))))
  s_nil)
abbrev s__law_take : Stmt := top 18
theorem sc__law_take : FnScope ["_law_draw", "_law_total", "_law_found"] ["_law_draw", "_law_total"] (defScope s__law_take) := ⟨rfl, rfl, rfl, by decide +kernel, rfl, by decide +kernel, by decide +kernel⟩
theorem ok__law_take {f : Addr} {fd : FuncData} (Fu : Fun c.K "_law_take" "_law_take" s__law_take f fd) (T : Tx c mg) (C__law_mixed : Cal c P w c.K mg base 1 "_law_mixed" ["_law_draw"] G__law_mixed) : FnOk P w c.K mg base (L2N.CX P w) 2 f fd ["_law_draw", "_law_total"] (spG c G__law_take) :=
  fn_ok Fu sc__law_take fun cdv A outer s H E hr tk => have n := Cn.fn rfl sc__law_take hr tk; (s_cons (s_if (y_cmp n (x_drg false n (x_var 0 n (.inl rfl))) e_int) (s_cons (z_drs false 0 n (e_ite (y_drn n (x_var 0 n (.inl rfl))) (x_drp n (x_var 0 n (.inl rfl))) (x_call n C__law_mixed (x_cons (x_var 0 n (.inl rfl)) l_nil))) (.inl rfl))
  s_nil) s_nil)
  (s_cons (z_set 2 n (x_bin (bin_mod) (x_int n T.n_int (x_cons (x_drg false n (x_var 0 n (.inl rfl))) l_nil)) (x_var 1 n (.inl rfl))) (.inl rfl))
  (s_cons (z_drs false 0 n (x_bin (bin_div) (x_drg false n (x_var 0 n (.inl rfl))) (x_var 1 n (.inl rfl))) (.inl rfl))
  (s_cons (s_ret (x_var 2 n (.inl rfl)))
  s_nil))))
abbrev s__law_told : Stmt := top 30
theorem sc__law_told : FnScope ["_law_made"] ["_law_made"] (defScope s__law_told) := ⟨rfl, rfl, rfl, by decide +kernel, rfl, by decide +kernel, by decide +kernel⟩
theorem ok__law_told {f : Addr} {fd : FuncData} (Fu : Fun c.K "_law_told" "_law_told" s__law_told f fd) (T : Tx c mg) (M_Tangle_rings : Mth c P w mg base 1 "Tangle" "rings" ["self"] G_Tangle_rings) (M_Tangle_threads : Mth c P w mg base 1 "Tangle" "threads" ["self"] G_Tangle_threads) : FnG P w c.K mg base (L2N.CX P w) 2 f fd ["_law_made"] (spG c G__law_told) :=
  fn_okG Fu sc__law_told fun cdv A outer s H E hgd hr tk => have n := Cn.fn rfl sc__law_told hr tk; have GD : (cxOf (L2N.CX P w) P w c.K mg base ["_law_made"] "_law_told" (defScope s__law_told) f cdv A outer s H E).A.guards = some [] := hgd; (s_cons (s_if (w_or (t_not (y_val (x_isi n T.kl T.is_list (.ty "list") (x_mth0 n M_Tangle_threads (x_var 0 n (.inl rfl))) (x_ty n T.n_list boot_list) T.n_isinstance))) (w_or1 (t_not (y_val (x_isi n T.kl T.is_list (.ty "list") (x_mth0 n M_Tangle_rings (x_var 0 n (.inl rfl))) (x_ty n T.n_list boot_list) T.n_isinstance))))).pt (s_cons (s_ret e_str)
  s_nil) s_nil)
  (s_cons (s_ret (x_reprQ n GD T.sys T.n_repr (x_cons (e_tup (x_cons (x_tuple n T.n_tuple (x_cons (x_mth0 n M_Tangle_threads (x_var 0 n (.inl rfl))) l_nil)) (x_cons (x_tuple n T.n_tuple (x_cons (x_mth0 n M_Tangle_rings (x_var 0 n (.inl rfl))) l_nil)) l_nil))) l_nil)))
  s_nil))
abbrev s_is_thread : Stmt := top 9
theorem sc_is_thread : FnScope ["value", "color"] ["value"] (defScope s_is_thread) := ⟨rfl, rfl, rfl, by decide +kernel, rfl, by decide +kernel, by decide +kernel⟩
theorem ok_is_thread {f : Addr} {fd : FuncData} (Fu : Fun c.K "is_thread" "is_thread" s_is_thread f fd) (T : Tx c mg) (C_is_color : Cal c P w c.K mg base 1 "is_color" ["value"] G_is_color) : FnOk P w c.K mg base (L2N.CX P w) 2 f fd ["value"] (spG c G_is_thread) :=
  fn_ok Fu sc_is_thread fun cdv A outer s H E hr tk => have n := Cn.fn rfl sc_is_thread hr tk; (s_cons (s_ret (e_and (x_isi n T.kl T.is_tuple (.ty "tuple") (x_var 0 n (.inl rfl)) (x_ty n T.n_tuple boot_tuple) T.n_isinstance) (e_and (x_cmp n (x_len n T.n_len (x_cons (x_var 0 n (.inl rfl)) l_nil)) e_int) (x_one (x_all n T.n_all (x_cons (x_lc (own := [("color", 1)]) n (x_wk n (x_var 0 n (.inl rfl)) (pi_str (x_var 0 n (.inl rfl)))) (g_nm (by decide)) (by rfl) (fun _ _ _ _ _ => (pg_name (n.blk).nd rfl (.inl rfl) (.inr rfl))) (fun _ _ _ _ _ => a_nilT) (fun _ _ _ _ _ => (x_call (n.blk) C_is_color (x_cons (x_var 1 (n.blk) (.inl rfl)) l_nil)))) l_nil))))))
  s_nil)
abbrev s_least_turn : Stmt := top 12
theorem sc_least_turn : FnScope ["ring", "at"] ["ring"] (defScope s_least_turn) := ⟨rfl, rfl, rfl, by decide +kernel, rfl, by decide +kernel, by decide +kernel⟩
theorem ok_least_turn {f : Addr} {fd : FuncData} (Fu : Fun c.K "least_turn" "least_turn" s_least_turn f fd) (T : Tx c mg) (C_turned : Cal c P w c.K mg base 1 "turned" ["ring", "at"] G_turned) : FnOk P w c.K mg base (L2N.CX P w) 2 f fd ["ring"] (spG c G_least_turn) :=
  fn_ok Fu sc_least_turn fun cdv A outer s H E hr tk => have n := Cn.fn rfl sc_least_turn hr tk; (s_cons (s_ret (x_minT n T.n_min (x_cons (x_lc (own := [("at", 1)]) n (x_rng1 n T.n_range (x_cons (x_len n T.n_len (x_cons (x_var 0 n (.inr (.inl rfl))) l_nil)) l_nil)) (g_nm (by decide)) (by rfl) (fun _ _ _ _ _ => (pg_name (n.blk).nd rfl (.inl rfl) (.inr rfl))) (fun _ _ _ _ _ => a_nilT) (fun _ _ _ _ _ => (x_call (n.blk) C_turned (x_cons (x_var 0 (n.blk) (.inr (.inl rfl))) (x_cons (x_var 1 (n.blk) (.inl rfl)) l_nil))))) l_nil)))
  s_nil)
abbrev s__law_pick : Stmt := top 19
theorem sc__law_pick : FnScope ["_law_draw", "_law_some"] ["_law_draw", "_law_some"] (defScope s__law_pick) := ⟨rfl, rfl, rfl, by decide +kernel, rfl, by decide +kernel, by decide +kernel⟩
theorem okP__law_pick {f : Addr} {fd : FuncData} (Fu : Fun c.K "_law_pick" "_law_pick" s__law_pick f fd) (T : Tx c mg) (C__law_take : Cal c P w c.K mg base 2 "_law_take" ["_law_draw", "_law_total"] G__law_take) : FnOk P w c.K mg base (L2N.CX P w) 3 f fd ["_law_draw", "_law_some"] (spPk c G__law_take) :=
  pickP_ok Fu sc__law_pick rfl (.inl rfl) (by decide) (by decide) fun cdv A outer s H E hr tk => have n := Cn.fn rfl sc__law_pick hr tk; ⟨(x_call n C__law_take (x_cons (x_var 0 n (.inl rfl)) (x_cons (x_len n T.n_len (x_cons (x_var 1 n (.inl rfl)) l_nil)) l_nil))), fun _ _ => rfl⟩
theorem ok__law_pick {f : Addr} {fd : FuncData} (Fu : Fun c.K "_law_pick" "_law_pick" s__law_pick f fd) (T : Tx c mg) (C__law_take : Cal c P w c.K mg base 2 "_law_take" ["_law_draw", "_law_total"] G__law_take) : FnOk P w c.K mg base (L2N.CX P w) 3 f fd ["_law_draw", "_law_some"] (spG c G__law_pick) :=
  fn_ok Fu sc__law_pick fun cdv A outer s H E hr tk => have n := Cn.fn rfl sc__law_pick hr tk; (s_cons (s_ret (x_ix n (x_var 1 n (.inl rfl)) (x_call n C__law_take (x_cons (x_var 0 n (.inl rfl)) (x_cons (x_len n T.n_len (x_cons (x_var 1 n (.inl rfl)) l_nil)) l_nil)))))
  s_nil)
abbrev s__law_shuffled : Stmt := top 20
theorem sc__law_shuffled : FnScope ["_law_draw", "_law_some", "_law_left", "_law_found"] ["_law_draw", "_law_some"] (defScope s__law_shuffled) := ⟨rfl, rfl, rfl, by decide +kernel, rfl, by decide +kernel, by decide +kernel⟩
theorem ok__law_shuffled {f : Addr} {fd : FuncData} (Fu : Fun c.K "_law_shuffled" "_law_shuffled" s__law_shuffled f fd) (T : Tx c mg) (C__law_take : Cal c P w c.K mg base 2 "_law_take" ["_law_draw", "_law_total"] G__law_take) : FnOk P w c.K mg base (L2N.CX P w) 3 f fd ["_law_draw", "_law_some"] (spG c G__law_shuffled) :=
  fn_ok Fu sc__law_shuffled fun cdv A outer s H E hr tk => have n := Cn.fn rfl sc__law_shuffled hr tk; (s_cons (z_par 2 3 n (x_cons (x_list n T.n_list (x_cons (x_var 1 n (.inl rfl)) l_nil)) (x_cons (e_lst l_nil) l_nil)))
  (s_cons (s_while (passes_of rfl) (y_cmp n (x_var 2 n (.inl rfl)) (e_lst l_nil)) (s_cons (z_popp 3 2 n (x_cons (x_call n C__law_take (x_cons (x_var 0 n (.inl rfl)) (x_cons (x_len n T.n_len (x_cons (x_var 2 n (.inl rfl)) l_nil)) l_nil))) l_nil) (.inl rfl) (.inl rfl))
  s_nil))
  (s_cons (s_ret (x_var 3 n (.inl rfl)))
  s_nil)))
abbrev s_are_tangled : Stmt := top 13
theorem sc_are_tangled : FnScope ["threads", "rings", "line"] ["threads", "rings"] (defScope s_are_tangled) := ⟨rfl, rfl, rfl, by decide +kernel, rfl, by decide +kernel, by decide +kernel⟩
theorem ok_are_tangled {f : Addr} {fd : FuncData} (Fu : Fun c.K "are_tangled" "are_tangled" s_are_tangled f fd) (T : Tx c mg) (C_is_thread : Cal c P w c.K mg base 2 "is_thread" ["value"] G_is_thread) : FnOk P w c.K mg base (L2N.CX P w) 3 f fd ["threads", "rings"] (spG c G_are_tangled) :=
  fn_ok Fu sc_are_tangled fun cdv A outer s H E hr tk => have n := Cn.fn rfl sc_are_tangled hr tk; (s_cons (s_if (w_or (t_not (y_val (x_isi2 n T.kl T.is_list (.ty "list") T.is_tuple (.ty "tuple") (x_var 0 n (.inl rfl)) (x_ty n T.n_list boot_list) (x_ty n T.n_tuple boot_tuple) T.n_isinstance))) (w_or (t_not (y_val (x_isi2 n T.kl T.is_list (.ty "list") T.is_tuple (.ty "tuple") (x_var 1 n (.inl rfl)) (x_ty n T.n_list boot_list) (x_ty n T.n_tuple boot_tuple) T.n_isinstance))) (w_or1 (y_cmp n (x_len n T.n_len (x_cons (x_var 0 n (.inl rfl)) l_nil)) (x_gl n T.g_MOST_THREADS (fun _ => .int _)))))).pt (s_cons (s_ret e_bl)
  s_nil) s_nil)
  (s_cons (s_if (t_not (y_val (x_all n T.n_all (x_cons (x_lc (own := [("line", 2)]) n (x_wk n (e_lst (l_star n (x_var 0 n (.inl rfl)) (l_star n (x_var 1 n (.inl rfl)) l_nil))) (pi_str (e_lst (l_star n (x_var 0 n (.inl rfl)) (l_star n (x_var 1 n (.inl rfl)) l_nil))))) (g_nm (by decide)) (by rfl) (fun _ _ _ _ _ => (pg_name (n.blk).nd rfl (.inl rfl) (.inr rfl))) (fun _ _ _ _ _ => a_nilT) (fun _ _ _ _ _ => (x_call (n.blk) C_is_thread (x_cons (x_var 2 (n.blk) (.inl rfl)) l_nil)))) l_nil)))) (s_cons (s_ret e_bl)
  s_nil) s_nil)
  (s_cons (s_ret (x_chn n e_int (x_sum n T.n_sum (x_cons (x_lc (own := [("line", 2)]) n (x_wk n (e_lst (l_star n (x_var 0 n (.inl rfl)) (l_star n (x_var 1 n (.inl rfl)) l_nil))) (pi_str (e_lst (l_star n (x_var 0 n (.inl rfl)) (l_star n (x_var 1 n (.inl rfl)) l_nil))))) (g_nm (by decide)) (by rfl) (fun _ _ _ _ _ => (pg_name (n.blk).nd rfl (.inl rfl) (.inr rfl))) (fun _ _ _ _ _ => a_nilT) (fun _ _ _ _ _ => (x_len (n.blk) T.n_len (x_cons (x_var 2 (n.blk) (.inl rfl)) l_nil)))) l_nil)) (x_gl n T.g_MOST_BEADS (fun _ => .int _))))
  s_nil)))
abbrev s_Tangle___init__ : Stmt := inClass (top 14) 0
theorem sc_Tangle___init__ : FnScope ["self", "threads", "rings", "ring"] ["self", "threads", "rings"] (defScope s_Tangle___init__) := ⟨rfl, rfl, rfl, by decide +kernel, rfl, by decide +kernel, by decide +kernel⟩
theorem ok_Tangle___init__ {f C : Addr} {fd : FuncData} (Fu : Fun c.K "__init__" "Tangle.__init__" s_Tangle___init__ f fd) (T : Tx c mg) (C_are_tangled : Cal c P w c.K mg base 3 "are_tangled" ["threads", "rings"] G_are_tangled) (C_least_turn : Cal c P w c.K mg base 2 "least_turn" ["ring"] G_least_turn) : FnOk P w c.K mg base (L2N.CX P w) 4 f fd ["self", "threads", "rings"] (spI c "Tangle" C GI_Tangle) :=
  init_ok Fu sc_Tangle___init__ fun cdv A outer s H E hr tk => have n := Cn.fn rfl sc_Tangle___init__ hr tk; (s_cons (s_if (t_not (y_val (x_call n C_are_tangled (x_cons (x_var 1 n (.inl rfl)) (x_cons (x_var 2 n (.inl rfl)) l_nil))))) (s_cons (z_raise n T.r_NoState)
  s_nil) s_nil)
  (s_cons (z_fld 0 n T.at_t_lines (x_tuple n T.n_tuple (x_cons (x_var 1 n (.inl rfl)) l_nil)) (.inl rfl))
  (s_cons (z_fld 0 n T.at_t_rings (x_tuple n T.n_tuple (x_cons (x_sortedA n T.n_sorted (x_cons (x_lc (own := [("ring", 3)]) n (x_wk n (x_var 2 n (.inl rfl)) (pi_str (x_var 2 n (.inl rfl)))) (g_nm (by decide)) (by rfl) (fun _ _ _ _ _ => (pg_name (n.blk).nd rfl (.inl rfl) (.inr rfl))) (fun _ _ _ _ _ => a_nilT) (fun _ _ _ _ _ => (x_call (n.blk) C_least_turn (x_cons (x_var 3 (n.blk) (.inl rfl)) l_nil)))) l_nil)) l_nil)) (.inl rfl))
  s_nil)))
abbrev s__law_hues : Stmt := top 23
theorem sc__law_hues : FnScope ["_law_draw", "_law_many"] ["_law_draw", "_law_many"] (defScope s__law_hues) := ⟨rfl, rfl, rfl, by decide +kernel, rfl, by decide +kernel, by decide +kernel⟩
theorem ok__law_hues {f : Addr} {fd : FuncData} (Fu : Fun c.K "_law_hues" "_law_hues" s__law_hues f fd) (T : Tx c mg) (C__law_shuffled : Cal c P w c.K mg base 3 "_law_shuffled" ["_law_draw", "_law_some"] G__law_shuffled) : FnOk P w c.K mg base (L2N.CX P w) 4 f fd ["_law_draw", "_law_many"] (spG c G__law_hues) :=
  fn_ok Fu sc__law_hues fun cdv A outer s H E hr tk => have n := Cn.fn rfl sc__law_hues hr tk; (s_cons (s_ret (x_sl n (x_call n C__law_shuffled (x_cons (x_var 0 n (.inl rfl)) (x_cons (e_lst (x_cons e_str (x_cons e_str (x_cons e_str (x_cons e_str (x_cons e_str (x_cons e_str (x_cons e_str (x_cons e_str (x_cons e_str (x_cons e_str (x_cons e_str (x_cons e_str l_nil))))))))))))) l_nil))) o_none (o_some (x_var 1 n (.inl rfl)))))
  s_nil)
abbrev s__law_lines : Stmt := top 24
theorem sc__law_lines : FnScope ["_law_draw", "_law_hues_here", "_law_most", "_law_beads", "_law_many", "_law_found", "_law_lap", "_law_spot"] ["_law_draw", "_law_hues_here", "_law_most", "_law_beads"] (defScope s__law_lines) := ⟨rfl, rfl, rfl, by decide +kernel, rfl, by decide +kernel, by decide +kernel⟩
theorem ok__law_lines {f : Addr} {fd : FuncData} (Fu : Fun c.K "_law_lines" "_law_lines" s__law_lines f fd) (T : Tx c mg) (C__law_pick : Cal c P w c.K mg base 3 "_law_pick" ["_law_draw", "_law_some"] G__law_pick) (C__law_take : Cal c P w c.K mg base 2 "_law_take" ["_law_draw", "_law_total"] G__law_take) : FnOk P w c.K mg base (L2N.CX P w) 4 f fd ["_law_draw", "_law_hues_here", "_law_most", "_law_beads"] (spG c G__law_lines) :=
  fn_ok Fu sc__law_lines fun cdv A outer s H E hr tk => have n := Cn.fn rfl sc__law_lines hr tk; (s_cons (z_set 4 n (x_bin (bin_add n.hk) e_int (x_call n C__law_take (x_cons (x_var 0 n (.inr (.inl rfl))) (x_cons (x_var 2 n (.inl rfl)) l_nil)))) (.inl rfl))
  (s_cons (z_setLc 5 (own := [("_law_lap", 6)]) n (x_rng1 n T.n_range (x_cons (x_var 4 n (.inl rfl)) l_nil)) (g_nm (by decide)) (by rfl) (fun _ _ _ _ _ => (pg_name (n.blk).nd rfl (.inl rfl) (.inr rfl))) (fun _ _ _ _ _ => a_nilT) (fun _ _ _ _ _ => (e_tup (x_cons (x_call (n.blk) C__law_pick (x_cons (x_var 0 (n.blk) (.inr (.inl rfl))) (x_cons (x_var 1 (n.blk) (.inr (.inl rfl))) l_nil))) l_nil))))
  (s_cons (z_for (own := [6]) n (passes_of rfl) (x_rng1 n T.n_range (x_cons (x_call n C__law_take (x_cons (x_var 0 n (.inr (.inl rfl))) (x_cons (x_bin (bin_add n.hk) (x_bin (bin_sub) (x_var 3 n (.inl rfl)) (x_var 4 n (.inl rfl))) e_int) l_nil))) l_nil)) (pg_name n.nd rfl (.inl rfl) (.inl rfl)) (g_nm (by decide)) (s_cons (z_set 7 n (x_call n C__law_take (x_cons (x_var 0 n (.inr (.inl rfl))) (x_cons (x_var 4 n (.inl rfl)) l_nil))) (.inl rfl))
  (s_cons (z_setix 5 n (x_var 7 n (.inl rfl)) (x_bin (bin_add n.hk) (x_ix n (x_var 5 n (.inl rfl)) (x_var 7 n (.inl rfl))) (e_tup (x_cons (x_call n C__law_pick (x_cons (x_var 0 n (.inr (.inl rfl))) (x_cons (x_var 1 n (.inr (.inl rfl))) l_nil))) l_nil))) (.inl rfl))
  s_nil)))
  (s_cons (s_ret (x_var 5 n (.inl rfl)))
  s_nil))))
abbrev s__law_odd : Stmt := top 22
theorem sc__law_odd : FnScope ["_law_draw", "_law_some"] ["_law_draw"] (defScope s__law_odd) := ⟨rfl, rfl, rfl, by decide +kernel, rfl, by decide +kernel, by decide +kernel⟩
theorem ok__law_odd {f : Addr} {fd : FuncData} (Fu : Fun c.K "_law_odd" "_law_odd" s__law_odd f fd) (T : Tx c mg) (C__law_pick : Cal c P w c.K mg base 3 "_law_pick" ["_law_draw", "_law_some"] G__law_pick) : FnOk P w c.K mg base (L2N.CX P w) 4 f fd ["_law_draw"] (spG c G__law_odd) :=
  fn_ok Fu sc__law_odd fun cdv A outer s H E hr tk => have n := Cn.fn rfl sc__law_odd hr tk; (s_cons (z_set 1 n (e_lst (x_cons e_non (x_cons e_bl (x_cons e_bl (x_cons (e_neg e_int) (x_cons (x_bin (bin_pow) e_int e_int) (x_cons e_str (x_cons e_str (x_cons e_str (x_cons e_str (x_cons (e_tup l_nil) (x_cons (e_lst l_nil) (x_cons e_dic0 (x_cons (e_tup (x_cons e_str l_nil)) (x_cons (e_tup (x_cons e_str l_nil)) (x_cons (e_tup (x_cons e_str (x_cons e_int l_nil))) l_nil)))))))))))))))) (.inl rfl))
  (s_cons (s_ret (x_call n C__law_pick (x_cons (x_var 0 n (.inl rfl)) (x_cons (x_bin (bin_add n.hk) (x_var 1 n (.inl rfl)) (e_lst (x_cons (e_tup (x_cons e_non l_nil)) (x_cons (e_lst (x_cons e_str l_nil)) (x_cons e_dic1 (x_cons (e_tup (x_cons (e_tup l_nil) l_nil)) (x_cons (e_lst (x_cons (e_tup l_nil) l_nil)) (x_cons (e_lst (x_cons (e_tup (x_cons e_str (x_cons e_str l_nil))) l_nil)) (x_cons e_str (x_cons (e_tup (x_cons e_str (x_cons (e_tup (x_cons e_str l_nil)) l_nil))) (x_cons (e_lst (x_cons e_str l_nil)) l_nil))))))))))) l_nil))))
  s_nil))
abbrev s__law_bent : Stmt := top 31
theorem sc__law_bent : FnScope ["_law_draw", "_law_some", "_law_spot", "_law_way"] ["_law_draw", "_law_some"] (defScope s__law_bent) := ⟨rfl, rfl, rfl, by decide +kernel, rfl, by decide +kernel, by decide +kernel⟩
theorem ok__law_bent {f : Addr} {fd : FuncData} (Fu : Fun c.K "_law_bent" "_law_bent" s__law_bent f fd) (T : Tx c mg) (C__law_odd : Cal c P w c.K mg base 4 "_law_odd" ["_law_draw"] G__law_odd) (CP__law_pick : CalP c P w c.K mg base 3 "_law_pick" ["_law_draw", "_law_some"] G__law_take) (C__law_pick : Cal c P w c.K mg base 3 "_law_pick" ["_law_draw", "_law_some"] G__law_pick) (C__law_take : Cal c P w c.K mg base 2 "_law_take" ["_law_draw", "_law_total"] G__law_take) : FnOk P w c.K mg base (L2N.CX P w) 5 f fd ["_law_draw", "_law_some"] (spG c G__law_bent) :=
  fn_ok Fu sc__law_bent fun cdv A outer s H E hr tk => have n := Cn.fn rfl sc__law_bent hr tk; (s_cons (s_if (w_or (t_not (y_val (x_isi n T.kl T.is_list (.ty "list") (x_var 1 n (.inl rfl)) (x_ty n T.n_list boot_list) T.n_isinstance))) (w_or1 (y_cmp n (x_call n C__law_take (x_cons (x_var 0 n (.inl rfl)) (x_cons e_int l_nil))) e_int))).pt (s_cons (s_ret (x_pkD 0 n CP__law_pick (.inl rfl) (x_cons e_non (x_cons e_int (x_cons e_str (x_cons e_dic0 (x_cons (e_tup (x_cons e_str l_nil)) (x_cons (e_lst l_nil) (x_cons (e_lst (x_cons (e_tup l_nil) l_nil)) (x_cons (e_lst (x_cons (e_lst (x_cons e_str l_nil)) l_nil)) (x_cons (e_lst (x_cons (e_tup (x_cons e_str l_nil)) l_nil)) (x_cons (x_bin (bin_mul n.hk) (e_lst (x_cons (e_tup (x_cons e_str l_nil)) l_nil)) e_int) (x_cons (x_bin (bin_mul n.hk) (e_lst (x_cons (e_tup (x_cons e_str l_nil)) l_nil)) e_int) l_nil)))))))))))))
  s_nil) s_nil)
  (s_cons (z_par 2 3 n (x_cons (x_call n C__law_take (x_cons (x_var 0 n (.inl rfl)) (x_cons (x_bin (bin_add n.hk) (x_len n T.n_len (x_cons (x_var 1 n (.inl rfl)) l_nil)) e_int) l_nil))) (x_cons (x_call n C__law_take (x_cons (x_var 0 n (.inl rfl)) (x_cons e_int l_nil))) l_nil)))
  (s_cons (s_if (y_cmp n (x_var 3 n (.inl rfl)) e_int) (s_cons (s_ret (x_bin (bin_add n.hk) (x_bin (bin_add n.hk) (x_sl n (x_var 1 n (.inl rfl)) o_none (o_some (x_var 2 n (.inl rfl)))) (e_lst (x_cons (x_call n C__law_pick (x_cons (x_var 0 n (.inl rfl)) (x_cons (e_lst (x_cons (x_call n C__law_odd (x_cons (x_var 0 n (.inl rfl)) l_nil)) (x_cons (e_tup (x_cons e_str (x_cons e_str l_nil))) (x_cons (x_repT n (e_tup (x_cons e_str l_nil)) e_int) (x_cons (x_repT n (e_tup (x_cons e_str l_nil)) e_int) l_nil))))) l_nil))) l_nil))) (x_sl n (x_var 1 n (.inl rfl)) (o_some (x_var 2 n (.inl rfl))) o_none)))
  s_nil) s_nil)
  (s_cons (s_ret (e_ite (y_cmp n (x_var 3 n (.inl rfl)) e_int) (x_bin (bin_add n.hk) (x_sl n (x_var 1 n (.inl rfl)) o_none (o_some (x_var 2 n (.inl rfl)))) (x_sl n (x_var 1 n (.inl rfl)) (o_some (x_bin (bin_add n.hk) (x_var 2 n (.inl rfl)) e_int)) o_none)) (e_ite (y_cmp n (x_var 3 n (.inl rfl)) e_int) (x_tuple n T.n_tuple (x_cons (x_var 1 n (.inl rfl)) l_nil)) (x_bin (bin_add n.hk) (x_var 1 n (.inl rfl)) (x_var 1 n (.inl rfl))))))
  s_nil))))
abbrev s__law_tangled : Stmt := top 27
theorem sc__law_tangled : FnScope ["_law_draw", "_law_beads", "_law_hues_here", "_law_rows", "_law_cut"] ["_law_draw", "_law_beads"] (defScope s__law_tangled) := ⟨rfl, rfl, rfl, by decide +kernel, rfl, by decide +kernel, by decide +kernel⟩
theorem ok__law_tangled {f : Addr} {fd : FuncData} (Fu : Fun c.K "_law_tangled" "_law_tangled" s__law_tangled f fd) (T : Tx c mg) (C__law_hues : Cal c P w c.K mg base 4 "_law_hues" ["_law_draw", "_law_many"] G__law_hues) (C__law_lines : Cal c P w c.K mg base 4 "_law_lines" ["_law_draw", "_law_hues_here", "_law_most", "_law_beads"] G__law_lines) (C__law_pick : Cal c P w c.K mg base 3 "_law_pick" ["_law_draw", "_law_some"] G__law_pick) (C__law_take : Cal c P w c.K mg base 2 "_law_take" ["_law_draw", "_law_total"] G__law_take) : FnOk P w c.K mg base (L2N.CX P w) 5 f fd ["_law_draw", "_law_beads"] (spT c GT__law_tangled) :=
  pair3_ok Fu sc__law_tangled rfl fun cdv A outer s H E hr tk => have n := Cn.fn rfl sc__law_tangled hr tk; ⟨(z_set 2 n (x_call n C__law_hues (x_cons (x_var 0 n (.inl rfl)) (x_cons (x_bin (bin_add n.hk) e_int (x_call n C__law_take (x_cons (x_var 0 n (.inl rfl)) (x_cons e_int l_nil)))) l_nil))) (.inl rfl)), (z_set 3 n (x_call n C__law_lines (x_cons (x_var 0 n (.inl rfl)) (x_cons (x_var 2 n (.inl rfl)) (x_cons (e_ite (y_cmp n (x_var 1 n (.inl rfl)) e_int) (x_call n C__law_pick (x_cons (x_var 0 n (.inl rfl)) (x_cons (e_lst (x_cons e_int (x_cons e_int (x_cons e_int l_nil)))) l_nil))) e_int) (x_cons (x_var 1 n (.inl rfl)) l_nil))))) (.inl rfl)), (z_set 4 n (x_call n C__law_take (x_cons (x_var 0 n (.inl rfl)) (x_cons (x_bin (bin_add n.hk) (x_len n T.n_len (x_cons (x_var 3 n (.inl rfl)) l_nil)) e_int) l_nil))) (.inl rfl)), (x_sl n (x_var 3 n (.inl rfl)) o_none (o_some (x_var 4 n (.inl rfl)))), (x_sl n (x_var 3 n (.inl rfl)) (o_some (x_var 4 n (.inl rfl))) o_none), rfl, rfl⟩
abbrev s_law : Stmt := top 32
theorem sc_law : FnScope ["_law_script", "_law_draw", "_law_last", "_law_turn", "_law_strands", "_law_rings_here", "_law_change", "_law_shown", "_law_found", "_law_errors_here", "_law_knot_here", "_law_made", "_law_far", "_law_row", "_law_error"] ["_law_script"] (defScope s_law) := ⟨rfl, rfl, rfl, by decide +kernel, rfl, by decide +kernel, by decide +kernel⟩
theorem rest_law {fd : FuncData} (T : Tx c mg) (M_Tangle___eq__ : OwnEq c P w mg base 1 "Tangle" ["self", "other"] G_Tangle___eq__) (M_Tangle_rings : Mth c P w mg base 1 "Tangle" "rings" ["self"] G_Tangle_rings) (M_Tangle_threads : Mth c P w mg base 1 "Tangle" "threads" ["self"] G_Tangle_threads) (M_Tangle : Mak c P w mg base 4 "Tangle" ["self", "threads", "rings"] G_Tangle) (C__law_bent : Cal c P w c.K mg base 5 "_law_bent" ["_law_draw", "_law_some"] G__law_bent) (C__law_is_due : Cal c P w c.K mg base 2 "_law_is_due" ["_law_strands", "_law_rings_here"] G__law_is_due) (C__law_knot : Cal c P w c.K mg base 2 "_law_knot" ["_law_strands", "_law_rings_here"] G__law_knot) (C__law_pick : Cal c P w c.K mg base 3 "_law_pick" ["_law_draw", "_law_some"] G__law_pick) (C__law_take : Cal c P w c.K mg base 2 "_law_take" ["_law_draw", "_law_total"] G__law_take) (CT__law_tangled : CalT c P w c.K mg base 5 "_law_tangled" ["_law_draw", "_law_beads"] GT__law_tangled) (CG__law_told : CalG c P w c.K mg base 2 "_law_told" ["_law_made"] G__law_told) (MK_Tangle_10 : MakK c P w mg base 4 "Tangle" ["self", "threads", "rings"] ["rings", "threads"] [1, 0] G_Tangle) (CF : CauF c mg "_law_caught" "_law_job" ["_law_job", "_law_found", "_law_error"] s__law_caught (He.ga c.K "ThreadError")) (TB : TbF c mg base "law" fd) {cdv : Value} {A : Around} {outer : List Env} {s : Shared} {H : Hp} {E : XK} {f : Addr} (hcd : fd.code = cdv) (hgd : A.guards = some []) (hr : Room 7 (A.deeper (envOfC "law" (defScope s_law) s.heap.objs.size f cdv)))
    (tk : L2N.Takes (cxOf (L2N.CX P w) P w c.K mg base ["_law_script", "_law_draw", "_law_last", "_law_turn", "_law_strands", "_law_rings_here", "_law_change", "_law_shown", "_law_found", "_law_errors_here", "_law_knot_here", "_law_made", "_law_far", "_law_row", "_law_error"] "law" (defScope s_law) f cdv A outer s H E) (fun cls dd _ H' => E cls dd H')) : PSs (cxOf (L2N.CX P w) P w c.K mg base ["_law_script", "_law_draw", "_law_last", "_law_turn", "_law_strands", "_law_rings_here", "_law_change", "_law_shown", "_law_found", "_law_errors_here", "_law_knot_here", "_law_made", "_law_far", "_law_row", "_law_error"] "law" (defScope s_law) f cdv A outer s H E) (defBody s_law).tail (rdS c (fun cls dd _ H' => E cls dd H') 1000000 B_law) :=
  have n := Cn.fn rfl sc_law hr tk; have LA := TB.at hcd; have GD : (cxOf (L2N.CX P w) P w c.K mg base ["_law_script", "_law_draw", "_law_last", "_law_turn", "_law_strands", "_law_rings_here", "_law_change", "_law_shown", "_law_found", "_law_errors_here", "_law_knot_here", "_law_made", "_law_far", "_law_row", "_law_error"] "law" (defScope s_law) f cdv A outer s H E).A.guards = some [] := hgd; (s_cons (z_set 2 n e_non (.inl rfl))
  (s_cons (z_kl [] [6, 1, 9, 12, 8, 10, 2, 11, 5, 0, 7, 4, 3] (z_for (own := [3]) n (passes_of rfl) (x_rng1 n T.n_range (x_cons (x_bin (bin_add n.hk) e_int (x_min n T.n_min (x_cons (x_len n T.n_len (x_cons (x_var 0 n (.inl rfl)) l_nil)) (x_cons e_int l_nil)))) l_nil)) (pg_name n.nd rfl (.inl rfl) (.inl rfl)) (g_nm (by decide)) (z_kls [] [6, 9, 12, 8, 10, 11, 5, 7, 4, 3] (s_cons (z_unpT 4 5 n CT__law_tangled (x_cons (x_var 1 n (.inl rfl)) (x_cons e_int l_nil)) (.inr rfl) (.inr rfl))
  (s_cons (z_kl [6] [6] (z_for (own := [6]) n (passes_of rfl) (x_rng1 n T.n_range (x_cons (x_call n C__law_pick (x_cons (x_var 1 n (.inl rfl)) (x_cons (e_lst (x_cons e_int (x_cons e_int (x_cons e_int (x_cons e_int l_nil))))) l_nil))) l_nil)) (pg_name n.nd rfl (.inl rfl) (.inl rfl)) (g_nm (by decide)) (z_kls [] [6] (s_cons (s_if (y_cmp n (x_call n C__law_take (x_cons (x_var 1 n (.inl rfl)) (x_cons e_int l_nil))) e_int) (s_cons (z_set 4 n (x_call n C__law_bent (x_cons (x_var 1 n (.inl rfl)) (x_cons (x_var 4 n (.inr (.inl rfl))) l_nil))) (.inr rfl))
  s_nil) (s_cons (z_set 5 n (x_call n C__law_bent (x_cons (x_var 1 n (.inl rfl)) (x_cons (x_var 5 n (.inr (.inl rfl))) l_nil))) (.inr rfl))
  s_nil))
  s_nil))))
  (s_cons (z_parU n (x_cons (x_reprQ n GD T.sys T.n_repr (x_cons (e_lst (x_cons (x_var 4 n (.inr (.inl rfl))) (x_cons (x_var 5 n (.inr (.inl rfl))) l_nil))) l_nil)) (x_cons (e_lst l_nil) l_nil)) (pg_tup n.calm (pgs_cons (pg_name n.nd rfl (.inl rfl) (.inl rfl)) (pgs_cons (pg_name n.nd rfl (.inr rfl) (.inl rfl)) pgs_nil))))
  (s_cons (z_cpl (j := 5) n LA CF (fun _ _ _ _ _ _ _ nl1 => (x_make nl1 M_Tangle (x_cons (x_var 4 nl1 (.inr (.inr rfl))) (x_cons (x_var 5 nl1 (.inr (.inr rfl))) l_nil)))) (.inl rfl) (.inr (.inr rfl)))
  (s_cons (z_cpa (j := 5) n LA CF (fun _ _ _ _ _ _ _ nl2 => (x_makek nl2 MK_Tangle_10 (k_cons (x_var 5 nl2 (.inr (.inr rfl))) (k_cons (x_var 4 nl2 (.inr (.inr rfl))) k_nil)))) (.inl rfl) (.inr (.inr rfl)))
  (s_cons (s_if (y_cmp n (x_reprQ n GD T.sys T.n_repr (x_cons (e_lst (x_cons (x_var 4 n (.inr (.inl rfl))) (x_cons (x_var 5 n (.inr (.inl rfl))) l_nil))) l_nil)) (x_var 7 n (.inl rfl))) (s_cons (s_ret e_bl)
  s_nil) s_nil)
  (s_cons (s_if (t_not (y_val (x_call n C__law_is_due (x_cons (x_var 4 n (.inr (.inl rfl))) (x_cons (x_var 5 n (.inr (.inl rfl))) l_nil))))) (s_cons (s_if (y_neNil n (x_lc (own := [("_law_error", 14)]) n (x_wk n (x_var 9 n (.inl rfl)) (pi_str (x_var 9 n (.inl rfl)))) (g_nm (by decide)) (by rfl) (fun _ _ _ _ _ => (pg_name (n.blk).nd rfl (.inl rfl) (.inr rfl))) (fun _ _ _ _ _ => (a_oneT (t_not (y_val (x_isi (n.blk) T.kl T.is_NoState (.own _) (x_var 14 (n.blk) (.inl rfl)) (x_cls (n.blk) T.m_NoState) T.n_isinstance))))) (fun _ _ _ _ _ => e_int)) (e_lst l_nil)) (s_cons (s_ret e_bl)
  s_nil) s_nil)
  (s_cons s_cont
  s_nil)) s_nil)
  (s_cons (z_par 10 11 n (x_cons (x_call n C__law_knot (x_cons (x_var 4 n (.inr (.inl rfl))) (x_cons (x_var 5 n (.inr (.inl rfl))) l_nil))) (x_cons (x_ix n (x_var 8 n (.inr (.inl rfl))) e_int) l_nil)))
  (s_cons (s_if (w_or (y_cmp n (x_var 9 n (.inl rfl)) (e_lst (x_cons e_non (x_cons e_non l_nil)))) (w_or1 (y_cmp n (x_callG n GD CG__law_told (x_cons (x_var 11 n (.inl rfl)) l_nil)) (x_reprQ n GD T.sys T.n_repr (x_cons (x_var 10 n (.inl rfl)) l_nil))))).pt (s_cons (s_ret e_bl)
  s_nil) s_nil)
  (s_cons (z_setLc 12 (own := [("_law_row", 13)]) n (x_wk n (x_var 5 n (.inr (.inl rfl))) (pi_str (x_var 5 n (.inr (.inl rfl))))) (g_nm (by decide)) (by rfl) (fun _ _ _ _ _ => (pg_name (n.blk).nd rfl (.inl rfl) (.inr rfl))) (fun _ _ _ _ _ => a_nilT) (fun _ _ _ _ _ => (x_bin (bin_add (n.blk).hk) (x_sl (n.blk) (x_var 13 (n.blk) (.inl rfl)) (o_some e_int) o_none) (x_sl (n.blk) (x_var 13 (n.blk) (.inl rfl)) o_none (o_some e_int)))))
  (s_cons (s_if (w_or (y_own (neg := true) n M_Tangle___eq__ (x_make n M_Tangle (x_cons (x_var 4 n (.inr (.inl rfl))) (x_cons (x_var 12 n (.inl rfl)) l_nil))) (x_var 11 n (.inl rfl))) (w_or (y_own (neg := true) n M_Tangle___eq__ (x_ix n (x_var 8 n (.inr (.inl rfl))) e_int) (x_var 11 n (.inl rfl))) (w_or (y_ownA (neg := false) n T.kl M_Tangle___eq__ (x_var 11 n (.inl rfl)) (x_var 10 n (.inl rfl))) (w_or1 (t_not (y_ownA (neg := true) n T.kl M_Tangle___eq__ (x_var 11 n (.inl rfl)) e_non)))))).pt (s_cons (s_ret e_bl)
  s_nil) s_nil)
  (s_cons (s_if (w_and (y_cmp n (x_var 2 n (.inl rfl)) e_non) (w_and1 (y_cmp n (x_own (neg := false) n M_Tangle___eq__ (x_var 11 n (.inl rfl)) (x_ix n (x_var 2 n (.inl rfl)) e_int)) (x_cmp n (x_var 10 n (.inl rfl)) (x_ix n (x_var 2 n (.inl rfl)) e_int))))).pt (s_cons (s_ret e_bl)
  s_nil) s_nil)
  (s_cons (z_tapp n (x_mth0 n M_Tangle_threads (x_var 11 n (.inl rfl))) e_non)
  (s_cons (z_tapp n (x_mth0 n M_Tangle_rings (x_var 11 n (.inl rfl))) e_non)
  (s_cons (s_if (y_val (x_isi n T.kl T.is_list (.ty "list") (x_var 4 n (.inr (.inl rfl))) (x_ty n T.n_list boot_list) T.n_isinstance)) (s_cons (z_app 4 n (e_tup (x_cons e_str l_nil)) (.inr (.inl rfl)))
  s_nil) s_nil)
  (s_cons (s_if (y_cmp n (x_callG n GD CG__law_told (x_cons (x_var 11 n (.inl rfl)) l_nil)) (x_reprQ n GD T.sys T.n_repr (x_cons (x_var 10 n (.inl rfl)) l_nil))) (s_cons (s_ret e_bl)
  s_nil) s_nil)
  (s_cons (z_set 2 n (e_tup (x_cons (x_var 10 n (.inl rfl)) (x_cons (x_var 11 n (.inl rfl)) l_nil))) (.inl rfl))
  s_nil))))))))))))))))))))
  (s_cons (s_ret e_bl)
  s_nil)))
abbrev s__law_begun : Stmt := top 16
theorem sc__law_begun : FnScope ["_law_script", "_law_wide", "_law_cell"] ["_law_script"] (defScope s__law_begun) := ⟨rfl, rfl, rfl, by decide +kernel, rfl, by decide +kernel, by decide +kernel⟩
theorem ok__law_begun {f : Addr} {fd : FuncData} (Fu : Fun c.K "_law_begun" "_law_begun" s__law_begun f fd) (ha : mg "abs" = none) (hi : mg "int" = none) : FnOk P w c.K mg base (L2N.CX P w) 1 f fd ["_law_script"] (spBegun c) :=
  Fu.okC sc__law_begun (fun vs H Q E h => by obtain ⟨s, ns, rfl, _⟩ := h; rfl) fun cdv A outer s H vs Q E hr h => ⟨_, (have n : Cn c.bare WXF 0 (cxOf (L2N.CX P w) P w c.K mg base ["_law_script", "_law_wide", "_law_cell"] "_law_begun" (defScope s__law_begun) f cdv A outer s H E) := ⟨rfl, rfl, sc__law_begun.nd, L2N.takes0, hr⟩;
    pss_cons (z_setLc 1 (own := [("_law_cell", 2)]) n (x_wk n (x_var 0 n (.inl rfl)) (pi_str (x_var 0 n (.inl rfl)))) (g_nm (by decide)) (by rfl) (fun _ _ _ _ _ => (pg_name (n.blk).nd rfl (.inl rfl) (.inr rfl))) (fun _ _ _ _ _ => (a_oneT (y_cmp (n.blk) (x_abs (n.blk) ha (x_cons (x_var 2 (n.blk) (.inl rfl)) l_nil)) (x_bin (bin_pow) e_int e_int)))) (fun _ _ _ _ _ => (x_bin (bin_sub) (x_abs (n.blk) ha (x_cons (x_var 2 (n.blk) (.inl rfl)) l_nil)) (x_bin (bin_pow) e_int e_int)))) (pss_one (ps_ret (pe_disp (pps_cons pe_str (x_var 1 n (.inl rfl)) (pps_cons pe_str (x_lc (own := [("_law_cell", 2)]) n (x_wk n (x_var 0 n (.inl rfl)) (pi_str (x_var 0 n (.inl rfl)))) (g_nm (by decide)) (by rfl) (fun _ _ _ _ _ => (pg_name (n.blk).nd rfl (.inl rfl) (.inr rfl))) (fun _ _ _ _ _ => a_nilT) (fun _ _ _ _ _ => (x_bin (bin_mod) (x_int (n.blk) hi (x_cons (x_abs (n.blk) ha (x_cons (x_var 2 (n.blk) (.inl rfl)) l_nil)) l_nil)) e_int))) (pps_cons pe_str pe_int (pps_cons pe_str pe_int pps_nil)))) rfl rfl (by decide) (by decide))))), begun_ok (fu := 1000000) h⟩
def cas : List Str := ["Tangle"]
def cxs : List Str := ["NoState"]
def ats : List Str := ["t_lines", "t_rings"]
def tys : List Ty := [Ty_NoState, Ty_Tangle, .list, .str, .tuple]
def tf : List He.Defn := [("law", none)]
def d_Tangle___eq__ : He.DefD := ⟨("Tangle", some "__eq__"), "__eq__", "Tangle.__eq__", defArgs s_Tangle___eq__, defBody s_Tangle___eq__, defScope s_Tangle___eq__, [], []⟩
def d_Tangle_rings : He.DefD := ⟨("Tangle", some "rings"), "rings", "Tangle.rings", defArgs s_Tangle_rings, defBody s_Tangle_rings, defScope s_Tangle_rings, [], []⟩
def d_Tangle_threads : He.DefD := ⟨("Tangle", some "threads"), "threads", "Tangle.threads", defArgs s_Tangle_threads, defBody s_Tangle_threads, defScope s_Tangle_threads, [], []⟩
def d__law_are_rows : He.DefD := ⟨("_law_are_rows", none), "_law_are_rows", "_law_are_rows", defArgs s__law_are_rows, defBody s__law_are_rows, defScope s__law_are_rows, [], []⟩
def d__law_least_turn : He.DefD := ⟨("_law_least_turn", none), "_law_least_turn", "_law_least_turn", defArgs s__law_least_turn, defBody s__law_least_turn, defScope s__law_least_turn, [], []⟩
def d__law_mixed : He.DefD := ⟨("_law_mixed", none), "_law_mixed", "_law_mixed", defArgs s__law_mixed, defBody s__law_mixed, defScope s__law_mixed, [], []⟩
def d_is_color : He.DefD := ⟨("is_color", none), "is_color", "is_color", defArgs s_is_color, defBody s_is_color, defScope s_is_color, [], []⟩
def d_turned : He.DefD := ⟨("turned", none), "turned", "turned", defArgs s_turned, defBody s_turned, defScope s_turned, [], []⟩
def d__law_is_due : He.DefD := ⟨("_law_is_due", none), "_law_is_due", "_law_is_due", defArgs s__law_is_due, defBody s__law_is_due, defScope s__law_is_due, [], []⟩
def d__law_knot : He.DefD := ⟨("_law_knot", none), "_law_knot", "_law_knot", defArgs s__law_knot, defBody s__law_knot, defScope s__law_knot, [], []⟩
def d__law_take : He.DefD := ⟨("_law_take", none), "_law_take", "_law_take", defArgs s__law_take, defBody s__law_take, defScope s__law_take, [], []⟩
def d__law_told : He.DefD := ⟨("_law_told", none), "_law_told", "_law_told", defArgs s__law_told, defBody s__law_told, defScope s__law_told, [], []⟩
def d_is_thread : He.DefD := ⟨("is_thread", none), "is_thread", "is_thread", defArgs s_is_thread, defBody s_is_thread, defScope s_is_thread, [], []⟩
def d_least_turn : He.DefD := ⟨("least_turn", none), "least_turn", "least_turn", defArgs s_least_turn, defBody s_least_turn, defScope s_least_turn, [], []⟩
def d__law_pick : He.DefD := ⟨("_law_pick", none), "_law_pick", "_law_pick", defArgs s__law_pick, defBody s__law_pick, defScope s__law_pick, [], []⟩
def d__law_shuffled : He.DefD := ⟨("_law_shuffled", none), "_law_shuffled", "_law_shuffled", defArgs s__law_shuffled, defBody s__law_shuffled, defScope s__law_shuffled, [], []⟩
def d_are_tangled : He.DefD := ⟨("are_tangled", none), "are_tangled", "are_tangled", defArgs s_are_tangled, defBody s_are_tangled, defScope s_are_tangled, [], []⟩
def d_Tangle___init__ : He.DefD := ⟨("Tangle", some "__init__"), "__init__", "Tangle.__init__", defArgs s_Tangle___init__, defBody s_Tangle___init__, defScope s_Tangle___init__, [], []⟩
def d__law_hues : He.DefD := ⟨("_law_hues", none), "_law_hues", "_law_hues", defArgs s__law_hues, defBody s__law_hues, defScope s__law_hues, [], []⟩
def d__law_lines : He.DefD := ⟨("_law_lines", none), "_law_lines", "_law_lines", defArgs s__law_lines, defBody s__law_lines, defScope s__law_lines, [], []⟩
def d__law_odd : He.DefD := ⟨("_law_odd", none), "_law_odd", "_law_odd", defArgs s__law_odd, defBody s__law_odd, defScope s__law_odd, [], []⟩
def d__law_bent : He.DefD := ⟨("_law_bent", none), "_law_bent", "_law_bent", defArgs s__law_bent, defBody s__law_bent, defScope s__law_bent, [], []⟩
def d__law_tangled : He.DefD := ⟨("_law_tangled", none), "_law_tangled", "_law_tangled", defArgs s__law_tangled, defBody s__law_tangled, defScope s__law_tangled, [], []⟩
def d_law : He.DefD := ⟨("law", none), "law", "law", defArgs s_law, defBody s_law, defScope s_law, [], []⟩
def d__law_begun : He.DefD := ⟨("_law_begun", none), "_law_begun", "_law_begun", defArgs s__law_begun, defBody s__law_begun, defScope s__law_begun, [], []⟩
def d__law_caught : He.DefD := ⟨("_law_caught", none), "_law_caught", "_law_caught", defArgs s__law_caught, defBody s__law_caught, defScope s__law_caught, [], []⟩
def fa0 : List He.Fa := [.free "all", .free "int", .free "isinstance", .free "len", .free "list", .free "min", .free "range", .free "repr", .free "sorted", .free "str", .free "sum", .free "tuple", .str "LETTERS" "abcdefghijklmnopqrstuvwxyz", .int "MOST_BEADS" 60, .int "MOST_LETTERS" 4, .int "MOST_THREADS" 8, .glo "NoState", .glo "Tangle", .exc "NoState", .meth "Tangle" "__eq__", .meth "Tangle" "rings", .meth "Tangle" "threads", .glo "_law_are_rows", .glo "_law_least_turn", .glo "_law_mixed", .glo "is_color", .glo "turned", .glo "_law_is_due", .glo "_law_knot", .glo "_law_take", .glo "_law_told", .glo "is_thread", .glo "least_turn", .glo "_law_pick", .glo "_law_shuffled", .glo "are_tangled", .mkr "Tangle", .glo "_law_hues", .glo "_law_lines", .glo "_law_odd"]
def fa1 : List He.Fa := [.glo "_law_bent", .glo "_law_tangled", .glo "law", .glo "_law_begun", .glo "_law_caught", .glo "ThreadError", .free "abs"]
def fa : List He.Fa := fa0 ++ fa1
def fn : List He.DefD := [d_Tangle___eq__, d_Tangle_rings, d_Tangle_threads, d__law_are_rows, d__law_least_turn, d__law_mixed, d_is_color, d_turned, d__law_is_due, d__law_knot, d__law_take, d__law_told, d_is_thread, d_least_turn, d__law_pick, d__law_shuffled, d_are_tangled, d_Tangle___init__, d__law_hues, d__law_lines, d__law_odd, d__law_bent, d__law_tangled, d_law, d__law_begun, d__law_caught]
def owns : List (Str × Str) := []
def xats : List Str := []
def ex0 : PySem.W.Frag → Bool := fun K => Z.exB cas cxs ats tys "ThreadError" tf K && (Z.exatB cxs xats K && Z.sysB K)
def ex : PySem.W.Frag → Bool := fun K => ex0 K && owns.all (Z.ownB (PySem.W.OpenLaw.prog PySem.Challenge.rw_tradedtails_k69_tangles_made_or_refused) K)
abbrev cc (K : PySem.W.Frag) (dl : List Addr) (d2 : Addr) : Pm := pmOf K cas cxs tf dl d2
section
variable {K : PySem.W.Frag} {h : Heap} {dl : List Addr} {d2 : Addr}
theorem glob_int {mg : Str → Option Value} (KX : K.In h) (G : h.Ns mainGlobals mg) {x : Str} {i : Int} (c : (He.Fa.int x i).ok K = true) : ∃ uu, mg x = some uu ∧ RelV (.int i) uu := by obtain ⟨t, e⟩ := He.int_ok KX G c; exact ⟨_, e, ⟨t, rfl⟩⟩
theorem glob_str {mg : Str → Option Value} (KX : K.In h) (G : h.Ns mainGlobals mg) {x z : Str} (c : (He.Fa.str x z).ok K = true) : ∃ uu, mg x = some uu ∧ RelV (.str z) uu := by obtain ⟨t, e⟩ := He.str_ok KX G c; exact ⟨_, e, ⟨t, rfl⟩⟩
theorem tx_mk {mg : Str → Option Value} (KX : K.In h) (G : h.Ns mainGlobals mg) (c : He.SaysD fa fn K) (e : ex0 K = true) : Tx (cc K dl d2) mg where
  kl := ex_kls (ba_ e).1
  at_t_lines := ex_at (ba_ e).1 (by decide)
  at_t_rings := ex_at (ba_ e).1 (by decide)
  n_all := He.free_ok KX G (c.fact 0 (f := .free "all") rfl)
  n_int := He.free_ok KX G (c.fact 1 (f := .free "int") rfl)
  n_isinstance := He.free_ok KX G (c.fact 2 (f := .free "isinstance") rfl)
  n_len := He.free_ok KX G (c.fact 3 (f := .free "len") rfl)
  n_list := He.free_ok KX G (c.fact 4 (f := .free "list") rfl)
  n_min := He.free_ok KX G (c.fact 5 (f := .free "min") rfl)
  n_range := He.free_ok KX G (c.fact 6 (f := .free "range") rfl)
  n_repr := He.free_ok KX G (c.fact 7 (f := .free "repr") rfl)
  n_sorted := He.free_ok KX G (c.fact 8 (f := .free "sorted") rfl)
  n_str := He.free_ok KX G (c.fact 9 (f := .free "str") rfl)
  n_sum := He.free_ok KX G (c.fact 10 (f := .free "sum") rfl)
  n_tuple := He.free_ok KX G (c.fact 11 (f := .free "tuple") rfl)
  g_LETTERS := glob_str KX G (c.fact 12 (f := .str "LETTERS" "abcdefghijklmnopqrstuvwxyz") rfl)
  g_MOST_BEADS := glob_int KX G (c.fact 13 (f := .int "MOST_BEADS" 60) rfl)
  g_MOST_LETTERS := glob_int KX G (c.fact 14 (f := .int "MOST_LETTERS" 4) rfl)
  g_MOST_THREADS := glob_int KX G (c.fact 15 (f := .int "MOST_THREADS" 8) rfl)
  m_NoState := He.glo_ok KX G (c.fact 16 (f := .glo "NoState") rfl)
  is_NoState := ex_is (ba_ e).1 (t := Ty_NoState) (List.mem_cons_self)
  m_Tangle := He.glo_ok KX G (c.fact 17 (f := .glo "Tangle") rfl)
  is_Tangle := ex_is (ba_ e).1 (t := Ty_Tangle) (List.mem_cons_of_mem _ (List.mem_cons_self))
  is_list := ex_is (ba_ e).1 (t := .list) (List.mem_cons_of_mem _ (List.mem_cons_of_mem _ (List.mem_cons_self)))
  is_str := ex_is (ba_ e).1 (t := .str) (List.mem_cons_of_mem _ (List.mem_cons_of_mem _ (List.mem_cons_of_mem _ (List.mem_cons_self))))
  is_tuple := ex_is (ba_ e).1 (t := .tuple) (List.mem_cons_of_mem _ (List.mem_cons_of_mem _ (List.mem_cons_of_mem _ (List.mem_cons_of_mem _ (List.mem_cons_self)))))
  r_NoState := raiseF_of (c.fact 18 (f := .exc "NoState") rfl) (He.glo_ok KX G (c.fact 16 (f := .glo "NoState") rfl)) (by decide) PySem.F.excBase_ValueError
  sys := sysB_ok (ba_ (ba_ e).2).2
theorem fu_Tangle___eq__ (c : He.SaysD fa fn K) : ∃ fd, Fun K "__eq__" "Tangle.__eq__" s_Tangle___eq__ (He.fAd K d_Tangle___eq__.at_) fd ∧ Binds K fd ["self", "other"] [] := by
  obtain ⟨fd, F⟩ := c.def_ 0 (d := d_Tangle___eq__) rfl
  exact ⟨fd, fun_of F, FunD.bindsN (ps := ["self", "other"]) F fun _ _ _ _ _ _ us hl => match us, hl with | [_, _], _ => rfl⟩
theorem fu_Tangle_rings (c : He.SaysD fa fn K) : ∃ fd, Fun K "rings" "Tangle.rings" s_Tangle_rings (He.fAd K d_Tangle_rings.at_) fd ∧ Binds K fd ["self"] [] := by
  obtain ⟨fd, F⟩ := c.def_ 1 (d := d_Tangle_rings) rfl
  exact ⟨fd, fun_of F, FunD.bindsN (ps := ["self"]) F fun _ _ _ _ _ _ us hl => match us, hl with | [_], _ => rfl⟩
theorem fu_Tangle_threads (c : He.SaysD fa fn K) : ∃ fd, Fun K "threads" "Tangle.threads" s_Tangle_threads (He.fAd K d_Tangle_threads.at_) fd ∧ Binds K fd ["self"] [] := by
  obtain ⟨fd, F⟩ := c.def_ 2 (d := d_Tangle_threads) rfl
  exact ⟨fd, fun_of F, FunD.bindsN (ps := ["self"]) F fun _ _ _ _ _ _ us hl => match us, hl with | [_], _ => rfl⟩
theorem fu__law_are_rows (c : He.SaysD fa fn K) : ∃ fd, Fun K "_law_are_rows" "_law_are_rows" s__law_are_rows (He.fAd K d__law_are_rows.at_) fd ∧ Binds K fd ["_law_some"] [] := by
  obtain ⟨fd, F⟩ := c.def_ 3 (d := d__law_are_rows) rfl
  exact ⟨fd, fun_of F, FunD.bindsN (ps := ["_law_some"]) F fun _ _ _ _ _ _ us hl => match us, hl with | [_], _ => rfl⟩
theorem fu__law_least_turn (c : He.SaysD fa fn K) : ∃ fd, Fun K "_law_least_turn" "_law_least_turn" s__law_least_turn (He.fAd K d__law_least_turn.at_) fd ∧ Binds K fd ["_law_ring"] [] := by
  obtain ⟨fd, F⟩ := c.def_ 4 (d := d__law_least_turn) rfl
  exact ⟨fd, fun_of F, FunD.bindsN (ps := ["_law_ring"]) F fun _ _ _ _ _ _ us hl => match us, hl with | [_], _ => rfl⟩
theorem fu__law_mixed (c : He.SaysD fa fn K) : ∃ fd, Fun K "_law_mixed" "_law_mixed" s__law_mixed (He.fAd K d__law_mixed.at_) fd ∧ Binds K fd ["_law_draw"] [] := by
  obtain ⟨fd, F⟩ := c.def_ 5 (d := d__law_mixed) rfl
  exact ⟨fd, fun_of F, FunD.bindsN (ps := ["_law_draw"]) F fun _ _ _ _ _ _ us hl => match us, hl with | [_], _ => rfl⟩
theorem fu_is_color (c : He.SaysD fa fn K) : ∃ fd, Fun K "is_color" "is_color" s_is_color (He.fAd K d_is_color.at_) fd ∧ Binds K fd ["value"] [] := by
  obtain ⟨fd, F⟩ := c.def_ 6 (d := d_is_color) rfl
  exact ⟨fd, fun_of F, FunD.bindsN (ps := ["value"]) F fun _ _ _ _ _ _ us hl => match us, hl with | [_], _ => rfl⟩
theorem fu_turned (c : He.SaysD fa fn K) : ∃ fd, Fun K "turned" "turned" s_turned (He.fAd K d_turned.at_) fd ∧ Binds K fd ["ring", "at"] [] := by
  obtain ⟨fd, F⟩ := c.def_ 7 (d := d_turned) rfl
  exact ⟨fd, fun_of F, FunD.bindsN (ps := ["ring", "at"]) F fun _ _ _ _ _ _ us hl => match us, hl with | [_, _], _ => rfl⟩
theorem fu__law_is_due (c : He.SaysD fa fn K) : ∃ fd, Fun K "_law_is_due" "_law_is_due" s__law_is_due (He.fAd K d__law_is_due.at_) fd ∧ Binds K fd ["_law_strands", "_law_rings_here"] [] := by
  obtain ⟨fd, F⟩ := c.def_ 8 (d := d__law_is_due) rfl
  exact ⟨fd, fun_of F, FunD.bindsN (ps := ["_law_strands", "_law_rings_here"]) F fun _ _ _ _ _ _ us hl => match us, hl with | [_, _], _ => rfl⟩
theorem fu__law_knot (c : He.SaysD fa fn K) : ∃ fd, Fun K "_law_knot" "_law_knot" s__law_knot (He.fAd K d__law_knot.at_) fd ∧ Binds K fd ["_law_strands", "_law_rings_here"] [] := by
  obtain ⟨fd, F⟩ := c.def_ 9 (d := d__law_knot) rfl
  exact ⟨fd, fun_of F, FunD.bindsN (ps := ["_law_strands", "_law_rings_here"]) F fun _ _ _ _ _ _ us hl => match us, hl with | [_, _], _ => rfl⟩
theorem fu__law_take (c : He.SaysD fa fn K) : ∃ fd, Fun K "_law_take" "_law_take" s__law_take (He.fAd K d__law_take.at_) fd ∧ Binds K fd ["_law_draw", "_law_total"] [] := by
  obtain ⟨fd, F⟩ := c.def_ 10 (d := d__law_take) rfl
  exact ⟨fd, fun_of F, FunD.bindsN (ps := ["_law_draw", "_law_total"]) F fun _ _ _ _ _ _ us hl => match us, hl with | [_, _], _ => rfl⟩
theorem fu__law_told (c : He.SaysD fa fn K) : ∃ fd, Fun K "_law_told" "_law_told" s__law_told (He.fAd K d__law_told.at_) fd ∧ Binds K fd ["_law_made"] [] := by
  obtain ⟨fd, F⟩ := c.def_ 11 (d := d__law_told) rfl
  exact ⟨fd, fun_of F, FunD.bindsN (ps := ["_law_made"]) F fun _ _ _ _ _ _ us hl => match us, hl with | [_], _ => rfl⟩
theorem fu_is_thread (c : He.SaysD fa fn K) : ∃ fd, Fun K "is_thread" "is_thread" s_is_thread (He.fAd K d_is_thread.at_) fd ∧ Binds K fd ["value"] [] := by
  obtain ⟨fd, F⟩ := c.def_ 12 (d := d_is_thread) rfl
  exact ⟨fd, fun_of F, FunD.bindsN (ps := ["value"]) F fun _ _ _ _ _ _ us hl => match us, hl with | [_], _ => rfl⟩
theorem fu_least_turn (c : He.SaysD fa fn K) : ∃ fd, Fun K "least_turn" "least_turn" s_least_turn (He.fAd K d_least_turn.at_) fd ∧ Binds K fd ["ring"] [] := by
  obtain ⟨fd, F⟩ := c.def_ 13 (d := d_least_turn) rfl
  exact ⟨fd, fun_of F, FunD.bindsN (ps := ["ring"]) F fun _ _ _ _ _ _ us hl => match us, hl with | [_], _ => rfl⟩
theorem fu__law_pick (c : He.SaysD fa fn K) : ∃ fd, Fun K "_law_pick" "_law_pick" s__law_pick (He.fAd K d__law_pick.at_) fd ∧ Binds K fd ["_law_draw", "_law_some"] [] := by
  obtain ⟨fd, F⟩ := c.def_ 14 (d := d__law_pick) rfl
  exact ⟨fd, fun_of F, FunD.bindsN (ps := ["_law_draw", "_law_some"]) F fun _ _ _ _ _ _ us hl => match us, hl with | [_, _], _ => rfl⟩
theorem fu__law_shuffled (c : He.SaysD fa fn K) : ∃ fd, Fun K "_law_shuffled" "_law_shuffled" s__law_shuffled (He.fAd K d__law_shuffled.at_) fd ∧ Binds K fd ["_law_draw", "_law_some"] [] := by
  obtain ⟨fd, F⟩ := c.def_ 15 (d := d__law_shuffled) rfl
  exact ⟨fd, fun_of F, FunD.bindsN (ps := ["_law_draw", "_law_some"]) F fun _ _ _ _ _ _ us hl => match us, hl with | [_, _], _ => rfl⟩
theorem fu_are_tangled (c : He.SaysD fa fn K) : ∃ fd, Fun K "are_tangled" "are_tangled" s_are_tangled (He.fAd K d_are_tangled.at_) fd ∧ Binds K fd ["threads", "rings"] [] := by
  obtain ⟨fd, F⟩ := c.def_ 16 (d := d_are_tangled) rfl
  exact ⟨fd, fun_of F, FunD.bindsN (ps := ["threads", "rings"]) F fun _ _ _ _ _ _ us hl => match us, hl with | [_, _], _ => rfl⟩
theorem fu_Tangle___init__ (c : He.SaysD fa fn K) : ∃ fd, Fun K "__init__" "Tangle.__init__" s_Tangle___init__ (He.fAd K d_Tangle___init__.at_) fd ∧ Binds K fd ["self", "threads", "rings"] [] ∧ KPickM K fd ["self", "threads", "rings"] ["rings", "threads"] [1, 0] := by
  obtain ⟨fd, F⟩ := c.def_ 17 (d := d_Tangle___init__) rfl
  exact ⟨fd, fun_of F, FunD.bindsN (ps := ["self", "threads", "rings"]) F fun _ _ _ _ _ _ us hl => match us, hl with | [_, _, _], _ => rfl, Z.Fun.kpickM (x := "__init__") (qual := "Tangle.__init__") (st := s_Tangle___init__) (fun_of F) fun _ _ _ _ _ _ _ us hl => match us, hl with | [_, _], _ => rfl⟩
theorem fu__law_hues (c : He.SaysD fa fn K) : ∃ fd, Fun K "_law_hues" "_law_hues" s__law_hues (He.fAd K d__law_hues.at_) fd ∧ Binds K fd ["_law_draw", "_law_many"] [] := by
  obtain ⟨fd, F⟩ := c.def_ 18 (d := d__law_hues) rfl
  exact ⟨fd, fun_of F, FunD.bindsN (ps := ["_law_draw", "_law_many"]) F fun _ _ _ _ _ _ us hl => match us, hl with | [_, _], _ => rfl⟩
theorem fu__law_lines (c : He.SaysD fa fn K) : ∃ fd, Fun K "_law_lines" "_law_lines" s__law_lines (He.fAd K d__law_lines.at_) fd ∧ Binds K fd ["_law_draw", "_law_hues_here", "_law_most", "_law_beads"] [] := by
  obtain ⟨fd, F⟩ := c.def_ 19 (d := d__law_lines) rfl
  exact ⟨fd, fun_of F, FunD.bindsN (ps := ["_law_draw", "_law_hues_here", "_law_most", "_law_beads"]) F fun _ _ _ _ _ _ us hl => match us, hl with | [_, _, _, _], _ => rfl⟩
theorem fu__law_odd (c : He.SaysD fa fn K) : ∃ fd, Fun K "_law_odd" "_law_odd" s__law_odd (He.fAd K d__law_odd.at_) fd ∧ Binds K fd ["_law_draw"] [] := by
  obtain ⟨fd, F⟩ := c.def_ 20 (d := d__law_odd) rfl
  exact ⟨fd, fun_of F, FunD.bindsN (ps := ["_law_draw"]) F fun _ _ _ _ _ _ us hl => match us, hl with | [_], _ => rfl⟩
theorem fu__law_bent (c : He.SaysD fa fn K) : ∃ fd, Fun K "_law_bent" "_law_bent" s__law_bent (He.fAd K d__law_bent.at_) fd ∧ Binds K fd ["_law_draw", "_law_some"] [] := by
  obtain ⟨fd, F⟩ := c.def_ 21 (d := d__law_bent) rfl
  exact ⟨fd, fun_of F, FunD.bindsN (ps := ["_law_draw", "_law_some"]) F fun _ _ _ _ _ _ us hl => match us, hl with | [_, _], _ => rfl⟩
theorem fu__law_tangled (c : He.SaysD fa fn K) : ∃ fd, Fun K "_law_tangled" "_law_tangled" s__law_tangled (He.fAd K d__law_tangled.at_) fd ∧ Binds K fd ["_law_draw", "_law_beads"] [] := by
  obtain ⟨fd, F⟩ := c.def_ 22 (d := d__law_tangled) rfl
  exact ⟨fd, fun_of F, FunD.bindsN (ps := ["_law_draw", "_law_beads"]) F fun _ _ _ _ _ _ us hl => match us, hl with | [_, _], _ => rfl⟩
theorem fu__law_begun (c : He.SaysD fa fn K) : ∃ fd, Fun K "_law_begun" "_law_begun" s__law_begun (He.fAd K d__law_begun.at_) fd ∧ Binds K fd ["_law_script"] [] := by
  obtain ⟨fd, F⟩ := c.def_ 24 (d := d__law_begun) rfl
  exact ⟨fd, fun_of F, FunD.bindsN (ps := ["_law_script"]) F fun _ _ _ _ _ _ us hl => match us, hl with | [_], _ => rfl⟩
theorem fu__law_caught (c : He.SaysD fa fn K) : ∃ fd, Fun K "_law_caught" "_law_caught" s__law_caught (He.fAd K d__law_caught.at_) fd ∧ Binds K fd ["_law_job"] [] := by
  obtain ⟨fd, F⟩ := c.def_ 25 (d := d__law_caught) rfl
  exact ⟨fd, fun_of F, FunD.bindsN (ps := ["_law_job"]) F fun _ _ _ _ _ _ us hl => match us, hl with | [_], _ => rfl⟩
end
theorem mk_Tangle : ∀ p xs W, GI_Tangle p xs W = G_Tangle xs W := by
  intro p xs W
  unfold G_Tangle GI_Tangle runC
  by_cases h : xs.length + 1 = 3
  · rw [if_pos h, if_pos h]
    obtain ⟨x, y, rfl⟩ : ∃ x y, xs = [x, y] := by
      match xs, h with
      | [x, y], _ => exact ⟨x, y, rfl⟩
    simp only [B_Tangle___init__, E_Tangle___init___1, evS, evT, evA, evI, ev, evL, bindP, wip, Out.bind, Out.st, List.map_cons, List.map_nil, List.singleton_append, List.cons_append, List.nil_append, List.getElem?_cons_zero, List.getElem?_cons_succ]
    generalize G_are_tangled _ _ = o
    cases o with
    | stk => rfl
    | ex x W => rfl
    | ok r W =>
      obtain ⟨b, d⟩ := r
      cases hb : (vo (b, d) (ts [⟨x, .pl, []⟩, ⟨y, .pl, []⟩])).d.isBl with
      | none => simp [hb, ofO]
      | some q =>
        cases q with
        | false => simp [hb, ofO]
        | true =>
          simp only [hb, ofO, Bool.not_true, Bool.false_eq_true, if_false]
          cases hz : biD .tuple (ds [⟨x, .pl, []⟩]) with
          | none => simp [hz]
          | some z =>
            obtain ⟨z1, z2⟩ := z
            have rep : List.replicate (4 - 3) Sl.un = [Sl.un] := rfl
            have hz' : biD .tuple [x] = some (z1, z2) := hz
            simp [rep, hz', vo, vl, vf, Vl.all, frz, ts, ds, putFD, Sl.noSlf, edN1]
            cases hy : y.items with
            | none => simp [hy]
            | some ys =>
              simp [hy]
              generalize lcGo _ ys [] [] W = o
              cases o with
              | stk => simp
              | ex x W => simp
              | ok v W =>
                simp
                generalize pureG sortAnyD [v.d] W = o2
                cases o2 with
                | stk => simp
                | ex x W => simp
                | ok r W =>
                  simp
                  cases hq : biD .tuple [r.2] with
                  | none => cases hr : r.1 <;> simp [hq]
                  | some q =>
                    have ne : ((Str.ofString "t_lines") = Str.ofString "t_rings") = False := eq_false (by decide +kernel)
                    cases hr : r.1 <;> simp [hq, ne] <;> (generalize edN _ = b; cases b <;> simp)
  · rw [if_neg h, if_neg h]
theorem ok_law {K : PySem.W.Frag} {h : Heap} (KX : K.In h) (G : h.Ns mainGlobals mg) (c : He.SaysD fa fn K) (e : ex0 K = true) (own : owns.all (Z.ownB P K) = true) (TBs : ∀ p ∈ tf.map (He.cT K), LamX.TabB base mg p.1 p.2) {fd : FuncData} (Fl : Fun K "law" "law" s_law (He.fAd K d_law.at_) fd)
    (run : RunOk) : ∀ (A : Around) (outer : List Env) (s : Shared) (H : Hp) (v : V) (Q : VK) (E : XK) (cdv : Value), A.guards = some [] → fd.code = cdv → Room 7 (A.deeper (envOfC "law" (defScope s_law) s.heap.objs.size (He.fAd K d_law.at_) cdv)) → spLaw (pmOf K cas cxs tf [] 0) [v] H Q E → ∃ t, PSs (cxOf (L2N.CX P w) P w K mg base ["_law_script", "_law_draw", "_law_last", "_law_turn", "_law_strands", "_law_rings_here", "_law_change", "_law_shown", "_law_found", "_law_errors_here", "_law_knot_here", "_law_made", "_law_far", "_law_row", "_law_error"] "law" (defScope s_law) (He.fAd K d_law.at_) cdv A outer s H E) (defBody s_law) t ∧ t { nx := fun _ H' => Q .non H', rt := Q } (L2.start ["_law_script", "_law_draw", "_law_last", "_law_turn", "_law_strands", "_law_rings_here", "_law_change", "_law_shown", "_law_found", "_law_errors_here", "_law_knot_here", "_law_made", "_law_far", "_law_row", "_law_error"] [v]) H := by
  obtain ⟨fd_Tangle___eq__, F_Tangle___eq__, b_Tangle___eq__⟩ := fu_Tangle___eq__ c
  obtain ⟨fd_Tangle_rings, F_Tangle_rings, b_Tangle_rings⟩ := fu_Tangle_rings c
  obtain ⟨fd_Tangle_threads, F_Tangle_threads, b_Tangle_threads⟩ := fu_Tangle_threads c
  obtain ⟨fd__law_are_rows, F__law_are_rows, b__law_are_rows⟩ := fu__law_are_rows c
  obtain ⟨fd__law_least_turn, F__law_least_turn, b__law_least_turn⟩ := fu__law_least_turn c
  obtain ⟨fd__law_mixed, F__law_mixed, b__law_mixed⟩ := fu__law_mixed c
  obtain ⟨fd_is_color, F_is_color, b_is_color⟩ := fu_is_color c
  obtain ⟨fd_turned, F_turned, b_turned⟩ := fu_turned c
  obtain ⟨fd__law_is_due, F__law_is_due, b__law_is_due⟩ := fu__law_is_due c
  obtain ⟨fd__law_knot, F__law_knot, b__law_knot⟩ := fu__law_knot c
  obtain ⟨fd__law_take, F__law_take, b__law_take⟩ := fu__law_take c
  obtain ⟨fd__law_told, F__law_told, b__law_told⟩ := fu__law_told c
  obtain ⟨fd_is_thread, F_is_thread, b_is_thread⟩ := fu_is_thread c
  obtain ⟨fd_least_turn, F_least_turn, b_least_turn⟩ := fu_least_turn c
  obtain ⟨fd__law_pick, F__law_pick, b__law_pick⟩ := fu__law_pick c
  obtain ⟨fd__law_shuffled, F__law_shuffled, b__law_shuffled⟩ := fu__law_shuffled c
  obtain ⟨fd_are_tangled, F_are_tangled, b_are_tangled⟩ := fu_are_tangled c
  obtain ⟨fd_Tangle___init__, F_Tangle___init__, b_Tangle___init__, k_MK_Tangle_10⟩ := fu_Tangle___init__ c
  obtain ⟨fd__law_hues, F__law_hues, b__law_hues⟩ := fu__law_hues c
  obtain ⟨fd__law_lines, F__law_lines, b__law_lines⟩ := fu__law_lines c
  obtain ⟨fd__law_odd, F__law_odd, b__law_odd⟩ := fu__law_odd c
  obtain ⟨fd__law_bent, F__law_bent, b__law_bent⟩ := fu__law_bent c
  obtain ⟨fd__law_tangled, F__law_tangled, b__law_tangled⟩ := fu__law_tangled c
  obtain ⟨fd__law_begun, F__law_begun, b__law_begun⟩ := fu__law_begun c
  obtain ⟨fd__law_caught, F__law_caught, b__law_caught⟩ := fu__law_caught c
  refine fun A outer s H v Q E cdv hgd hcd hr h => ⟨_, pss_cons (ps_set (i := 1) sc_law.nd rfl (.inl rfl) (pe_callS (ok__law_begun (c := cc K [] 0) (base := base) (P := P) (w := w) F__law_begun (He.free_ok KX G (c.fact 46 (f := .free "abs") rfl)) (He.free_ok KX G (c.fact 1 (f := .free "int") rfl))) (hr.mono (by decide)) rfl (He.glo_ok KX G (c.fact 43 (f := .glo "_law_begun") rfl)) F__law_begun.kp b__law_begun (fun σ => L2N.passAt (L2N.takes_of rfl rfl rfl rfl) σ) (pa_cons (pe_var (i := 0) rfl (.inl rfl) (by decide) (by decide)) pa_nil) (by decide) rfl rfl) rfl (.inl rfl)) (pss_ex3 fun a0 a1 a2 => ?_), frame_ok rfl (by decide) (by decide) h run⟩
  have T : Tx (cc K [a0, a1] a2) mg := tx_mk KX G c e
  have CF : CauF (cc K [a0, a1] a2) mg "_law_caught" "_law_job" ["_law_job", "_law_found", "_law_error"] s__law_caught (He.ga K "ThreadError") := cau_mk F__law_caught (He.glo_ok KX G (c.fact 44 (f := .glo "_law_caught") rfl)) b__law_caught (He.glo_ok KX G (c.fact 45 (f := .glo "ThreadError") rfl)) (ex_up (ba_ e).1)
  have M_Tangle___eq__ : OwnEq (cc K [a0, a1] a2) P w mg base 1 "Tangle" ["self", "other"] G_Tangle___eq__ := ⟨⟨_, _, fd_Tangle___eq__, pm_ca_mk (by decide), (T.kl.ins _ _ (pm_ca_mk (by decide))).cl, He.meth_ok (c.fact 19 (f := .meth "Tangle" "__eq__") rfl), b_Tangle___eq__, ok_Tangle___eq__ F_Tangle___eq__ T ⟩, fun C hC => ⟨ex_ne (ba_ e).1 C hC, (T.kl.ins _ _ hC).hm⟩⟩
  have M_Tangle_rings : Mth (cc K [a0, a1] a2) P w mg base 1 "Tangle" "rings" ["self"] G_Tangle_rings := ⟨_, _, fd_Tangle_rings, pm_ca_mk (by decide), (T.kl.ins _ _ (pm_ca_mk (by decide))).cl, He.meth_ok (c.fact 20 (f := .meth "Tangle" "rings") rfl), b_Tangle_rings, ok_Tangle_rings F_Tangle_rings T ⟩
  have M_Tangle_threads : Mth (cc K [a0, a1] a2) P w mg base 1 "Tangle" "threads" ["self"] G_Tangle_threads := ⟨_, _, fd_Tangle_threads, pm_ca_mk (by decide), (T.kl.ins _ _ (pm_ca_mk (by decide))).cl, He.meth_ok (c.fact 21 (f := .meth "Tangle" "threads") rfl), b_Tangle_threads, ok_Tangle_threads F_Tangle_threads T ⟩
  have O__law_are_rows := ok__law_are_rows (c := cc K [a0, a1] a2) (P := P) (w := w) (base := base) F__law_are_rows T 
  have C__law_are_rows : Cal (cc K [a0, a1] a2) P w K mg base 1 "_law_are_rows" ["_law_some"] G__law_are_rows := ⟨_, fd__law_are_rows, He.glo_ok KX G (c.fact 22 (f := .glo "_law_are_rows") rfl), F__law_are_rows.kp, b__law_are_rows, O__law_are_rows⟩
  have O__law_least_turn := ok__law_least_turn (c := cc K [a0, a1] a2) (P := P) (w := w) (base := base) F__law_least_turn T 
  have C__law_least_turn : Cal (cc K [a0, a1] a2) P w K mg base 1 "_law_least_turn" ["_law_ring"] G__law_least_turn := ⟨_, fd__law_least_turn, He.glo_ok KX G (c.fact 23 (f := .glo "_law_least_turn") rfl), F__law_least_turn.kp, b__law_least_turn, O__law_least_turn⟩
  have O__law_mixed := ok__law_mixed (c := cc K [a0, a1] a2) (P := P) (w := w) (base := base) F__law_mixed T 
  have C__law_mixed : Cal (cc K [a0, a1] a2) P w K mg base 1 "_law_mixed" ["_law_draw"] G__law_mixed := ⟨_, fd__law_mixed, He.glo_ok KX G (c.fact 24 (f := .glo "_law_mixed") rfl), F__law_mixed.kp, b__law_mixed, O__law_mixed⟩
  have O_is_color := ok_is_color (c := cc K [a0, a1] a2) (P := P) (w := w) (base := base) F_is_color T 
  have C_is_color : Cal (cc K [a0, a1] a2) P w K mg base 1 "is_color" ["value"] G_is_color := ⟨_, fd_is_color, He.glo_ok KX G (c.fact 25 (f := .glo "is_color") rfl), F_is_color.kp, b_is_color, O_is_color⟩
  have O_turned := ok_turned (c := cc K [a0, a1] a2) (P := P) (w := w) (base := base) F_turned T 
  have C_turned : Cal (cc K [a0, a1] a2) P w K mg base 1 "turned" ["ring", "at"] G_turned := ⟨_, fd_turned, He.glo_ok KX G (c.fact 26 (f := .glo "turned") rfl), F_turned.kp, b_turned, O_turned⟩
  have O__law_is_due := ok__law_is_due (c := cc K [a0, a1] a2) (P := P) (w := w) (base := base) F__law_is_due T C__law_are_rows
  have C__law_is_due : Cal (cc K [a0, a1] a2) P w K mg base 2 "_law_is_due" ["_law_strands", "_law_rings_here"] G__law_is_due := ⟨_, fd__law_is_due, He.glo_ok KX G (c.fact 27 (f := .glo "_law_is_due") rfl), F__law_is_due.kp, b__law_is_due, O__law_is_due⟩
  have O__law_knot := ok__law_knot (c := cc K [a0, a1] a2) (P := P) (w := w) (base := base) F__law_knot T C__law_least_turn
  have C__law_knot : Cal (cc K [a0, a1] a2) P w K mg base 2 "_law_knot" ["_law_strands", "_law_rings_here"] G__law_knot := ⟨_, fd__law_knot, He.glo_ok KX G (c.fact 28 (f := .glo "_law_knot") rfl), F__law_knot.kp, b__law_knot, O__law_knot⟩
  have O__law_take := ok__law_take (c := cc K [a0, a1] a2) (P := P) (w := w) (base := base) F__law_take T C__law_mixed
  have C__law_take : Cal (cc K [a0, a1] a2) P w K mg base 2 "_law_take" ["_law_draw", "_law_total"] G__law_take := ⟨_, fd__law_take, He.glo_ok KX G (c.fact 29 (f := .glo "_law_take") rfl), F__law_take.kp, b__law_take, O__law_take⟩
  have O__law_told := ok__law_told (c := cc K [a0, a1] a2) (P := P) (w := w) (base := base) F__law_told T M_Tangle_rings M_Tangle_threads
  have CG__law_told : CalG (cc K [a0, a1] a2) P w K mg base 2 "_law_told" ["_law_made"] G__law_told := ⟨_, fd__law_told, He.glo_ok KX G (c.fact 30 (f := .glo "_law_told") rfl), F__law_told.kp, b__law_told, O__law_told⟩
  have O_is_thread := ok_is_thread (c := cc K [a0, a1] a2) (P := P) (w := w) (base := base) F_is_thread T C_is_color
  have C_is_thread : Cal (cc K [a0, a1] a2) P w K mg base 2 "is_thread" ["value"] G_is_thread := ⟨_, fd_is_thread, He.glo_ok KX G (c.fact 31 (f := .glo "is_thread") rfl), F_is_thread.kp, b_is_thread, O_is_thread⟩
  have O_least_turn := ok_least_turn (c := cc K [a0, a1] a2) (P := P) (w := w) (base := base) F_least_turn T C_turned
  have C_least_turn : Cal (cc K [a0, a1] a2) P w K mg base 2 "least_turn" ["ring"] G_least_turn := ⟨_, fd_least_turn, He.glo_ok KX G (c.fact 32 (f := .glo "least_turn") rfl), F_least_turn.kp, b_least_turn, O_least_turn⟩
  have O__law_pick := ok__law_pick (c := cc K [a0, a1] a2) (P := P) (w := w) (base := base) F__law_pick T C__law_take
  have CP__law_pick : CalP (cc K [a0, a1] a2) P w K mg base 3 "_law_pick" ["_law_draw", "_law_some"] G__law_take := ⟨_, fd__law_pick, He.glo_ok KX G (c.fact 33 (f := .glo "_law_pick") rfl), F__law_pick.kp, b__law_pick, okP__law_pick F__law_pick T C__law_take⟩
  have C__law_pick : Cal (cc K [a0, a1] a2) P w K mg base 3 "_law_pick" ["_law_draw", "_law_some"] G__law_pick := ⟨_, fd__law_pick, He.glo_ok KX G (c.fact 33 (f := .glo "_law_pick") rfl), F__law_pick.kp, b__law_pick, O__law_pick⟩
  have O__law_shuffled := ok__law_shuffled (c := cc K [a0, a1] a2) (P := P) (w := w) (base := base) F__law_shuffled T C__law_take
  have C__law_shuffled : Cal (cc K [a0, a1] a2) P w K mg base 3 "_law_shuffled" ["_law_draw", "_law_some"] G__law_shuffled := ⟨_, fd__law_shuffled, He.glo_ok KX G (c.fact 34 (f := .glo "_law_shuffled") rfl), F__law_shuffled.kp, b__law_shuffled, O__law_shuffled⟩
  have O_are_tangled := ok_are_tangled (c := cc K [a0, a1] a2) (P := P) (w := w) (base := base) F_are_tangled T C_is_thread
  have C_are_tangled : Cal (cc K [a0, a1] a2) P w K mg base 3 "are_tangled" ["threads", "rings"] G_are_tangled := ⟨_, fd_are_tangled, He.glo_ok KX G (c.fact 35 (f := .glo "are_tangled") rfl), F_are_tangled.kp, b_are_tangled, O_are_tangled⟩
  have M_Tangle : Mak (cc K [a0, a1] a2) P w mg base 4 "Tangle" ["self", "threads", "rings"] G_Tangle := ⟨_, _, fd_Tangle___init__, GI_Tangle, He.glo_ok KX G (c.fact 17 (f := .glo "Tangle") rfl), pm_ca_mk (by decide), He.mkr_ok (c.fact 36 (f := .mkr "Tangle") rfl), b_Tangle___init__, ok_Tangle___init__ F_Tangle___init__ T C_are_tangled C_least_turn, mk_Tangle⟩
  have MK_Tangle_10 : MakK (cc K [a0, a1] a2) P w mg base 4 "Tangle" ["self", "threads", "rings"] ["rings", "threads"] [1, 0] G_Tangle := ⟨_, _, fd_Tangle___init__, GI_Tangle, He.glo_ok KX G (c.fact 17 (f := .glo "Tangle") rfl), pm_ca_mk (by decide), He.mkr_ok (c.fact 36 (f := .mkr "Tangle") rfl), k_MK_Tangle_10, ok_Tangle___init__ F_Tangle___init__ T C_are_tangled C_least_turn, mk_Tangle⟩
  have O__law_hues := ok__law_hues (c := cc K [a0, a1] a2) (P := P) (w := w) (base := base) F__law_hues T C__law_shuffled
  have C__law_hues : Cal (cc K [a0, a1] a2) P w K mg base 4 "_law_hues" ["_law_draw", "_law_many"] G__law_hues := ⟨_, fd__law_hues, He.glo_ok KX G (c.fact 37 (f := .glo "_law_hues") rfl), F__law_hues.kp, b__law_hues, O__law_hues⟩
  have O__law_lines := ok__law_lines (c := cc K [a0, a1] a2) (P := P) (w := w) (base := base) F__law_lines T C__law_pick C__law_take
  have C__law_lines : Cal (cc K [a0, a1] a2) P w K mg base 4 "_law_lines" ["_law_draw", "_law_hues_here", "_law_most", "_law_beads"] G__law_lines := ⟨_, fd__law_lines, He.glo_ok KX G (c.fact 38 (f := .glo "_law_lines") rfl), F__law_lines.kp, b__law_lines, O__law_lines⟩
  have O__law_odd := ok__law_odd (c := cc K [a0, a1] a2) (P := P) (w := w) (base := base) F__law_odd T C__law_pick
  have C__law_odd : Cal (cc K [a0, a1] a2) P w K mg base 4 "_law_odd" ["_law_draw"] G__law_odd := ⟨_, fd__law_odd, He.glo_ok KX G (c.fact 39 (f := .glo "_law_odd") rfl), F__law_odd.kp, b__law_odd, O__law_odd⟩
  have O__law_bent := ok__law_bent (c := cc K [a0, a1] a2) (P := P) (w := w) (base := base) F__law_bent T C__law_odd CP__law_pick C__law_pick C__law_take
  have C__law_bent : Cal (cc K [a0, a1] a2) P w K mg base 5 "_law_bent" ["_law_draw", "_law_some"] G__law_bent := ⟨_, fd__law_bent, He.glo_ok KX G (c.fact 40 (f := .glo "_law_bent") rfl), F__law_bent.kp, b__law_bent, O__law_bent⟩
  have O__law_tangled := ok__law_tangled (c := cc K [a0, a1] a2) (P := P) (w := w) (base := base) F__law_tangled T C__law_hues C__law_lines C__law_pick C__law_take
  have CT__law_tangled : CalT (cc K [a0, a1] a2) P w K mg base 5 "_law_tangled" ["_law_draw", "_law_beads"] GT__law_tangled := ⟨_, fd__law_tangled, He.glo_ok KX G (c.fact 41 (f := .glo "_law_tangled") rfl), F__law_tangled.kp, b__law_tangled, O__law_tangled⟩
  obtain ⟨⟨oc, od, osl, lk⟩, hcl⟩ := Z.Fun.lk Fl
  have TB_law : TbF (cc K [a0, a1] a2) mg base "law" fd := tbF_of (ba_ e).1 (List.mem_cons_self) TBs lk hcl
  exact rest_law (c := cc K [a0, a1] a2) T M_Tangle___eq__ M_Tangle_rings M_Tangle_threads M_Tangle C__law_bent C__law_is_due C__law_knot C__law_pick C__law_take CT__law_tangled CG__law_told MK_Tangle_10 CF TB_law hcd hgd hr (L2N.takes_of rfl rfl rfl rfl)
theorem law_at {K : PySem.W.Frag} {h : Heap} {fl : Addr} (KX : K.In h) (G : h.Ns mainGlobals mg) (hm : mg "law" = some (.ref fl)) (c : He.SaysD fa fn K) (e : ex K = true) (run : RunOk) (hP : P = PySem.W.OpenLaw.prog PySem.Challenge.rw_tradedtails_k69_tangles_made_or_refused) :
    ∃ (fd : FuncData) (N : List Str) (st : Stmt) (z qual : Str), (∀ (s : Shared) (u : Value), BindsTo s fd ⟨[u], []⟩ [("_law_script", u)]) ∧ Fun K z qual st fl fd ∧ FnScope N ["_law_script"] (defScope st) ∧ ∀ base : Heap, K.In base → base.Ns mainGlobals mg → (∀ p ∈ tf.map (He.cT K), LamX.TabB base mg p.1 p.2) → ∀ (A : Around) (outer : List Env) (s : Shared) (H : Hp) (v : V) (Q : VK) (E : XK) (cdv : Value), A.guards = some [] → fd.code = cdv → Room 7 (A.deeper (envOfC qual (defScope st) s.heap.objs.size fl cdv)) → spLaw (pmOf K cas cxs tf [] 0) [v] H Q E → ∃ t, PSs (cxOf (L2N.CX P w) P w K mg base N qual (defScope st) fl cdv A outer s H E) (defBody st) t ∧ t { nx := fun _ H' => Q .non H', rt := Q } (L2.start N [v]) H := by
  obtain ⟨fd, F⟩ := c.def_ 23 (d := d_law) rfl
  have e2 := hm.symm.trans (He.glo_ok KX G (c.fact 42 (f := .glo "law") rfl))
  cases e2
  have b := FunD.bindsA (ps := ["_law_script"]) F fun _ _ _ _ _ _ us hl => match us, hl with | [_], _ => rfl
  exact ⟨fd, ["_law_script", "_law_draw", "_law_last", "_law_turn", "_law_strands", "_law_rings_here", "_law_change", "_law_shown", "_law_found", "_law_errors_here", "_law_knot_here", "_law_made", "_law_far", "_law_row", "_law_error"], s_law, "law", "law", fun s v => b s [v] rfl, fun_of F, sc_law, fun base _ _ TBs => ok_law (P := P) (w := w) (base := base) KX G c (ba_ e).1 (by subst hP; exact (ba_ e).2) TBs (fun_of F) run⟩
end Qk69
namespace Z
open PySem
@[simp] theorem vl_nil {d : D} : vl d [] = ⟨d, .pl, []⟩ := by unfold vl; split <;> rfl
@[simp] theorem vf_nil {d : D} : vf d [] = ⟨d, .fr, []⟩ := by unfold vf; split <;> rfl
theorem vl_imm {d : D} {t : List Nat} (h : d.imm = true) : vl d t = ⟨d, .pl, []⟩ := by unfold vl; rw [if_pos h]
theorem vf_imm {d : D} {t : List Nat} (h : d.kids = true) : vf d t = ⟨d, .fr, []⟩ := by unfold vf; rw [if_pos h]
theorem vl_int {i : Int} {t : List Nat} : vl (.int i) t = ⟨.int i, .pl, []⟩ := vl_imm rfl
theorem vl_str {i : Str} {t : List Nat} : vl (.str i) t = ⟨.str i, .pl, []⟩ := vl_imm rfl
theorem vl_bl {i : Bool} {t : List Nat} : vl (.bl i) t = ⟨.bl i, .pl, []⟩ := vl_imm rfl
theorem vl_non {t : List Nat} : vl .non t = ⟨.non, .pl, []⟩ := vl_imm rfl
@[simp] theorem frz_nil {ρ : En} : frz ρ [] = ρ := by
  unfold frz
  refine List.ext_getElem? fun i => ?_
  rw [List.getElem?_mapIdx]
  cases h : ρ[i]? with
  | none => rfl
  | some s => cases s <;> simp
theorem frz_one {ρ : En} {i : Nat} {d : D} (h : ρ[i]? = some (.own d)) : frz ρ [i] = ρ.set i (.val d) := by
  unfold frz
  refine List.ext_getElem? fun j => ?_
  rw [List.getElem?_mapIdx]
  by_cases e : i = j
  · subst e
    have hl : i < ρ.length := (List.getElem?_eq_some_iff.mp h).1
    rw [List.getElem?_set_self hl, h]
    simp
  · rw [List.getElem?_set_ne e]
    cases q : ρ[j]? with
    | none => rfl
    | some s =>
      have e' : ¬ j = i := fun z => e z.symm
      cases s <;> simp [e']
theorem nd2 {i j : Nat} : [i, j].Nodup ↔ ¬ i = j := by simp
noncomputable def forOne (fu : Nat) (b : S) (pt : Pat) : D → En → Dr → SOut := fun x ρ W => ofS (bindP pt x ρ) fun ρ' => evS fu b ρ' W
noncomputable def lcOne (el tst : E) (pt : Pat) (own : List Nat) (ρ : En) : D → Dr → Out (Option Vl) := fun x W => ofO (bindP pt x (wip ρ own)) fun ρ' => (evA tst ρ' W).bind fun b W => if b then (ev el ρ' W).bind fun v W => .ok (some v) W else .ok none W
theorem evS_for {fu : Nat} {pt : Pat} {src : E} {b : S} {ρ : En} {W : Dr} : evS fu (.for pt src b) ρ W = (evI src ρ W).st ρ fun p W => forGo (forOne fu b pt) p.xs (frz ρ (p.me ++ p.t)) W := (Eq.refl _).trans rfl
theorem ev_lc {el tst src : E} {pt : Pat} {own : List Nat} {ρ : En} {W : Dr} : ev (.lc el pt src tst own) ρ W = (evI src ρ W).bind fun p W => match p.t with
    | [] => lcGo (lcOne el tst pt own ρ) p.xs [] [] W
    | _ => .stk := by simp only [ev]; rfl
theorem lcOne_nm {el : E} {i : Nat} {own : List Nat} {ρ : En} {x : D} {W : Dr} : lcOne el .nil (.nm i) own ρ x W = (ev el ((wip ρ own).set i (.val x)) W).bind fun v W => .ok (some v) W := by simp [lcOne, bindP, ofO, evA, Out.bind]
theorem lcOne_ok {el : E} {i : Nat} {own : List Nat} {ρ : En} {x : D} {W W' : Dr} {v : Vl} (h : ev el ((wip ρ own).set i (.val x)) W = .ok v W') : lcOne el .nil (.nm i) own ρ x W = .ok (some v) W' := by rw [lcOne_nm, h]; rfl

theorem for_inv {f : D → En → Dr → SOut} (I : Nat → En → Dr → Prop) : ∀ (xs : List D) (k : Nat) {ρ : En} {W : Dr}, I k ρ W →
    (∀ i x ρ W, xs[i]? = some x → I (k + i) ρ W → ∃ ρ' W', (f x ρ W = .nx ρ' W' ∨ f x ρ W = .ct ρ' W') ∧ I (k + i + 1) ρ' W') → ∃ ρ' W', forGo f xs ρ W = .nx ρ' W' ∧ I (k + xs.length) ρ' W'
  | [], k, ρ, W, h0, _ => ⟨ρ, W, rfl, h0⟩
  | x :: xs, k, ρ, W, h0, h => by
    obtain ⟨ρ1, W1, e, h1⟩ := h 0 x ρ W rfl h0
    obtain ⟨ρ2, W2, e2, h2⟩ := for_inv I xs (k + 1) h1 fun i y ρ W hy hi => by
      have := h (i + 1) y ρ W (by simpa using hy) (by rw [show k + (i + 1) = k + 1 + i by omega]; exact hi)
      rw [show k + 1 + i + 1 = k + (i + 1) + 1 by omega]
      exact this
    refine ⟨ρ2, W2, ?_, by rw [List.length_cons, show k + (xs.length + 1) = k + 1 + xs.length by omega]; exact h2⟩
    rcases e with e | e <;> simp only [forGo, e, e2]
theorem for_inv0 {f : D → En → Dr → SOut} {xs : List D} (I : Nat → En → Dr → Prop) {ρ : En} {W : Dr} (h0 : I 0 ρ W)
    (h : ∀ i x ρ W, xs[i]? = some x → I i ρ W → ∃ ρ' W', (f x ρ W = .nx ρ' W' ∨ f x ρ W = .ct ρ' W') ∧ I (i + 1) ρ' W') : ∃ ρ' W', forGo f xs ρ W = .nx ρ' W' ∧ I xs.length ρ' W' := by
  obtain ⟨ρ', W', e, q⟩ := for_inv I xs 0 h0 fun i x ρ W hx hi => by
    rw [Nat.zero_add] at hi ⊢
    exact h i x ρ W hx hi
  rw [Nat.zero_add] at q
  exact ⟨ρ', W', e, q⟩
theorem whl_inv {c : En → Dr → Out Bool} {f : En → Dr → SOut} (I : Nat → En → Dr → Prop)
    (h : ∀ n ρ W, I n ρ W → (∃ W', c ρ W = .ok false W' ∧ I 0 ρ W') ∨ ∃ m W', n = m + 1 ∧ c ρ W = .ok true W' ∧ ∃ ρ'' W'', (f ρ W' = .nx ρ'' W'' ∨ f ρ W' = .ct ρ'' W'') ∧ I m ρ'' W'') : ∀ (n fu : Nat) {ρ : En} {W : Dr}, I n ρ W → n < fu → ∃ ρ' W', whlGo c f fu ρ W = .nx ρ' W' ∧ I 0 ρ' W'
  | n, 0, _, _, _, hl => by omega
  | n, fu + 1, ρ, W, h0, hl => by
    rcases h n ρ W h0 with ⟨W', e, q⟩ | ⟨m, W', rfl, e, ρ2, W2, e2, q⟩
    · exact ⟨ρ, W', by simp only [whlGo, e, Out.st]; rfl, q⟩
    · obtain ⟨ρ3, W3, e3, q3⟩ := whl_inv I h m fu q (by omega)
      refine ⟨ρ3, W3, ?_, q3⟩
      rcases e2 with e2 | e2 <;> simp only [whlGo, e, Out.st, if_true, e2, e3]
theorem lc_inv {one : D → Dr → Out (Option Vl)} (I : Nat → List D → Dr → Prop) : ∀ (xs : List D) (k : Nat) {acc : List D} {W : Dr}, I k acc W → acc.length + xs.length ≤ cap →
    (∀ i x acc W, xs[i]? = some x → I (k + i) acc W → (∃ W', one x W = .ok none W' ∧ I (k + i + 1) acc W') ∨ ∃ v W', one x W = .ok (some v) W' ∧ v.all = [] ∧ I (k + i + 1) (acc ++ [v.d]) W') → ∃ ys W', lcGo one xs acc [] W = .ok ⟨.lst ys, .fr, []⟩ W' ∧ I (k + xs.length) ys W'
  | [], k, acc, W, h0, _, _ => ⟨acc, W, by simp [lcGo], h0⟩
  | x :: xs, k, acc, W, h0, hl, h => by
    have step : ∀ i y acc W, xs[i]? = some y → I (k + 1 + i) acc W → (∃ W', one y W = .ok none W' ∧ I (k + 1 + i + 1) acc W') ∨ ∃ v W', one y W = .ok (some v) W' ∧ v.all = [] ∧ I (k + 1 + i + 1) (acc ++ [v.d]) W' := fun i y acc W hy hi => by
      have := h (i + 1) y acc W (by simpa using hy) (by rw [show k + (i + 1) = k + 1 + i by omega]; exact hi)
      rw [show k + 1 + i + 1 = k + (i + 1) + 1 by omega]
      exact this
    rw [List.length_cons] at hl
    have el : k + (x :: xs).length = k + 1 + xs.length := by rw [List.length_cons]; omega
    rcases h 0 x acc W rfl h0 with ⟨W1, e, q⟩ | ⟨v, W1, e, hv, q⟩
    · obtain ⟨ys, W2, e2, q2⟩ := lc_inv I xs (k + 1) q (by omega) step
      exact ⟨ys, W2, by simp only [lcGo, e, e2], by rw [el]; exact q2⟩
    · obtain ⟨ys, W2, e2, q2⟩ := lc_inv I xs (k + 1) q (by simp; omega) step
      refine ⟨ys, W2, ?_, by rw [el]; exact q2⟩
      simp only [lcGo, e, hv, List.append_nil]
      rw [if_pos (by omega)]
      exact e2
theorem lc_inv0 {one : D → Dr → Out (Option Vl)} {xs : List D} (I : Nat → List D → Dr → Prop) {W : Dr} (h0 : I 0 [] W) (hl : xs.length ≤ cap)
    (h : ∀ i x acc W, xs[i]? = some x → I i acc W → (∃ W', one x W = .ok none W' ∧ I (i + 1) acc W') ∨ ∃ v W', one x W = .ok (some v) W' ∧ v.all = [] ∧ I (i + 1) (acc ++ [v.d]) W') : ∃ ys W', lcGo one xs [] [] W = .ok ⟨.lst ys, .fr, []⟩ W' ∧ I xs.length ys W' := by
  obtain ⟨ys, W', e, q⟩ := lc_inv I xs 0 h0 (by simpa using hl) fun i x acc W hx hi => by
    rw [Nat.zero_add] at hi ⊢
    exact h i x acc W hx hi
  rw [Nat.zero_add] at q
  exact ⟨ys, W', e, q⟩
theorem lc_map {one : D → Dr → Out (Option Vl)} {g : D → Option D} {W : Dr} : ∀ (xs : List D) {acc : List D}, acc.length + xs.length ≤ cap → (∀ x ∈ xs, ∃ o, one x W = .ok o W ∧ o.map (·.d) = g x ∧ ∀ v, o = some v → v.all = []) →
    lcGo one xs acc [] W = .ok ⟨.lst (acc ++ xs.filterMap g), .fr, []⟩ W
  | [], acc, _, _ => by simp [lcGo]
  | x :: xs, acc, hl, h => by
    obtain ⟨o, e, e2, e3⟩ := h x List.mem_cons_self
    rw [List.length_cons] at hl
    have ih := fun acc' h' => lc_map (one := one) (g := g) (W := W) xs (acc := acc') h' fun y hy => h y (List.mem_cons_of_mem _ hy)
    cases o with
    | none =>
      simp only [lcGo, e]
      rw [ih acc (by omega)]
      simp only [Option.map_none] at e2
      simp [List.filterMap_cons, ← e2]
    | some v =>
      simp only [lcGo, e, e3 v rfl, List.append_nil]
      rw [if_pos (by omega), ih _ (by simp; omega)]
      simp only [Option.map_some] at e2
      simp [List.filterMap_cons, ← e2]
theorem rng_len {n : Nat} : ((List.range n).map fun k : Nat => D.int (k : Int)).length = n := by simp
theorem rng_at {n i : Nat} {x : D} (h : ((List.range n).map fun k : Nat => D.int (k : Int))[i]? = some x) : x = .int i ∧ i < n := by
  rw [List.getElem?_map, Option.map_eq_some_iff] at h
  obtain ⟨j, h1, rfl⟩ := h
  have hi : i < n := by simpa using (List.getElem?_eq_some_iff.mp h1).1
  rw [List.getElem?_range hi] at h1
  cases h1
  exact ⟨rfl, hi⟩
theorem rngD1 {n : Int} (h0 : 0 ≤ n) (h : n < 2 ^ 62) : rngD [.int n] = some ((List.range n.toNat).map fun k : Nat => .int (k : Int)) := by
  simp only [rngD, big_eq]; rw [if_pos ⟨by omega, h⟩]
theorem rngN {n : Nat} (h : n < 2 ^ 40) : rngD [.int n] = some ((List.range n).map fun k : Nat => .int (k : Int)) := by
  have := rngD1 (n := (n : Int)) (by omega) (by omega)
  rwa [Int.toNat_natCast] at this
theorem atD_nat {α : Type} {xs : List α} {i : Nat} (h : i < xs.length) : atD xs (i : Int) = some xs[i] := by
  unfold atD L2.atI L2.ixN
  rw [if_pos (by omega), if_pos (by omega)]
  simp [h]
theorem atD_int {α : Type} {xs : List α} {i : Int} (h0 : 0 ≤ i) (h : i < xs.length) : atD xs i = some (xs[i.toNat]'(by omega)) := by
  obtain ⟨n, rfl⟩ := Int.eq_ofNat_of_zero_le h0
  exact atD_nat (by omega)
theorem atD_mem {α : Type} {xs : List α} {i : Int} (h0 : 0 ≤ i) (h : i < xs.length) : ∃ x ∈ xs, atD xs i = some x ∧ xs[i.toNat]? = some x := by
  rw [atD_int h0 h]
  exact ⟨_, List.getElem_mem _, rfl, List.getElem?_eq_getElem _⟩
theorem ixOf_nat {n i : Nat} (h : i < n) : ixOf n (i : Int) = some i := by
  unfold ixOf L2.ixN
  rw [if_pos (by omega), if_pos (by omega)]
  simp
theorem ixOf_int {n : Nat} {i : Int} (h0 : 0 ≤ i) (h : i < n) : ixOf n i = some i.toNat := by
  obtain ⟨m, rfl⟩ := Int.eq_ofNat_of_zero_le h0
  exact ixOf_nat (by omega)
theorem cut_to {α : Type} {xs : List α} {k : Int} (h : 0 ≤ k) : cutD xs none (some k) = xs.take k.toNat := by
  obtain ⟨n, rfl⟩ := Int.eq_ofNat_of_zero_le h
  unfold cutD
  rw [show ((n : Int)) = ((n : Nat) : Int) from rfl, HT.sIx_nat, HT.sIx_none]
  simp
theorem cut_from {α : Type} {xs : List α} {k : Int} (h : 0 ≤ k) : cutD xs (some k) none = xs.drop k.toNat := by
  obtain ⟨n, rfl⟩ := Int.eq_ofNat_of_zero_le h
  unfold cutD
  rw [HT.sIx_nat, HT.sIx_none, Int.toNat_natCast]
  by_cases q : n ≤ xs.length
  · rw [Nat.min_eq_left q, List.take_of_length_le (by simp)]
  · rw [Nat.min_eq_right (by omega)]
    simp [List.drop_eq_nil_of_le (show xs.length ≤ n by omega)]
theorem imm_strs : ∀ l : List Str, D.immL (l.map .str) = true
  | [] => by simp [D.immL]
  | _ :: l => by simp [D.immL, D.imm, imm_strs l]
theorem immL_iff : ∀ l : List D, D.immL l = true ↔ ∀ x ∈ l, x.imm = true
  | [] => by simp [D.immL]
  | x :: l => by simp [D.immL, immL_iff l]
def Pd (n : Nat) (x : D) : Prop := ∃ p, D.pyN n x = some p
theorem pyNL_of {n : Nat} : ∀ {xs : List D}, (∀ x ∈ xs, Pd n x) → ∃ ps, D.pyNL n xs = some ps ∧ ps.length = xs.length
  | [], _ => ⟨[], by simp [D.pyNL], rfl⟩
  | x :: xs, h => by
    obtain ⟨p, hp⟩ := h x List.mem_cons_self
    obtain ⟨ps, h1, h2⟩ := pyNL_of fun y hy => h y (List.mem_cons_of_mem _ hy)
    exact ⟨p :: ps, by simp [D.pyNL, hp, h1], by simp [h2]⟩
theorem eq_nil {xs : List D} (h : ∀ x ∈ xs, Pd 11 x) : D.eq (.lst xs) (.lst []) = some xs.isEmpty := by
  obtain ⟨ps, h1, h2⟩ := pyNL_of h
  simp only [D.eq, D.pd, D.pyN, h1, Option.map_some, D.pyNL]
  cases xs with
  | nil =>
    simp only [List.length_nil, List.length_eq_zero_iff] at h2
    subst h2
    rfl
  | cons x xs =>
    cases ps with
    | nil => simp at h2
    | cons p ps => rfl
theorem pd_str {n : Nat} {s : Str} : Pd n (.str s) := by cases n <;> exact ⟨_, by simp only [D.pyN]; rfl⟩
theorem for_ret {α : Type} (dec : α → D) (enc : List α → En) (P : α → Bool) (v : α → Vl) {f : D → En → Dr → SOut} {W : Dr} {xs : List α} (h : ∀ q x r, xs = q ++ x :: r → q.all (fun y => !P y) = true → if P x = true then ∃ ρ', f (dec x) (enc q) W = .rt (v x) ρ' W else f (dec x) (enc q) W = .nx (enc (q ++ [x])) W) :
    match xs.find? P with
    | some x => ∃ ρ', forGo f (xs.map dec) (enc []) W = .rt (v x) ρ' W
    | none => forGo f (xs.map dec) (enc []) W = .nx (enc xs) W := by
  suffices H : ∀ (r p : List α), xs = p ++ r → p.all (fun y => !P y) = true → match r.find? P with
    | some x => ∃ ρ', forGo f (r.map dec) (enc p) W = .rt (v x) ρ' W
    | none => forGo f (r.map dec) (enc p) W = .nx (enc (p ++ r)) W from by
      have := H xs [] rfl rfl
      simpa using this
  intro r
  induction r with
  | nil => intro p _ _; simp [forGo]
  | cons x r ih =>
    intro p e hp
    have hx := h p x r e hp
    by_cases hP : P x = true
    · rw [if_pos hP] at hx
      obtain ⟨ρ', hx⟩ := hx
      rw [List.find?_cons_of_pos hP]
      exact ⟨ρ', by simp only [List.map_cons, forGo, hx]⟩
    · rw [if_neg hP] at hx
      have hP' : P x = false := by simpa using hP
      rw [List.find?_cons_of_neg hP]
      have := ih (p ++ [x]) (by simp [e]) (by simp only [List.all_append, hp, List.all_cons, hP', List.all_nil]; rfl)
      simp only [List.map_cons, forGo, hx]
      simpa using this
theorem lc_dec {α : Type} (dec : α → D) (g : α → Option D) {one : D → Dr → Out (Option Vl)} {W : Dr} {xs : List α} (hl : xs.length ≤ cap) (h : ∀ x ∈ xs, ∃ o, one (dec x) W = .ok o W ∧ o.map (·.d) = g x ∧ ∀ v, o = some v → v.all = []) :
    lcGo one (xs.map dec) [] [] W = .ok ⟨.lst (xs.filterMap g), .fr, []⟩ W := by
  suffices H : ∀ (ys : List α) {acc : List D}, acc.length + ys.length ≤ cap → (∀ x ∈ ys, x ∈ xs) → lcGo one (ys.map dec) acc [] W = .ok ⟨.lst (acc ++ ys.filterMap g), .fr, []⟩ W from by
    have := H xs (acc := []) (by simpa using hl) fun _ h => h
    simpa using this
  intro ys
  induction ys with
  | nil => intro acc _ _; simp [lcGo]
  | cons x ys ih =>
    intro acc hl2 hs
    obtain ⟨o, e, e2, e3⟩ := h x (hs x List.mem_cons_self)
    rw [List.length_cons] at hl2
    cases o with
    | none =>
      simp only [List.map_cons, lcGo, e]
      rw [ih (by omega) fun y hy => hs y (List.mem_cons_of_mem _ hy)]
      simp only [Option.map_none] at e2
      simp [List.filterMap_cons, ← e2]
    | some v =>
      simp only [List.map_cons, lcGo, e, e3 v rfl, List.append_nil]
      rw [if_pos (by omega), ih (by simp; omega) fun y hy => hs y (List.mem_cons_of_mem _ hy)]
      simp only [Option.map_some] at e2
      simp [List.filterMap_cons, ← e2]
theorem lc_filter {α : Type} (dec : α → D) (p : α → Bool) {one : D → Dr → Out (Option Vl)} {W : Dr} {xs : List α} (hl : xs.length ≤ cap) (h : ∀ x ∈ xs, ∃ v, one (dec x) W = .ok (if p x = true then some v else none) W ∧ v.d = dec x ∧ v.all = []) :
    lcGo one (xs.map dec) [] [] W = .ok ⟨.lst ((xs.filter p).map dec), .fr, []⟩ W := by
  rw [lc_dec dec (fun x => if p x = true then some (dec x) else none) hl fun x hx => ?_]
  · congr 3
    clear h hl
    induction xs with
    | nil => rfl
    | cons x xs ih =>
      by_cases q : p x = true
      · simp [q, ih]
      · simp [q, ih]
  · obtain ⟨v, e, e2, e3⟩ := h x hx
    refine ⟨_, e, ?_, fun w hw => ?_⟩
    · split
      · simp [e2]
      · rfl
    · split at hw
      · cases hw; exact e3
      · cases hw
theorem lc_each {α : Type} (dec : α → D) (g : α → D) {one : D → Dr → Out (Option Vl)} {W : Dr} {xs : List α} (hl : xs.length ≤ cap) (h : ∀ x ∈ xs, ∃ v, one (dec x) W = .ok (some v) W ∧ v.d = g x ∧ v.all = []) :
    lcGo one (xs.map dec) [] [] W = .ok ⟨.lst (xs.map g), .fr, []⟩ W := by
  rw [lc_dec dec (fun x => some (g x)) hl fun x hx => ?_]
  · simp
  · obtain ⟨v, e, e2, e3⟩ := h x hx
    exact ⟨_, e, by simp [e2], fun w hw => by cases hw; exact e3⟩
end Z

namespace Z
open PySem
structure Wd (T : Nat) (W : Dr) : Prop where
  t0 : 0 ≤ W.turn
  t1 : W.turn ≤ (T : Int)
  rs : 0 ≤ W.rest
  wd : ∀ x ∈ W.wide, 0 ≤ x
  cl : ∀ x ∈ W.cells, 0 ≤ x ∧ x < 2147483629
theorem Wd.mono {T T' : Nat} {W : Dr} (h : Wd T W) (l : T ≤ T') : Wd T' W := ⟨h.t0, by have := h.t1; omega, h.rs, h.wd, h.cl⟩
theorem wd0 (ns : List Int) : Wd 0 (dr0 ns) := by
  refine ⟨Int.le_refl _, Int.le_refl _, Int.le_refl _, fun x hx => ?_, fun x hx => ?_⟩
  · obtain ⟨i, _, e⟩ := List.mem_filterMap.mp (show x ∈ wideOf ns from hx)
    split at e <;> cases e
    omega
  · obtain ⟨i, _, e⟩ := List.mem_map.mp (show x ∈ cellsOf ns from hx)
    subst e
    omega
theorem pow_small {b : Int} (h0 : 0 ≤ b) (h : b < 2 ^ 60) : b.natAbs < 2 ^ 64 := by omega
theorem mixed1 {t f p c b : Int} {s5 : Sl} {W : Dr} (hp : 0 < p) : evS 1000000 B__law_mixed_1 ([.val .drw, .val (.int t), .val (.int f), .val (.int p), .val (.int b), s5].set 5 (.val (.int c))) W = .nx [.val .drw, .val (.int t), .val (.int f), .val (.int p), .val (.int ((b * 48271 + c + t) % p)), .val (.int c)] W := by
  unfold B__law_mixed_1
  simp [edN0, edN1, edN2, edN3, wip, SOut.wp, vl_int, vl_str, vl_bl, vl_non, nd2, Nat.reduceLeDiff, Nat.reduceEqDiff, not_false_eq_true, and_self, and_true, true_and, putAll, big_eq, ↓evS_for, ↓ev_lc, evS, evT, evA, ev, evL, evO, evI, Out.bind, Out.st, ofS, ofO, D.isBl, vo, put, Vl.isFr, Vl.all, biD, ds, ts, sets, List.flatMap_cons, List.flatMap_nil, List.map_cons, List.map_nil, List.append_nil, List.nil_append, vl_nil, vf_nil, frz_nil, List.getElem?_cons_zero, List.getElem?_cons_succ, List.set_cons_zero, List.set_cons_succ, Bool.false_eq_true, if_false, if_true, reduceIte, List.length_cons, List.length_nil, Nat.reduceAdd, Nat.reduceSub, List.replicate, List.cons_append, List.replicate_succ, List.replicate_zero, Option.map_some, Option.map_none, Bool.not_true, Bool.not_false, List.singleton_append, binD, intD, hp]
theorem mixed2 {t f p : Int} {s3 s4 s5 : Sl} {W : Dr} (hp : 0 < p) (hp2 : p ≤ 2147483629) (hf : 0 ≤ f) (ht : 0 ≤ t) (ht2 : t ≤ 2 ^ 41) :
    ∃ f' s4' s5', 0 ≤ f' ∧ evS 1000000 B__law_mixed_2 ([.val .drw, .val (.int t), .val (.int f), s3, s4, s5].set 3 (.val (.int p))) W = .nx [.val .drw, .val (.int t), .val (.int f'), .val (.int p), s4', s5'] W := by
  obtain ⟨ρ', W', e, b', s5', rfl, e2, h1, h2⟩ := for_inv0 (f := forOne 1000000 B__law_mixed_1 (.nm 5)) (xs := W.cells.map .int) (ρ := [.val .drw, .val (.int t), .val (.int f), .val (.int p), .val (.int (57731 * t + p / 29)), s5]) (W := W)
    (I := fun _ ρ V => ∃ b s5, ρ = [.val .drw, .val (.int t), .val (.int f), .val (.int p), .val (.int b), s5] ∧ V = W ∧ 0 ≤ b ∧ b < 2 ^ 60) ⟨_, _, rfl, rfl, by omega, by omega⟩ (fun i x ρ V hx ⟨b, s5, e1, e2, h1, h2⟩ => by
      subst e1 e2
      rw [List.getElem?_map, Option.map_eq_some_iff] at hx
      obtain ⟨c, hc, rfl⟩ := hx
      refine ⟨_, _, .inl (mixed1 hp), _, _, rfl, rfl, ?_⟩
      have := Int.emod_nonneg (b * 48271 + c + t) (b := p) (by omega)
      have := Int.emod_lt_of_pos (b * 48271 + c + t) hp
      omega)
  subst e2
  have hb : b'.natAbs < 2 ^ 64 := pow_small h1 h2
  have hq : (0 : Int) ≤ b' ^ 5 % p := Int.emod_nonneg _ (by omega)
  refine ⟨f * 2147483647 + b' ^ 5 % p, .val (.int b'), s5', by omega, ?_⟩
  unfold B__law_mixed_2
  simp [edN0, edN1, edN2, edN3, wip, SOut.wp, vl_int, vl_str, vl_bl, vl_non, nd2, Nat.reduceLeDiff, Nat.reduceEqDiff, not_false_eq_true, and_self, and_true, true_and, putAll, big_eq, ↓evS_for, ↓ev_lc, evS, evT, evA, ev, evL, evO, evI, Out.bind, Out.st, ofS, ofO, D.isBl, vo, put, Vl.isFr, Vl.all, biD, ds, ts, sets, List.flatMap_cons, List.flatMap_nil, List.map_cons, List.map_nil, List.append_nil, List.nil_append, vl_nil, vf_nil, frz_nil, List.getElem?_cons_zero, List.getElem?_cons_succ, List.set_cons_zero, List.set_cons_succ, Bool.false_eq_true, if_false, if_true, reduceIte, List.length_cons, List.length_nil, Nat.reduceAdd, Nat.reduceSub, List.replicate, List.cons_append, List.replicate_succ, List.replicate_zero, Option.map_some, Option.map_none, Bool.not_true, Bool.not_false, List.singleton_append, binD, intD, D.items, e, hp, hb]
theorem mixed_ok {T : Nat} {W : Dr} (h : Wd T W) (hT : T ≤ 1099511627776) : ∃ r, 0 ≤ r ∧ G__law_mixed [.drw] W = .ok (false, .int r) { W with turn := W.turn + 1 } := by
  have ht := h.t0; have ht1 := h.t1
  obtain ⟨ρ', W', e, f', s3, s4, s5, rfl, e2, h1⟩ := for_inv0 (f := forOne 1000000 B__law_mixed_2 (.nm 3)) (xs := [.int 2147483629, .int 2147483587, .int 2147483579, .int 2147483563]) (ρ := [.val .drw, .val (.int (W.turn + 1)), .val (.int 0), .un, .un, .un]) (W := { W with turn := W.turn + 1 })
    (I := fun _ ρ V => ∃ f s3 s4 s5, ρ = [.val .drw, .val (.int (W.turn + 1)), .val (.int f), s3, s4, s5] ∧ V = { W with turn := W.turn + 1 } ∧ 0 ≤ f) ⟨0, _, _, _, rfl, rfl, by omega⟩ (fun i x ρ V hx ⟨f, s3, s4, s5, e1, e2, h1⟩ => by
      subst e1 e2
      obtain ⟨p, rfl, hp, hp2⟩ : ∃ p, x = .int p ∧ 0 < p ∧ p ≤ 2147483629 := by
        have := List.mem_of_getElem? hx
        simp only [List.mem_cons, List.not_mem_nil, or_false] at this
        rcases this with rfl | rfl | rfl | rfl <;> exact ⟨_, rfl, by omega, by omega⟩
      obtain ⟨f', s4', s5', hf', e⟩ := mixed2 (s3 := s3) (s4 := s4) (s5 := s5) (W := { W with turn := W.turn + 1 }) hp hp2 h1 (t := W.turn + 1) (by omega) (by omega)
      exact ⟨_, _, .inl e, f', _, s4', s5', rfl, rfl, hf'⟩)
  subst e2
  refine ⟨f', h1, ?_⟩
  unfold G__law_mixed Z.run B__law_mixed
  simp [edN0, edN1, edN2, edN3, wip, SOut.wp, vl_int, vl_str, vl_bl, vl_non, nd2, Nat.reduceLeDiff, Nat.reduceEqDiff, not_false_eq_true, and_self, and_true, true_and, putAll, big_eq, ↓evS_for, ↓ev_lc, evS, evT, evA, ev, evL, evO, evI, Out.bind, Out.st, ofS, ofO, D.isBl, vo, put, Vl.isFr, Vl.all, biD, ds, ts, sets, List.flatMap_cons, List.flatMap_nil, List.map_cons, List.map_nil, List.append_nil, List.nil_append, vl_nil, vf_nil, frz_nil, List.getElem?_cons_zero, List.getElem?_cons_succ, List.set_cons_zero, List.set_cons_succ, Bool.false_eq_true, if_false, if_true, reduceIte, List.length_cons, List.length_nil, Nat.reduceAdd, Nat.reduceSub, List.replicate, List.cons_append, List.replicate_succ, List.replicate_zero, Option.map_some, Option.map_none, Bool.not_true, Bool.not_false, List.singleton_append, binD, putAll, D.items, e, cap]
theorem take_ok {T : Nat} {n : Int} {W : Dr} (h : Wd T W) (hT : T ≤ 1099511627776) (hn : 0 < n) (hn2 : n < 1073741824) : ∃ r W', 0 ≤ r ∧ r < n ∧ Wd (T + 1) W' ∧ G__law_take [.drw, .int n] W = .ok (false, .int r) W' := by
  have ht := h.t0; have ht1 := h.t1; have hr := h.rs
  have key : ∀ (W1 : Dr), Wd (T + 1) W1 → G__law_take [.drw, .int n] W = .ok (false, .int (W1.rest % n)) { W1 with rest := W1.rest / n } → ∃ r W', 0 ≤ r ∧ r < n ∧ Wd (T + 1) W' ∧ G__law_take [.drw, .int n] W = .ok (false, .int r) W' := fun W1 h1 e =>
    ⟨W1.rest % n, { W1 with rest := W1.rest / n }, Int.emod_nonneg _ (by omega), Int.emod_lt_of_pos _ hn, ⟨h1.t0, h1.t1, Int.ediv_nonneg h1.rs (by omega), h1.wd, h1.cl⟩, e⟩
  by_cases h0 : W.rest = 0
  · cases hw : W.wide with
    | nil =>
      obtain ⟨r, h1, e⟩ := mixed_ok h hT
      refine key { W with turn := W.turn + 1, rest := r } ⟨by simp only; omega, by simp only; omega, h1, h.wd, h.cl⟩ ?_
      unfold G__law_take Z.run B__law_take
      simp [edN0, edN1, edN2, edN3, wip, SOut.wp, vl_int, vl_str, vl_bl, vl_non, nd2, Nat.reduceLeDiff, Nat.reduceEqDiff, not_false_eq_true, and_self, and_true, true_and, putAll, big_eq, ↓evS_for, ↓ev_lc, evS, evT, evA, ev, evL, evO, evI, Out.bind, Out.st, ofS, ofO, D.isBl, vo, put, Vl.isFr, Vl.all, biD, ds, ts, sets, List.flatMap_cons, List.flatMap_nil, List.map_cons, List.map_nil, List.append_nil, List.nil_append, vl_nil, vf_nil, frz_nil, List.getElem?_cons_zero, List.getElem?_cons_succ, List.set_cons_zero, List.set_cons_succ, Bool.false_eq_true, if_false, if_true, reduceIte, List.length_cons, List.length_nil, Nat.reduceAdd, Nat.reduceSub, List.replicate, List.cons_append, List.replicate_succ, List.replicate_zero, Option.map_some, Option.map_none, Bool.not_true, Bool.not_false, List.singleton_append, cmpD, D.eq, D.pyN, PyData.eqv, binD, intD, h0, hw, e, hn, hn2]
    | cons w ws =>
      refine key { W with wide := ws, rest := w } ⟨ht, by simp only; omega, h.wd w (by rw [hw]; simp), fun x hx => h.wd x (by rw [hw]; exact List.mem_cons_of_mem _ hx), h.cl⟩ ?_
      unfold G__law_take Z.run B__law_take
      simp [edN0, edN1, edN2, edN3, wip, SOut.wp, vl_int, vl_str, vl_bl, vl_non, nd2, Nat.reduceLeDiff, Nat.reduceEqDiff, not_false_eq_true, and_self, and_true, true_and, putAll, big_eq, ↓evS_for, ↓ev_lc, evS, evT, evA, ev, evL, evO, evI, Out.bind, Out.st, ofS, ofO, D.isBl, vo, put, Vl.isFr, Vl.all, biD, ds, ts, sets, List.flatMap_cons, List.flatMap_nil, List.map_cons, List.map_nil, List.append_nil, List.nil_append, vl_nil, vf_nil, frz_nil, List.getElem?_cons_zero, List.getElem?_cons_succ, List.set_cons_zero, List.set_cons_succ, Bool.false_eq_true, if_false, if_true, reduceIte, List.length_cons, List.length_nil, Nat.reduceAdd, Nat.reduceSub, List.replicate, List.cons_append, List.replicate_succ, List.replicate_zero, Option.map_some, Option.map_none, Bool.not_true, Bool.not_false, List.singleton_append, cmpD, D.eq, D.pyN, PyData.eqv, binD, intD, h0, hw, hn, hn2]
  · refine key W (h.mono (by omega)) ?_
    unfold G__law_take Z.run B__law_take
    simp [edN0, edN1, edN2, edN3, wip, SOut.wp, vl_int, vl_str, vl_bl, vl_non, nd2, Nat.reduceLeDiff, Nat.reduceEqDiff, not_false_eq_true, and_self, and_true, true_and, putAll, big_eq, ↓evS_for, ↓ev_lc, evS, evT, evA, ev, evL, evO, evI, Out.bind, Out.st, ofS, ofO, D.isBl, vo, put, Vl.isFr, Vl.all, biD, ds, ts, sets, List.flatMap_cons, List.flatMap_nil, List.map_cons, List.map_nil, List.append_nil, List.nil_append, vl_nil, vf_nil, frz_nil, List.getElem?_cons_zero, List.getElem?_cons_succ, List.set_cons_zero, List.set_cons_succ, Bool.false_eq_true, if_false, if_true, reduceIte, List.length_cons, List.length_nil, Nat.reduceAdd, Nat.reduceSub, List.replicate, List.cons_append, List.replicate_succ, List.replicate_zero, Option.map_some, Option.map_none, Bool.not_true, Bool.not_false, List.singleton_append, cmpD, D.eq, D.pyN, PyData.eqv, binD, intD, h0, hn, hn2]
theorem pick_ok {T : Nat} {xs : List D} {W : Dr} (h : Wd T W) (hT : T ≤ 1099511627776) (hn : xs ≠ []) (hn2 : xs.length < 1073741824) : ∃ x W', x ∈ xs ∧ Wd (T + 1) W' ∧ G__law_pick [.drw, .lst xs] W = .ok (false, x) W' := by
  have hl : 0 < xs.length := List.length_pos_iff.mpr hn
  obtain ⟨r, W', h1, h2, h3, e⟩ := take_ok (n := (xs.length : Int)) h hT (by omega) (by omega)
  obtain ⟨x, hx, e2, _⟩ := atD_mem (xs := xs) h1 h2
  refine ⟨x, W', hx, h3, ?_⟩
  unfold G__law_pick Z.run B__law_pick
  simp [edN0, edN1, edN2, edN3, wip, SOut.wp, vl_int, vl_str, vl_bl, vl_non, nd2, Nat.reduceLeDiff, Nat.reduceEqDiff, not_false_eq_true, and_self, and_true, true_and, putAll, big_eq, ↓evS_for, ↓ev_lc, evS, evT, evA, ev, evL, evO, evI, Out.bind, Out.st, ofS, ofO, D.isBl, vo, put, Vl.isFr, Vl.all, biD, ds, ts, sets, List.flatMap_cons, List.flatMap_nil, List.map_cons, List.map_nil, List.append_nil, List.nil_append, vl_nil, vf_nil, frz_nil, List.getElem?_cons_zero, List.getElem?_cons_succ, List.set_cons_zero, List.set_cons_succ, Bool.false_eq_true, if_false, if_true, reduceIte, List.length_cons, List.length_nil, Nat.reduceAdd, Nat.reduceSub, List.replicate, List.cons_append, List.replicate_succ, List.replicate_zero, Option.map_some, Option.map_none, Bool.not_true, Bool.not_false, List.singleton_append, lenD, ixD, e, e2]
theorem perm_erase {α : Type} : ∀ (l : List α) {i : Nat} (h : i < l.length), (l[i] :: l.eraseIdx i).Perm l
  | [], i, h => by simp at h
  | x :: l, 0, h => by simp
  | x :: l, i + 1, h => by
    have h' : i < l.length := by simpa using h
    simp only [List.getElem_cons_succ, List.eraseIdx_cons_succ]
    exact (List.Perm.swap x l[i] (l.eraseIdx i)).trans ((perm_erase l h').cons x)
theorem shuffled_ok {T : Nat} {xs : List D} {W : Dr} (h : Wd T W) (hT : T + xs.length ≤ 1099511627776) (hp : ∀ x ∈ xs, Pd 11 x) (hl : xs.length < 999999) : ∃ ys W', ys.Perm xs ∧ Wd (T + xs.length) W' ∧ G__law_shuffled [.drw, .lst xs] W = .ok (true, .lst ys) W' := by
  obtain ⟨ρ', W', e, left, found, rfl, hn, hperm, hw⟩ := whl_inv (c := evT T__law_shuffled_1) (f := evS 1000000 B__law_shuffled_2)
    (fun n ρ V => ∃ left found, ρ = [.val .drw, .val (.lst xs), .own (.lst left), .own (.lst found)] ∧ left.length = n ∧ (left ++ found).Perm xs ∧ Wd (T + (xs.length - n)) V) (fun n ρ V ⟨left, found, e1, e2, e3, e4⟩ => by
      subst e1
      have hpl : ∀ x ∈ left, Pd 11 x := fun x hx => hp x (e3.subset (List.mem_append_left _ hx))
      have hlen : left.length + found.length = xs.length := by rw [← e3.length_eq, List.length_append]
      have hc : evT T__law_shuffled_1 [.val .drw, .val (.lst xs), .own (.lst left), .own (.lst found)] V = .ok (!left.isEmpty) V := by
        simp [T__law_shuffled_1, edN0, edN1, edN2, edN3, wip, SOut.wp, vl_int, vl_str, vl_bl, vl_non, nd2, Nat.reduceLeDiff, Nat.reduceEqDiff, not_false_eq_true, and_self, and_true, true_and, putAll, big_eq, ↓evS_for, ↓ev_lc, evS, evT, evA, ev, evL, evO, evI, Out.bind, Out.st, ofS, ofO, D.isBl, vo, put, Vl.isFr, Vl.all, biD, ds, ts, sets, List.flatMap_cons, List.flatMap_nil, List.map_cons, List.map_nil, List.append_nil, List.nil_append, vl_nil, vf_nil, frz_nil, List.getElem?_cons_zero, List.getElem?_cons_succ, List.set_cons_zero, List.set_cons_succ, Bool.false_eq_true, if_false, if_true, reduceIte, List.length_cons, List.length_nil, Nat.reduceAdd, Nat.reduceSub, List.replicate, List.cons_append, List.replicate_succ, List.replicate_zero, Option.map_some, Option.map_none, Bool.not_true, Bool.not_false, List.singleton_append, cmpD, eq_nil hpl]
      cases left with
      | nil =>
        refine .inl ⟨V, hc, [], found, rfl, rfl, e3, ?_⟩
        simp only [List.length_nil] at e2
        rw [← e2] at e4
        exact e4
      | cons y0 l0 =>
        generalize hL : y0 :: l0 = left at *
        have h0 : 0 < left.length := by rw [← hL]; simp
        refine .inr ⟨n - 1, V, by omega, by rw [hc, ← hL]; rfl, ?_⟩
        obtain ⟨r, W', h1, h2, h3, e⟩ := take_ok (n := (left.length : Int)) e4 (by omega) (by omega) (by omega)
        have hr : r.toNat < left.length := by omega
        refine ⟨[.val .drw, .val (.lst xs), .own (.lst (left.eraseIdx r.toNat)), .own (.lst (found ++ [left[r.toNat]]))], W', .inl ?_, _, _, rfl, ?_, ?_, ?_⟩
        · unfold B__law_shuffled_2
          have hcap : found.length < cap := by unfold cap; omega
          have hb : -9223372036854775808 ≤ r ∧ r < 9223372036854775808 := ⟨by omega, by omega⟩
          simp [edN0, edN1, edN2, edN3, wip, SOut.wp, vl_int, vl_str, vl_bl, vl_non, nd2, Nat.reduceLeDiff, Nat.reduceEqDiff, not_false_eq_true, and_self, and_true, true_and, putAll, big_eq, ↓evS_for, ↓ev_lc, evS, evT, evA, ev, evL, evO, evI, Out.bind, Out.st, ofS, ofO, D.isBl, vo, put, Vl.isFr, Vl.all, biD, ds, ts, sets, List.flatMap_cons, List.flatMap_nil, List.map_cons, List.map_nil, List.append_nil, List.nil_append, vl_nil, vf_nil, frz_nil, List.getElem?_cons_zero, List.getElem?_cons_succ, List.set_cons_zero, List.set_cons_succ, Bool.false_eq_true, if_false, if_true, reduceIte, List.length_cons, List.length_nil, Nat.reduceAdd, Nat.reduceSub, List.replicate, List.cons_append, List.replicate_succ, List.replicate_zero, Option.map_some, Option.map_none, Bool.not_true, Bool.not_false, List.singleton_append, lenD, e, popD, ixOf_int h1 h2, List.getElem?_eq_getElem hr, hcap, hb]
        · rw [List.length_eraseIdx_of_lt hr]; omega
        · refine List.Perm.trans ?_ e3
          refine (List.perm_append_comm (l₁ := left.eraseIdx r.toNat)).trans ?_
          rw [List.append_assoc]
          refine (List.perm_append_comm (l₁ := found)).trans ?_
          refine List.Perm.append_right found ?_
          exact perm_erase _ hr
        · exact h3.mono (by omega))
    xs.length 1000000 (ρ := [.val .drw, .val (.lst xs), .own (.lst xs), .own (.lst [])]) (W := W) ⟨xs, [], rfl, rfl, by rw [List.append_nil], h.mono (by omega)⟩ (by omega)
  have : left = [] := List.length_eq_zero_iff.mp hn
  subst this
  refine ⟨found, W', hperm, hw.mono (by omega), ?_⟩
  unfold G__law_shuffled Z.run B__law_shuffled
  simp [edN0, edN1, edN2, edN3, wip, SOut.wp, vl_int, vl_str, vl_bl, vl_non, nd2, Nat.reduceLeDiff, Nat.reduceEqDiff, not_false_eq_true, and_self, and_true, true_and, putAll, big_eq, ↓evS_for, ↓ev_lc, evS, evT, evA, ev, evL, evO, evI, Out.bind, Out.st, ofS, ofO, D.isBl, vo, put, Vl.isFr, Vl.all, biD, ds, ts, sets, List.flatMap_cons, List.flatMap_nil, List.map_cons, List.map_nil, List.append_nil, List.nil_append, vl_nil, vf_nil, frz_nil, List.getElem?_cons_zero, List.getElem?_cons_succ, List.set_cons_zero, List.set_cons_succ, Bool.false_eq_true, if_false, if_true, reduceIte, List.length_cons, List.length_nil, Nat.reduceAdd, Nat.reduceSub, List.replicate, List.cons_append, List.replicate_succ, List.replicate_zero, Option.map_some, Option.map_none, Bool.not_true, Bool.not_false, List.singleton_append, listD, putAll, cap, e]
def hues0 : List Str := ["a", "b", "c", "x", "ab", "ba", "zz", "zzzz", "zzzy", "aaab", "aaaa", "q"]
def hues1 : List Str := ["a", "b", "c", "x", "ab", "ba", "zz", "zzzz", "zzzy", "aaab", "aaaa", "q", "d", "e", "f", "g"]
def sts (l : List Str) : List D := l.map .str
def th (l : List Str) : D := .tup (sts l)
theorem sts_mem {l : List Str} {x : D} (h : x ∈ sts l) : ∃ s ∈ l, x = .str s := by
  obtain ⟨s, h1, rfl⟩ := List.mem_map.mp h
  exact ⟨s, h1, rfl⟩
theorem sts_of : ∀ {xs : List D} {l : List Str}, (∀ x ∈ xs, x ∈ sts l) → ∃ k, xs = sts k ∧ ∀ s ∈ k, s ∈ l
  | [], _, _ => ⟨[], rfl, fun _ h => by cases h⟩
  | x :: xs, l, h => by
    obtain ⟨s, hs, rfl⟩ := sts_mem (h x List.mem_cons_self)
    obtain ⟨k, rfl, hk⟩ := sts_of fun y hy => h y (List.mem_cons_of_mem _ hy)
    exact ⟨s :: k, rfl, fun t ht => (List.mem_cons.mp ht).elim (fun e => e ▸ hs) (hk t)⟩
theorem sts_perm {xs : List D} {l : List Str} (h : xs.Perm (sts l)) : ∃ k, xs = sts k ∧ k.Perm l := by
  obtain ⟨k, rfl, hk⟩ := sts_of fun x hx => h.subset hx
  refine ⟨k, rfl, ?_⟩
  have := h.map fun d => match d with | .str s => s | _ => default
  simpa [sts, List.map_map, Function.comp_def] using this
theorem pd_sts {n : Nat} {l : List Str} : ∀ x ∈ sts l, Pd n x := fun x hx => by
  obtain ⟨s, _, rfl⟩ := sts_mem hx
  exact pd_str
theorem imm_th {l : List Str} : (th l).imm = true := by simp only [th, D.imm]; exact imm_strs l
theorem hues_ok {T : Nat} {n : Int} {W : Dr} (h : Wd T W) (hT : T ≤ 1099511627000) (hn : 0 ≤ n) (h2 : n ≤ 12) : ∃ k W', k.length = n.toNat ∧ (∀ s ∈ k, s ∈ hues0) ∧ k.Nodup ∧ Wd (T + 12) W' ∧ G__law_hues [.drw, .int n] W = .ok (true, .lst (sts k)) W' := by
  obtain ⟨ys, W', hp, hw, e⟩ := shuffled_ok (xs := sts hues0) h (by simp [sts, hues0]; omega) pd_sts (by simp [sts, hues0])
  obtain ⟨k, rfl, hk⟩ := sts_perm hp
  refine ⟨k.take n.toNat, W', ?_, fun s hs => hk.subset (List.mem_of_mem_take hs), ?_, by simpa [sts, hues0] using hw, ?_⟩
  · have := hk.length_eq
    simp only [hues0, List.length_cons, List.length_nil] at this
    rw [List.length_take]; omega
  · exact (List.Pairwise.sublist (List.take_sublist _ _) (hk.nodup_iff.mpr (by decide +kernel)))
  · unfold G__law_hues Z.run B__law_hues
    have : sts hues0 = [.str "a", .str "b", .str "c", .str "x", .str "ab", .str "ba", .str "zz", .str "zzzz", .str "zzzy", .str "aaab", .str "aaaa", .str "q"] := rfl
    rw [this] at e
    simp [edN0, edN1, edN2, edN3, wip, SOut.wp, vl_int, vl_str, vl_bl, vl_non, nd2, Nat.reduceLeDiff, Nat.reduceEqDiff, not_false_eq_true, and_self, and_true, true_and, putAll, big_eq, ↓evS_for, ↓ev_lc, evS, evT, evA, ev, evL, evO, evI, Out.bind, Out.st, ofS, ofO, D.isBl, vo, put, Vl.isFr, Vl.all, biD, ds, ts, sets, List.flatMap_cons, List.flatMap_nil, List.map_cons, List.map_nil, List.append_nil, List.nil_append, vl_nil, vf_nil, frz_nil, List.getElem?_cons_zero, List.getElem?_cons_succ, List.set_cons_zero, List.set_cons_succ, Bool.false_eq_true, if_false, if_true, reduceIte, List.length_cons, List.length_nil, Nat.reduceAdd, Nat.reduceSub, List.replicate, List.cons_append, List.replicate_succ, List.replicate_zero, Option.map_some, Option.map_none, Bool.not_true, Bool.not_false, List.singleton_append, cap, e, slD, cut_to hn]
    simp [sts, List.map_take]
structure Lns (P : Str → Prop) (most beads : Nat) (ls : List (List Str)) : Prop where
  one : 1 ≤ ls.length
  most : ls.length ≤ most
  ne : ∀ l ∈ ls, l ≠ []
  of : ∀ l ∈ ls, ∀ s ∈ l, P s
  sum : (ls.map List.length).sum ≤ beads
def tD (ls : List (List Str)) : List D := ls.map th
theorem sum_set {ls : List (List Str)} {i : Nat} {l : List Str} (h : i < ls.length) : ((ls.set i l).map List.length).sum + ls[i].length = (ls.map List.length).sum + l.length := by
  induction ls generalizing i with
  | nil => simp at h
  | cons a ls ih =>
    cases i with
    | zero => simp; omega
    | succ i =>
      have := ih (i := i) (by simpa using h)
      simp only [List.set_cons_succ, List.map_cons, List.sum_cons, List.getElem_cons_succ]
      omega
theorem lines1 {T : Nat} {hs : List Str} {m b : D} {n : Int} {s5 s7 : Sl} {x : D} {W : Dr} (h : Wd T W) (hT : T ≤ 1099511627776) (hn : hs ≠ []) (hn2 : hs.length < 1073741824) :
    ∃ s W', s ∈ hs ∧ Wd (T + 1) W' ∧ ev E__law_lines_1 ((wip [.val .drw, .val (.lst (sts hs)), .val m, .val b, .val (.int n), s5, .un, s7] [6]).set 6 (.val x)) W = .ok ⟨th [s], .pl, []⟩ W' := by
  obtain ⟨y, W', h1, h2, e⟩ := pick_ok (xs := sts hs) h hT (by simpa [sts] using hn) (by simpa [sts] using hn2)
  obtain ⟨s, hs, rfl⟩ := sts_mem h1
  refine ⟨s, W', hs, h2, ?_⟩
  have e' : th [s] = .tup [.str s] := rfl
  rw [e']
  unfold E__law_lines_1
  simp [edN0, edN1, edN2, edN3, wip, SOut.wp, vl_int, vl_str, vl_bl, vl_non, nd2, Nat.reduceLeDiff, Nat.reduceEqDiff, not_false_eq_true, and_self, and_true, true_and, putAll, big_eq, ↓evS_for, ↓ev_lc, evS, evT, evA, ev, evL, evO, evI, Out.bind, Out.st, ofS, ofO, D.isBl, vo, put, Vl.isFr, Vl.all, biD, ds, ts, sets, List.flatMap_cons, List.flatMap_nil, List.map_cons, List.map_nil, List.append_nil, List.nil_append, vl_nil, vf_nil, frz_nil, List.getElem?_cons_zero, List.getElem?_cons_succ, List.set_cons_zero, List.set_cons_succ, Bool.false_eq_true, if_false, if_true, reduceIte, List.length_cons, List.length_nil, Nat.reduceAdd, Nat.reduceSub, List.replicate, List.cons_append, List.replicate_succ, List.replicate_zero, Option.map_some, Option.map_none, Bool.not_true, Bool.not_false, List.singleton_append, wip, e, cap]
theorem lines2 {T : Nat} {hs : List Str} {m b x : D} {ls : List (List Str)} {s7 : Sl} {s6 : Sl} {W : Dr} (h : Wd T W) (hT : T + 1 ≤ 1099511627776) (hn : hs ≠ []) (hn2 : hs.length < 1073741824) (hl : 1 ≤ ls.length) (hl2 : ls.length < 1000) (hl3 : ∀ l ∈ ls, l.length ≤ 1000) :
    ∃ i s W', ∃ hi : i < ls.length, s ∈ hs ∧ Wd (T + 2) W' ∧ forOne 1000000 B__law_lines_2 (.nm 6) x [.val .drw, .val (.lst (sts hs)), .val m, .val b, .val (.int ls.length), .own (.lst (tD ls)), s6, s7] W =
      .nx [.val .drw, .val (.lst (sts hs)), .val m, .val b, .val (.int ls.length), .own (.lst (tD (ls.set i (ls[i] ++ [s])))), .val x, .val (.int i)] W' := by
  obtain ⟨r, W1, r0, r1, hw, e⟩ := take_ok (n := (ls.length : Int)) h (by omega) (by omega) (by omega)
  obtain ⟨i, rfl⟩ := Int.eq_ofNat_of_zero_le r0
  have hi : i < ls.length := by omega
  obtain ⟨y, W2, h1, h2, e2⟩ := pick_ok (xs := sts hs) hw (by omega) (by simpa [sts] using hn) (by simpa [sts] using hn2)
  obtain ⟨s, hs, rfl⟩ := sts_mem h1
  refine ⟨i, s, W2, hi, hs, h2, ?_⟩
  have hi2 : i < (tD ls).length := by simpa [tD] using hi
  have e3 : ixD (.lst (tD ls)) (.int i) = some (th ls[i]) := by
    simp only [ixD]
    rw [atD_nat hi2]
    simp [tD]
  have hz : ls[i].length + 1 ≤ 16777216 := by have := hl3 ls[i] (List.getElem_mem _); omega
  have e4 : binD .Add (th ls[i]) (.tup [.str s]) = some (false, th (ls[i] ++ [s])) := by
    simp [binD, th, sts, hz]
  have e5 : ixOf (tD ls).length (i : Int) = some i := ixOf_nat hi2
  show evS 1000000 B__law_lines_2 _ _ = _
  unfold B__law_lines_2
  simp [edN0, edN1, edN2, edN3, wip, SOut.wp, vl_int, vl_str, vl_bl, vl_non, nd2, Nat.reduceLeDiff, Nat.reduceEqDiff, not_false_eq_true, and_self, and_true, true_and, putAll, big_eq, ↓evS_for, ↓ev_lc, evS, evT, evA, ev, evL, evO, evI, Out.bind, Out.st, ofS, ofO, D.isBl, vo, put, Vl.isFr, Vl.all, biD, ds, ts, sets, List.flatMap_cons, List.flatMap_nil, List.map_cons, List.map_nil, List.append_nil, List.nil_append, vl_nil, vf_nil, frz_nil, List.getElem?_cons_zero, List.getElem?_cons_succ, List.set_cons_zero, List.set_cons_succ, Bool.false_eq_true, if_false, if_true, reduceIte, List.length_cons, List.length_nil, Nat.reduceAdd, Nat.reduceSub, List.replicate, List.cons_append, List.replicate_succ, List.replicate_zero, Option.map_some, Option.map_none, Bool.not_true, Bool.not_false, List.singleton_append, e, e2, e3, e4, e5, cap, imm_th]
  simp [tD, List.map_set]
theorem sum_ge {ls : List (List Str)} {l : List Str} (h : l ∈ ls) : l.length ≤ (ls.map List.length).sum := by
  induction ls with
  | nil => cases h
  | cons a ls ih =>
    rcases List.mem_cons.mp h with rfl | h
    · simp
    · have := ih h
      simp only [List.map_cons, List.sum_cons]
      omega
theorem lines_ok {T most beads : Nat} {hs : List Str} {W : Dr} (h : Wd T W) (hT : T + 200 ≤ 1099511627776) (hn : hs ≠ []) (hn2 : hs.length < 1000) (hm : 1 ≤ most) (hm2 : most ≤ 20) (hb : most ≤ beads) (hb2 : beads ≤ 60) :
    ∃ ls W', Lns (· ∈ hs) most beads ls ∧ Wd (T + 200) W' ∧ G__law_lines [.drw, .lst (sts hs), .int most, .int beads] W = .ok (true, .lst (tD ls)) W' := by
  obtain ⟨r, W1, r0, r1, hw, e1⟩ := take_ok (n := (most : Int)) h (by omega) (by omega) (by omega)
  obtain ⟨n, hnn⟩ := Int.eq_ofNat_of_zero_le (show 0 ≤ 1 + r by omega)
  -- the first beads
  obtain ⟨ys, W2, e2, ls, rfl, l1, l2, hw2⟩ := lc_inv0 (one := lcOne E__law_lines_1 .nil (.nm 6) [6] [.val .drw, .val (.lst (sts hs)), .val (.int most), .val (.int beads), .val (.int n), .un, .un, .un]) (xs := (List.range n).map fun k : Nat => .int (k : Int)) (W := W1)
    (fun k acc V => ∃ ls : List (List Str), acc = tD ls ∧ ls.length = k ∧ (∀ l ∈ ls, ∃ s ∈ hs, l = [s]) ∧ Wd (T + 1 + k) V) ⟨[], rfl, rfl, (fun _ h => by cases h), hw⟩ (by simp [cap]; omega) (fun k x acc V hx ⟨ls, e3, e4, e5, e6⟩ => by
      subst e3
      obtain ⟨rfl, hk⟩ := rng_at hx
      obtain ⟨s, W', hs, h2, e⟩ := lines1 (m := .int most) (b := .int beads) (n := n) (s5 := .un) (s7 := .un) (x := .int k) e6 (by omega) hn (by omega)
      refine .inr ⟨_, W', lcOne_ok e, rfl, ls ++ [[s]], by simp [tD], by simp [e4], fun l hl => ?_, h2.mono (by omega)⟩
      rcases List.mem_append.mp hl with hl | hl
      · exact e5 l hl
      · exact ⟨s, hs, by simpa using hl⟩)
  rw [rng_len] at l1 hw2
  have hsum : (ls.map List.length).sum = n := by
    rw [← l1]
    clear l1 e2
    induction ls with
    | nil => rfl
    | cons a ls ih =>
      obtain ⟨s, _, rfl⟩ := l2 a List.mem_cons_self
      have := ih fun l hl => l2 l (List.mem_cons_of_mem _ hl)
      simp only [List.map_cons, List.sum_cons, this, List.length_cons, List.length_nil]
      omega
  -- the others
  obtain ⟨r2, W3, r20, r21, hw3, e3⟩ := take_ok (n := (beads : Int) - n + 1) hw2 (by omega) (by omega) (by omega)
  obtain ⟨m, rfl⟩ := Int.eq_ofNat_of_zero_le r20
  obtain ⟨ρ', W4, e4, ls', s6, s7, rfl, q1, q2, q3, hw4⟩ := for_inv0 (f := forOne 1000000 B__law_lines_2 (.nm 6)) (xs := (List.range m).map fun k : Nat => .int (k : Int)) (ρ := [.val .drw, .val (.lst (sts hs)), .val (.int most), .val (.int beads), .val (.int n), .own (.lst (tD ls)), .un, .un]) (W := W3)
    (fun k ρ V => ∃ (ls : List (List Str)) (s6 s7 : Sl), ρ = [.val .drw, .val (.lst (sts hs)), .val (.int most), .val (.int beads), .val (.int n), .own (.lst (tD ls)), s6, s7] ∧ ls.length = n ∧ (∀ l ∈ ls, l ≠ [] ∧ ∀ s ∈ l, s ∈ hs) ∧ (ls.map List.length).sum = n + k ∧ Wd (T + 1 + n + 1 + 2 * k) V)
    ⟨ls, .un, .un, rfl, l1, fun l hl => by obtain ⟨s, hs, rfl⟩ := l2 l hl; exact ⟨by simp, fun t ht => by rw [List.mem_singleton.mp ht]; exact hs⟩, hsum, hw3⟩ (fun k x ρ V hx ⟨ls, s6, s7, e5, e6, e7, e8, e9⟩ => by
      subst e5
      obtain ⟨rfl, hk⟩ := rng_at hx
      obtain ⟨i, s, W', hi, hs, h2, e⟩ := lines2 (m := .int most) (b := .int beads) (x := .int k) (ls := ls) (s6 := s6) (s7 := s7) e9 (by omega) hn (by omega) (by omega) (by omega) (fun l hl => by have := sum_ge hl; omega)
      rw [e6] at e
      refine ⟨_, W', .inl e, _, _, _, rfl, by simp [e6], fun l hl => ?_, ?_, h2.mono (by omega)⟩
      · rcases List.mem_or_eq_of_mem_set hl with hl | rfl
        · exact e7 l hl
        · refine ⟨by simp, fun t ht => ?_⟩
          rcases List.mem_append.mp ht with ht | ht
          · exact (e7 _ (List.getElem_mem hi)).2 t ht
          · rw [List.mem_singleton.mp ht]; exact hs
      · have := sum_set (l := ls[i] ++ [s]) hi
        simp only [List.length_append, List.length_cons, List.length_nil] at this
        omega)
  rw [rng_len] at q3 hw4
  refine ⟨ls', W4, ⟨by omega, by omega, fun l hl => (q2 l hl).1, fun l hl => (q2 l hl).2, by omega⟩, hw4.mono (by omega), ?_⟩
  unfold G__law_lines Z.run B__law_lines
  have g1 : rngD [.int n] = some ((List.range n).map fun k : Nat => .int (k : Int)) := by
    have := rngD1 (n := (n : Int)) (by omega) (by omega)
    rwa [Int.toNat_natCast] at this
  have g2 : rngD [.int m] = some ((List.range m).map fun k : Nat => .int (k : Int)) := by
    have := rngD1 (n := (m : Int)) (by omega) (by omega)
    rwa [Int.toNat_natCast] at this
  simp only [edN0, edN1, edN2, edN3, wip, SOut.wp, vl_int, vl_str, vl_bl, vl_non, nd2, Nat.reduceLeDiff, Nat.reduceEqDiff, not_false_eq_true, and_self, and_true, true_and, putAll, big_eq, ↓evS_for, ↓ev_lc, evS, evT, evA, ev, evL, evO, evI, Out.bind, Out.st, ofS, ofO, D.isBl, vo, put, Vl.isFr, Vl.all, biD, ds, ts, sets, List.flatMap_cons, List.flatMap_nil, List.map_cons, List.map_nil, List.append_nil, List.nil_append, vl_nil, vf_nil, frz_nil, List.getElem?_cons_zero, List.getElem?_cons_succ, List.set_cons_zero, List.set_cons_succ, Bool.false_eq_true, if_false, if_true, reduceIte, List.length_cons, List.length_nil, Nat.reduceAdd, Nat.reduceSub, List.replicate, List.cons_append, List.replicate_succ, List.replicate_zero, Option.map_some, Option.map_none, Bool.not_true, Bool.not_false, List.singleton_append, binD, e1, hnn, g1, e2, e3, g2, e4]
end Z

namespace Z
open PySem
theorem len_th {l : List Str} : lenD [th l] = some (false, .int l.length) := by simp [lenD, th, sts]
theorem ints_map : ∀ l : List Int, D.ints (l.map .int) = some l
  | [] => rfl
  | x :: l => by simp [D.ints, ints_map l]
theorem Lns.imp {P Q : Str → Prop} {m b m' b' : Nat} {ls : List (List Str)} (h : Lns P m b ls) (k : ∀ s, P s → Q s) (hm : m ≤ m') (hb : b ≤ b') : Lns Q m' b' ls := ⟨h.one, by have := h.most; omega, h.ne, fun l hl s hs => k s (h.of l hl s hs), by have := h.sum; omega⟩
theorem hues01 : ∀ s ∈ hues0, s ∈ hues1 := by decide +kernel
end Z

namespace Z
open PySem
def abc : Str := "abcdefghijklmnopqrstuvwxyz"
def isLetter (c : Nat) : Bool := !(Builtin.Str.occurrences abc ⟨#[c]⟩ 0 abc.length 1).isEmpty
def isColor (s : Str) : Bool := decide (1 ≤ s.length) && decide (s.length ≤ 4) && s.cps.toList.all isLetter
theorem hue_color : ∀ s ∈ hues1, isColor s = true := by decide +kernel
mutual
/-- data of the usual kinds, no texts beyond measure -/
def D.gd : D → Bool
  | .str s => decide (s.length ≤ 16777216)
  | .tup xs => D.gdL xs && decide (xs.length ≤ 16777216)
  | .lst xs => D.gdL xs && decide (xs.length ≤ 16777216)
  | .non => true
  | .bl _ => true
  | .int _ => true
  | .dic false _ => true
  | .ins _ _ => true
  | .exc _ [] => true
  | _ => false
def D.gdL : List D → Bool
  | [] => true
  | x :: xs => D.gd x && D.gdL xs
end
theorem gdL_iff : ∀ {xs : List D}, D.gdL xs = true ↔ ∀ x ∈ xs, x.gd = true
  | [] => by simp [D.gdL]
  | x :: xs => by simp [D.gdL, gdL_iff (xs := xs)]
theorem gd_typed {x : D} (h : x.gd = true) : x.typed = true := by
  cases x
  case exc c fs =>
    cases fs with
    | nil => rfl
    | cons _ _ => simp [D.gd] at h
  case dic t kvs =>
    cases t
    · rfl
    · simp [D.gd] at h
  all_goals first | rfl | (simp [D.gd] at h; done)
def isColorD : D → Bool
  | .str s => isColor s
  | _ => false
def isThreadD : D → Bool
  | .tup xs => !xs.isEmpty && xs.all isColorD
  | _ => false
theorem bls_map : ∀ l : List Bool, D.bls (l.map .bl) = some l
  | [] => rfl
  | x :: l => by simp [D.bls, bls_map l]
theorem lc_bools {el : E} {pt : Pat} {own : List Nat} {ρ : En} {W : Dr} {xs : List D} {p : D → Bool} (hl : xs.length ≤ 16777216) (h : ∀ x ∈ xs, lcOne el .nil pt own ρ x W = .ok (some ⟨.bl (p x), .pl, []⟩) W) :
    lcGo (lcOne el .nil pt own ρ) xs [] [] W = .ok ⟨.lst ((xs.map p).map .bl), .fr, []⟩ W := by
  rw [lc_map (g := fun x => some (.bl (p x))) xs (by simpa [cap] using hl) fun x hx => ⟨_, h x hx, rfl, fun v hv => by cases hv; rfl⟩]
  simp [List.filterMap_eq_map', Function.comp_def]
theorem all_map {p : D → Bool} {xs : List D} : allD [.lst ((xs.map p).map .bl)] = some (false, .bl (xs.all p)) := by
  simp only [allD, bls_map, Option.map_some]
  simp [List.all_map, Function.comp_def]
theorem is_color_ok {x : D} {W : Dr} (h : x.gd = true) : G_is_color [x] W = .ok (false, .bl (isColorD x)) W := by
  have ht := gd_typed h
  cases x
  case str s =>
    have hs : s.length ≤ 16777216 := by simpa [D.gd] using h
    have l1 := lc_bools (el := E_is_color_1) (pt := .nm 1) (own := [1]) (ρ := [.val (.str s), .un]) (W := W) (xs := s.cps.toList.map fun c => .str ⟨#[c]⟩) (p := fun d => match d with | .str t => !(Builtin.Str.occurrences abc t 0 abc.length 1).isEmpty | _ => false)
      (by rw [List.length_map]; exact hs) fun y hy => by
        obtain ⟨c, _, rfl⟩ := List.mem_map.mp hy
        refine lcOne_ok ?_
        unfold E_is_color_1
        simp only [edN0, edN1, edN2, edN3, wip, SOut.wp, vl_int, vl_str, vl_bl, vl_non, nd2, Nat.reduceLeDiff, Nat.reduceEqDiff, not_false_eq_true, and_self, and_true, true_and, putAll, big_eq, ↓evS_for, ↓ev_lc, evS, evT, evA, ev, evL, evO, evI, Out.bind, Out.st, ofS, ofO, D.isBl, vo, put, Vl.isFr, Vl.all, biD, ds, ts, sets, List.flatMap_cons, List.flatMap_nil, List.map_cons, List.map_nil, List.append_nil, List.nil_append, vl_nil, vf_nil, frz_nil, List.getElem?_cons_zero, List.getElem?_cons_succ, List.set_cons_zero, List.set_cons_succ, Bool.false_eq_true, if_false, if_true, reduceIte, List.length_cons, List.length_nil, Nat.reduceAdd, Nat.reduceSub, List.replicate, List.cons_append, List.replicate_succ, List.replicate_zero, Option.map_some, Option.map_none, Bool.not_true, Bool.not_false, List.singleton_append, wip]
        rfl
    have hc : cmpD .LtE (.int 1) (.int s.length) = some (decide (1 ≤ s.length)) := by
      simp only [cmpD]; congr 1; exact decide_eq_decide.mpr (by omega)
    have hc2 : cmpD .LtE (.int s.length) (.int 4) = some (decide (s.length ≤ 4)) := by
      simp only [cmpD]; congr 1; exact decide_eq_decide.mpr (by omega)
    have hlen : lenD [.str s] = some (false, .int s.length) := by simp only [lenD]; exact if_pos hs
    have hit : (D.str s).items = some (s.cps.toList.map fun c => .str ⟨#[c]⟩) := rfl
    have hall : (s.cps.toList.map fun c => D.str ⟨#[c]⟩).all (fun d => match d with | .str t => !(Builtin.Str.occurrences abc t 0 abc.length 1).isEmpty | _ => false) = s.cps.toList.all isLetter := by
      rw [List.all_map]; rfl
    have hty : [Ty.str].any (isD1 (.str s)) = true := rfl
    unfold G_is_color Z.run B_is_color
    cases h1 : decide (1 ≤ s.length) with
    | false => simp only [edN0, edN1, edN2, edN3, wip, SOut.wp, vl_int, vl_str, vl_bl, vl_non, nd2, Nat.reduceLeDiff, Nat.reduceEqDiff, not_false_eq_true, and_self, and_true, true_and, putAll, big_eq, ↓evS_for, ↓ev_lc, evS, evT, evA, ev, evL, evO, evI, Out.bind, Out.st, ofS, ofO, D.isBl, vo, put, Vl.isFr, Vl.all, biD, ds, ts, sets, List.flatMap_cons, List.flatMap_nil, List.map_cons, List.map_nil, List.append_nil, List.nil_append, vl_nil, vf_nil, frz_nil, List.getElem?_cons_zero, List.getElem?_cons_succ, List.set_cons_zero, List.set_cons_succ, Bool.false_eq_true, if_false, if_true, reduceIte, List.length_cons, List.length_nil, Nat.reduceAdd, Nat.reduceSub, List.replicate, List.cons_append, List.replicate_succ, List.replicate_zero, Option.map_some, Option.map_none, Bool.not_true, Bool.not_false, List.singleton_append, ht, hty, hlen, hc, h1, isColorD, isColor, Bool.false_and]
    | true =>
      cases h2 : decide (s.length ≤ 4) with
      | false => simp only [edN0, edN1, edN2, edN3, wip, SOut.wp, vl_int, vl_str, vl_bl, vl_non, nd2, Nat.reduceLeDiff, Nat.reduceEqDiff, not_false_eq_true, and_self, and_true, true_and, putAll, big_eq, ↓evS_for, ↓ev_lc, evS, evT, evA, ev, evL, evO, evI, Out.bind, Out.st, ofS, ofO, D.isBl, vo, put, Vl.isFr, Vl.all, biD, ds, ts, sets, List.flatMap_cons, List.flatMap_nil, List.map_cons, List.map_nil, List.append_nil, List.nil_append, vl_nil, vf_nil, frz_nil, List.getElem?_cons_zero, List.getElem?_cons_succ, List.set_cons_zero, List.set_cons_succ, Bool.false_eq_true, if_false, if_true, reduceIte, List.length_cons, List.length_nil, Nat.reduceAdd, Nat.reduceSub, List.replicate, List.cons_append, List.replicate_succ, List.replicate_zero, Option.map_some, Option.map_none, Bool.not_true, Bool.not_false, List.singleton_append, ht, hty, hlen, hc, h1, hc2, h2, isColorD, isColor, Bool.false_and, Bool.and_false]
      | true => simp only [edN0, edN1, edN2, edN3, wip, SOut.wp, vl_int, vl_str, vl_bl, vl_non, nd2, Nat.reduceLeDiff, Nat.reduceEqDiff, not_false_eq_true, and_self, and_true, true_and, putAll, big_eq, ↓evS_for, ↓ev_lc, evS, evT, evA, ev, evL, evO, evI, Out.bind, Out.st, ofS, ofO, D.isBl, vo, put, Vl.isFr, Vl.all, biD, ds, ts, sets, List.flatMap_cons, List.flatMap_nil, List.map_cons, List.map_nil, List.append_nil, List.nil_append, vl_nil, vf_nil, frz_nil, List.getElem?_cons_zero, List.getElem?_cons_succ, List.set_cons_zero, List.set_cons_succ, Bool.false_eq_true, if_false, if_true, reduceIte, List.length_cons, List.length_nil, Nat.reduceAdd, Nat.reduceSub, List.replicate, List.cons_append, List.replicate_succ, List.replicate_zero, Option.map_some, Option.map_none, Bool.not_true, Bool.not_false, List.singleton_append, ht, hty, hlen, hc, h1, hc2, h2, hit, l1, all_map, hall, isColorD, isColor, Bool.true_and]
  all_goals
    have hty : ∀ b, [Ty.str].any (isD1 b) = isD1 b .str := fun b => by simp
    unfold G_is_color Z.run B_is_color
    simp only [edN0, edN1, edN2, edN3, wip, SOut.wp, vl_int, vl_str, vl_bl, vl_non, nd2, Nat.reduceLeDiff, Nat.reduceEqDiff, not_false_eq_true, and_self, and_true, true_and, putAll, big_eq, ↓evS_for, ↓ev_lc, evS, evT, evA, ev, evL, evO, evI, Out.bind, Out.st, ofS, ofO, D.isBl, vo, put, Vl.isFr, Vl.all, biD, ds, ts, sets, List.flatMap_cons, List.flatMap_nil, List.map_cons, List.map_nil, List.append_nil, List.nil_append, vl_nil, vf_nil, frz_nil, List.getElem?_cons_zero, List.getElem?_cons_succ, List.set_cons_zero, List.set_cons_succ, Bool.false_eq_true, if_false, if_true, reduceIte, List.length_cons, List.length_nil, Nat.reduceAdd, Nat.reduceSub, List.replicate, List.cons_append, List.replicate_succ, List.replicate_zero, Option.map_some, Option.map_none, Bool.not_true, Bool.not_false, List.singleton_append, ht, hty, isD1, isColorD]
theorem is_thread_ok {x : D} {W : Dr} (h : x.gd = true) : G_is_thread [x] W = .ok (false, .bl (isThreadD x)) W := by
  have ht := gd_typed h
  have hty : ∀ b, [Ty.tuple].any (isD1 b) = isD1 b .tuple := fun b => by simp
  cases x
  case tup xs =>
    have h2 := h
    simp only [D.gd, Bool.and_eq_true, gdL_iff, decide_eq_true_eq] at h2
    have l1 := lc_bools (el := E_is_thread_1) (pt := .nm 1) (own := [1]) (ρ := [.val (.tup xs), .un]) (W := W) (xs := xs) (p := isColorD) h2.2 fun y hy => by
      refine lcOne_ok ?_
      unfold E_is_thread_1
      simp only [edN0, edN1, edN2, edN3, wip, SOut.wp, vl_int, vl_str, vl_bl, vl_non, nd2, Nat.reduceLeDiff, Nat.reduceEqDiff, not_false_eq_true, and_self, and_true, true_and, putAll, big_eq, ↓evS_for, ↓ev_lc, evS, evT, evA, ev, evL, evO, evI, Out.bind, Out.st, ofS, ofO, D.isBl, vo, put, Vl.isFr, Vl.all, biD, ds, ts, sets, List.flatMap_cons, List.flatMap_nil, List.map_cons, List.map_nil, List.append_nil, List.nil_append, vl_nil, vf_nil, frz_nil, List.getElem?_cons_zero, List.getElem?_cons_succ, List.set_cons_zero, List.set_cons_succ, Bool.false_eq_true, if_false, if_true, reduceIte, List.length_cons, List.length_nil, Nat.reduceAdd, Nat.reduceSub, List.replicate, List.cons_append, List.replicate_succ, List.replicate_zero, Option.map_some, Option.map_none, Bool.not_true, Bool.not_false, List.singleton_append, wip, is_color_ok (h2.1 y hy)]
    have hlen : lenD [.tup xs] = some (false, .int xs.length) := rfl
    have hc : cmpD .Gt (.int xs.length) (.int 0) = some (!xs.isEmpty) := by
      simp only [cmpD]
      cases xs with
      | nil => rfl
      | cons _ _ => simp
    have hit : (D.tup xs).items = some xs := rfl
    unfold G_is_thread Z.run B_is_thread
    cases he : xs.isEmpty with
    | true => simp only [edN0, edN1, edN2, edN3, wip, SOut.wp, vl_int, vl_str, vl_bl, vl_non, nd2, Nat.reduceLeDiff, Nat.reduceEqDiff, not_false_eq_true, and_self, and_true, true_and, putAll, big_eq, ↓evS_for, ↓ev_lc, evS, evT, evA, ev, evL, evO, evI, Out.bind, Out.st, ofS, ofO, D.isBl, vo, put, Vl.isFr, Vl.all, biD, ds, ts, sets, List.flatMap_cons, List.flatMap_nil, List.map_cons, List.map_nil, List.append_nil, List.nil_append, vl_nil, vf_nil, frz_nil, List.getElem?_cons_zero, List.getElem?_cons_succ, List.set_cons_zero, List.set_cons_succ, Bool.false_eq_true, if_false, if_true, reduceIte, List.length_cons, List.length_nil, Nat.reduceAdd, Nat.reduceSub, List.replicate, List.cons_append, List.replicate_succ, List.replicate_zero, Option.map_some, Option.map_none, Bool.not_true, Bool.not_false, List.singleton_append, ht, hty, isD1, hlen, hc, he, isThreadD, Bool.false_and]
    | false => simp only [edN0, edN1, edN2, edN3, wip, SOut.wp, vl_int, vl_str, vl_bl, vl_non, nd2, Nat.reduceLeDiff, Nat.reduceEqDiff, not_false_eq_true, and_self, and_true, true_and, putAll, big_eq, ↓evS_for, ↓ev_lc, evS, evT, evA, ev, evL, evO, evI, Out.bind, Out.st, ofS, ofO, D.isBl, vo, put, Vl.isFr, Vl.all, biD, ds, ts, sets, List.flatMap_cons, List.flatMap_nil, List.map_cons, List.map_nil, List.append_nil, List.nil_append, vl_nil, vf_nil, frz_nil, List.getElem?_cons_zero, List.getElem?_cons_succ, List.set_cons_zero, List.set_cons_succ, Bool.false_eq_true, if_false, if_true, reduceIte, List.length_cons, List.length_nil, Nat.reduceAdd, Nat.reduceSub, List.replicate, List.cons_append, List.replicate_succ, List.replicate_zero, Option.map_some, Option.map_none, Bool.not_true, Bool.not_false, List.singleton_append, ht, hty, isD1, hlen, hc, he, hit, l1, all_map, isThreadD, Bool.true_and]
  all_goals
    unfold G_is_thread Z.run B_is_thread
    simp only [edN0, edN1, edN2, edN3, wip, SOut.wp, vl_int, vl_str, vl_bl, vl_non, nd2, Nat.reduceLeDiff, Nat.reduceEqDiff, not_false_eq_true, and_self, and_true, true_and, putAll, big_eq, ↓evS_for, ↓ev_lc, evS, evT, evA, ev, evL, evO, evI, Out.bind, Out.st, ofS, ofO, D.isBl, vo, put, Vl.isFr, Vl.all, biD, ds, ts, sets, List.flatMap_cons, List.flatMap_nil, List.map_cons, List.map_nil, List.append_nil, List.nil_append, vl_nil, vf_nil, frz_nil, List.getElem?_cons_zero, List.getElem?_cons_succ, List.set_cons_zero, List.set_cons_succ, Bool.false_eq_true, if_false, if_true, reduceIte, List.length_cons, List.length_nil, Nat.reduceAdd, Nat.reduceSub, List.replicate, List.cons_append, List.replicate_succ, List.replicate_zero, Option.map_some, Option.map_none, Bool.not_true, Bool.not_false, List.singleton_append, ht, hty, isD1, isThreadD]
def dlen : D → Nat
  | .tup l => l.length
  | _ => 0
def beadsD (xs : List D) : Nat := (xs.map dlen).sum
theorem beads_sum {xs : List D} : sumD [.lst ((xs.map fun x => (dlen x : Int)).map .int)] = some (false, .int (beadsD xs : Nat)) := by
  have : ∀ xs : List D, (xs.map fun x => (dlen x : Int)).sum = (beadsD xs : Nat) := fun xs => by
    induction xs with
    | nil => rfl
    | cons x xs ih =>
      simp only [beadsD, List.map_cons, List.sum_cons] at ih ⊢
      omega
  simp only [sumD, ints_map, Option.map_some, this]
theorem beads_ok {x : D} {xs : List D} {W : Dr} (hx : x.items = some xs) (hs : ∀ s, x ≠ .str s) (hl : xs.length ≤ 16777216) (h : ∀ y ∈ xs, isThreadD y = true) : G_beads_in [x] W = .ok (false, .int (beadsD xs : Nat)) W := by
  have l1 : lcGo (lcOne E_beads_in_1 .nil (.nm 1) [1] [.val x, .un]) xs [] [] W = .ok ⟨.lst ((xs.map fun x => (dlen x : Int)).map .int), .fr, []⟩ W := by
    rw [lc_map (g := fun y => some (.int (dlen y))) xs (by simpa [cap] using hl) fun y hy => ?_]
    · simp [List.filterMap_eq_map', Function.comp_def]
    · have hy' := h y hy
      cases y <;> simp only [isThreadD] at hy' <;> try (cases hy')
      rename_i l
      refine ⟨_, lcOne_ok (v := ⟨.int l.length, .pl, []⟩) ?_, rfl, fun v hv => by cases hv; rfl⟩
      unfold E_beads_in_1
      have : lenD [.tup l] = some (false, .int l.length) := rfl
      simp only [edN0, edN1, edN2, edN3, wip, SOut.wp, vl_int, vl_str, vl_bl, vl_non, nd2, Nat.reduceLeDiff, Nat.reduceEqDiff, not_false_eq_true, and_self, and_true, true_and, putAll, big_eq, ↓evS_for, ↓ev_lc, evS, evT, evA, ev, evL, evO, evI, Out.bind, Out.st, ofS, ofO, D.isBl, vo, put, Vl.isFr, Vl.all, biD, ds, ts, sets, List.flatMap_cons, List.flatMap_nil, List.map_cons, List.map_nil, List.append_nil, List.nil_append, vl_nil, vf_nil, frz_nil, List.getElem?_cons_zero, List.getElem?_cons_succ, List.set_cons_zero, List.set_cons_succ, Bool.false_eq_true, if_false, if_true, reduceIte, List.length_cons, List.length_nil, Nat.reduceAdd, Nat.reduceSub, List.replicate, List.cons_append, List.replicate_succ, List.replicate_zero, Option.map_some, Option.map_none, Bool.not_true, Bool.not_false, List.singleton_append, wip, this]
  unfold G_beads_in Z.run B_beads_in
  simp only [edN0, edN1, edN2, edN3, wip, SOut.wp, vl_int, vl_str, vl_bl, vl_non, nd2, Nat.reduceLeDiff, Nat.reduceEqDiff, not_false_eq_true, and_self, and_true, true_and, putAll, big_eq, ↓evS_for, ↓ev_lc, evS, evT, evA, ev, evL, evO, evI, Out.bind, Out.st, ofS, ofO, D.isBl, vo, put, Vl.isFr, Vl.all, biD, ds, ts, sets, List.flatMap_cons, List.flatMap_nil, List.map_cons, List.map_nil, List.append_nil, List.nil_append, vl_nil, vf_nil, frz_nil, List.getElem?_cons_zero, List.getElem?_cons_succ, List.set_cons_zero, List.set_cons_succ, Bool.false_eq_true, if_false, if_true, reduceIte, List.length_cons, List.length_nil, Nat.reduceAdd, Nat.reduceSub, List.replicate, List.cons_append, List.replicate_succ, List.replicate_zero, Option.map_some, Option.map_none, Bool.not_true, Bool.not_false, List.singleton_append, hx, l1, beads_sum]
def areD : D → Bool
  | .lst xs => decide (1 ≤ xs.length) && decide (xs.length ≤ 8) && xs.all isThreadD && decide (beadsD xs ≤ 60)
  | .tup xs => decide (1 ≤ xs.length) && decide (xs.length ≤ 8) && xs.all isThreadD && decide (beadsD xs ≤ 60)
  | _ => false
theorem are_aux {x : D} {xs : List D} {W : Dr} (h : x.gd = true) (hx : x = .lst xs ∨ x = .tup xs) : G_are_threads [x] W = .ok (false, .bl (decide (1 ≤ xs.length) && decide (xs.length ≤ 8) && xs.all isThreadD && decide (beadsD xs ≤ 60))) W := by
  have ht := gd_typed h
  have h2 : (∀ y ∈ xs, y.gd = true) ∧ xs.length ≤ 16777216 := by
    rcases hx with rfl | rfl <;> simpa only [D.gd, Bool.and_eq_true, gdL_iff, decide_eq_true_eq] using h
  have hlen : lenD [x] = some (false, .int xs.length) := by rcases hx with rfl | rfl <;> rfl
  have hit : x.items = some xs := by rcases hx with rfl | rfl <;> rfl
  have hty : [Ty.list, Ty.tuple].any (isD1 x) = true := by rcases hx with rfl | rfl <;> rfl
  have hns : ∀ s, x ≠ .str s := fun s z => by rcases hx with rfl | rfl <;> cases z
  have l1 := lc_bools (el := E_are_threads_1) (pt := .nm 1) (own := [1]) (ρ := [.val x, .un]) (W := W) (xs := xs) (p := isThreadD) h2.2 fun y hy => by
    refine lcOne_ok ?_
    unfold E_are_threads_1
    simp only [edN0, edN1, edN2, edN3, wip, SOut.wp, vl_int, vl_str, vl_bl, vl_non, nd2, Nat.reduceLeDiff, Nat.reduceEqDiff, not_false_eq_true, and_self, and_true, true_and, putAll, big_eq, ↓evS_for, ↓ev_lc, evS, evT, evA, ev, evL, evO, evI, Out.bind, Out.st, ofS, ofO, D.isBl, vo, put, Vl.isFr, Vl.all, biD, ds, ts, sets, List.flatMap_cons, List.flatMap_nil, List.map_cons, List.map_nil, List.append_nil, List.nil_append, vl_nil, vf_nil, frz_nil, List.getElem?_cons_zero, List.getElem?_cons_succ, List.set_cons_zero, List.set_cons_succ, Bool.false_eq_true, if_false, if_true, reduceIte, List.length_cons, List.length_nil, Nat.reduceAdd, Nat.reduceSub, List.replicate, List.cons_append, List.replicate_succ, List.replicate_zero, Option.map_some, Option.map_none, Bool.not_true, Bool.not_false, List.singleton_append, wip, is_thread_ok (h2.1 y hy)]
  have hc : cmpD .LtE (.int 1) (.int xs.length) = some (decide (1 ≤ xs.length)) := by
    simp only [cmpD]; congr 1; exact decide_eq_decide.mpr (by omega)
  have hc2 : cmpD .LtE (.int xs.length) (.int 8) = some (decide (xs.length ≤ 8)) := by
    simp only [cmpD]; congr 1; exact decide_eq_decide.mpr (by omega)
  have hc3 : cmpD .LtE (.int (beadsD xs : Nat)) (.int 60) = some (decide (beadsD xs ≤ 60)) := by
    simp only [cmpD]; congr 1; exact decide_eq_decide.mpr (by omega)
  unfold G_are_threads Z.run B_are_threads
  cases h1 : decide (1 ≤ xs.length) with
  | false => simp only [edN0, edN1, edN2, edN3, wip, SOut.wp, vl_int, vl_str, vl_bl, vl_non, nd2, Nat.reduceLeDiff, Nat.reduceEqDiff, not_false_eq_true, and_self, and_true, true_and, putAll, big_eq, ↓evS_for, ↓ev_lc, evS, evT, evA, ev, evL, evO, evI, Out.bind, Out.st, ofS, ofO, D.isBl, vo, put, Vl.isFr, Vl.all, biD, ds, ts, sets, List.flatMap_cons, List.flatMap_nil, List.map_cons, List.map_nil, List.append_nil, List.nil_append, vl_nil, vf_nil, frz_nil, List.getElem?_cons_zero, List.getElem?_cons_succ, List.set_cons_zero, List.set_cons_succ, Bool.false_eq_true, if_false, if_true, reduceIte, List.length_cons, List.length_nil, Nat.reduceAdd, Nat.reduceSub, List.replicate, List.cons_append, List.replicate_succ, List.replicate_zero, Option.map_some, Option.map_none, Bool.not_true, Bool.not_false, List.singleton_append, ht, hty, hlen, hc, h1, Bool.false_and]
  | true =>
    cases h3 : decide (xs.length ≤ 8) with
    | false => simp only [edN0, edN1, edN2, edN3, wip, SOut.wp, vl_int, vl_str, vl_bl, vl_non, nd2, Nat.reduceLeDiff, Nat.reduceEqDiff, not_false_eq_true, and_self, and_true, true_and, putAll, big_eq, ↓evS_for, ↓ev_lc, evS, evT, evA, ev, evL, evO, evI, Out.bind, Out.st, ofS, ofO, D.isBl, vo, put, Vl.isFr, Vl.all, biD, ds, ts, sets, List.flatMap_cons, List.flatMap_nil, List.map_cons, List.map_nil, List.append_nil, List.nil_append, vl_nil, vf_nil, frz_nil, List.getElem?_cons_zero, List.getElem?_cons_succ, List.set_cons_zero, List.set_cons_succ, Bool.false_eq_true, if_false, if_true, reduceIte, List.length_cons, List.length_nil, Nat.reduceAdd, Nat.reduceSub, List.replicate, List.cons_append, List.replicate_succ, List.replicate_zero, Option.map_some, Option.map_none, Bool.not_true, Bool.not_false, List.singleton_append, ht, hty, hlen, hc, h1, hc2, h3, Bool.false_and, Bool.and_false]
    | true =>
      cases h4 : xs.all isThreadD with
      | false => simp only [edN0, edN1, edN2, edN3, wip, SOut.wp, vl_int, vl_str, vl_bl, vl_non, nd2, Nat.reduceLeDiff, Nat.reduceEqDiff, not_false_eq_true, and_self, and_true, true_and, putAll, big_eq, ↓evS_for, ↓ev_lc, evS, evT, evA, ev, evL, evO, evI, Out.bind, Out.st, ofS, ofO, D.isBl, vo, put, Vl.isFr, Vl.all, biD, ds, ts, sets, List.flatMap_cons, List.flatMap_nil, List.map_cons, List.map_nil, List.append_nil, List.nil_append, vl_nil, vf_nil, frz_nil, List.getElem?_cons_zero, List.getElem?_cons_succ, List.set_cons_zero, List.set_cons_succ, Bool.false_eq_true, if_false, if_true, reduceIte, List.length_cons, List.length_nil, Nat.reduceAdd, Nat.reduceSub, List.replicate, List.cons_append, List.replicate_succ, List.replicate_zero, Option.map_some, Option.map_none, Bool.not_true, Bool.not_false, List.singleton_append, ht, hty, hlen, hc, h1, hc2, h3, hit, l1, all_map, h4, Bool.false_and, Bool.and_false]
      | true =>
        have hb := beads_ok (W := W) hit hns h2.2 fun y hy => List.all_eq_true.mp h4 y hy
        simp only [edN0, edN1, edN2, edN3, wip, SOut.wp, vl_int, vl_str, vl_bl, vl_non, nd2, Nat.reduceLeDiff, Nat.reduceEqDiff, not_false_eq_true, and_self, and_true, true_and, putAll, big_eq, ↓evS_for, ↓ev_lc, evS, evT, evA, ev, evL, evO, evI, Out.bind, Out.st, ofS, ofO, D.isBl, vo, put, Vl.isFr, Vl.all, biD, ds, ts, sets, List.flatMap_cons, List.flatMap_nil, List.map_cons, List.map_nil, List.append_nil, List.nil_append, vl_nil, vf_nil, frz_nil, List.getElem?_cons_zero, List.getElem?_cons_succ, List.set_cons_zero, List.set_cons_succ, Bool.false_eq_true, if_false, if_true, reduceIte, List.length_cons, List.length_nil, Nat.reduceAdd, Nat.reduceSub, List.replicate, List.cons_append, List.replicate_succ, List.replicate_zero, Option.map_some, Option.map_none, Bool.not_true, Bool.not_false, List.singleton_append, ht, hty, hlen, hc, h1, hc2, h3, hit, l1, all_map, h4, hb, hc3, Bool.true_and]
theorem are_threads_ok {x : D} {W : Dr} (h : x.gd = true) : G_are_threads [x] W = .ok (false, .bl (areD x)) W := by
  have ht := gd_typed h
  cases x
  case lst xs => exact are_aux h (.inl rfl)
  case tup xs => exact are_aux h (.inr rfl)
  all_goals
    have hty : ∀ b, [Ty.list, Ty.tuple].any (isD1 b) = (isD1 b .list || isD1 b .tuple) := fun b => by simp
    unfold G_are_threads Z.run B_are_threads
    simp only [edN0, edN1, edN2, edN3, wip, SOut.wp, vl_int, vl_str, vl_bl, vl_non, nd2, Nat.reduceLeDiff, Nat.reduceEqDiff, not_false_eq_true, and_self, and_true, true_and, putAll, big_eq, ↓evS_for, ↓ev_lc, evS, evT, evA, ev, evL, evO, evI, Out.bind, Out.st, ofS, ofO, D.isBl, vo, put, Vl.isFr, Vl.all, biD, ds, ts, sets, List.flatMap_cons, List.flatMap_nil, List.map_cons, List.map_nil, List.append_nil, List.nil_append, vl_nil, vf_nil, frz_nil, List.getElem?_cons_zero, List.getElem?_cons_succ, List.set_cons_zero, List.set_cons_succ, Bool.false_eq_true, if_false, if_true, reduceIte, List.length_cons, List.length_nil, Nat.reduceAdd, Nat.reduceSub, List.replicate, List.cons_append, List.replicate_succ, List.replicate_zero, Option.map_some, Option.map_none, Bool.not_true, Bool.not_false, List.singleton_append, ht, hty, isD1, areD, Bool.or_false]
def stD (xs : List D) : D := .ins "State" [("s_lines", .tup xs)]
theorem State_ok {x : D} {xs : List D} {W : Dr} (h : x.gd = true) (hx : x = .lst xs ∨ x = .tup xs) (ha : areD x = true) : G_State [x] W = .ok (false, stD xs) W := by
  have e := are_threads_ok (W := W) h
  rw [ha] at e
  have ht : tupleD [x] = some (false, .tup xs) := by rcases hx with rfl | rfl <;> rfl
  unfold G_State GI_State Z.runC B_State___init__
  simp only [edN0, edN1, edN2, edN3, wip, SOut.wp, vl_int, vl_str, vl_bl, vl_non, nd2, Nat.reduceLeDiff, Nat.reduceEqDiff, not_false_eq_true, and_self, and_true, true_and, putAll, big_eq, ↓evS_for, ↓ev_lc, evS, evT, evA, ev, evL, evO, evI, Out.bind, Out.st, ofS, ofO, D.isBl, vo, put, Vl.isFr, Vl.all, biD, ds, ts, sets, List.flatMap_cons, List.flatMap_nil, List.map_cons, List.map_nil, List.append_nil, List.nil_append, vl_nil, vf_nil, frz_nil, List.getElem?_cons_zero, List.getElem?_cons_succ, List.set_cons_zero, List.set_cons_succ, Bool.false_eq_true, if_false, if_true, reduceIte, List.length_cons, List.length_nil, Nat.reduceAdd, Nat.reduceSub, List.replicate, List.cons_append, List.replicate_succ, List.replicate_zero, Option.map_some, Option.map_none, Bool.not_true, Bool.not_false, List.singleton_append, e, ht, putFD, Sl.noSlf, List.all_cons, List.all_nil, Bool.and_true]
  simp [stD]
end Z

namespace Z
open PySem
theorem len_lst {xs : List D} : lenD [.lst xs] = some (false, .int xs.length) := rfl
theorem th_to {l : List Str} {k : Nat} : slD (th l) none (some (k : Int)) = some (false, th (l.take k)) := by
  simp only [slD, th]
  rw [cut_to (by omega)]
  simp [sts, List.map_take]
theorem th_from {l : List Str} {k : Nat} : slD (th l) (some (k : Int)) none = some (false, th (l.drop k)) := by
  simp only [slD, th]
  rw [cut_from (by omega)]
  simp [sts, List.map_drop]
theorem th_add {l k : List Str} (h : l.length + k.length ≤ 16777216) : binD .Add (th l) (th k) = some (false, th (l ++ k)) := by
  simp only [binD, th]
  rw [if_pos (by simpa [sts] using h)]
  simp [sts]
theorem tD_len {ls : List (List Str)} : (tD ls).length = ls.length := by simp [tD]
theorem th_len {l : List Str} : (sts l).length = l.length := by simp [sts]
theorem add1 {i : Nat} : binD .Add (.int i) (.int 1) = some (false, .int ((i + 1 : Nat) : Int)) := rfl
theorem eq_int {a b : Int} : cmpD .Eq (.int a) (.int b) = some (decide (a = b)) := by
  simp [cmpD, D.eq, D.pyN, PyData.eqv]
  rw [Bool.eq_iff_iff]; simp
theorem ne_str {a b : Str} : cmpD .NotEq (.str a) (.str b) = some (!decide (a = b)) := by
  simp [cmpD, D.eq, D.pyN, PyData.eqv]
  rw [Bool.eq_iff_iff]; simp
theorem immL_tD (ls : List (List Str)) : D.immL (tD ls) = true := (immL_iff _).mpr fun x hx => by
  obtain ⟨l, _, rfl⟩ := List.mem_map.mp hx
  exact imm_th
theorem vf_tD {ls : List (List Str)} {t : List Nat} : vf (.lst (tD ls)) t = ⟨.lst (tD ls), .fr, []⟩ := vf_imm (by simp only [D.kids]; exact immL_tD ls)
theorem vl_th {l : List Str} {t : List Nat} : vl (th l) t = ⟨th l, .pl, []⟩ := vl_imm imm_th
abbrev StOk (ls : List (List Str)) : Prop := Lns (fun s => isColor s = true) 8 60 ls
theorem Lns.st {m b : Nat} {ls : List (List Str)} (h : Lns (· ∈ hues1) m b ls) (hm : m ≤ 8) (hb : b ≤ 60) : StOk ls := h.imp hue_color hm hb
theorem color_len {s : Str} (h : isColor s = true) : s.length ≤ 4 := by
  simp only [isColor, Bool.and_eq_true, decide_eq_true_eq] at h
  exact h.1.2
theorem th_gd {l : List Str} (h : ∀ s ∈ l, isColor s = true) (hl : l.length ≤ 60) : (th l).gd = true := by
  simp only [th, D.gd, Bool.and_eq_true, gdL_iff, decide_eq_true_eq]
  refine ⟨fun x hx => ?_, by rw [th_len]; omega⟩
  obtain ⟨s, hs, rfl⟩ := sts_mem hx
  have := color_len (h s hs)
  simp only [D.gd, decide_eq_true_eq]
  omega
theorem StOk.len {ls : List (List Str)} (h : StOk ls) : ∀ l ∈ ls, l.length ≤ 60 := fun l hl => by have := sum_ge hl; have := h.sum; omega
theorem StOk.gdL {ls : List (List Str)} (h : StOk ls) : ∀ x ∈ tD ls, x.gd = true := fun x hx => by
  obtain ⟨l, hl, rfl⟩ := List.mem_map.mp hx
  exact th_gd (h.of l hl) (StOk.len h l hl)
theorem StOk.gd {ls : List (List Str)} (h : StOk ls) : (D.lst (tD ls)).gd = true := by
  simp only [D.gd, Bool.and_eq_true, gdL_iff, decide_eq_true_eq]
  exact ⟨StOk.gdL h, by rw [tD_len]; have := h.most; omega⟩
theorem StOk.are {ls : List (List Str)} (h : StOk ls) : areD (.lst (tD ls)) = true := by
  simp only [areD, Bool.and_eq_true, decide_eq_true_eq, List.all_eq_true]
  have hb : beadsD (tD ls) = (ls.map List.length).sum := by
    simp only [beadsD, tD, List.map_map]
    congr 1
    refine List.map_congr_left fun l _ => ?_
    simp [dlen, th, sts]
  refine ⟨⟨⟨by rw [tD_len]; exact h.one, by rw [tD_len]; exact h.most⟩, fun x hx => ?_⟩, by rw [hb]; exact h.sum⟩
  obtain ⟨l, hl, rfl⟩ := List.mem_map.mp hx
  simp only [isThreadD, th, Bool.and_eq_true, Bool.not_eq_true', List.all_eq_true]
  refine ⟨?_, fun y hy => ?_⟩
  · cases l with
    | nil => exact absurd rfl (h.ne _ hl)
    | cons _ _ => rfl
  · obtain ⟨s, hs, rfl⟩ := sts_mem hy
    exact h.of l hl s hs
theorem StOk.make {ls : List (List Str)} {W : Dr} (h : StOk ls) : G_State [.lst (tD ls)] W = .ok (false, stD (tD ls)) W := State_ok (StOk.gd h) (.inl rfl) (StOk.are h)
end Z

namespace Z
open PySem
def wordOf (e : Str) : Str := if e = "NoThread" then "thread" else if e = "NoSwap" then "swap" else if e = "NoBead" then "bead" else ""
theorem told_ok {e : Str} {W : Dr} (h : e = "NoThread" ∨ e = "NoSwap" ∨ e = "NoBead") : G__law_told [.exc e []] W = .ok (false, .str (wordOf e)) W := by
  rcases h with rfl | rfl | rfl <;> rfl
end Z

namespace Z
open PySem
abbrev cl (s : Str) : List Nat := s.cps.toList
theorem cl_ext {a b : Str} (h : cl a = cl b) : a = b := by
  cases a; cases b
  congr 1
  exact Array.toList_inj.mp h
end Z

namespace Z
section
variable {α : Type} [DecidableEq α]
end
end Z

namespace Z
open PySem PySem.W PySem.Spec PyProof.Rows L2
theorem leD_eq (a b : D) : leD a b = !PySem.W.dataLt (pdv b) (pdv a) := rfl
theorem leD_trans (a b c : D) (h1 : leD a b = true) (h2 : leD b c = true) : leD a c = true := by
  rw [leD_eq, Bool.not_eq_true'] at h1 h2 ⊢
  cases h : PySem.W.dataLt (pdv c) (pdv a) with
  | false => rfl
  | true =>
    rcases lex_negTrans _ (PySem.W.keyToks (pdv b)) _ h with q | q
    · exact absurd (h2.symm.trans q) (by decide)
    · exact absurd (h1.symm.trans q) (by decide)
theorem leD_total (a b : D) : (leD a b || leD b a) = true := by
  rw [leD_eq, leD_eq]
  cases h1 : PySem.W.dataLt (pdv b) (pdv a) with
  | false => rfl
  | true =>
    cases h2 : PySem.W.dataLt (pdv a) (pdv b) with
    | false => rfl
    | true =>
      have q := lex_trans _ _ _ h1 h2
      rw [lex_irrefl] at q
      cases q
theorem leD_anti {a b : D} (h1 : leD a b = true) (h2 : leD b a = true) : PySem.W.keyToks (pdv a) = PySem.W.keyToks (pdv b) := by
  rw [leD_eq, Bool.not_eq_true'] at h1 h2
  exact lex_total _ _ h2 h1
noncomputable def sortBy {α : Type} (dec : α → D) (xs : List α) : List α := xs.mergeSort fun a b => leD (dec a) (dec b)
theorem sortL_map {α : Type} (dec : α → D) (xs : List α) : sortL (xs.map dec) = (sortBy dec xs).map dec := by
  unfold sortL sortBy
  rw [List.map_mergeSort (s := leD) fun _ _ _ _ => rfl]
  rfl
theorem sortBy_perm {α : Type} (dec : α → D) (xs : List α) : (sortBy dec xs).Perm xs := List.mergeSort_perm _ _
theorem pyNL_sts' : ∀ (n : Nat) (l : List Str), D.pyNL n (sts l) = some (l.map PyData.str)
  | n, [] => by simp [sts, D.pyNL]
  | n, x :: l => by
    have ih := pyNL_sts' n l
    have e : D.pyN n (.str x) = some (.str x) := by cases n <;> simp [D.pyN]
    simp only [sts, List.map_cons] at ih ⊢
    simp only [D.pyNL, e, ih]
theorem pyN_th (n : Nat) (l : List Str) : D.pyN (n + 1) (th l) = some (.tuple (l.map .str)) := by simp only [th, D.pyN, pyNL_sts', Option.map_some]
theorem pdv_th (l : List Str) : pdv (th l) = .tuple (l.map .str) := by unfold pdv D.pd; rw [pyN_th]; rfl
theorem alike_strs : ∀ xs ys : List Str, PySem.W.alikeAll (xs.map .str) (ys.map .str) = true
  | [], _ => by simp [PySem.W.alikeAll]
  | _ :: _, [] => by simp [PySem.W.alikeAll]
  | x :: xs, y :: ys => by
    show PySem.W.alikeAll (.str x :: xs.map .str) (.str y :: ys.map .str) = true
    rw [PySem.W.alikeAll, alike_strs xs ys]
    simp [PySem.W.alike]
theorem toks_strs : ∀ {a b : List Str}, PySem.W.keyToksAll (a.map .str) = PySem.W.keyToksAll (b.map .str) → a = b
  | [], [], _ => rfl
  | [], _ :: _, h => by simp [PySem.W.keyToksAll] at h
  | _ :: _, [], h => by simp [PySem.W.keyToksAll] at h
  | x :: a, y :: b, h => by
    simp only [List.map_cons, PySem.W.keyToksAll, PySem.W.keyToks, List.cons_append, List.nil_append, List.cons.injEq, true_and, Sum.inr.injEq] at h
    rw [cl_ext h.1, toks_strs h.2]
theorem toks_th {a b : List Str} (h : PySem.W.keyToks (pdv (th a)) = PySem.W.keyToks (pdv (th b))) : a = b := by
  rw [pdv_th, pdv_th] at h
  simp only [PySem.W.keyToks] at h
  exact toks_strs h
theorem sortOk_th {ls : List (List Str)} (h : ∀ l ∈ ls, l ≠ []) : SortOk (tD ls) := by
  have e : (tD ls).map pdv = ls.map fun l => PyData.tuple (l.map .str) := by simp [tD, Function.comp_def, pdv_th]
  refine ⟨fun x hx => ?_, ?_, ?_⟩
  · obtain ⟨s, _, rfl⟩ := List.mem_map.mp hx
    exact ⟨_, pyN_th _ s⟩
  · rw [e]
    exact PySem.W.AllAlike.of fun _ _ => by simp [PySem.W.alike, alike_strs]
  · rw [e]
    refine .inl fun d hd => ?_
    obtain ⟨l, hl, rfl⟩ := List.mem_map.mp hd
    cases l with
    | nil => exact absurd rfl (h _ hl)
    | cons x r => exact ⟨_, _, rfl⟩
noncomputable def srtT (ls : List (List Str)) : List (List Str) := sortBy th ls
theorem sorted_tD {ls : List (List Str)} {W : Dr} (h : ∀ l ∈ ls, l ≠ []) : pureG sortAnyD [.lst (tD ls)] W = .ok (true, .lst (tD (srtT ls))) W := pureG_some (by
  simp only [sortAnyD]
  rw [if_pos (sortOk_th h)]
  unfold tD
  rw [sortL_map]
  rfl)
def tab {β : Type} (f : Str → β) (ks : List Str) : List (Str × β) := ks.map fun k => (k, f k)
end Z

namespace Z
open PySem
structure Lot (L : D) (lot : List Str) : Prop where
  i : ∀ s, cmpD .In (.str s) L = some (decide (s ∈ lot))
  n : ∀ s, cmpD .NotIn (.str s) L = some (!decide (s ∈ lot))
  wk : L.items = some (sts lot)
theorem lcOne_if {el tst : E} {i : Nat} {own : List Nat} {ρ : En} {x : D} {W : Dr} {b : Bool} {v : Vl} (h1 : evA tst ((wip ρ own).set i (.val x)) W = .ok b W) (h2 : b = true → ev el ((wip ρ own).set i (.val x)) W = .ok v W) : lcOne el tst (.nm i) own ρ x W = .ok (if b = true then some v else none) W := by
  simp only [lcOne, bindP, ofO, h1, Out.bind]
  cases b with
  | false => rfl
  | true => simp only [if_true, h2 rfl, Out.bind]
end Z

namespace Z
open PySem
abbrev SlR := List Str × Nat × Nat × Nat
end Z

namespace Z
open PySem
def rR (a b : Str) : Prop := leD (.str a) (.str b) = true ∧ a ≠ b
def SS (l : List Str) : Prop := l.Pairwise rR
theorem SS.sub {a b : List Str} (h : SS b) (s : a.Sublist b) : SS a := List.Pairwise.sublist s h
end Z

namespace Z
open PySem
section
variable {ρ : Type} (cov : ρ → ρ → Bool)
end
def cov (o r : SlR) : Bool := decide (o.2.1 = r.2.1) && (decide (o.2.2.1 ≤ r.2.2.1) && decide (r.2.2.2 ≤ o.2.2.2))
end Z

namespace Z
open PySem
def oddL : List D := [.non, .bl true, .bl false, .int (-1), .int (10 ^ 40), .str "", .str "A", .str "abcde", .str "a b", .tup [], .lst [], .dic false [], .tup [.str "A"], .tup [.str "abcde"], .tup [.str "a", .int 1],
  .tup [.non], .lst [.str "a"], .dic false [(.str "a", .int 1)], .tup [.tup []], .lst [.tup []], .lst [.tup [.str "a", .str ""]], .str "1", .tup [.str "a", .tup [.str "a"]], .lst [.str "A"]]
theorem odd_ok {T : Nat} {W : Dr} (h : Wd T W) (hT : T ≤ 1099511627776) : ∃ x W', x ∈ oddL ∧ Wd (T + 1) W' ∧ G__law_odd [.drw] W = .ok (false, x) W' := by
  obtain ⟨x, W', hx, hw, e⟩ := pick_ok (xs := oddL) h hT (by simp [oddL]) (by simp [oddL])
  refine ⟨x, W', hx, hw, ?_⟩
  have hpow : binD .Pow (.int 10) (.int 40) = some (false, .int (10 ^ 40)) := by
    simp only [binD, big_eq]
    rw [if_pos ⟨by omega, by omega, by decide⟩]
    rfl
  have hadd : ∀ a b : List D, a.length + b.length ≤ 16777216 → binD .Add (.lst a) (.lst b) = some (true, .lst (a ++ b)) := fun a b h => by simp only [binD]; rw [if_pos h]
  have v1 : ∀ (l : List D), D.immL l = false → vf (.lst l) [] = ⟨.lst l, .fr, []⟩ := fun l _ => vf_nil
  unfold oddL at e
  unfold G__law_odd Z.run B__law_odd
  simp only [edN0, edN1, edN2, edN3, wip, SOut.wp, vl_int, vl_str, vl_bl, vl_non, nd2, Nat.reduceLeDiff, Nat.reduceEqDiff, not_false_eq_true, and_self, and_true, true_and, putAll, big_eq, ↓evS_for, ↓ev_lc, evS, evT, evA, ev, evL, evO, evI, Out.bind, Out.st, ofS, ofO, D.isBl, vo, put, Vl.isFr, Vl.all, biD, ds, ts, sets, List.flatMap_cons, List.flatMap_nil, List.map_cons, List.map_nil, List.append_nil, List.nil_append, vl_nil, vf_nil, frz_nil, List.getElem?_cons_zero, List.getElem?_cons_succ, List.set_cons_zero, List.set_cons_succ, Bool.false_eq_true, if_false, if_true, reduceIte, List.length_cons, List.length_nil, Nat.reduceAdd, Nat.reduceSub, List.replicate, List.cons_append, List.replicate_succ, List.replicate_zero, Option.map_some, Option.map_none, Bool.not_true, Bool.not_false, List.singleton_append, ↓hpow, cap, ite_self]
  rw [hadd _ _ (by simp)]
  simp only [edN0, edN1, edN2, edN3, wip, SOut.wp, vl_int, vl_str, vl_bl, vl_non, nd2, Nat.reduceLeDiff, Nat.reduceEqDiff, not_false_eq_true, and_self, and_true, true_and, putAll, big_eq, ↓evS_for, ↓ev_lc, evS, evT, evA, ev, evL, evO, evI, Out.bind, Out.st, ofS, ofO, D.isBl, vo, put, Vl.isFr, Vl.all, biD, ds, ts, sets, List.flatMap_cons, List.flatMap_nil, List.map_cons, List.map_nil, List.append_nil, List.nil_append, vl_nil, vf_nil, frz_nil, List.getElem?_cons_zero, List.getElem?_cons_succ, List.set_cons_zero, List.set_cons_succ, Bool.false_eq_true, if_false, if_true, reduceIte, List.length_cons, List.length_nil, Nat.reduceAdd, Nat.reduceSub, List.replicate, List.cons_append, List.replicate_succ, List.replicate_zero, Option.map_some, Option.map_none, Bool.not_true, Bool.not_false, List.singleton_append, e]
end Z

namespace Z
open PySem
theorem eqv_strs : ∀ l k : List Str, PyData.eqvAll (l.map .str) (k.map .str) = decide (l = k)
  | [], [] => rfl
  | [], _ :: _ => by simp [PyData.eqvAll]
  | _ :: _, [] => by simp [PyData.eqvAll]
  | a :: l, b :: k => by
    simp only [List.map_cons, PyData.eqvAll, eqv_strs l k, PyData.eqv]
    rw [Bool.eq_iff_iff]
    simp
end Z

namespace Z
open PySem
end Z

namespace Qk69
open PySem Z
def rot (r : List Str) (k : Nat) : List Str := r.drop k ++ r.take k
theorem rot_len (r : List Str) (k : Nat) : (rot r k).length = r.length := by
  simp only [rot, List.length_append, List.length_drop, List.length_take]; omega
def ltR (r : List Str) : List Str := match (List.range r.length).map (rot r) with
  | [] => []
  | l :: ls => minR l ls
theorem txs_sts : ∀ l : List Str, txs (sts l) = some l
  | [] => rfl
  | x :: l => by
    have := txs_sts l
    simp only [sts, List.map_cons, txs] at this ⊢
    rw [this]; rfl
theorem rowsD_tD : ∀ ls : List (List Str), rowsD (tD ls) = some ls
  | [] => rfl
  | l :: ls => by
    have h1 : txT (th l) = some l := txs_sts l
    have h2 := rowsD_tD ls
    simp only [tD, List.map_cons, rowsD] at h2 ⊢
    rw [h1, h2]
theorem minT_ok {l : List Str} {ls : List (List Str)} {W : Dr} : pureG minTD [.lst (tD (l :: ls))] W = .ok (false, th (minR l ls)) W := pureG_some (by
  simp only [minTD, rowsD_tD]; rfl)
theorem turned_ok {r : List Str} {k : Nat} {W : Dr} (hr : r.length ≤ 1000) : G_turned [th r, .int k] W = .ok (false, th (rot r k)) W := by
  have a := th_add (l := r.drop k) (k := r.take k) (by simp only [List.length_take, List.length_drop]; omega)
  unfold G_turned Z.run B_turned
  simp only [edN0, edN1, edN2, edN3, wip, SOut.wp, vl_int, vl_str, vl_bl, vl_non, nd2, Nat.reduceLeDiff, Nat.reduceEqDiff, not_false_eq_true, and_self, and_true, true_and, putAll, big_eq, ↓evS_for, ↓ev_lc, evS, evT, evA, ev, evL, evO, evI, Out.bind, Out.st, ofS, ofO, D.isBl, vo, put, Vl.isFr, Vl.all, biD, ds, ts, sets, List.flatMap_cons, List.flatMap_nil, List.map_cons, List.map_nil, List.append_nil, List.nil_append, vl_nil, vf_nil, frz_nil, List.getElem?_cons_zero, List.getElem?_cons_succ, List.set_cons_zero, List.set_cons_succ, Bool.false_eq_true, if_false, if_true, reduceIte, List.length_cons, List.length_nil, Nat.reduceAdd, Nat.reduceSub, List.replicate, List.cons_append, List.replicate_succ, List.replicate_zero, Option.map_some, Option.map_none, Bool.not_true, Bool.not_false, List.singleton_append, th_from, th_to, a, rot] <;> try simp only [edN0, edN1, edN2, edN3, wip, SOut.wp, vl_int, vl_str, vl_bl, vl_non, nd2, Nat.reduceLeDiff, Nat.reduceEqDiff, not_false_eq_true, and_self, and_true, true_and, putAll, big_eq, ↓evS_for, ↓ev_lc, evS, evT, evA, ev, evL, evO, evI, Out.bind, Out.st, ofS, ofO, D.isBl, vo, put, Vl.isFr, Vl.all, biD, ds, ts, sets, List.flatMap_cons, List.flatMap_nil, List.map_cons, List.map_nil, List.append_nil, List.nil_append, vl_nil, vf_nil, frz_nil, List.getElem?_cons_zero, List.getElem?_cons_succ, List.set_cons_zero, List.set_cons_succ, Bool.false_eq_true, if_false, if_true, reduceIte, List.length_cons, List.length_nil, Nat.reduceAdd, Nat.reduceSub, List.replicate, List.cons_append, List.replicate_succ, List.replicate_zero, Option.map_some, Option.map_none, Bool.not_true, Bool.not_false, List.singleton_append, th_from, th_to, a, rot]
theorem mins_ok {r : List Str} {W : Dr} (h : r ≠ []) : pureG minTD [.lst ((List.range r.length).map fun k => th (rot r k))] W = .ok (false, th (ltR r)) W := by
  have e : ((List.range r.length).map fun k => th (rot r k)) = tD ((List.range r.length).map (rot r)) := by simp [tD, Function.comp_def]
  rw [e]
  unfold ltR
  cases q : (List.range r.length).map (rot r) with
  | nil =>
    have := congrArg List.length q
    simp at this
    exact absurd this h
  | cons l ls => exact minT_ok
theorem least_turn_ok {r : List Str} {W : Dr} (h : r ≠ []) (hr : r.length ≤ 1000) : G_least_turn [th r] W = .ok (false, th (ltR r)) W := by
  have g := rngN (n := r.length) (by omega)
  have hln : lenD [th r] = some (false, .int r.length) := len_th
  have l := lc_each (fun k : Nat => D.int (k : Int)) (fun k => th (rot r k)) (one := lcOne E_least_turn_1 .nil (.nm 1) [1] [.val (th r), .un]) (W := W) (xs := List.range r.length) (by rw [List.length_range]; exact Nat.le_trans hr (by decide)) fun k _ => by
    refine ⟨⟨th (rot r k), .pl, []⟩, lcOne_ok ?_, rfl, rfl⟩
    have e := turned_ok (k := k) (W := W) hr
    unfold E_least_turn_1
    simp only [edN0, edN1, edN2, edN3, wip, SOut.wp, vl_int, vl_str, vl_bl, vl_non, nd2, Nat.reduceLeDiff, Nat.reduceEqDiff, not_false_eq_true, and_self, and_true, true_and, putAll, big_eq, ↓evS_for, ↓ev_lc, evS, evT, evA, ev, evL, evO, evI, Out.bind, Out.st, ofS, ofO, D.isBl, vo, put, Vl.isFr, Vl.all, biD, ds, ts, sets, List.flatMap_cons, List.flatMap_nil, List.map_cons, List.map_nil, List.append_nil, List.nil_append, vl_nil, vf_nil, frz_nil, List.getElem?_cons_zero, List.getElem?_cons_succ, List.set_cons_zero, List.set_cons_succ, Bool.false_eq_true, if_false, if_true, reduceIte, List.length_cons, List.length_nil, Nat.reduceAdd, Nat.reduceSub, List.replicate, List.cons_append, List.replicate_succ, List.replicate_zero, Option.map_some, Option.map_none, Bool.not_true, Bool.not_false, List.singleton_append, e, vl_th] <;> try simp only [edN0, edN1, edN2, edN3, wip, SOut.wp, vl_int, vl_str, vl_bl, vl_non, nd2, Nat.reduceLeDiff, Nat.reduceEqDiff, not_false_eq_true, and_self, and_true, true_and, putAll, big_eq, ↓evS_for, ↓ev_lc, evS, evT, evA, ev, evL, evO, evI, Out.bind, Out.st, ofS, ofO, D.isBl, vo, put, Vl.isFr, Vl.all, biD, ds, ts, sets, List.flatMap_cons, List.flatMap_nil, List.map_cons, List.map_nil, List.append_nil, List.nil_append, vl_nil, vf_nil, frz_nil, List.getElem?_cons_zero, List.getElem?_cons_succ, List.set_cons_zero, List.set_cons_succ, Bool.false_eq_true, if_false, if_true, reduceIte, List.length_cons, List.length_nil, Nat.reduceAdd, Nat.reduceSub, List.replicate, List.cons_append, List.replicate_succ, List.replicate_zero, Option.map_some, Option.map_none, Bool.not_true, Bool.not_false, List.singleton_append, e, vl_th]
  have m := mins_ok (W := W) h
  unfold G_least_turn Z.run B_least_turn
  simp only [edN0, edN1, edN2, edN3, wip, SOut.wp, vl_int, vl_str, vl_bl, vl_non, nd2, Nat.reduceLeDiff, Nat.reduceEqDiff, not_false_eq_true, and_self, and_true, true_and, putAll, big_eq, ↓evS_for, ↓ev_lc, evS, evT, evA, ev, evL, evO, evI, Out.bind, Out.st, ofS, ofO, D.isBl, vo, put, Vl.isFr, Vl.all, biD, ds, ts, sets, List.flatMap_cons, List.flatMap_nil, List.map_cons, List.map_nil, List.append_nil, List.nil_append, vl_nil, vf_nil, frz_nil, List.getElem?_cons_zero, List.getElem?_cons_succ, List.set_cons_zero, List.set_cons_succ, Bool.false_eq_true, if_false, if_true, reduceIte, List.length_cons, List.length_nil, Nat.reduceAdd, Nat.reduceSub, List.replicate, List.cons_append, List.replicate_succ, List.replicate_zero, Option.map_some, Option.map_none, Bool.not_true, Bool.not_false, List.singleton_append, hln, g, l, m, vl_th] <;> try simp only [edN0, edN1, edN2, edN3, wip, SOut.wp, vl_int, vl_str, vl_bl, vl_non, nd2, Nat.reduceLeDiff, Nat.reduceEqDiff, not_false_eq_true, and_self, and_true, true_and, putAll, big_eq, ↓evS_for, ↓ev_lc, evS, evT, evA, ev, evL, evO, evI, Out.bind, Out.st, ofS, ofO, D.isBl, vo, put, Vl.isFr, Vl.all, biD, ds, ts, sets, List.flatMap_cons, List.flatMap_nil, List.map_cons, List.map_nil, List.append_nil, List.nil_append, vl_nil, vf_nil, frz_nil, List.getElem?_cons_zero, List.getElem?_cons_succ, List.set_cons_zero, List.set_cons_succ, Bool.false_eq_true, if_false, if_true, reduceIte, List.length_cons, List.length_nil, Nat.reduceAdd, Nat.reduceSub, List.replicate, List.cons_append, List.replicate_succ, List.replicate_zero, Option.map_some, Option.map_none, Bool.not_true, Bool.not_false, List.singleton_append, hln, g, l, m, vl_th]
theorem l_least_turn_ok {r : List Str} {W : Dr} (h : r ≠ []) (hr : r.length ≤ 1000) : G__law_least_turn [th r] W = .ok (false, th (ltR r)) W := by
  have g := rngN (n := r.length) (by omega)
  have hln : lenD [th r] = some (false, .int r.length) := len_th
  have l := lc_each (fun k : Nat => D.int (k : Int)) (fun k => th (rot r k)) (one := lcOne E__law_least_turn_1 .nil (.nm 1) [1] [.val (th r), .un]) (W := W) (xs := List.range r.length) (by rw [List.length_range]; exact Nat.le_trans hr (by decide)) fun k _ => by
    refine ⟨⟨th (rot r k), .pl, []⟩, lcOne_ok ?_, rfl, rfl⟩
    have a := th_add (l := r.drop k) (k := r.take k) (by simp only [List.length_take, List.length_drop]; omega)
    unfold E__law_least_turn_1
    simp only [edN0, edN1, edN2, edN3, wip, SOut.wp, vl_int, vl_str, vl_bl, vl_non, nd2, Nat.reduceLeDiff, Nat.reduceEqDiff, not_false_eq_true, and_self, and_true, true_and, putAll, big_eq, ↓evS_for, ↓ev_lc, evS, evT, evA, ev, evL, evO, evI, Out.bind, Out.st, ofS, ofO, D.isBl, vo, put, Vl.isFr, Vl.all, biD, ds, ts, sets, List.flatMap_cons, List.flatMap_nil, List.map_cons, List.map_nil, List.append_nil, List.nil_append, vl_nil, vf_nil, frz_nil, List.getElem?_cons_zero, List.getElem?_cons_succ, List.set_cons_zero, List.set_cons_succ, Bool.false_eq_true, if_false, if_true, reduceIte, List.length_cons, List.length_nil, Nat.reduceAdd, Nat.reduceSub, List.replicate, List.cons_append, List.replicate_succ, List.replicate_zero, Option.map_some, Option.map_none, Bool.not_true, Bool.not_false, List.singleton_append, th_from, th_to, a, rot, vl_th] <;> try simp only [edN0, edN1, edN2, edN3, wip, SOut.wp, vl_int, vl_str, vl_bl, vl_non, nd2, Nat.reduceLeDiff, Nat.reduceEqDiff, not_false_eq_true, and_self, and_true, true_and, putAll, big_eq, ↓evS_for, ↓ev_lc, evS, evT, evA, ev, evL, evO, evI, Out.bind, Out.st, ofS, ofO, D.isBl, vo, put, Vl.isFr, Vl.all, biD, ds, ts, sets, List.flatMap_cons, List.flatMap_nil, List.map_cons, List.map_nil, List.append_nil, List.nil_append, vl_nil, vf_nil, frz_nil, List.getElem?_cons_zero, List.getElem?_cons_succ, List.set_cons_zero, List.set_cons_succ, Bool.false_eq_true, if_false, if_true, reduceIte, List.length_cons, List.length_nil, Nat.reduceAdd, Nat.reduceSub, List.replicate, List.cons_append, List.replicate_succ, List.replicate_zero, Option.map_some, Option.map_none, Bool.not_true, Bool.not_false, List.singleton_append, th_from, th_to, a, rot, vl_th]
  have m := mins_ok (W := W) h
  unfold G__law_least_turn Z.run B__law_least_turn
  simp only [edN0, edN1, edN2, edN3, wip, SOut.wp, vl_int, vl_str, vl_bl, vl_non, nd2, Nat.reduceLeDiff, Nat.reduceEqDiff, not_false_eq_true, and_self, and_true, true_and, putAll, big_eq, ↓evS_for, ↓ev_lc, evS, evT, evA, ev, evL, evO, evI, Out.bind, Out.st, ofS, ofO, D.isBl, vo, put, Vl.isFr, Vl.all, biD, ds, ts, sets, List.flatMap_cons, List.flatMap_nil, List.map_cons, List.map_nil, List.append_nil, List.nil_append, vl_nil, vf_nil, frz_nil, List.getElem?_cons_zero, List.getElem?_cons_succ, List.set_cons_zero, List.set_cons_succ, Bool.false_eq_true, if_false, if_true, reduceIte, List.length_cons, List.length_nil, Nat.reduceAdd, Nat.reduceSub, List.replicate, List.cons_append, List.replicate_succ, List.replicate_zero, Option.map_some, Option.map_none, Bool.not_true, Bool.not_false, List.singleton_append, hln, g, l, m, vl_th] <;> try simp only [edN0, edN1, edN2, edN3, wip, SOut.wp, vl_int, vl_str, vl_bl, vl_non, nd2, Nat.reduceLeDiff, Nat.reduceEqDiff, not_false_eq_true, and_self, and_true, true_and, putAll, big_eq, ↓evS_for, ↓ev_lc, evS, evT, evA, ev, evL, evO, evI, Out.bind, Out.st, ofS, ofO, D.isBl, vo, put, Vl.isFr, Vl.all, biD, ds, ts, sets, List.flatMap_cons, List.flatMap_nil, List.map_cons, List.map_nil, List.append_nil, List.nil_append, vl_nil, vf_nil, frz_nil, List.getElem?_cons_zero, List.getElem?_cons_succ, List.set_cons_zero, List.set_cons_succ, Bool.false_eq_true, if_false, if_true, reduceIte, List.length_cons, List.length_nil, Nat.reduceAdd, Nat.reduceSub, List.replicate, List.cons_append, List.replicate_succ, List.replicate_zero, Option.map_some, Option.map_none, Bool.not_true, Bool.not_false, List.singleton_append, hln, g, l, m, vl_th]
structure TgOk (ls rs : List (List Str)) : Prop where
  l8 : ls.length ≤ 8
  r60 : rs.length ≤ 60
  ne : ∀ l ∈ ls ++ rs, l ≠ []
  col : ∀ l ∈ ls ++ rs, ∀ s ∈ l, isColor s = true
  one : 1 ≤ ((ls ++ rs).map List.length).sum
  sum : ((ls ++ rs).map List.length).sum ≤ 60
theorem TgOk.len {ls rs : List (List Str)} (h : TgOk ls rs) {l : List Str} (hl : l ∈ ls ++ rs) : l.length ≤ 60 := Nat.le_trans (sum_ge hl) h.sum
theorem TgOk.gd {ls rs : List (List Str)} (h : TgOk ls rs) {l : List Str} (hl : l ∈ ls ++ rs) : (th l).gd = true := th_gd (h.col l hl) (h.len hl)
theorem tD_app {ls rs : List (List Str)} : tD ls ++ tD rs = tD (ls ++ rs) := by simp [tD]
def tgD (ls rs : List (List Str)) : D := .ins "Tangle" [("t_lines", .tup (tD ls)), ("t_rings", .tup (tD rs))]
noncomputable def rr (rs : List (List Str)) : List (List Str) := srtT (rs.map ltR)
theorem mem_minR {l : List Str} {ls : List (List Str)} : minR l ls ∈ l :: ls := by
  have key : ∀ (xs : List (List Str)) (a : List Str), ∃ b ∈ a :: xs, (xs.map pdR).foldl (fun a y => if PySem.W.dataLt y a then y else a) (pdR a) = pdR b := by
    intro xs
    induction xs with
    | nil => exact fun a => ⟨a, List.mem_cons_self, rfl⟩
    | cons x xs ih =>
      intro a
      rw [List.map_cons, List.foldl_cons]
      by_cases q : PySem.W.dataLt (pdR x) (pdR a) = true
      · rw [if_pos q]
        obtain ⟨b, hb, e⟩ := ih x
        exact ⟨b, List.mem_cons_of_mem _ hb, e⟩
      · rw [if_neg q]
        obtain ⟨b, hb, e⟩ := ih a
        refine ⟨b, ?_, e⟩
        rcases List.mem_cons.mp hb with rfl | hb
        · exact List.mem_cons_self
        · exact List.mem_cons_of_mem _ (List.mem_cons_of_mem _ hb)
  obtain ⟨b, hb, e⟩ := key ls l
  unfold minR PySem.W.minD
  rw [e, rowP_pdR]
  exact hb
theorem ltR_rot {r : List Str} (h : r ≠ []) : ∃ k, k < r.length ∧ ltR r = rot r k := by
  unfold ltR
  cases q : (List.range r.length).map (rot r) with
  | nil =>
    have := congrArg List.length q
    simp at this
    exact absurd this h
  | cons l ls =>
    have := mem_minR (l := l) (ls := ls)
    rw [← q] at this
    obtain ⟨k, hk, e⟩ := List.mem_map.mp this
    exact ⟨k, List.mem_range.mp hk, e.symm⟩
theorem ltR_len {r : List Str} (h : r ≠ []) : (ltR r).length = r.length := by
  obtain ⟨k, _, e⟩ := ltR_rot h
  rw [e, rot_len]
theorem mem_ltR {r : List Str} {s : Str} (h : s ∈ ltR r) : s ∈ r := by
  by_cases hr : r = []
  · subst hr; cases h
  · obtain ⟨k, _, e⟩ := ltR_rot hr
    rw [e, rot, List.mem_append] at h
    rcases h with h | h
    · exact List.mem_of_mem_drop h
    · exact List.mem_of_mem_take h
theorem ltR_ne {r : List Str} (h : r ≠ []) : ltR r ≠ [] := fun z => by
  have := ltR_len h
  rw [z] at this
  exact h (List.length_eq_zero_iff.mp this.symm)
theorem rr_perm (rs : List (List Str)) : (rr rs).Perm (rs.map ltR) := sortBy_perm th _
theorem rr_ne {rs : List (List Str)} (h : ∀ r ∈ rs, r ≠ []) : ∀ r ∈ rr rs, r ≠ [] := fun r hr => by
  obtain ⟨q, hq, rfl⟩ := List.mem_map.mp ((rr_perm rs).mem_iff.mp hr)
  exact ltR_ne (h q hq)
theorem sum_ltR {rs : List (List Str)} (h : ∀ r ∈ rs, r ≠ []) : ((rs.map ltR).map List.length).sum = (rs.map List.length).sum := by
  rw [List.map_map]
  congr 1
  exact List.map_congr_left fun r hr => ltR_len (h r hr)
theorem perm_sum {a b : List Nat} (p : a.Perm b) : a.sum = b.sum := by
  induction p with
  | nil => rfl
  | cons x _ ih => simp only [List.sum_cons, ih]
  | swap x y l => simp only [List.sum_cons]; omega
  | trans _ _ h1 h2 => exact h1.trans h2
theorem TgOk.rr {ls rs : List (List Str)} (h : TgOk ls rs) : TgOk ls (rr rs) := by
  have hr : ∀ r ∈ rs, r ≠ [] := fun r hr => h.ne r (List.mem_append_right _ hr)
  have e : ((ls ++ Qk69.rr rs).map List.length).sum = ((ls ++ rs).map List.length).sum := by
    rw [List.map_append, List.map_append, List.sum_append, List.sum_append, perm_sum ((rr_perm rs).map List.length), sum_ltR hr]
  refine ⟨h.l8, by rw [(rr_perm rs).length_eq, List.length_map]; exact h.r60, fun l hl => ?_, fun l hl s hs => ?_, by rw [e]; exact h.one, by rw [e]; exact h.sum⟩
  · rcases List.mem_append.mp hl with hl | hl
    · exact h.ne l (List.mem_append_left _ hl)
    · exact rr_ne hr l hl
  · rcases List.mem_append.mp hl with hl | hl
    · exact h.col l (List.mem_append_left _ hl) s hs
    · obtain ⟨q, hq, rfl⟩ := List.mem_map.mp ((rr_perm rs).mem_iff.mp hl)
      exact h.col q (List.mem_append_right _ hq) s (mem_ltR hs)
theorem rings_ok {rs : List (List Str)} {W : Dr} (h : ∀ r ∈ rs, r ≠ []) : pureG sortAnyD [.lst (rs.map fun r => th (ltR r))] W = .ok (true, .lst (tD (rr rs))) W := by
  have e : (rs.map fun r => th (ltR r)) = tD (rs.map ltR) := by simp [tD, Function.comp_def]
  rw [e]
  exact sorted_tD fun l hl => by
    obtain ⟨q, hq, rfl⟩ := List.mem_map.mp hl
    exact ltR_ne (h q hq)
theorem tg_threads {ls rs : List (List Str)} {W : Dr} : G_Tangle_threads [tgD ls rs] W = .ok (true, .lst (tD ls)) W := by
  have e : attrD (tgD ls rs) "t_lines" = some (.tup (tD ls)) := rfl
  unfold G_Tangle_threads Z.run B_Tangle_threads
  simp only [edN0, edN1, edN2, edN3, wip, SOut.wp, vl_int, vl_str, vl_bl, vl_non, nd2, Nat.reduceLeDiff, Nat.reduceEqDiff, not_false_eq_true, and_self, and_true, true_and, putAll, big_eq, ↓evS_for, ↓ev_lc, evS, evT, evA, ev, evL, evO, evI, Out.bind, Out.st, ofS, ofO, D.isBl, vo, put, Vl.isFr, Vl.all, biD, ds, ts, sets, List.flatMap_cons, List.flatMap_nil, List.map_cons, List.map_nil, List.append_nil, List.nil_append, vl_nil, vf_nil, frz_nil, List.getElem?_cons_zero, List.getElem?_cons_succ, List.set_cons_zero, List.set_cons_succ, Bool.false_eq_true, if_false, if_true, reduceIte, List.length_cons, List.length_nil, Nat.reduceAdd, Nat.reduceSub, List.replicate, List.cons_append, List.replicate_succ, List.replicate_zero, Option.map_some, Option.map_none, Bool.not_true, Bool.not_false, List.singleton_append, e, listD]
theorem tg_rings {ls rs : List (List Str)} {W : Dr} : G_Tangle_rings [tgD ls rs] W = .ok (true, .lst (tD rs)) W := by
  have e : attrD (tgD ls rs) "t_rings" = some (.tup (tD rs)) := rfl
  unfold G_Tangle_rings Z.run B_Tangle_rings
  simp only [edN0, edN1, edN2, edN3, wip, SOut.wp, vl_int, vl_str, vl_bl, vl_non, nd2, Nat.reduceLeDiff, Nat.reduceEqDiff, not_false_eq_true, and_self, and_true, true_and, putAll, big_eq, ↓evS_for, ↓ev_lc, evS, evT, evA, ev, evL, evO, evI, Out.bind, Out.st, ofS, ofO, D.isBl, vo, put, Vl.isFr, Vl.all, biD, ds, ts, sets, List.flatMap_cons, List.flatMap_nil, List.map_cons, List.map_nil, List.append_nil, List.nil_append, vl_nil, vf_nil, frz_nil, List.getElem?_cons_zero, List.getElem?_cons_succ, List.set_cons_zero, List.set_cons_succ, Bool.false_eq_true, if_false, if_true, reduceIte, List.length_cons, List.length_nil, Nat.reduceAdd, Nat.reduceSub, List.replicate, List.cons_append, List.replicate_succ, List.replicate_zero, Option.map_some, Option.map_none, Bool.not_true, Bool.not_false, List.singleton_append, e, listD]
theorem pd_rows (ls : List (List Str)) : D.pyNL 11 (tD ls) = some (ls.map pdR) := by
  induction ls with
  | nil => rfl
  | cons l ls ih =>
    have h1 : D.pyN 11 (th l) = some (pdR l) := pyN_th 10 l
    show D.pyNL 11 (th l :: tD ls) = _
    simp only [D.pyNL, h1, ih, List.map_cons]
theorem eqv_rows : ∀ a b : List (List Str), PyData.eqvAll (a.map pdR) (b.map pdR) = decide (a = b)
  | [], [] => rfl
  | [], _ :: _ => by simp [PyData.eqvAll]
  | _ :: _, [] => by simp [PyData.eqvAll]
  | a :: l, b :: k => by
    simp only [List.map_cons, PyData.eqvAll, eqv_rows l k, pdR, PyData.eqv, eqv_strs]
    rw [Bool.eq_iff_iff]
    simp
theorem pd_tupR (a : List (List Str)) : (D.tup (tD a)).pd = some (.tuple (a.map pdR)) := by
  show (D.pyNL 11 (tD a)).map PyData.tuple = _
  rw [pd_rows]; rfl
theorem eq_tupT {a b : List (List Str)} : cmpD .Eq (.tup (tD a)) (.tup (tD b)) = some (decide (a = b)) := by
  simp only [cmpD, D.eq, pd_tupR, PyData.eqv, eqv_rows]
theorem tg_eq {a b c d : List (List Str)} {W : Dr} : G_Tangle___eq__ [tgD a b, tgD c d] W = .ok (false, .bl (decide (a = c) && decide (b = d))) W := by
  have t : [Ty_Tangle].any (isD1 (tgD c d)) = true := by simp [isD1, Ty_Tangle, tgD]
  have tt : (tgD c d).typed = true := rfl
  have e1 : ∀ x y, attrD (tgD x y) "t_lines" = some (.tup (tD x)) := fun _ _ => rfl
  have e2 : ∀ x y, attrD (tgD x y) "t_rings" = some (.tup (tD y)) := fun _ _ => rfl
  unfold G_Tangle___eq__ Z.run B_Tangle___eq__
  cases h : decide (a = c) <;> simp only [edN0, edN1, edN2, edN3, wip, SOut.wp, vl_int, vl_str, vl_bl, vl_non, nd2, Nat.reduceLeDiff, Nat.reduceEqDiff, not_false_eq_true, and_self, and_true, true_and, putAll, big_eq, ↓evS_for, ↓ev_lc, evS, evT, evA, ev, evL, evO, evI, Out.bind, Out.st, ofS, ofO, D.isBl, vo, put, Vl.isFr, Vl.all, biD, ds, ts, sets, List.flatMap_cons, List.flatMap_nil, List.map_cons, List.map_nil, List.append_nil, List.nil_append, vl_nil, vf_nil, frz_nil, List.getElem?_cons_zero, List.getElem?_cons_succ, List.set_cons_zero, List.set_cons_succ, Bool.false_eq_true, if_false, if_true, reduceIte, List.length_cons, List.length_nil, Nat.reduceAdd, Nat.reduceSub, List.replicate, List.cons_append, List.replicate_succ, List.replicate_zero, Option.map_some, Option.map_none, Bool.not_true, Bool.not_false, List.singleton_append, t, tt, e1, e2, eq_tupT, h, Bool.true_and, Bool.false_and] <;> try simp only [edN0, edN1, edN2, edN3, wip, SOut.wp, vl_int, vl_str, vl_bl, vl_non, nd2, Nat.reduceLeDiff, Nat.reduceEqDiff, not_false_eq_true, and_self, and_true, true_and, putAll, big_eq, ↓evS_for, ↓ev_lc, evS, evT, evA, ev, evL, evO, evI, Out.bind, Out.st, ofS, ofO, D.isBl, vo, put, Vl.isFr, Vl.all, biD, ds, ts, sets, List.flatMap_cons, List.flatMap_nil, List.map_cons, List.map_nil, List.append_nil, List.nil_append, vl_nil, vf_nil, frz_nil, List.getElem?_cons_zero, List.getElem?_cons_succ, List.set_cons_zero, List.set_cons_succ, Bool.false_eq_true, if_false, if_true, reduceIte, List.length_cons, List.length_nil, Nat.reduceAdd, Nat.reduceSub, List.replicate, List.cons_append, List.replicate_succ, List.replicate_zero, Option.map_some, Option.map_none, Bool.not_true, Bool.not_false, List.singleton_append, t, tt, e1, e2, eq_tupT, h, Bool.true_and, Bool.false_and]
def RowsIn (x : D) (ls : List (List Str)) : Prop := x = .lst (tD ls) ∨ x = .tup (tD ls)
theorem knot_ok {x y : D} {ls rs : List (List Str)} {W : Dr} (hx : RowsIn x ls) (hy : RowsIn y rs) (hr : ∀ r ∈ rs, r ≠ [] ∧ r.length ≤ 1000) (h60 : rs.length ≤ 1000) : G__law_knot [x, y] W = .ok (false, .tup [.tup (tD ls), .tup (tD (rr rs))]) W := by
  have l1 : lcGo (lcOne E__law_knot_1 .nil (.nm 2) [2] [.val x, .val y, .un]) (tD rs) [] [] W = .ok ⟨.lst (rs.map fun r => th (ltR r)), .fr, []⟩ W := lc_each th (fun r => th (ltR r)) (Nat.le_trans h60 (by decide)) fun r hr2 => by
    refine ⟨⟨th (ltR r), .pl, []⟩, lcOne_ok ?_, rfl, rfl⟩
    have e2 := l_least_turn_ok (W := W) (hr r hr2).1 (hr r hr2).2
    unfold E__law_knot_1
    simp only [edN0, edN1, edN2, edN3, wip, SOut.wp, vl_int, vl_str, vl_bl, vl_non, nd2, Nat.reduceLeDiff, Nat.reduceEqDiff, not_false_eq_true, and_self, and_true, true_and, putAll, big_eq, ↓evS_for, ↓ev_lc, evS, evT, evA, ev, evL, evO, evI, Out.bind, Out.st, ofS, ofO, D.isBl, vo, put, Vl.isFr, Vl.all, biD, ds, ts, sets, List.flatMap_cons, List.flatMap_nil, List.map_cons, List.map_nil, List.append_nil, List.nil_append, vl_nil, vf_nil, frz_nil, List.getElem?_cons_zero, List.getElem?_cons_succ, List.set_cons_zero, List.set_cons_succ, Bool.false_eq_true, if_false, if_true, reduceIte, List.length_cons, List.length_nil, Nat.reduceAdd, Nat.reduceSub, List.replicate, List.cons_append, List.replicate_succ, List.replicate_zero, Option.map_some, Option.map_none, Bool.not_true, Bool.not_false, List.singleton_append, e2, vl_th] <;> try simp only [edN0, edN1, edN2, edN3, wip, SOut.wp, vl_int, vl_str, vl_bl, vl_non, nd2, Nat.reduceLeDiff, Nat.reduceEqDiff, not_false_eq_true, and_self, and_true, true_and, putAll, big_eq, ↓evS_for, ↓ev_lc, evS, evT, evA, ev, evL, evO, evI, Out.bind, Out.st, ofS, ofO, D.isBl, vo, put, Vl.isFr, Vl.all, biD, ds, ts, sets, List.flatMap_cons, List.flatMap_nil, List.map_cons, List.map_nil, List.append_nil, List.nil_append, vl_nil, vf_nil, frz_nil, List.getElem?_cons_zero, List.getElem?_cons_succ, List.set_cons_zero, List.set_cons_succ, Bool.false_eq_true, if_false, if_true, reduceIte, List.length_cons, List.length_nil, Nat.reduceAdd, Nat.reduceSub, List.replicate, List.cons_append, List.replicate_succ, List.replicate_zero, Option.map_some, Option.map_none, Bool.not_true, Bool.not_false, List.singleton_append, e2, vl_th]
  have l2 := rings_ok (W := W) fun r h => (hr r h).1
  have hit : y.items = some (tD rs) := by rcases hy with rfl | rfl <;> rfl
  have t0 : tupleD [x] = some (false, .tup (tD ls)) := by rcases hx with rfl | rfl <;> rfl
  have t1 : ∀ xs : List D, tupleD [.lst xs] = some (false, .tup xs) := fun _ => rfl
  have vt : ∀ (ls : List (List Str)) t, vl (.tup (tD ls)) t = ⟨.tup (tD ls), .pl, []⟩ := fun ls t => vl_imm (by simp only [D.imm]; exact immL_tD ls)
  have c2 : 2 ≤ cap := by decide
  unfold G__law_knot Z.run B__law_knot
  simp only [edN0, edN1, edN2, edN3, wip, SOut.wp, vl_int, vl_str, vl_bl, vl_non, nd2, Nat.reduceLeDiff, Nat.reduceEqDiff, not_false_eq_true, and_self, and_true, true_and, putAll, big_eq, ↓evS_for, ↓ev_lc, evS, evT, evA, ev, evL, evO, evI, Out.bind, Out.st, ofS, ofO, D.isBl, vo, put, Vl.isFr, Vl.all, biD, ds, ts, sets, List.flatMap_cons, List.flatMap_nil, List.map_cons, List.map_nil, List.append_nil, List.nil_append, vl_nil, vf_nil, frz_nil, List.getElem?_cons_zero, List.getElem?_cons_succ, List.set_cons_zero, List.set_cons_succ, Bool.false_eq_true, if_false, if_true, reduceIte, List.length_cons, List.length_nil, Nat.reduceAdd, Nat.reduceSub, List.replicate, List.cons_append, List.replicate_succ, List.replicate_zero, Option.map_some, Option.map_none, Bool.not_true, Bool.not_false, List.singleton_append, hit, t0, t1, vt, l1, l2, vf_tD, c2] <;> try simp only [edN0, edN1, edN2, edN3, wip, SOut.wp, vl_int, vl_str, vl_bl, vl_non, nd2, Nat.reduceLeDiff, Nat.reduceEqDiff, not_false_eq_true, and_self, and_true, true_and, putAll, big_eq, ↓evS_for, ↓ev_lc, evS, evT, evA, ev, evL, evO, evI, Out.bind, Out.st, ofS, ofO, D.isBl, vo, put, Vl.isFr, Vl.all, biD, ds, ts, sets, List.flatMap_cons, List.flatMap_nil, List.map_cons, List.map_nil, List.append_nil, List.nil_append, vl_nil, vf_nil, frz_nil, List.getElem?_cons_zero, List.getElem?_cons_succ, List.set_cons_zero, List.set_cons_succ, Bool.false_eq_true, if_false, if_true, reduceIte, List.length_cons, List.length_nil, Nat.reduceAdd, Nat.reduceSub, List.replicate, List.cons_append, List.replicate_succ, List.replicate_zero, Option.map_some, Option.map_none, Bool.not_true, Bool.not_false, List.singleton_append, hit, t0, t1, vt, l1, l2, vf_tD, c2]
end Qk69

namespace Qk69
open PySem Z
theorem abc_mem (c : Nat) : c ∈ abc.cps.toList ↔ 97 ≤ c ∧ c ≤ 122 := by
  have e : abc.cps.toList = (List.range 26).map (· + 97) := by decide +kernel
  rw [e, List.mem_map]
  constructor
  · rintro ⟨a, h, rfl⟩
    have := List.mem_range.mp h
    omega
  · intro h
    exact ⟨c - 97, List.mem_range.mpr (by omega), by omega⟩
theorem letter_eq (c : Nat) : isLetter c = (!decide (c < 97) && !decide (122 < c)) := by
  unfold isLetter
  rw [StrLaws.found_one, Bool.eq_iff_iff]
  simp only [decide_eq_true_eq, Bool.and_eq_true, Bool.not_eq_true', decide_eq_false_iff_not]
  rw [show (c ∈ abc.cps.toList) ↔ _ from abc_mem c]
  omega
theorem az_ok (c : Nat) (W : Dr) : pureG (azD "a" "z") [.str ⟨#[c]⟩] W = .ok (false, .bl (isLetter c)) W := pureG_some (by
  have e1 : ("a" : Str).cps.toList = [97] := by decide +kernel
  have e2 : ("z" : Str).cps.toList = [122] := by decide +kernel
  have e3 : (⟨#[c]⟩ : Str).cps.toList = [c] := rfl
  have l : ∀ a b : Nat, ([a] < [b]) ↔ a < b := fun a b => by simp [List.cons_lt_cons_iff]
  simp only [azD, e1, e2, e3, l, letter_eq])
theorem eq_nilTup {xs : List D} (h : ∀ x ∈ xs, Pd 11 x) : D.eq (.tup xs) (.tup []) = some xs.isEmpty := by
  obtain ⟨ps, h1, h2⟩ := pyNL_of h
  simp only [D.eq, D.pd, D.pyN, h1, Option.map_some, D.pyNL]
  cases xs with
  | nil =>
    simp only [List.length_nil, List.length_eq_zero_iff] at h2
    subst h2
    rfl
  | cons x xs =>
    cases ps with
    | nil => simp at h2
    | cons p ps => rfl
def Itm (y : D) : Prop := y.gd = true ∧ ∀ ys, y = .tup ys → ∀ z ∈ ys, Pd 11 z
theorem col_ret {x y z : D} {W : Dr} (h : z.gd = true) :
    if (!isColorD z) = true then ∃ ρ', forOne 1000000 B__law_are_rows_3 (.nm 2) z [.val x, .val y, .un, .un] W = .rt ⟨.bl false, .pl, []⟩ ρ' W else forOne 1000000 B__law_are_rows_3 (.nm 2) z [.val x, .val y, .un, .un] W = .nx [.val x, .val y, .un, .un] W := by
  have ht := gd_typed h
  have key : ∀ z : D, z.typed = true → isD1 z .str = false → ∃ ρ', forOne 1000000 B__law_are_rows_3 (.nm 2) z [.val x, .val y, .un, .un] W = .rt ⟨.bl false, .pl, []⟩ ρ' W := fun z ht hf => ⟨[.val x, .val y, .val z, .un], by
    have hty : [Ty.str].any (isD1 z) = false := by simp [hf]
    unfold forOne B__law_are_rows_3
    simp only [edN0, edN1, edN2, edN3, wip, SOut.wp, vl_int, vl_str, vl_bl, vl_non, nd2, Nat.reduceLeDiff, Nat.reduceEqDiff, not_false_eq_true, and_self, and_true, true_and, putAll, big_eq, ↓evS_for, ↓ev_lc, evS, evT, evA, ev, evL, evO, evI, Out.bind, Out.st, ofS, ofO, D.isBl, vo, put, Vl.isFr, Vl.all, biD, ds, ts, sets, List.flatMap_cons, List.flatMap_nil, List.map_cons, List.map_nil, List.append_nil, List.nil_append, vl_nil, vf_nil, frz_nil, List.getElem?_cons_zero, List.getElem?_cons_succ, List.set_cons_zero, List.set_cons_succ, Bool.false_eq_true, if_false, if_true, reduceIte, List.length_cons, List.length_nil, Nat.reduceAdd, Nat.reduceSub, List.replicate, List.cons_append, List.replicate_succ, List.replicate_zero, Option.map_some, Option.map_none, Bool.not_true, Bool.not_false, List.singleton_append, bindP, ht, hty]⟩
  cases z
  case str s =>
    clear key
    have hs : s.length ≤ 16777216 := by simpa [D.gd] using h
    have l1 := lc_filter (one := lcOne (.var 3) T__law_are_rows_2 (.nm 3) [3] [.val x, .val y, .val (.str s), .un]) (fun c => D.str ⟨#[c]⟩) (fun c => !isLetter c) (W := W) (xs := s.cps.toList) hs fun c _ => ⟨⟨.str ⟨#[c]⟩, .pl, []⟩, by
      refine lcOne_if ?_ fun _ => ?_
      · unfold T__law_are_rows_2
        simp only [edN0, edN1, edN2, edN3, wip, SOut.wp, vl_int, vl_str, vl_bl, vl_non, nd2, Nat.reduceLeDiff, Nat.reduceEqDiff, not_false_eq_true, and_self, and_true, true_and, putAll, big_eq, ↓evS_for, ↓ev_lc, evS, evT, evA, ev, evL, evO, evI, Out.bind, Out.st, ofS, ofO, D.isBl, vo, put, Vl.isFr, Vl.all, biD, ds, ts, sets, List.flatMap_cons, List.flatMap_nil, List.map_cons, List.map_nil, List.append_nil, List.nil_append, vl_nil, vf_nil, frz_nil, List.getElem?_cons_zero, List.getElem?_cons_succ, List.set_cons_zero, List.set_cons_succ, Bool.false_eq_true, if_false, if_true, reduceIte, List.length_cons, List.length_nil, Nat.reduceAdd, Nat.reduceSub, List.replicate, List.cons_append, List.replicate_succ, List.replicate_zero, Option.map_some, Option.map_none, Bool.not_true, Bool.not_false, List.singleton_append, wip, az_ok]
        cases isLetter c <;> rfl
      · simp only [edN0, edN1, edN2, edN3, wip, SOut.wp, vl_int, vl_str, vl_bl, vl_non, nd2, Nat.reduceLeDiff, Nat.reduceEqDiff, not_false_eq_true, and_self, and_true, true_and, putAll, big_eq, ↓evS_for, ↓ev_lc, evS, evT, evA, ev, evL, evO, evI, Out.bind, Out.st, ofS, ofO, D.isBl, vo, put, Vl.isFr, Vl.all, biD, ds, ts, sets, List.flatMap_cons, List.flatMap_nil, List.map_cons, List.map_nil, List.append_nil, List.nil_append, vl_nil, vf_nil, frz_nil, List.getElem?_cons_zero, List.getElem?_cons_succ, List.set_cons_zero, List.set_cons_succ, Bool.false_eq_true, if_false, if_true, reduceIte, List.length_cons, List.length_nil, Nat.reduceAdd, Nat.reduceSub, List.replicate, List.cons_append, List.replicate_succ, List.replicate_zero, Option.map_some, Option.map_none, Bool.not_true, Bool.not_false, List.singleton_append, wip], rfl, rfl⟩
    have hc : cmpD .LtE (.int 1) (.int s.length) = some (decide (1 ≤ s.length)) := by
      simp only [cmpD]; congr 1; exact decide_eq_decide.mpr (by omega)
    have hc2 : cmpD .LtE (.int s.length) (.int 4) = some (decide (s.length ≤ 4)) := by
      simp only [cmpD]; congr 1; exact decide_eq_decide.mpr (by omega)
    have hlen : lenD [.str s] = some (false, .int s.length) := by simp only [lenD]; exact if_pos hs
    have hit : (D.str s).items = some (s.cps.toList.map fun c => .str ⟨#[c]⟩) := rfl
    have hall : pureG neNilD [.lst ((s.cps.toList.filter fun c => !isLetter c).map fun c => D.str ⟨#[c]⟩), .lst []] W = .ok (false, .bl (!s.cps.toList.all isLetter)) W := pureG_some (by
      have e : ((s.cps.toList.filter fun c => !isLetter c).map fun c => D.str ⟨#[c]⟩).isEmpty = s.cps.toList.all isLetter := by
        clear l1 hit hlen hc hc2 hs h ht
        induction s.cps.toList with
        | nil => rfl
        | cons c l ih => cases hc : isLetter c <;> simp_all
      simp only [neNilD, e])
    have hty : [Ty.str].any (isD1 (.str s)) = true := rfl
    have hco : isColorD (.str s) = (decide (1 ≤ s.length) && decide (s.length ≤ 4) && s.cps.toList.all isLetter) := rfl
    rw [hco]
    unfold forOne B__law_are_rows_3
    cases h1 : decide (1 ≤ s.length) with
    | false =>
      simp only [Bool.false_and, Bool.not_false, if_true]
      refine ⟨[.val x, .val y, .val (.str s), .un], ?_⟩
      simp only [edN0, edN1, edN2, edN3, wip, SOut.wp, vl_int, vl_str, vl_bl, vl_non, nd2, Nat.reduceLeDiff, Nat.reduceEqDiff, not_false_eq_true, and_self, and_true, true_and, putAll, big_eq, ↓evS_for, ↓ev_lc, evS, evT, evA, ev, evL, evO, evI, Out.bind, Out.st, ofS, ofO, D.isBl, vo, put, Vl.isFr, Vl.all, biD, ds, ts, sets, List.flatMap_cons, List.flatMap_nil, List.map_cons, List.map_nil, List.append_nil, List.nil_append, vl_nil, vf_nil, frz_nil, List.getElem?_cons_zero, List.getElem?_cons_succ, List.set_cons_zero, List.set_cons_succ, Bool.false_eq_true, if_false, if_true, reduceIte, List.length_cons, List.length_nil, Nat.reduceAdd, Nat.reduceSub, List.replicate, List.cons_append, List.replicate_succ, List.replicate_zero, Option.map_some, Option.map_none, Bool.not_true, Bool.not_false, List.singleton_append, bindP, ht, hty, hlen, hc, h1, Nat.zero_le] <;> try (simp only [edN0, edN1, edN2, edN3, wip, SOut.wp, vl_int, vl_str, vl_bl, vl_non, nd2, Nat.reduceLeDiff, Nat.reduceEqDiff, not_false_eq_true, and_self, and_true, true_and, putAll, big_eq, ↓evS_for, ↓ev_lc, evS, evT, evA, ev, evL, evO, evI, Out.bind, Out.st, ofS, ofO, D.isBl, vo, put, Vl.isFr, Vl.all, biD, ds, ts, sets, List.flatMap_cons, List.flatMap_nil, List.map_cons, List.map_nil, List.append_nil, List.nil_append, vl_nil, vf_nil, frz_nil, List.getElem?_cons_zero, List.getElem?_cons_succ, List.set_cons_zero, List.set_cons_succ, Bool.false_eq_true, if_false, if_true, reduceIte, List.length_cons, List.length_nil, Nat.reduceAdd, Nat.reduceSub, List.replicate, List.cons_append, List.replicate_succ, List.replicate_zero, Option.map_some, Option.map_none, Bool.not_true, Bool.not_false, List.singleton_append, bindP, ht, hty, hlen, hc, h1, Nat.zero_le] <;> try simp only [edN0, edN1, edN2, edN3, wip, SOut.wp, vl_int, vl_str, vl_bl, vl_non, nd2, Nat.reduceLeDiff, Nat.reduceEqDiff, not_false_eq_true, and_self, and_true, true_and, putAll, big_eq, ↓evS_for, ↓ev_lc, evS, evT, evA, ev, evL, evO, evI, Out.bind, Out.st, ofS, ofO, D.isBl, vo, put, Vl.isFr, Vl.all, biD, ds, ts, sets, List.flatMap_cons, List.flatMap_nil, List.map_cons, List.map_nil, List.append_nil, List.nil_append, vl_nil, vf_nil, frz_nil, List.getElem?_cons_zero, List.getElem?_cons_succ, List.set_cons_zero, List.set_cons_succ, Bool.false_eq_true, if_false, if_true, reduceIte, List.length_cons, List.length_nil, Nat.reduceAdd, Nat.reduceSub, List.replicate, List.cons_append, List.replicate_succ, List.replicate_zero, Option.map_some, Option.map_none, Bool.not_true, Bool.not_false, List.singleton_append, bindP, ht, hty, hlen, hc, h1, Nat.zero_le])
    | true =>
      cases h2 : decide (s.length ≤ 4) with
      | false =>
        simp only [Bool.false_and, Bool.and_false, Bool.not_false, if_true]
        refine ⟨[.val x, .val y, .val (.str s), .un], ?_⟩
        simp only [edN0, edN1, edN2, edN3, wip, SOut.wp, vl_int, vl_str, vl_bl, vl_non, nd2, Nat.reduceLeDiff, Nat.reduceEqDiff, not_false_eq_true, and_self, and_true, true_and, putAll, big_eq, ↓evS_for, ↓ev_lc, evS, evT, evA, ev, evL, evO, evI, Out.bind, Out.st, ofS, ofO, D.isBl, vo, put, Vl.isFr, Vl.all, biD, ds, ts, sets, List.flatMap_cons, List.flatMap_nil, List.map_cons, List.map_nil, List.append_nil, List.nil_append, vl_nil, vf_nil, frz_nil, List.getElem?_cons_zero, List.getElem?_cons_succ, List.set_cons_zero, List.set_cons_succ, Bool.false_eq_true, if_false, if_true, reduceIte, List.length_cons, List.length_nil, Nat.reduceAdd, Nat.reduceSub, List.replicate, List.cons_append, List.replicate_succ, List.replicate_zero, Option.map_some, Option.map_none, Bool.not_true, Bool.not_false, List.singleton_append, bindP, ht, hty, hlen, hc, h1, hc2, h2, Nat.zero_le] <;> try (simp only [edN0, edN1, edN2, edN3, wip, SOut.wp, vl_int, vl_str, vl_bl, vl_non, nd2, Nat.reduceLeDiff, Nat.reduceEqDiff, not_false_eq_true, and_self, and_true, true_and, putAll, big_eq, ↓evS_for, ↓ev_lc, evS, evT, evA, ev, evL, evO, evI, Out.bind, Out.st, ofS, ofO, D.isBl, vo, put, Vl.isFr, Vl.all, biD, ds, ts, sets, List.flatMap_cons, List.flatMap_nil, List.map_cons, List.map_nil, List.append_nil, List.nil_append, vl_nil, vf_nil, frz_nil, List.getElem?_cons_zero, List.getElem?_cons_succ, List.set_cons_zero, List.set_cons_succ, Bool.false_eq_true, if_false, if_true, reduceIte, List.length_cons, List.length_nil, Nat.reduceAdd, Nat.reduceSub, List.replicate, List.cons_append, List.replicate_succ, List.replicate_zero, Option.map_some, Option.map_none, Bool.not_true, Bool.not_false, List.singleton_append, bindP, ht, hty, hlen, hc, h1, hc2, h2, Nat.zero_le] <;> try simp only [edN0, edN1, edN2, edN3, wip, SOut.wp, vl_int, vl_str, vl_bl, vl_non, nd2, Nat.reduceLeDiff, Nat.reduceEqDiff, not_false_eq_true, and_self, and_true, true_and, putAll, big_eq, ↓evS_for, ↓ev_lc, evS, evT, evA, ev, evL, evO, evI, Out.bind, Out.st, ofS, ofO, D.isBl, vo, put, Vl.isFr, Vl.all, biD, ds, ts, sets, List.flatMap_cons, List.flatMap_nil, List.map_cons, List.map_nil, List.append_nil, List.nil_append, vl_nil, vf_nil, frz_nil, List.getElem?_cons_zero, List.getElem?_cons_succ, List.set_cons_zero, List.set_cons_succ, Bool.false_eq_true, if_false, if_true, reduceIte, List.length_cons, List.length_nil, Nat.reduceAdd, Nat.reduceSub, List.replicate, List.cons_append, List.replicate_succ, List.replicate_zero, Option.map_some, Option.map_none, Bool.not_true, Bool.not_false, List.singleton_append, bindP, ht, hty, hlen, hc, h1, hc2, h2, Nat.zero_le])
      | true =>
        cases h3 : s.cps.toList.all isLetter with
        | false =>
          simp only [Bool.true_and, Bool.not_false, if_true]
          refine ⟨[.val x, .val y, .val (.str s), .un], ?_⟩
          rw [h3] at hall
          simp only [edN0, edN1, edN2, edN3, wip, SOut.wp, vl_int, vl_str, vl_bl, vl_non, nd2, Nat.reduceLeDiff, Nat.reduceEqDiff, not_false_eq_true, and_self, and_true, true_and, putAll, big_eq, ↓evS_for, ↓ev_lc, evS, evT, evA, ev, evL, evO, evI, Out.bind, Out.st, ofS, ofO, D.isBl, vo, put, Vl.isFr, Vl.all, biD, ds, ts, sets, List.flatMap_cons, List.flatMap_nil, List.map_cons, List.map_nil, List.append_nil, List.nil_append, vl_nil, vf_nil, frz_nil, List.getElem?_cons_zero, List.getElem?_cons_succ, List.set_cons_zero, List.set_cons_succ, Bool.false_eq_true, if_false, if_true, reduceIte, List.length_cons, List.length_nil, Nat.reduceAdd, Nat.reduceSub, List.replicate, List.cons_append, List.replicate_succ, List.replicate_zero, Option.map_some, Option.map_none, Bool.not_true, Bool.not_false, List.singleton_append, bindP, ht, hty, hlen, hc, h1, hc2, h2, hit, l1, hall, Nat.zero_le] <;> try (simp only [edN0, edN1, edN2, edN3, wip, SOut.wp, vl_int, vl_str, vl_bl, vl_non, nd2, Nat.reduceLeDiff, Nat.reduceEqDiff, not_false_eq_true, and_self, and_true, true_and, putAll, big_eq, ↓evS_for, ↓ev_lc, evS, evT, evA, ev, evL, evO, evI, Out.bind, Out.st, ofS, ofO, D.isBl, vo, put, Vl.isFr, Vl.all, biD, ds, ts, sets, List.flatMap_cons, List.flatMap_nil, List.map_cons, List.map_nil, List.append_nil, List.nil_append, vl_nil, vf_nil, frz_nil, List.getElem?_cons_zero, List.getElem?_cons_succ, List.set_cons_zero, List.set_cons_succ, Bool.false_eq_true, if_false, if_true, reduceIte, List.length_cons, List.length_nil, Nat.reduceAdd, Nat.reduceSub, List.replicate, List.cons_append, List.replicate_succ, List.replicate_zero, Option.map_some, Option.map_none, Bool.not_true, Bool.not_false, List.singleton_append, bindP, ht, hty, hlen, hc, h1, hc2, h2, hit, l1, hall, Nat.zero_le] <;> try simp only [edN0, edN1, edN2, edN3, wip, SOut.wp, vl_int, vl_str, vl_bl, vl_non, nd2, Nat.reduceLeDiff, Nat.reduceEqDiff, not_false_eq_true, and_self, and_true, true_and, putAll, big_eq, ↓evS_for, ↓ev_lc, evS, evT, evA, ev, evL, evO, evI, Out.bind, Out.st, ofS, ofO, D.isBl, vo, put, Vl.isFr, Vl.all, biD, ds, ts, sets, List.flatMap_cons, List.flatMap_nil, List.map_cons, List.map_nil, List.append_nil, List.nil_append, vl_nil, vf_nil, frz_nil, List.getElem?_cons_zero, List.getElem?_cons_succ, List.set_cons_zero, List.set_cons_succ, Bool.false_eq_true, if_false, if_true, reduceIte, List.length_cons, List.length_nil, Nat.reduceAdd, Nat.reduceSub, List.replicate, List.cons_append, List.replicate_succ, List.replicate_zero, Option.map_some, Option.map_none, Bool.not_true, Bool.not_false, List.singleton_append, bindP, ht, hty, hlen, hc, h1, hc2, h2, hit, l1, hall, Nat.zero_le])
        | true =>
          simp only [Bool.true_and, Bool.not_true, Bool.false_eq_true, if_false]
          rw [h3] at hall
          simp only [edN0, edN1, edN2, edN3, wip, SOut.wp, vl_int, vl_str, vl_bl, vl_non, nd2, Nat.reduceLeDiff, Nat.reduceEqDiff, not_false_eq_true, and_self, and_true, true_and, putAll, big_eq, ↓evS_for, ↓ev_lc, evS, evT, evA, ev, evL, evO, evI, Out.bind, Out.st, ofS, ofO, D.isBl, vo, put, Vl.isFr, Vl.all, biD, ds, ts, sets, List.flatMap_cons, List.flatMap_nil, List.map_cons, List.map_nil, List.append_nil, List.nil_append, vl_nil, vf_nil, frz_nil, List.getElem?_cons_zero, List.getElem?_cons_succ, List.set_cons_zero, List.set_cons_succ, Bool.false_eq_true, if_false, if_true, reduceIte, List.length_cons, List.length_nil, Nat.reduceAdd, Nat.reduceSub, List.replicate, List.cons_append, List.replicate_succ, List.replicate_zero, Option.map_some, Option.map_none, Bool.not_true, Bool.not_false, List.singleton_append, bindP, ht, hty, hlen, hc, h1, hc2, h2, hit, l1, hall, Nat.zero_le] <;> try (simp only [edN0, edN1, edN2, edN3, wip, SOut.wp, vl_int, vl_str, vl_bl, vl_non, nd2, Nat.reduceLeDiff, Nat.reduceEqDiff, not_false_eq_true, and_self, and_true, true_and, putAll, big_eq, ↓evS_for, ↓ev_lc, evS, evT, evA, ev, evL, evO, evI, Out.bind, Out.st, ofS, ofO, D.isBl, vo, put, Vl.isFr, Vl.all, biD, ds, ts, sets, List.flatMap_cons, List.flatMap_nil, List.map_cons, List.map_nil, List.append_nil, List.nil_append, vl_nil, vf_nil, frz_nil, List.getElem?_cons_zero, List.getElem?_cons_succ, List.set_cons_zero, List.set_cons_succ, Bool.false_eq_true, if_false, if_true, reduceIte, List.length_cons, List.length_nil, Nat.reduceAdd, Nat.reduceSub, List.replicate, List.cons_append, List.replicate_succ, List.replicate_zero, Option.map_some, Option.map_none, Bool.not_true, Bool.not_false, List.singleton_append, bindP, ht, hty, hlen, hc, h1, hc2, h2, hit, l1, hall, Nat.zero_le] <;> try simp only [edN0, edN1, edN2, edN3, wip, SOut.wp, vl_int, vl_str, vl_bl, vl_non, nd2, Nat.reduceLeDiff, Nat.reduceEqDiff, not_false_eq_true, and_self, and_true, true_and, putAll, big_eq, ↓evS_for, ↓ev_lc, evS, evT, evA, ev, evL, evO, evI, Out.bind, Out.st, ofS, ofO, D.isBl, vo, put, Vl.isFr, Vl.all, biD, ds, ts, sets, List.flatMap_cons, List.flatMap_nil, List.map_cons, List.map_nil, List.append_nil, List.nil_append, vl_nil, vf_nil, frz_nil, List.getElem?_cons_zero, List.getElem?_cons_succ, List.set_cons_zero, List.set_cons_succ, Bool.false_eq_true, if_false, if_true, reduceIte, List.length_cons, List.length_nil, Nat.reduceAdd, Nat.reduceSub, List.replicate, List.cons_append, List.replicate_succ, List.replicate_zero, Option.map_some, Option.map_none, Bool.not_true, Bool.not_false, List.singleton_append, bindP, ht, hty, hlen, hc, h1, hc2, h2, hit, l1, hall, Nat.zero_le])
  all_goals
    simp only [isColorD, Bool.not_false, if_true]
    exact key _ ht rfl
theorem row_ret {x : D} {ys : List D} {W : Dr} (h : ∀ z ∈ ys, z.gd = true) :
    if (!ys.all isColorD) = true then ∃ ρ', forOne 1000000 B__law_are_rows_4 (.nm 1) (.tup ys) [.val x, .un, .un, .un] W = .rt ⟨.bl false, .pl, []⟩ ρ' W else forOne 1000000 B__law_are_rows_4 (.nm 1) (.tup ys) [.val x, .un, .un, .un] W = .nx [.val x, .un, .un, .un] W := by
  have lp := for_ret id (fun _ => [.val x, .val (.tup ys), .un, .un]) (fun z => !isColorD z) (fun _ => ⟨.bl false, .pl, []⟩) (f := forOne 1000000 B__law_are_rows_3 (.nm 2)) (W := W) (xs := ys) fun q z r e _ => col_ret (h z (by rw [e]; simp))
  rw [List.map_id] at lp
  have hit : (D.tup ys).items = some ys := rfl
  unfold forOne B__law_are_rows_4
  cases hf : ys.find? (fun y => !isColorD y) with
  | some y =>
    rw [hf] at lp
    obtain ⟨ρ', lp⟩ := lp
    have ha : ys.all isColorD = false := by
      have m := List.mem_of_find?_eq_some hf
      have p := List.find?_some hf
      cases q : ys.all isColorD with
      | false => rfl
      | true =>
        have := List.all_eq_true.mp q y m
        rw [this] at p
        cases p
    rw [ha]
    simp only [Bool.not_false, if_true]
    refine ⟨ρ', ?_⟩
    simp only [edN0, edN1, edN2, edN3, wip, SOut.wp, vl_int, vl_str, vl_bl, vl_non, nd2, Nat.reduceLeDiff, Nat.reduceEqDiff, not_false_eq_true, and_self, and_true, true_and, putAll, big_eq, ↓evS_for, ↓ev_lc, evS, evT, evA, ev, evL, evO, evI, Out.bind, Out.st, ofS, ofO, D.isBl, vo, put, Vl.isFr, Vl.all, biD, ds, ts, sets, List.flatMap_cons, List.flatMap_nil, List.map_cons, List.map_nil, List.append_nil, List.nil_append, vl_nil, vf_nil, frz_nil, List.getElem?_cons_zero, List.getElem?_cons_succ, List.set_cons_zero, List.set_cons_succ, Bool.false_eq_true, if_false, if_true, reduceIte, List.length_cons, List.length_nil, Nat.reduceAdd, Nat.reduceSub, List.replicate, List.cons_append, List.replicate_succ, List.replicate_zero, Option.map_some, Option.map_none, Bool.not_true, Bool.not_false, List.singleton_append, bindP, hit, lp]
  | none =>
    rw [hf] at lp
    have ha : ys.all isColorD = true := List.all_eq_true.mpr fun y hy => by
      have := List.find?_eq_none.mp hf y hy
      simpa using this
    rw [ha]
    simp only [Bool.not_true, Bool.false_eq_true, if_false]
    simp only [edN0, edN1, edN2, edN3, wip, SOut.wp, vl_int, vl_str, vl_bl, vl_non, nd2, Nat.reduceLeDiff, Nat.reduceEqDiff, not_false_eq_true, and_self, and_true, true_and, putAll, big_eq, ↓evS_for, ↓ev_lc, evS, evT, evA, ev, evL, evO, evI, Out.bind, Out.st, ofS, ofO, D.isBl, vo, put, Vl.isFr, Vl.all, biD, ds, ts, sets, List.flatMap_cons, List.flatMap_nil, List.map_cons, List.map_nil, List.append_nil, List.nil_append, vl_nil, vf_nil, frz_nil, List.getElem?_cons_zero, List.getElem?_cons_succ, List.set_cons_zero, List.set_cons_succ, Bool.false_eq_true, if_false, if_true, reduceIte, List.length_cons, List.length_nil, Nat.reduceAdd, Nat.reduceSub, List.replicate, List.cons_append, List.replicate_succ, List.replicate_zero, Option.map_some, Option.map_none, Bool.not_true, Bool.not_false, List.singleton_append, bindP, hit, lp]
def isNT : D → Bool
  | .tup ys => !ys.isEmpty
  | _ => false
def rowsB : D → Bool
  | .lst xs => xs.all isThreadD
  | .tup xs => xs.all isThreadD
  | _ => false
theorem rows_aux {x : D} {xs : List D} {W : Dr} (h : x.gd = true) (hi : ∀ y ∈ xs, Itm y) (hx : x = .lst xs ∨ x = .tup xs) : G__law_are_rows [x] W = .ok (false, .bl (xs.all isThreadD)) W := by
  have ht := gd_typed h
  have h2 : xs.length ≤ 16777216 := by
    rcases hx with rfl | rfl <;> (simp only [D.gd, Bool.and_eq_true, gdL_iff, decide_eq_true_eq] at h; exact h.2)
  have hit : x.items = some xs := by rcases hx with rfl | rfl <;> rfl
  have hty : [Ty.list, Ty.tuple].any (isD1 x) = true := by rcases hx with rfl | rfl <;> rfl
  have l1 := lc_filter (one := lcOne (.var 1) T__law_are_rows_1 (.nm 1) [1] [.val x, .un, .un, .un]) id (fun y => !isNT y) (W := W) (xs := xs) h2 fun y hy => ⟨vl y [], by
    refine lcOne_if ?_ fun _ => ?_
    · obtain ⟨hg, hp⟩ := hi y hy
      have hyt := gd_typed hg
      unfold T__law_are_rows_1
      have key : ∀ y : D, y.typed = true → isD1 y .tuple = false → isNT y = false → ∀ ρ, [Sl.val x, .un, .un, .un].set 1 (.val y) = ρ → evA (.cons (.or (.not (.tv (.isi (.var 1) [.tuple]))) (.tv (.cmp .Eq (.var 1) (.tup .nil)))) .nil) ρ W = .ok (!isNT y) W := fun y h1 h2 h3 ρ e => by
        subst e
        have hty : [Ty.tuple].any (isD1 y) = false := by simp [h2]
        simp only [edN0, edN1, edN2, edN3, wip, SOut.wp, vl_int, vl_str, vl_bl, vl_non, nd2, Nat.reduceLeDiff, Nat.reduceEqDiff, not_false_eq_true, and_self, and_true, true_and, putAll, big_eq, ↓evS_for, ↓ev_lc, evS, evT, evA, ev, evL, evO, evI, Out.bind, Out.st, ofS, ofO, D.isBl, vo, put, Vl.isFr, Vl.all, biD, ds, ts, sets, List.flatMap_cons, List.flatMap_nil, List.map_cons, List.map_nil, List.append_nil, List.nil_append, vl_nil, vf_nil, frz_nil, List.getElem?_cons_zero, List.getElem?_cons_succ, List.set_cons_zero, List.set_cons_succ, Bool.false_eq_true, if_false, if_true, reduceIte, List.length_cons, List.length_nil, Nat.reduceAdd, Nat.reduceSub, List.replicate, List.cons_append, List.replicate_succ, List.replicate_zero, Option.map_some, Option.map_none, Bool.not_true, Bool.not_false, List.singleton_append, h1, hty, h3]
      cases y
      case tup ys =>
        have e1 : cmpD .Eq (.tup ys) (.tup []) = some ys.isEmpty := eq_nilTup (hp ys rfl)
        have hty : [Ty.tuple].any (isD1 (.tup ys)) = true := rfl
        have hn : isNT (.tup ys) = !ys.isEmpty := rfl
        rw [hn]
        cases he : ys.isEmpty <;> simp only [edN0, edN1, edN2, edN3, wip, SOut.wp, vl_int, vl_str, vl_bl, vl_non, nd2, Nat.reduceLeDiff, Nat.reduceEqDiff, not_false_eq_true, and_self, and_true, true_and, putAll, big_eq, ↓evS_for, ↓ev_lc, evS, evT, evA, ev, evL, evO, evI, Out.bind, Out.st, ofS, ofO, D.isBl, vo, put, Vl.isFr, Vl.all, biD, ds, ts, sets, List.flatMap_cons, List.flatMap_nil, List.map_cons, List.map_nil, List.append_nil, List.nil_append, vl_nil, vf_nil, frz_nil, List.getElem?_cons_zero, List.getElem?_cons_succ, List.set_cons_zero, List.set_cons_succ, Bool.false_eq_true, if_false, if_true, reduceIte, List.length_cons, List.length_nil, Nat.reduceAdd, Nat.reduceSub, List.replicate, List.cons_append, List.replicate_succ, List.replicate_zero, Option.map_some, Option.map_none, Bool.not_true, Bool.not_false, List.singleton_append, hyt, hty, e1, he, id, Nat.zero_le] <;> try (simp only [edN0, edN1, edN2, edN3, wip, SOut.wp, vl_int, vl_str, vl_bl, vl_non, nd2, Nat.reduceLeDiff, Nat.reduceEqDiff, not_false_eq_true, and_self, and_true, true_and, putAll, big_eq, ↓evS_for, ↓ev_lc, evS, evT, evA, ev, evL, evO, evI, Out.bind, Out.st, ofS, ofO, D.isBl, vo, put, Vl.isFr, Vl.all, biD, ds, ts, sets, List.flatMap_cons, List.flatMap_nil, List.map_cons, List.map_nil, List.append_nil, List.nil_append, vl_nil, vf_nil, frz_nil, List.getElem?_cons_zero, List.getElem?_cons_succ, List.set_cons_zero, List.set_cons_succ, Bool.false_eq_true, if_false, if_true, reduceIte, List.length_cons, List.length_nil, Nat.reduceAdd, Nat.reduceSub, List.replicate, List.cons_append, List.replicate_succ, List.replicate_zero, Option.map_some, Option.map_none, Bool.not_true, Bool.not_false, List.singleton_append, hyt, hty, e1, he, id, Nat.zero_le] <;> try simp only [edN0, edN1, edN2, edN3, wip, SOut.wp, vl_int, vl_str, vl_bl, vl_non, nd2, Nat.reduceLeDiff, Nat.reduceEqDiff, not_false_eq_true, and_self, and_true, true_and, putAll, big_eq, ↓evS_for, ↓ev_lc, evS, evT, evA, ev, evL, evO, evI, Out.bind, Out.st, ofS, ofO, D.isBl, vo, put, Vl.isFr, Vl.all, biD, ds, ts, sets, List.flatMap_cons, List.flatMap_nil, List.map_cons, List.map_nil, List.append_nil, List.nil_append, vl_nil, vf_nil, frz_nil, List.getElem?_cons_zero, List.getElem?_cons_succ, List.set_cons_zero, List.set_cons_succ, Bool.false_eq_true, if_false, if_true, reduceIte, List.length_cons, List.length_nil, Nat.reduceAdd, Nat.reduceSub, List.replicate, List.cons_append, List.replicate_succ, List.replicate_zero, Option.map_some, Option.map_none, Bool.not_true, Bool.not_false, List.singleton_append, hyt, hty, e1, he, id, Nat.zero_le])
      all_goals exact key _ hyt rfl rfl _ rfl
    · simp only [edN0, edN1, edN2, edN3, wip, SOut.wp, vl_int, vl_str, vl_bl, vl_non, nd2, Nat.reduceLeDiff, Nat.reduceEqDiff, not_false_eq_true, and_self, and_true, true_and, putAll, big_eq, ↓evS_for, ↓ev_lc, evS, evT, evA, ev, evL, evO, evI, Out.bind, Out.st, ofS, ofO, D.isBl, vo, put, Vl.isFr, Vl.all, biD, ds, ts, sets, List.flatMap_cons, List.flatMap_nil, List.map_cons, List.map_nil, List.append_nil, List.nil_append, vl_nil, vf_nil, frz_nil, List.getElem?_cons_zero, List.getElem?_cons_succ, List.set_cons_zero, List.set_cons_succ, Bool.false_eq_true, if_false, if_true, reduceIte, List.length_cons, List.length_nil, Nat.reduceAdd, Nat.reduceSub, List.replicate, List.cons_append, List.replicate_succ, List.replicate_zero, Option.map_some, Option.map_none, Bool.not_true, Bool.not_false, List.singleton_append, wip, id], by unfold vl; split <;> rfl, by unfold vl; split <;> rfl⟩
  rw [List.map_id, List.map_id] at l1
  have hn : pureG neNilD [.lst (xs.filter fun y => !isNT y), .lst []] W = .ok (false, .bl (!xs.all isNT)) W := pureG_some (by
    have e : (xs.filter fun y => !isNT y).isEmpty = xs.all isNT := by
      clear h ht h2 hit hty l1 hx hi
      induction xs with
      | nil => rfl
      | cons c l ih => cases hc : isNT c <;> simp_all
    simp only [neNilD, e])
  have tn : ∀ y, isThreadD y = true → isNT y = true := fun y e => by
    cases y <;> simp only [isThreadD] at e <;> try (cases e; done)
    rw [Bool.and_eq_true] at e
    exact e.1
  unfold G__law_are_rows Z.run B__law_are_rows
  cases h3 : xs.all isNT with
  | false =>
    have ha : xs.all isThreadD = false := by
      cases q : xs.all isThreadD with
      | false => rfl
      | true =>
        have : xs.all isNT = true := List.all_eq_true.mpr fun y hy => tn y (List.all_eq_true.mp q y hy)
        rw [h3] at this; cases this
    rw [h3] at hn
    rw [ha]
    simp only [edN0, edN1, edN2, edN3, wip, SOut.wp, vl_int, vl_str, vl_bl, vl_non, nd2, Nat.reduceLeDiff, Nat.reduceEqDiff, not_false_eq_true, and_self, and_true, true_and, putAll, big_eq, ↓evS_for, ↓ev_lc, evS, evT, evA, ev, evL, evO, evI, Out.bind, Out.st, ofS, ofO, D.isBl, vo, put, Vl.isFr, Vl.all, biD, ds, ts, sets, List.flatMap_cons, List.flatMap_nil, List.map_cons, List.map_nil, List.append_nil, List.nil_append, vl_nil, vf_nil, frz_nil, List.getElem?_cons_zero, List.getElem?_cons_succ, List.set_cons_zero, List.set_cons_succ, Bool.false_eq_true, if_false, if_true, reduceIte, List.length_cons, List.length_nil, Nat.reduceAdd, Nat.reduceSub, List.replicate, List.cons_append, List.replicate_succ, List.replicate_zero, Option.map_some, Option.map_none, Bool.not_true, Bool.not_false, List.singleton_append, ht, hty, hit, l1, hn, Nat.zero_le] <;> try (simp only [edN0, edN1, edN2, edN3, wip, SOut.wp, vl_int, vl_str, vl_bl, vl_non, nd2, Nat.reduceLeDiff, Nat.reduceEqDiff, not_false_eq_true, and_self, and_true, true_and, putAll, big_eq, ↓evS_for, ↓ev_lc, evS, evT, evA, ev, evL, evO, evI, Out.bind, Out.st, ofS, ofO, D.isBl, vo, put, Vl.isFr, Vl.all, biD, ds, ts, sets, List.flatMap_cons, List.flatMap_nil, List.map_cons, List.map_nil, List.append_nil, List.nil_append, vl_nil, vf_nil, frz_nil, List.getElem?_cons_zero, List.getElem?_cons_succ, List.set_cons_zero, List.set_cons_succ, Bool.false_eq_true, if_false, if_true, reduceIte, List.length_cons, List.length_nil, Nat.reduceAdd, Nat.reduceSub, List.replicate, List.cons_append, List.replicate_succ, List.replicate_zero, Option.map_some, Option.map_none, Bool.not_true, Bool.not_false, List.singleton_append, ht, hty, hit, l1, hn, Nat.zero_le] <;> try simp only [edN0, edN1, edN2, edN3, wip, SOut.wp, vl_int, vl_str, vl_bl, vl_non, nd2, Nat.reduceLeDiff, Nat.reduceEqDiff, not_false_eq_true, and_self, and_true, true_and, putAll, big_eq, ↓evS_for, ↓ev_lc, evS, evT, evA, ev, evL, evO, evI, Out.bind, Out.st, ofS, ofO, D.isBl, vo, put, Vl.isFr, Vl.all, biD, ds, ts, sets, List.flatMap_cons, List.flatMap_nil, List.map_cons, List.map_nil, List.append_nil, List.nil_append, vl_nil, vf_nil, frz_nil, List.getElem?_cons_zero, List.getElem?_cons_succ, List.set_cons_zero, List.set_cons_succ, Bool.false_eq_true, if_false, if_true, reduceIte, List.length_cons, List.length_nil, Nat.reduceAdd, Nat.reduceSub, List.replicate, List.cons_append, List.replicate_succ, List.replicate_zero, Option.map_some, Option.map_none, Bool.not_true, Bool.not_false, List.singleton_append, ht, hty, hit, l1, hn, Nat.zero_le])
  | true =>
    rw [h3] at hn
    have lp := for_ret id (fun _ => [.val x, .un, .un, .un]) (fun y => !isThreadD y) (fun _ => ⟨.bl false, .pl, []⟩) (f := forOne 1000000 B__law_are_rows_4 (.nm 1)) (W := W) (xs := xs) fun q y r e _ => by
      have hy : y ∈ xs := by rw [e]; simp
      have hyn := List.all_eq_true.mp h3 y hy
      obtain ⟨hg, hp⟩ := hi y hy
      cases y <;> simp only [isNT] at hyn <;> try (cases hyn; done)
      rename_i ys
      have hgl : ∀ z ∈ ys, z.gd = true := by
        simp only [D.gd, Bool.and_eq_true, gdL_iff, decide_eq_true_eq] at hg
        exact hg.1
      have et : isThreadD (.tup ys) = ys.all isColorD := by
        simp only [isThreadD, hyn, Bool.true_and]
      have := row_ret (x := x) (W := W) hgl
      show if (!isThreadD (.tup ys)) = true then _ else _
      rw [et]
      exact this
    rw [List.map_id] at lp
    cases hf : xs.find? (fun y => !isThreadD y) with
    | some y =>
      rw [hf] at lp
      obtain ⟨ρ', lp⟩ := lp
      have ha : xs.all isThreadD = false := by
        have m := List.mem_of_find?_eq_some hf
        have p := List.find?_some hf
        cases q : xs.all isThreadD with
        | false => rfl
        | true =>
          have := List.all_eq_true.mp q y m
          rw [this] at p
          cases p
      rw [ha]
      simp only [edN0, edN1, edN2, edN3, wip, SOut.wp, vl_int, vl_str, vl_bl, vl_non, nd2, Nat.reduceLeDiff, Nat.reduceEqDiff, not_false_eq_true, and_self, and_true, true_and, putAll, big_eq, ↓evS_for, ↓ev_lc, evS, evT, evA, ev, evL, evO, evI, Out.bind, Out.st, ofS, ofO, D.isBl, vo, put, Vl.isFr, Vl.all, biD, ds, ts, sets, List.flatMap_cons, List.flatMap_nil, List.map_cons, List.map_nil, List.append_nil, List.nil_append, vl_nil, vf_nil, frz_nil, List.getElem?_cons_zero, List.getElem?_cons_succ, List.set_cons_zero, List.set_cons_succ, Bool.false_eq_true, if_false, if_true, reduceIte, List.length_cons, List.length_nil, Nat.reduceAdd, Nat.reduceSub, List.replicate, List.cons_append, List.replicate_succ, List.replicate_zero, Option.map_some, Option.map_none, Bool.not_true, Bool.not_false, List.singleton_append, ht, hty, hit, l1, hn, lp, Nat.zero_le] <;> try (simp only [edN0, edN1, edN2, edN3, wip, SOut.wp, vl_int, vl_str, vl_bl, vl_non, nd2, Nat.reduceLeDiff, Nat.reduceEqDiff, not_false_eq_true, and_self, and_true, true_and, putAll, big_eq, ↓evS_for, ↓ev_lc, evS, evT, evA, ev, evL, evO, evI, Out.bind, Out.st, ofS, ofO, D.isBl, vo, put, Vl.isFr, Vl.all, biD, ds, ts, sets, List.flatMap_cons, List.flatMap_nil, List.map_cons, List.map_nil, List.append_nil, List.nil_append, vl_nil, vf_nil, frz_nil, List.getElem?_cons_zero, List.getElem?_cons_succ, List.set_cons_zero, List.set_cons_succ, Bool.false_eq_true, if_false, if_true, reduceIte, List.length_cons, List.length_nil, Nat.reduceAdd, Nat.reduceSub, List.replicate, List.cons_append, List.replicate_succ, List.replicate_zero, Option.map_some, Option.map_none, Bool.not_true, Bool.not_false, List.singleton_append, ht, hty, hit, l1, hn, lp, Nat.zero_le] <;> try simp only [edN0, edN1, edN2, edN3, wip, SOut.wp, vl_int, vl_str, vl_bl, vl_non, nd2, Nat.reduceLeDiff, Nat.reduceEqDiff, not_false_eq_true, and_self, and_true, true_and, putAll, big_eq, ↓evS_for, ↓ev_lc, evS, evT, evA, ev, evL, evO, evI, Out.bind, Out.st, ofS, ofO, D.isBl, vo, put, Vl.isFr, Vl.all, biD, ds, ts, sets, List.flatMap_cons, List.flatMap_nil, List.map_cons, List.map_nil, List.append_nil, List.nil_append, vl_nil, vf_nil, frz_nil, List.getElem?_cons_zero, List.getElem?_cons_succ, List.set_cons_zero, List.set_cons_succ, Bool.false_eq_true, if_false, if_true, reduceIte, List.length_cons, List.length_nil, Nat.reduceAdd, Nat.reduceSub, List.replicate, List.cons_append, List.replicate_succ, List.replicate_zero, Option.map_some, Option.map_none, Bool.not_true, Bool.not_false, List.singleton_append, ht, hty, hit, l1, hn, lp, Nat.zero_le])
    | none =>
      rw [hf] at lp
      have ha : xs.all isThreadD = true := List.all_eq_true.mpr fun y hy => by
        have := List.find?_eq_none.mp hf y hy
        simpa using this
      rw [ha]
      simp only [edN0, edN1, edN2, edN3, wip, SOut.wp, vl_int, vl_str, vl_bl, vl_non, nd2, Nat.reduceLeDiff, Nat.reduceEqDiff, not_false_eq_true, and_self, and_true, true_and, putAll, big_eq, ↓evS_for, ↓ev_lc, evS, evT, evA, ev, evL, evO, evI, Out.bind, Out.st, ofS, ofO, D.isBl, vo, put, Vl.isFr, Vl.all, biD, ds, ts, sets, List.flatMap_cons, List.flatMap_nil, List.map_cons, List.map_nil, List.append_nil, List.nil_append, vl_nil, vf_nil, frz_nil, List.getElem?_cons_zero, List.getElem?_cons_succ, List.set_cons_zero, List.set_cons_succ, Bool.false_eq_true, if_false, if_true, reduceIte, List.length_cons, List.length_nil, Nat.reduceAdd, Nat.reduceSub, List.replicate, List.cons_append, List.replicate_succ, List.replicate_zero, Option.map_some, Option.map_none, Bool.not_true, Bool.not_false, List.singleton_append, ht, hty, hit, l1, hn, lp, Nat.zero_le] <;> try (simp only [edN0, edN1, edN2, edN3, wip, SOut.wp, vl_int, vl_str, vl_bl, vl_non, nd2, Nat.reduceLeDiff, Nat.reduceEqDiff, not_false_eq_true, and_self, and_true, true_and, putAll, big_eq, ↓evS_for, ↓ev_lc, evS, evT, evA, ev, evL, evO, evI, Out.bind, Out.st, ofS, ofO, D.isBl, vo, put, Vl.isFr, Vl.all, biD, ds, ts, sets, List.flatMap_cons, List.flatMap_nil, List.map_cons, List.map_nil, List.append_nil, List.nil_append, vl_nil, vf_nil, frz_nil, List.getElem?_cons_zero, List.getElem?_cons_succ, List.set_cons_zero, List.set_cons_succ, Bool.false_eq_true, if_false, if_true, reduceIte, List.length_cons, List.length_nil, Nat.reduceAdd, Nat.reduceSub, List.replicate, List.cons_append, List.replicate_succ, List.replicate_zero, Option.map_some, Option.map_none, Bool.not_true, Bool.not_false, List.singleton_append, ht, hty, hit, l1, hn, lp, Nat.zero_le] <;> try simp only [edN0, edN1, edN2, edN3, wip, SOut.wp, vl_int, vl_str, vl_bl, vl_non, nd2, Nat.reduceLeDiff, Nat.reduceEqDiff, not_false_eq_true, and_self, and_true, true_and, putAll, big_eq, ↓evS_for, ↓ev_lc, evS, evT, evA, ev, evL, evO, evI, Out.bind, Out.st, ofS, ofO, D.isBl, vo, put, Vl.isFr, Vl.all, biD, ds, ts, sets, List.flatMap_cons, List.flatMap_nil, List.map_cons, List.map_nil, List.append_nil, List.nil_append, vl_nil, vf_nil, frz_nil, List.getElem?_cons_zero, List.getElem?_cons_succ, List.set_cons_zero, List.set_cons_succ, Bool.false_eq_true, if_false, if_true, reduceIte, List.length_cons, List.length_nil, Nat.reduceAdd, Nat.reduceSub, List.replicate, List.cons_append, List.replicate_succ, List.replicate_zero, Option.map_some, Option.map_none, Bool.not_true, Bool.not_false, List.singleton_append, ht, hty, hit, l1, hn, lp, Nat.zero_le])
structure Good (x : D) : Prop where
  gd : x.gd = true
  it : ∀ xs, x = .lst xs ∨ x = .tup xs → ∀ y ∈ xs, Itm y
theorem are_rows_ok {x : D} {W : Dr} (h : Good x) : G__law_are_rows [x] W = .ok (false, .bl (rowsB x)) W := by
  have ht := gd_typed h.gd
  obtain ⟨hg, hi⟩ := h
  cases x
  case lst xs => exact rows_aux hg (hi xs (.inl rfl)) (.inl rfl)
  case tup xs => exact rows_aux hg (hi xs (.inr rfl)) (.inr rfl)
  all_goals
    have hty : ∀ b, [Ty.list, Ty.tuple].any (isD1 b) = (isD1 b .list || isD1 b .tuple) := fun b => by simp
    unfold G__law_are_rows Z.run B__law_are_rows
    simp only [edN0, edN1, edN2, edN3, wip, SOut.wp, vl_int, vl_str, vl_bl, vl_non, nd2, Nat.reduceLeDiff, Nat.reduceEqDiff, not_false_eq_true, and_self, and_true, true_and, putAll, big_eq, ↓evS_for, ↓ev_lc, evS, evT, evA, ev, evL, evO, evI, Out.bind, Out.st, ofS, ofO, D.isBl, vo, put, Vl.isFr, Vl.all, biD, ds, ts, sets, List.flatMap_cons, List.flatMap_nil, List.map_cons, List.map_nil, List.append_nil, List.nil_append, vl_nil, vf_nil, frz_nil, List.getElem?_cons_zero, List.getElem?_cons_succ, List.set_cons_zero, List.set_cons_succ, Bool.false_eq_true, if_false, if_true, reduceIte, List.length_cons, List.length_nil, Nat.reduceAdd, Nat.reduceSub, List.replicate, List.cons_append, List.replicate_succ, List.replicate_zero, Option.map_some, Option.map_none, Bool.not_true, Bool.not_false, List.singleton_append, ht, hty, isD1, rowsB, Bool.or_self, Bool.false_or]
end Qk69

namespace Qk69
open PySem Z
def its (x : D) : List D := x.seq.getD []
def dueB (x y : D) : Bool := rowsB x && rowsB y && decide ((its x).length ≤ 8) && (decide (1 ≤ beadsD (its x ++ its y)) && decide (beadsD (its x ++ its y) ≤ 60))
theorem rows_seq {x : D} (h : rowsB x = true) : ∃ xs, (x = .lst xs ∨ x = .tup xs) ∧ xs.all isThreadD = true ∧ its x = xs ∧ x.seq = some xs := by
  cases x <;> simp only [rowsB] at h <;> try (cases h; done)
  · exact ⟨_, .inr rfl, h, rfl, rfl⟩
  · exact ⟨_, .inl rfl, h, rfl, rfl⟩
theorem lens {el : E} {s : Nat → D → En} {W : Dr} {xs : List D} {one : D → Dr → Out (Option Vl)} (h2 : xs.length ≤ cap) (hall : ∀ y ∈ xs, isThreadD y = true) (h : ∀ l : List D, one (.tup l) W = .ok (some ⟨.int l.length, .pl, []⟩) W) :
    lcGo one xs [] [] W = .ok ⟨.lst ((xs.map fun x => (dlen x : Int)).map .int), .fr, []⟩ W := by
  rw [lc_map (g := fun y => some (.int (dlen y))) xs (by simpa using h2) fun y hy => ?_]
  · simp [List.filterMap_eq_map', Function.comp_def]
  · have hy' := hall y hy
    cases y <;> simp only [isThreadD] at hy' <;> try (cases hy')
    rename_i l
    exact ⟨_, h l, rfl, fun v hv => by cases hv; rfl⟩
theorem star3 {i j : Nat} {x y : D} {xs ys : List D} {ρ : En} {W : Dr} (hl : (xs ++ ys).length ≤ cap) (h0 : ρ[i]? = some (.val x)) (h1 : ρ[j]? = some (.val y)) (hx : x.seq = some xs) (hy : y.seq = some ys) : ev (.lst (.star (.var i) (.star (.var j) .nil))) ρ W = .ok ⟨.lst (xs ++ ys), .fr, []⟩ W := by
  have hm : ∀ zs : List D, List.map (fun x : Vl => x.d) (List.map (fun y : D => (⟨y, .pl, []⟩ : Vl)) zs) = zs := fun zs => by rw [List.map_map]; exact List.map_id zs
  have hf : ∀ zs : List D, List.flatMap Vl.all (List.map (fun y : D => (⟨y, .pl, []⟩ : Vl)) zs) = [] := fun zs => by
    induction zs with
    | nil => rfl
    | cons z zs ih => rw [List.map_cons, List.flatMap_cons, ih]; rfl
  simp only [ev, evL, h0, h1, hx, hy, Out.bind, ofO, List.append_nil, vl_nil]
  rw [if_pos (by simpa using hl)]
  simp only [ds, ts, ← List.map_append, hm, hf, vf_nil]
theorem is_due_ok {x y : D} {W : Dr} (hx : Good x) (hy : Good y) (hl : (its x).length + (its y).length ≤ 1000) : G__law_is_due [x, y] W = .ok (false, .bl (dueB x y)) W := by
  have a1 := are_rows_ok (W := W) hx
  have a2 := are_rows_ok (W := W) hy
  unfold G__law_is_due Z.run B__law_is_due
  unfold dueB
  cases h1 : rowsB x with
  | false => simp only [edN0, edN1, edN2, edN3, wip, SOut.wp, vl_int, vl_str, vl_bl, vl_non, nd2, Nat.reduceLeDiff, Nat.reduceEqDiff, not_false_eq_true, and_self, and_true, true_and, putAll, big_eq, ↓evS_for, ↓ev_lc, evS, evT, evA, ev, evL, evO, evI, Out.bind, Out.st, ofS, ofO, D.isBl, vo, put, Vl.isFr, Vl.all, biD, ds, ts, sets, List.flatMap_cons, List.flatMap_nil, List.map_cons, List.map_nil, List.append_nil, List.nil_append, vl_nil, vf_nil, frz_nil, List.getElem?_cons_zero, List.getElem?_cons_succ, List.set_cons_zero, List.set_cons_succ, Bool.false_eq_true, if_false, if_true, reduceIte, List.length_cons, List.length_nil, Nat.reduceAdd, Nat.reduceSub, List.replicate, List.cons_append, List.replicate_succ, List.replicate_zero, Option.map_some, Option.map_none, Bool.not_true, Bool.not_false, List.singleton_append, a1, h1, Bool.false_and]
  | true =>
    cases h2 : rowsB y with
    | false => simp only [edN0, edN1, edN2, edN3, wip, SOut.wp, vl_int, vl_str, vl_bl, vl_non, nd2, Nat.reduceLeDiff, Nat.reduceEqDiff, not_false_eq_true, and_self, and_true, true_and, putAll, big_eq, ↓evS_for, ↓ev_lc, evS, evT, evA, ev, evL, evO, evI, Out.bind, Out.st, ofS, ofO, D.isBl, vo, put, Vl.isFr, Vl.all, biD, ds, ts, sets, List.flatMap_cons, List.flatMap_nil, List.map_cons, List.map_nil, List.append_nil, List.nil_append, vl_nil, vf_nil, frz_nil, List.getElem?_cons_zero, List.getElem?_cons_succ, List.set_cons_zero, List.set_cons_succ, Bool.false_eq_true, if_false, if_true, reduceIte, List.length_cons, List.length_nil, Nat.reduceAdd, Nat.reduceSub, List.replicate, List.cons_append, List.replicate_succ, List.replicate_zero, Option.map_some, Option.map_none, Bool.not_true, Bool.not_false, List.singleton_append, a1, a2, h1, h2, Bool.false_and, Bool.true_and]
    | true =>
      obtain ⟨xs, x1, x2, x3, x4⟩ := rows_seq h1
      obtain ⟨ys, y1, y2, y3, y4⟩ := rows_seq h2
      rw [x3, y3] at hl ⊢
      have hlen : lenD [x] = some (false, .int xs.length) := by rcases x1 with rfl | rfl <;> rfl
      have c1 : cmpD .Gt (.int xs.length) (.int 8) = some (!decide (xs.length ≤ 8)) := by
        simp only [cmpD]; congr 1; rw [← decide_not]; exact decide_eq_decide.mpr (by omega)
      cases h3 : decide (xs.length ≤ 8) with
      | false => simp only [edN0, edN1, edN2, edN3, wip, SOut.wp, vl_int, vl_str, vl_bl, vl_non, nd2, Nat.reduceLeDiff, Nat.reduceEqDiff, not_false_eq_true, and_self, and_true, true_and, putAll, big_eq, ↓evS_for, ↓ev_lc, evS, evT, evA, ev, evL, evO, evI, Out.bind, Out.st, ofS, ofO, D.isBl, vo, put, Vl.isFr, Vl.all, biD, ds, ts, sets, List.flatMap_cons, List.flatMap_nil, List.map_cons, List.map_nil, List.append_nil, List.nil_append, vl_nil, vf_nil, frz_nil, List.getElem?_cons_zero, List.getElem?_cons_succ, List.set_cons_zero, List.set_cons_succ, Bool.false_eq_true, if_false, if_true, reduceIte, List.length_cons, List.length_nil, Nat.reduceAdd, Nat.reduceSub, List.replicate, List.cons_append, List.replicate_succ, List.replicate_zero, Option.map_some, Option.map_none, Bool.not_true, Bool.not_false, List.singleton_append, a1, a2, h1, h2, hlen, c1, h3, Bool.false_and, Bool.and_false, Bool.true_and]
      | true =>
        have lx : listD [x] = some (true, .lst xs) := by rcases x1 with rfl | rfl <;> rfl
        have ly : listD [y] = some (true, .lst ys) := by rcases y1 with rfl | rfl <;> rfl
        have ad : binD .Add (.lst xs) (.lst ys) = some (true, .lst (xs ++ ys)) := by
          simp only [binD]
          rw [if_pos (by omega)]
        have hit : ∀ zs : List D, (D.lst zs).items = some zs := fun _ => rfl
        have hall : ∀ z ∈ xs ++ ys, isThreadD z = true := fun z hz => by
          rcases List.mem_append.mp hz with hz | hz
          · exact List.all_eq_true.mp x2 z hz
          · exact List.all_eq_true.mp y2 z hz
        have l1 := lens (el := E__law_is_due_1) (s := fun _ _ => []) (one := lcOne E__law_is_due_1 .nil (.nm 2) [2] [.val x, .val y, .un]) (W := W) (xs := xs ++ ys) (by rw [List.length_append]; unfold cap; omega) hall fun l => lcOne_ok (v := ⟨.int l.length, .pl, []⟩) (by
          have hl : lenD [.tup l] = some (false, .int l.length) := rfl
          unfold E__law_is_due_1
          simp only [edN0, edN1, edN2, edN3, wip, SOut.wp, vl_int, vl_str, vl_bl, vl_non, nd2, Nat.reduceLeDiff, Nat.reduceEqDiff, not_false_eq_true, and_self, and_true, true_and, putAll, big_eq, ↓evS_for, ↓ev_lc, evS, evT, evA, ev, evL, evO, evI, Out.bind, Out.st, ofS, ofO, D.isBl, vo, put, Vl.isFr, Vl.all, biD, ds, ts, sets, List.flatMap_cons, List.flatMap_nil, List.map_cons, List.map_nil, List.append_nil, List.nil_append, vl_nil, vf_nil, frz_nil, List.getElem?_cons_zero, List.getElem?_cons_succ, List.set_cons_zero, List.set_cons_succ, Bool.false_eq_true, if_false, if_true, reduceIte, List.length_cons, List.length_nil, Nat.reduceAdd, Nat.reduceSub, List.replicate, List.cons_append, List.replicate_succ, List.replicate_zero, Option.map_some, Option.map_none, Bool.not_true, Bool.not_false, List.singleton_append, wip, hl])
        have c2 : cmpD .LtE (.int 1) (.int (beadsD (xs ++ ys) : Nat)) = some (decide (1 ≤ beadsD (xs ++ ys))) := by
          simp only [cmpD]; congr 1; exact decide_eq_decide.mpr (by omega)
        have c3 : cmpD .LtE (.int (beadsD (xs ++ ys) : Nat)) (.int 60) = some (decide (beadsD (xs ++ ys) ≤ 60)) := by
          simp only [cmpD]; congr 1; exact decide_eq_decide.mpr (by omega)
        have hv : ∀ zs t, (vf (.lst zs) t).d = .lst zs := fun zs t => by unfold vf; split <;> rfl
        cases h4 : decide (1 ≤ beadsD (xs ++ ys)) <;> simp only [edN0, edN1, edN2, edN3, wip, SOut.wp, vl_int, vl_str, vl_bl, vl_non, nd2, Nat.reduceLeDiff, Nat.reduceEqDiff, not_false_eq_true, and_self, and_true, true_and, putAll, big_eq, ↓evS_for, ↓ev_lc, evS, evT, evA, ev, evL, evO, evI, Out.bind, Out.st, ofS, ofO, D.isBl, vo, put, Vl.isFr, Vl.all, biD, ds, ts, sets, List.flatMap_cons, List.flatMap_nil, List.map_cons, List.map_nil, List.append_nil, List.nil_append, vl_nil, vf_nil, frz_nil, List.getElem?_cons_zero, List.getElem?_cons_succ, List.set_cons_zero, List.set_cons_succ, Bool.false_eq_true, if_false, if_true, reduceIte, List.length_cons, List.length_nil, Nat.reduceAdd, Nat.reduceSub, List.replicate, List.cons_append, List.replicate_succ, List.replicate_zero, Option.map_some, Option.map_none, Bool.not_true, Bool.not_false, List.singleton_append, a1, a2, h1, h2, hlen, c1, h3, lx, ly, ad, hv, hit, l1, beads_sum, c2, c3, h4, Bool.true_and, Bool.false_and] <;> try (simp only [edN0, edN1, edN2, edN3, wip, SOut.wp, vl_int, vl_str, vl_bl, vl_non, nd2, Nat.reduceLeDiff, Nat.reduceEqDiff, not_false_eq_true, and_self, and_true, true_and, putAll, big_eq, ↓evS_for, ↓ev_lc, evS, evT, evA, ev, evL, evO, evI, Out.bind, Out.st, ofS, ofO, D.isBl, vo, put, Vl.isFr, Vl.all, biD, ds, ts, sets, List.flatMap_cons, List.flatMap_nil, List.map_cons, List.map_nil, List.append_nil, List.nil_append, vl_nil, vf_nil, frz_nil, List.getElem?_cons_zero, List.getElem?_cons_succ, List.set_cons_zero, List.set_cons_succ, Bool.false_eq_true, if_false, if_true, reduceIte, List.length_cons, List.length_nil, Nat.reduceAdd, Nat.reduceSub, List.replicate, List.cons_append, List.replicate_succ, List.replicate_zero, Option.map_some, Option.map_none, Bool.not_true, Bool.not_false, List.singleton_append, a1, a2, h1, h2, hlen, c1, h3, lx, ly, ad, hv, hit, l1, beads_sum, c2, c3, h4, Bool.true_and, Bool.false_and] <;> try simp only [edN0, edN1, edN2, edN3, wip, SOut.wp, vl_int, vl_str, vl_bl, vl_non, nd2, Nat.reduceLeDiff, Nat.reduceEqDiff, not_false_eq_true, and_self, and_true, true_and, putAll, big_eq, ↓evS_for, ↓ev_lc, evS, evT, evA, ev, evL, evO, evI, Out.bind, Out.st, ofS, ofO, D.isBl, vo, put, Vl.isFr, Vl.all, biD, ds, ts, sets, List.flatMap_cons, List.flatMap_nil, List.map_cons, List.map_nil, List.append_nil, List.nil_append, vl_nil, vf_nil, frz_nil, List.getElem?_cons_zero, List.getElem?_cons_succ, List.set_cons_zero, List.set_cons_succ, Bool.false_eq_true, if_false, if_true, reduceIte, List.length_cons, List.length_nil, Nat.reduceAdd, Nat.reduceSub, List.replicate, List.cons_append, List.replicate_succ, List.replicate_zero, Option.map_some, Option.map_none, Bool.not_true, Bool.not_false, List.singleton_append, a1, a2, h1, h2, hlen, c1, h3, lx, ly, ad, hv, hit, l1, beads_sum, c2, c3, h4, Bool.true_and, Bool.false_and])
theorem are_tangled_gen {x y : D} {W : Dr} (hx : Good x) (hy : Good y) (hl : (its x).length + (its y).length ≤ 1000) : G_are_tangled [x, y] W = .ok (false, .bl (dueB x y)) W := by
  have tx := gd_typed hx.gd
  have ty := gd_typed hy.gd
  have sq : ∀ z : D, [Ty.list, Ty.tuple].any (isD1 z) = z.seq.isSome ∨ z.typed = false := fun z => by
    cases z
    case exc c fs => cases fs <;> simp [isD1, D.seq, D.typed]
    case dic t kvs => cases t <;> simp [isD1, D.seq, D.typed]
    all_goals simp [isD1, D.seq, D.typed]
  have sx : [Ty.list, Ty.tuple].any (isD1 x) = x.seq.isSome := (sq x).resolve_right (by rw [tx]; simp)
  have sy : [Ty.list, Ty.tuple].any (isD1 y) = y.seq.isSome := (sq y).resolve_right (by rw [ty]; simp)
  have rs : ∀ z : D, rowsB z = match z.seq with | some zs => zs.all isThreadD | none => false := fun z => by cases z <;> rfl
  unfold G_are_tangled Z.run B_are_tangled
  unfold dueB
  rw [rs x, rs y]
  cases h1 : x.seq with
  | none =>
    rw [h1] at sx
    simp only [Option.isSome_none] at sx
    simp only [edN0, edN1, edN2, edN3, wip, SOut.wp, vl_int, vl_str, vl_bl, vl_non, nd2, Nat.reduceLeDiff, Nat.reduceEqDiff, not_false_eq_true, and_self, and_true, true_and, putAll, big_eq, ↓evS_for, ↓ev_lc, evS, evT, evA, ev, evL, evO, evI, Out.bind, Out.st, ofS, ofO, D.isBl, vo, put, Vl.isFr, Vl.all, biD, ds, ts, sets, List.flatMap_cons, List.flatMap_nil, List.map_cons, List.map_nil, List.append_nil, List.nil_append, vl_nil, vf_nil, frz_nil, List.getElem?_cons_zero, List.getElem?_cons_succ, List.set_cons_zero, List.set_cons_succ, Bool.false_eq_true, if_false, if_true, reduceIte, List.length_cons, List.length_nil, Nat.reduceAdd, Nat.reduceSub, List.replicate, List.cons_append, List.replicate_succ, List.replicate_zero, Option.map_some, Option.map_none, Bool.not_true, Bool.not_false, List.singleton_append, tx, sx, Bool.false_and]
  | some xs =>
    rw [h1] at sx
    simp only [Option.isSome_some] at sx
    cases h2 : y.seq with
    | none =>
      rw [h2] at sy
      simp only [Option.isSome_none] at sy
      simp only [edN0, edN1, edN2, edN3, wip, SOut.wp, vl_int, vl_str, vl_bl, vl_non, nd2, Nat.reduceLeDiff, Nat.reduceEqDiff, not_false_eq_true, and_self, and_true, true_and, putAll, big_eq, ↓evS_for, ↓ev_lc, evS, evT, evA, ev, evL, evO, evI, Out.bind, Out.st, ofS, ofO, D.isBl, vo, put, Vl.isFr, Vl.all, biD, ds, ts, sets, List.flatMap_cons, List.flatMap_nil, List.map_cons, List.map_nil, List.append_nil, List.nil_append, vl_nil, vf_nil, frz_nil, List.getElem?_cons_zero, List.getElem?_cons_succ, List.set_cons_zero, List.set_cons_succ, Bool.false_eq_true, if_false, if_true, reduceIte, List.length_cons, List.length_nil, Nat.reduceAdd, Nat.reduceSub, List.replicate, List.cons_append, List.replicate_succ, List.replicate_zero, Option.map_some, Option.map_none, Bool.not_true, Bool.not_false, List.singleton_append, tx, ty, sx, sy, Bool.false_and, Bool.and_false]
    | some ys =>
      rw [h2] at sy
      simp only [Option.isSome_some] at sy
      have x3 : its x = xs := by unfold its; rw [h1]; rfl
      have y3 : its y = ys := by unfold its; rw [h2]; rfl
      rw [x3, y3] at hl ⊢
      have xo : x = .lst xs ∨ x = .tup xs := by
        cases x <;> simp only [D.seq] at h1 <;> cases h1
        · exact .inr rfl
        · exact .inl rfl
      have yo : y = .lst ys ∨ y = .tup ys := by
        cases y <;> simp only [D.seq] at h2 <;> cases h2
        · exact .inr rfl
        · exact .inl rfl
      have hlen : lenD [x] = some (false, .int xs.length) := by rcases xo with rfl | rfl <;> rfl
      have c1 : cmpD .Gt (.int xs.length) (.int 8) = some (!decide (xs.length ≤ 8)) := by
        simp only [cmpD]; congr 1; rw [← decide_not]; exact decide_eq_decide.mpr (by omega)
      cases h3 : decide (xs.length ≤ 8) with
      | false => simp only [edN0, edN1, edN2, edN3, wip, SOut.wp, vl_int, vl_str, vl_bl, vl_non, nd2, Nat.reduceLeDiff, Nat.reduceEqDiff, not_false_eq_true, and_self, and_true, true_and, putAll, big_eq, ↓evS_for, ↓ev_lc, evS, evT, evA, ev, evL, evO, evI, Out.bind, Out.st, ofS, ofO, D.isBl, vo, put, Vl.isFr, Vl.all, biD, ds, ts, sets, List.flatMap_cons, List.flatMap_nil, List.map_cons, List.map_nil, List.append_nil, List.nil_append, vl_nil, vf_nil, frz_nil, List.getElem?_cons_zero, List.getElem?_cons_succ, List.set_cons_zero, List.set_cons_succ, Bool.false_eq_true, if_false, if_true, reduceIte, List.length_cons, List.length_nil, Nat.reduceAdd, Nat.reduceSub, List.replicate, List.cons_append, List.replicate_succ, List.replicate_zero, Option.map_some, Option.map_none, Bool.not_true, Bool.not_false, List.singleton_append, tx, ty, sx, sy, hlen, c1, h3, Bool.false_and, Bool.and_false]
      | true =>
        have hcap : (xs ++ ys).length ≤ cap := by rw [List.length_append]; unfold cap; omega
        have hst := star3 (i := 0) (j := 1) (ρ := [.val x, .val y, .un]) (W := W) hcap rfl rfl h1 h2
        have hit : ∀ zs : List D, (D.lst zs).items = some zs := fun _ => rfl
        have gi : ∀ z ∈ xs ++ ys, z.gd = true := fun z hz => by
          rcases List.mem_append.mp hz with hz | hz
          · exact (hx.it xs xo z hz).1
          · exact (hy.it ys yo z hz).1
        have l1 := lc_bools (el := E_are_tangled_1) (pt := .nm 2) (own := [2]) (ρ := [.val x, .val y, .un]) (W := W) (xs := xs ++ ys) (p := isThreadD) hcap fun z hz => by
          refine lcOne_ok ?_
          unfold E_are_tangled_1
          simp only [edN0, edN1, edN2, edN3, wip, SOut.wp, vl_int, vl_str, vl_bl, vl_non, nd2, Nat.reduceLeDiff, Nat.reduceEqDiff, not_false_eq_true, and_self, and_true, true_and, putAll, big_eq, ↓evS_for, ↓ev_lc, evS, evT, evA, ev, evL, evO, evI, Out.bind, Out.st, ofS, ofO, D.isBl, vo, put, Vl.isFr, Vl.all, biD, ds, ts, sets, List.flatMap_cons, List.flatMap_nil, List.map_cons, List.map_nil, List.append_nil, List.nil_append, vl_nil, vf_nil, frz_nil, List.getElem?_cons_zero, List.getElem?_cons_succ, List.set_cons_zero, List.set_cons_succ, Bool.false_eq_true, if_false, if_true, reduceIte, List.length_cons, List.length_nil, Nat.reduceAdd, Nat.reduceSub, List.replicate, List.cons_append, List.replicate_succ, List.replicate_zero, Option.map_some, Option.map_none, Bool.not_true, Bool.not_false, List.singleton_append, wip, is_thread_ok (gi z hz)]
        have am := all_map (p := isThreadD) (xs := xs ++ ys)
        cases h4 : (xs ++ ys).all isThreadD with
        | false =>
          have e : (xs.all isThreadD && ys.all isThreadD) = false := by rw [← List.all_append]; exact h4
          rw [h4] at am
          simp only [e, Bool.false_and]
          simp only [edN0, edN1, edN2, edN3, wip, SOut.wp, vl_int, vl_str, vl_bl, vl_non, nd2, Nat.reduceLeDiff, Nat.reduceEqDiff, not_false_eq_true, and_self, and_true, true_and, putAll, big_eq, ↓evS_for, ↓ev_lc, evS, evT, evA, ev, evL, evO, evI, Out.bind, Out.st, ofS, ofO, D.isBl, vo, put, Vl.isFr, Vl.all, biD, ds, ts, sets, List.flatMap_cons, List.flatMap_nil, List.map_cons, List.map_nil, List.append_nil, List.nil_append, vl_nil, vf_nil, frz_nil, List.getElem?_cons_zero, List.getElem?_cons_succ, List.set_cons_zero, List.set_cons_succ, Bool.false_eq_true, if_false, if_true, reduceIte, List.length_cons, List.length_nil, Nat.reduceAdd, Nat.reduceSub, List.replicate, List.cons_append, List.replicate_succ, List.replicate_zero, Option.map_some, Option.map_none, Bool.not_true, Bool.not_false, List.singleton_append, tx, ty, sx, sy, hlen, c1, h3, ↓hst, hit, l1, am] <;> try (simp only [edN0, edN1, edN2, edN3, wip, SOut.wp, vl_int, vl_str, vl_bl, vl_non, nd2, Nat.reduceLeDiff, Nat.reduceEqDiff, not_false_eq_true, and_self, and_true, true_and, putAll, big_eq, ↓evS_for, ↓ev_lc, evS, evT, evA, ev, evL, evO, evI, Out.bind, Out.st, ofS, ofO, D.isBl, vo, put, Vl.isFr, Vl.all, biD, ds, ts, sets, List.flatMap_cons, List.flatMap_nil, List.map_cons, List.map_nil, List.append_nil, List.nil_append, vl_nil, vf_nil, frz_nil, List.getElem?_cons_zero, List.getElem?_cons_succ, List.set_cons_zero, List.set_cons_succ, Bool.false_eq_true, if_false, if_true, reduceIte, List.length_cons, List.length_nil, Nat.reduceAdd, Nat.reduceSub, List.replicate, List.cons_append, List.replicate_succ, List.replicate_zero, Option.map_some, Option.map_none, Bool.not_true, Bool.not_false, List.singleton_append, tx, ty, sx, sy, hlen, c1, h3, ↓hst, hit, l1, am] <;> try simp only [edN0, edN1, edN2, edN3, wip, SOut.wp, vl_int, vl_str, vl_bl, vl_non, nd2, Nat.reduceLeDiff, Nat.reduceEqDiff, not_false_eq_true, and_self, and_true, true_and, putAll, big_eq, ↓evS_for, ↓ev_lc, evS, evT, evA, ev, evL, evO, evI, Out.bind, Out.st, ofS, ofO, D.isBl, vo, put, Vl.isFr, Vl.all, biD, ds, ts, sets, List.flatMap_cons, List.flatMap_nil, List.map_cons, List.map_nil, List.append_nil, List.nil_append, vl_nil, vf_nil, frz_nil, List.getElem?_cons_zero, List.getElem?_cons_succ, List.set_cons_zero, List.set_cons_succ, Bool.false_eq_true, if_false, if_true, reduceIte, List.length_cons, List.length_nil, Nat.reduceAdd, Nat.reduceSub, List.replicate, List.cons_append, List.replicate_succ, List.replicate_zero, Option.map_some, Option.map_none, Bool.not_true, Bool.not_false, List.singleton_append, tx, ty, sx, sy, hlen, c1, h3, ↓hst, hit, l1, am])
        | true =>
          have e : (xs.all isThreadD && ys.all isThreadD) = true := by rw [← List.all_append]; exact h4
          rw [h4] at am
          simp only [e, Bool.true_and]
          have hall : ∀ z ∈ xs ++ ys, isThreadD z = true := List.all_eq_true.mp h4
          have l2 := lens (el := E_are_tangled_2) (s := fun _ _ => []) (one := lcOne E_are_tangled_2 .nil (.nm 2) [2] [.val x, .val y, .un]) (W := W) (xs := xs ++ ys) hcap hall fun l => lcOne_ok (v := ⟨.int l.length, .pl, []⟩) (by
            have hl : lenD [.tup l] = some (false, .int l.length) := rfl
            unfold E_are_tangled_2
            simp only [edN0, edN1, edN2, edN3, wip, SOut.wp, vl_int, vl_str, vl_bl, vl_non, nd2, Nat.reduceLeDiff, Nat.reduceEqDiff, not_false_eq_true, and_self, and_true, true_and, putAll, big_eq, ↓evS_for, ↓ev_lc, evS, evT, evA, ev, evL, evO, evI, Out.bind, Out.st, ofS, ofO, D.isBl, vo, put, Vl.isFr, Vl.all, biD, ds, ts, sets, List.flatMap_cons, List.flatMap_nil, List.map_cons, List.map_nil, List.append_nil, List.nil_append, vl_nil, vf_nil, frz_nil, List.getElem?_cons_zero, List.getElem?_cons_succ, List.set_cons_zero, List.set_cons_succ, Bool.false_eq_true, if_false, if_true, reduceIte, List.length_cons, List.length_nil, Nat.reduceAdd, Nat.reduceSub, List.replicate, List.cons_append, List.replicate_succ, List.replicate_zero, Option.map_some, Option.map_none, Bool.not_true, Bool.not_false, List.singleton_append, wip, hl])
          have c2 : cmpD .LtE (.int 1) (.int (beadsD (xs ++ ys) : Nat)) = some (decide (1 ≤ beadsD (xs ++ ys))) := by
            simp only [cmpD]; congr 1; exact decide_eq_decide.mpr (by omega)
          have c3 : cmpD .LtE (.int (beadsD (xs ++ ys) : Nat)) (.int 60) = some (decide (beadsD (xs ++ ys) ≤ 60)) := by
            simp only [cmpD]; congr 1; exact decide_eq_decide.mpr (by omega)
          cases h5 : decide (1 ≤ beadsD (xs ++ ys)) <;> simp only [edN0, edN1, edN2, edN3, wip, SOut.wp, vl_int, vl_str, vl_bl, vl_non, nd2, Nat.reduceLeDiff, Nat.reduceEqDiff, not_false_eq_true, and_self, and_true, true_and, putAll, big_eq, ↓evS_for, ↓ev_lc, evS, evT, evA, ev, evL, evO, evI, Out.bind, Out.st, ofS, ofO, D.isBl, vo, put, Vl.isFr, Vl.all, biD, ds, ts, sets, List.flatMap_cons, List.flatMap_nil, List.map_cons, List.map_nil, List.append_nil, List.nil_append, vl_nil, vf_nil, frz_nil, List.getElem?_cons_zero, List.getElem?_cons_succ, List.set_cons_zero, List.set_cons_succ, Bool.false_eq_true, if_false, if_true, reduceIte, List.length_cons, List.length_nil, Nat.reduceAdd, Nat.reduceSub, List.replicate, List.cons_append, List.replicate_succ, List.replicate_zero, Option.map_some, Option.map_none, Bool.not_true, Bool.not_false, List.singleton_append, tx, ty, sx, sy, hlen, c1, h3, ↓hst, hit, l1, am, l2, beads_sum, c2, c3, h5, Bool.true_and, Bool.false_and] <;> try (simp only [edN0, edN1, edN2, edN3, wip, SOut.wp, vl_int, vl_str, vl_bl, vl_non, nd2, Nat.reduceLeDiff, Nat.reduceEqDiff, not_false_eq_true, and_self, and_true, true_and, putAll, big_eq, ↓evS_for, ↓ev_lc, evS, evT, evA, ev, evL, evO, evI, Out.bind, Out.st, ofS, ofO, D.isBl, vo, put, Vl.isFr, Vl.all, biD, ds, ts, sets, List.flatMap_cons, List.flatMap_nil, List.map_cons, List.map_nil, List.append_nil, List.nil_append, vl_nil, vf_nil, frz_nil, List.getElem?_cons_zero, List.getElem?_cons_succ, List.set_cons_zero, List.set_cons_succ, Bool.false_eq_true, if_false, if_true, reduceIte, List.length_cons, List.length_nil, Nat.reduceAdd, Nat.reduceSub, List.replicate, List.cons_append, List.replicate_succ, List.replicate_zero, Option.map_some, Option.map_none, Bool.not_true, Bool.not_false, List.singleton_append, tx, ty, sx, sy, hlen, c1, h3, ↓hst, hit, l1, am, l2, beads_sum, c2, c3, h5, Bool.true_and, Bool.false_and] <;> try simp only [edN0, edN1, edN2, edN3, wip, SOut.wp, vl_int, vl_str, vl_bl, vl_non, nd2, Nat.reduceLeDiff, Nat.reduceEqDiff, not_false_eq_true, and_self, and_true, true_and, putAll, big_eq, ↓evS_for, ↓ev_lc, evS, evT, evA, ev, evL, evO, evI, Out.bind, Out.st, ofS, ofO, D.isBl, vo, put, Vl.isFr, Vl.all, biD, ds, ts, sets, List.flatMap_cons, List.flatMap_nil, List.map_cons, List.map_nil, List.append_nil, List.nil_append, vl_nil, vf_nil, frz_nil, List.getElem?_cons_zero, List.getElem?_cons_succ, List.set_cons_zero, List.set_cons_succ, Bool.false_eq_true, if_false, if_true, reduceIte, List.length_cons, List.length_nil, Nat.reduceAdd, Nat.reduceSub, List.replicate, List.cons_append, List.replicate_succ, List.replicate_zero, Option.map_some, Option.map_none, Bool.not_true, Bool.not_false, List.singleton_append, tx, ty, sx, sy, hlen, c1, h3, ↓hst, hit, l1, am, l2, beads_sum, c2, c3, h5, Bool.true_and, Bool.false_and])
end Qk69

namespace Qk69
open PySem Z
theorem pdv_th (l : List Str) : pdv (th l) = pdR l := by
  have e : D.pyN 12 (th l) = some (pdR l) := pyN_th 11 l
  simp [pdv, e]
theorem key2 : ∀ (xs : List (List Str)) (a : List Str), ∃ b ∈ a :: xs, (xs.map pdR).foldl (fun a y => if PySem.W.dataLt y a then y else a) (pdR a) = pdR b ∧ ∀ x ∈ a :: xs, leD (th b) (th x) = true := by
  intro xs
  have refl : ∀ a, leD (th a) (th a) = true := fun a => by
    have := leD_total (th a) (th a)
    simpa using this
  induction xs with
  | nil => exact fun a => ⟨a, List.mem_cons_self, rfl, fun x hx => by rw [List.mem_singleton] at hx; subst hx; exact refl x⟩
  | cons x xs ih =>
    intro a
    rw [List.map_cons, List.foldl_cons]
    have e : leD (th a) (th x) = !PySem.W.dataLt (pdR x) (pdR a) := by rw [leD_eq, pdv_th, pdv_th]
    by_cases q : PySem.W.dataLt (pdR x) (pdR a) = true
    · rw [if_pos q]
      rw [q] at e
      obtain ⟨b, hb, e1, e2⟩ := ih x
      refine ⟨b, List.mem_cons_of_mem _ hb, e1, fun y hy => ?_⟩
      rcases List.mem_cons.mp hy with rfl | hy
      · have t := leD_total (th x) (th y)
        rw [show leD (th y) (th x) = false from e, Bool.or_false] at t
        exact leD_trans _ _ _ (e2 x List.mem_cons_self) t
      · exact e2 y hy
    · rw [if_neg q]
      rw [Bool.not_eq_true] at q
      rw [q] at e
      obtain ⟨b, hb, e1, e2⟩ := ih a
      refine ⟨b, ?_, e1, fun y hy => ?_⟩
      · rcases List.mem_cons.mp hb with rfl | hb
        · exact List.mem_cons_self
        · exact List.mem_cons_of_mem _ (List.mem_cons_of_mem _ hb)
      · rcases List.mem_cons.mp hy with rfl | hy
        · exact e2 _ List.mem_cons_self
        · rcases List.mem_cons.mp hy with rfl | hy
          · exact leD_trans _ _ _ (e2 a List.mem_cons_self) e
          · exact e2 y (List.mem_cons_of_mem _ hy)
theorem ltR_min {r : List Str} {k : Nat} (hk : k < r.length) : leD (th (ltR r)) (th (rot r k)) = true := by
  unfold ltR
  cases q : (List.range r.length).map (rot r) with
  | nil =>
    have := congrArg List.length q
    simp at this
    rw [this] at hk
    simp at hk
  | cons l ls =>
    obtain ⟨b, hb, e1, e2⟩ := key2 ls l
    have e3 : minR l ls = b := by
      unfold minR PySem.W.minD
      rw [e1, rowP_pdR]
    show leD (th (minR l ls)) _ = true
    rw [e3]
    refine e2 _ ?_
    rw [← q]
    exact List.mem_map.mpr ⟨k, List.mem_range.mpr hk, rfl⟩
theorem ltR_uniq {r q : List Str} (hr : r ≠ []) (hq : q ≠ []) (h1 : ∀ k, k < r.length → ∃ j, j < q.length ∧ rot r k = rot q j) (h2 : ∀ k, k < q.length → ∃ j, j < r.length ∧ rot q k = rot r j) : ltR r = ltR q := by
  obtain ⟨k, k1, k2⟩ := ltR_rot hr
  obtain ⟨j, j1, j2⟩ := ltR_rot hq
  obtain ⟨k', k3, k4⟩ := h1 k k1
  obtain ⟨j', j3, j4⟩ := h2 j j1
  have a := ltR_min k3
  have b := ltR_min j3
  rw [← k4, ← k2] at a
  rw [← j4, ← j2] at b
  exact toks_th (leD_anti b a)
theorem rot_one {a : Str} {t : List Str} {k : Nat} (h : k ≤ t.length) : rot (rot (a :: t) 1) k = rot (a :: t) (k + 1) := by
  show ((t ++ [a]).drop k) ++ ((t ++ [a]).take k) = t.drop k ++ (a :: t.take k)
  rw [List.drop_append_of_le_length h, List.take_append_of_le_length h, List.append_assoc]
  rfl
theorem rot_all (r : List Str) : rot r r.length = rot r 0 := by simp [rot]
theorem ltR_far {r : List Str} (h : r ≠ []) : ltR (rot r 1) = ltR r := by
  have hne : rot r 1 ≠ [] := fun z => h (List.length_eq_zero_iff.mp (by rw [← rot_len r 1, z]; rfl))
  refine ltR_uniq hne h (fun k hk => ?_) fun k hk => ?_
  · rw [rot_len] at hk
    cases r with
    | nil => exact absurd rfl h
    | cons a t =>
      rw [List.length_cons] at hk
      rw [rot_one (by omega)]
      by_cases e : k + 1 = (a :: t).length
      · exact ⟨0, by simp, by rw [e, rot_all]⟩
      · exact ⟨k + 1, by rw [List.length_cons] at e ⊢; omega, rfl⟩
  · cases r with
    | nil => exact absurd rfl h
    | cons a t =>
      rw [List.length_cons] at hk
      rw [rot_len, List.length_cons]
      cases k with
      | zero =>
        refine ⟨t.length, by omega, ?_⟩
        rw [rot_one (Nat.le_refl _)]
        exact (rot_all (a :: t)).symm
      | succ k => exact ⟨k, by omega, (rot_one (by omega)).symm⟩
theorem rr_far {rs : List (List Str)} (h : ∀ r ∈ rs, r ≠ []) : rr (rs.map fun r => rot r 1) = rr rs := by
  unfold rr
  rw [List.map_map]
  congr 1
  exact List.map_congr_left fun r hr => ltR_far (h r hr)
theorem rot_mem {r : List Str} {k : Nat} {s : Str} (h : s ∈ rot r k) : s ∈ r := by
  rw [rot, List.mem_append] at h
  rcases h with h | h
  · exact List.mem_of_mem_drop h
  · exact List.mem_of_mem_take h
theorem TgOk.far {ls rs : List (List Str)} (h : TgOk ls rs) : TgOk ls (rs.map fun r => rot r 1) := by
  have e : ((ls ++ rs.map fun r => rot r 1).map List.length).sum = ((ls ++ rs).map List.length).sum := by
    rw [List.map_append, List.map_append, List.map_map]
    congr 3
    funext r
    exact rot_len r 1
  refine ⟨h.l8, by rw [List.length_map]; exact h.r60, fun l hl => ?_, fun l hl s hs => ?_, by rw [e]; exact h.one, by rw [e]; exact h.sum⟩
  · rcases List.mem_append.mp hl with hl | hl
    · exact h.ne l (List.mem_append_left _ hl)
    · obtain ⟨r, hr, rfl⟩ := List.mem_map.mp hl
      exact fun z => h.ne r (List.mem_append_right _ hr) (List.length_eq_zero_iff.mp (by rw [← rot_len r 1, z]; rfl))
  · rcases List.mem_append.mp hl with hl | hl
    · exact h.col l (List.mem_append_left _ hl) s hs
    · obtain ⟨r, hr, rfl⟩ := List.mem_map.mp hl
      exact h.col r (List.mem_append_right _ hr) s (rot_mem hs)
theorem thr_of {y : D} (h : isThreadD y = true) : ∃ l : List Str, y = th l ∧ l ≠ [] ∧ ∀ s ∈ l, isColor s = true := by
  cases y <;> simp only [isThreadD] at h <;> try (cases h; done)
  rename_i xs
  rw [Bool.and_eq_true] at h
  have k : ∀ xs : List D, xs.all isColorD = true → ∃ l : List Str, xs = sts l ∧ ∀ s ∈ l, isColor s = true := fun xs => by
    induction xs with
    | nil => exact fun _ => ⟨[], rfl, by simp⟩
    | cons x xs ih =>
      intro h
      rw [List.all_cons, Bool.and_eq_true] at h
      obtain ⟨l, rfl, hl⟩ := ih h.2
      have h1 := h.1
      cases x <;> simp only [isColorD] at h1 <;> try (cases h1; done)
      rename_i s
      exact ⟨s :: l, rfl, fun t ht => (List.mem_cons.mp ht).elim (fun e => e ▸ h1) (hl t)⟩
  obtain ⟨l, rfl, hl⟩ := k xs h.2
  refine ⟨l, rfl, fun z => ?_, hl⟩
  subst z
  exact absurd h.1 (by simp [sts])
theorem thrs_of : ∀ {xs : List D}, xs.all isThreadD = true → ∃ ls : List (List Str), xs = tD ls ∧ (∀ l ∈ ls, l ≠ []) ∧ ∀ l ∈ ls, ∀ s ∈ l, isColor s = true
  | [], _ => ⟨[], rfl, by simp, by simp⟩
  | x :: xs, h => by
    rw [List.all_cons, Bool.and_eq_true] at h
    obtain ⟨ls, rfl, h1, h2⟩ := thrs_of h.2
    obtain ⟨l, rfl, h3, h4⟩ := thr_of h.1
    exact ⟨l :: ls, rfl, fun k hk => (List.mem_cons.mp hk).elim (fun e => e ▸ h3) (h1 k), fun k hk => (List.mem_cons.mp hk).elim (fun e => e ▸ h4) (h2 k)⟩
theorem beads_tD (ls : List (List Str)) : beadsD (tD ls) = (ls.map List.length).sum := by
  unfold beadsD tD
  rw [List.map_map]
  congr 1
  refine List.map_congr_left fun l _ => ?_
  simp [dlen, th, sts]
theorem sum_ne : ∀ {ls : List (List Str)}, (∀ l ∈ ls, l ≠ []) → ls.length ≤ (ls.map List.length).sum
  | [], _ => Nat.le_refl _
  | l :: ls, h => by
    have h1 := sum_ne fun k hk => h k (List.mem_cons_of_mem l hk)
    have h2 := List.length_pos_iff.mpr (h l List.mem_cons_self)
    rw [List.map_cons, List.sum_cons, List.length_cons]
    omega
theorem due_rows {x y : D} (h : dueB x y = true) : ∃ ls rs, RowsIn x ls ∧ RowsIn y rs ∧ TgOk ls rs := by
  unfold dueB at h
  simp only [Bool.and_eq_true, decide_eq_true_eq] at h
  obtain ⟨⟨⟨h1, h2⟩, h3⟩, h4, h5⟩ := h
  obtain ⟨xs, x1, x2, x3, x4⟩ := rows_seq h1
  obtain ⟨ys, y1, y2, y3, y4⟩ := rows_seq h2
  rw [x3] at h3 h4 h5
  rw [y3] at h4 h5
  obtain ⟨ls, rfl, l1, l2⟩ := thrs_of x2
  obtain ⟨rs, rfl, r1, r2⟩ := thrs_of y2
  rw [tD_app, beads_tD] at h4 h5
  rw [tD_len] at h3
  refine ⟨ls, rs, x1, y1, h3, ?_, fun l hl => (List.mem_append.mp hl).elim (l1 l) (r1 l), fun l hl => (List.mem_append.mp hl).elim (l2 l) (r2 l), h4, h5⟩
  have := sum_ne r1
  rw [List.map_append, List.sum_append] at h5
  omega
theorem Tangle_no {x y : D} {W : Dr} (hx : Good x) (hy : Good y) (hl : (its x).length + (its y).length ≤ 1000) (h : dueB x y = false) : G_Tangle [x, y] W = .ex (.exc "NoState" []) W := by
  have e := are_tangled_gen (W := W) hx hy hl
  rw [h] at e
  unfold G_Tangle GI_Tangle Z.runC B_Tangle___init__
  simp only [edN0, edN1, edN2, edN3, wip, SOut.wp, vl_int, vl_str, vl_bl, vl_non, nd2, Nat.reduceLeDiff, Nat.reduceEqDiff, not_false_eq_true, and_self, and_true, true_and, putAll, big_eq, ↓evS_for, ↓ev_lc, evS, evT, evA, ev, evL, evO, evI, Out.bind, Out.st, ofS, ofO, D.isBl, vo, put, Vl.isFr, Vl.all, biD, ds, ts, sets, List.flatMap_cons, List.flatMap_nil, List.map_cons, List.map_nil, List.append_nil, List.nil_append, vl_nil, vf_nil, frz_nil, List.getElem?_cons_zero, List.getElem?_cons_succ, List.set_cons_zero, List.set_cons_succ, Bool.false_eq_true, if_false, if_true, reduceIte, List.length_cons, List.length_nil, Nat.reduceAdd, Nat.reduceSub, List.replicate, List.cons_append, List.replicate_succ, List.replicate_zero, Option.map_some, Option.map_none, Bool.not_true, Bool.not_false, List.singleton_append, e]
theorem Tangle_yes {x y : D} {ls rs : List (List Str)} {W : Dr} (e : G_are_tangled [x, y] W = .ok (false, .bl true) W) (hx : RowsIn x ls) (hy : RowsIn y rs) (h : TgOk ls rs) : G_Tangle [x, y] W = .ok (false, tgD ls (rr rs)) W := by
  have hr : ∀ r ∈ rs, r ≠ [] := fun r hr => h.ne r (List.mem_append_right _ hr)
  have l1 : ∀ fs, lcGo (lcOne E_Tangle___init___1 .nil (.nm 3) [3] [.slf 0 "Tangle" fs, .val x, .val y, .un]) (tD rs) [] [] W = .ok ⟨.lst (rs.map fun r => th (ltR r)), .fr, []⟩ W := fun fs => lc_each th (fun r => th (ltR r)) (Nat.le_trans h.r60 (by decide)) fun r hr2 => by
    refine ⟨⟨th (ltR r), .pl, []⟩, lcOne_ok ?_, rfl, rfl⟩
    have e2 := least_turn_ok (W := W) (hr r hr2) (by have := h.len (List.mem_append_right _ hr2); omega)
    unfold E_Tangle___init___1
    simp only [edN0, edN1, edN2, edN3, wip, SOut.wp, vl_int, vl_str, vl_bl, vl_non, nd2, Nat.reduceLeDiff, Nat.reduceEqDiff, not_false_eq_true, and_self, and_true, true_and, putAll, big_eq, ↓evS_for, ↓ev_lc, evS, evT, evA, ev, evL, evO, evI, Out.bind, Out.st, ofS, ofO, D.isBl, vo, put, Vl.isFr, Vl.all, biD, ds, ts, sets, List.flatMap_cons, List.flatMap_nil, List.map_cons, List.map_nil, List.append_nil, List.nil_append, vl_nil, vf_nil, frz_nil, List.getElem?_cons_zero, List.getElem?_cons_succ, List.set_cons_zero, List.set_cons_succ, Bool.false_eq_true, if_false, if_true, reduceIte, List.length_cons, List.length_nil, Nat.reduceAdd, Nat.reduceSub, List.replicate, List.cons_append, List.replicate_succ, List.replicate_zero, Option.map_some, Option.map_none, Bool.not_true, Bool.not_false, List.singleton_append, e2, vl_th] <;> try simp only [edN0, edN1, edN2, edN3, wip, SOut.wp, vl_int, vl_str, vl_bl, vl_non, nd2, Nat.reduceLeDiff, Nat.reduceEqDiff, not_false_eq_true, and_self, and_true, true_and, putAll, big_eq, ↓evS_for, ↓ev_lc, evS, evT, evA, ev, evL, evO, evI, Out.bind, Out.st, ofS, ofO, D.isBl, vo, put, Vl.isFr, Vl.all, biD, ds, ts, sets, List.flatMap_cons, List.flatMap_nil, List.map_cons, List.map_nil, List.append_nil, List.nil_append, vl_nil, vf_nil, frz_nil, List.getElem?_cons_zero, List.getElem?_cons_succ, List.set_cons_zero, List.set_cons_succ, Bool.false_eq_true, if_false, if_true, reduceIte, List.length_cons, List.length_nil, Nat.reduceAdd, Nat.reduceSub, List.replicate, List.cons_append, List.replicate_succ, List.replicate_zero, Option.map_some, Option.map_none, Bool.not_true, Bool.not_false, List.singleton_append, e2, vl_th]
  have l2 := rings_ok (W := W) hr
  have hit : y.items = some (tD rs) := by rcases hy with rfl | rfl <;> rfl
  have t0 : tupleD [x] = some (false, .tup (tD ls)) := by rcases hx with rfl | rfl <;> rfl
  have t1 : ∀ xs : List D, tupleD [.lst xs] = some (false, .tup xs) := fun _ => rfl
  have im : ∀ ls : List (List Str), (D.tup (tD ls)).imm = true := fun ls => by simp only [D.imm]; exact immL_tD ls
  have vt : ∀ (ls : List (List Str)) t, vl (.tup (tD ls)) t = ⟨.tup (tD ls), .pl, []⟩ := fun ls t => vl_imm (im ls)
  unfold G_Tangle GI_Tangle Z.runC B_Tangle___init__
  simp only [edN0, edN1, edN2, edN3, wip, SOut.wp, vl_int, vl_str, vl_bl, vl_non, nd2, Nat.reduceLeDiff, Nat.reduceEqDiff, not_false_eq_true, and_self, and_true, true_and, putAll, big_eq, ↓evS_for, ↓ev_lc, evS, evT, evA, ev, evL, evO, evI, Out.bind, Out.st, ofS, ofO, D.isBl, vo, put, Vl.isFr, Vl.all, biD, ds, ts, sets, List.flatMap_cons, List.flatMap_nil, List.map_cons, List.map_nil, List.append_nil, List.nil_append, vl_nil, vf_nil, frz_nil, List.getElem?_cons_zero, List.getElem?_cons_succ, List.set_cons_zero, List.set_cons_succ, Bool.false_eq_true, if_false, if_true, reduceIte, List.length_cons, List.length_nil, Nat.reduceAdd, Nat.reduceSub, List.replicate, List.cons_append, List.replicate_succ, List.replicate_zero, Option.map_some, Option.map_none, Bool.not_true, Bool.not_false, List.singleton_append, e, t0, t1, vt, hit, l1, l2, vf_tD, putFD, Sl.noSlf, List.all_cons, List.all_nil, Bool.and_true]
  have hne : ¬ ("t_lines" : Str) = "t_rings" := by decide +kernel
  have hn2 : ¬ ("t_lines" : Str) = "e_step" := by decide +kernel
  simp [tgD, vt, hit, l1, l2, vf_tD, t0, t1, putFD, Sl.noSlf, hne, hn2, edN, edN0, edN1, edN2, edN3, wip, SOut.wp, vl_int, vl_str, vl_bl, vl_non, nd2, Nat.reduceLeDiff, Nat.reduceEqDiff, not_false_eq_true, and_self, and_true, true_and, putAll, big_eq, ↓evS_for, ↓ev_lc, evS, evT, evA, ev, evL, evO, evI, Out.bind, Out.st, ofS, ofO, D.isBl, vo, put, Vl.isFr, Vl.all, biD, ds, ts, sets, List.flatMap_cons, List.flatMap_nil, List.map_cons, List.map_nil, List.append_nil, List.nil_append, vl_nil, vf_nil, frz_nil, List.getElem?_cons_zero, List.getElem?_cons_succ, List.set_cons_zero, List.set_cons_succ, Bool.false_eq_true, if_false, if_true, reduceIte, List.length_cons, List.length_nil, Nat.reduceAdd, Nat.reduceSub, List.replicate, List.cons_append, List.replicate_succ, List.replicate_zero, Option.map_some, Option.map_none, Bool.not_true, Bool.not_false, List.singleton_append]
end Qk69

namespace Qk69
open PySem Z
def Sh (n m : Nat) (d : D) : Prop := ∃ p, pdG d = some p ∧ p.showable = true ∧ p.leavesShort 60 = true ∧ p.weight ≤ n ∧ p.depth ≤ m
theorem Sh.up {n m n' m' : Nat} {d : D} (h : Sh n m d) (hn : n ≤ n') (hm : m ≤ m') : Sh n' m' d := by
  obtain ⟨p, h1, h2, h3, h4, h5⟩ := h
  exact ⟨p, h1, h2, h3, by omega, by omega⟩
theorem shs {n m : Nat} : ∀ {xs : List D}, (∀ x ∈ xs, Sh n m x) → ∃ ps, pdGs xs = some ps ∧ PyData.showableAll ps = true ∧ PyData.leavesShortAll 60 ps = true ∧ PyData.weightAll ps ≤ (n + 1) * xs.length ∧ PyData.depthAll ps ≤ m
  | [], _ => ⟨[], rfl, rfl, rfl, by simp [PyData.weightAll], by simp [PyData.depthAll]⟩
  | x :: xs, h => by
    obtain ⟨p, h1, h2, h3, h4, h5⟩ := h x List.mem_cons_self
    obtain ⟨ps, k1, k2, k3, k4, k5⟩ := shs fun y hy => h y (List.mem_cons_of_mem _ hy)
    refine ⟨p :: ps, by simp only [pdGs, h1, k1], by simp [PyData.showableAll, h2, k2], by simp [PyData.leavesShortAll, h3, k3], ?_, by simp only [PyData.depthAll]; omega⟩
    simp only [PyData.weightAll, List.length_cons]
    have : (n + 1) * (xs.length + 1) = (n + 1) * xs.length + (n + 1) := by rw [Nat.mul_add]; omega
    omega
theorem sh_lst {n m : Nat} {xs : List D} (h : ∀ x ∈ xs, Sh n m x) : Sh ((n + 1) * xs.length) (m + 1) (.lst xs) ∧ Sh ((n + 1) * xs.length) (m + 1) (.tup xs) := by
  obtain ⟨ps, k1, k2, k3, k4, k5⟩ := shs h
  exact ⟨⟨.list ps, by simp only [pdG, k1, Option.map_some], by simpa only [PyData.showable] using k2, by simpa only [PyData.leavesShort] using k3, by simpa only [PyData.weight] using k4, by simp only [PyData.depth]; omega⟩,
    ⟨.tuple ps, by simp only [pdG, k1, Option.map_some], by simpa only [PyData.showable] using k2, by simpa only [PyData.leavesShort] using k3, by simpa only [PyData.weight] using k4, by simp only [PyData.depth]; omega⟩⟩
theorem repr_of {n m : Nat} {d : D} (h : Sh n m d) (hn : n ≤ 100000) (hm : m ≤ 50) : ∃ z : Str, ∀ W, pureG reprQD [d] W = .ok (false, .str z) W := by
  obtain ⟨p, h1, h2, h3, h4, h5⟩ := h
  refine ⟨p.shown, fun W => pureG_some ?_⟩
  simp only [reprQD, h1, Option.bind_some]
  have hc : p.shown.length ≤ cap := by
    have := PyData.shown_le 60 (by decide) p h3
    rw [cap_eq, sizeLine_eq]
    have h4 : (60 + 2) * p.weight ≤ 62 * 100000 := Nat.mul_le_mul (by decide) (by omega)
    omega
  rw [if_pos ⟨h2, hc, by omega⟩]
def shB (n m : Nat) (d : D) : Bool := match pdG d with
  | some p => p.showable && p.leavesShort 60 && decide (p.weight ≤ n) && decide (p.depth ≤ m)
  | none => false
theorem shB_ok {n m : Nat} {d : D} (h : shB n m d = true) : Sh n m d := by
  unfold shB at h
  split at h
  · rename_i p e
    simp only [Bool.and_eq_true, decide_eq_true_eq] at h
    exact ⟨p, e, h.1.1.1, h.1.1.2, h.1.2, h.2⟩
  · cases h
theorem abc_small {s : Str} (h : isColor s = true) : (s.cps.toList.all fun c => decide (c < 16 ^ 8)) = true ∧ s.length ≤ 4 := by
  simp only [isColor, Bool.and_eq_true, decide_eq_true_eq, List.all_eq_true] at h
  refine ⟨List.all_eq_true.mpr fun c hc => ?_, h.1.2⟩
  have := h.2 c hc
  rw [letter_eq] at this
  simp only [Bool.and_eq_true, Bool.not_eq_true', decide_eq_false_iff_not] at this
  rw [decide_eq_true_iff]
  have : (122 : Nat) < 16 ^ 8 := by decide
  omega
theorem sh_th {l : List Str} {n : Nat} (h : ∀ s ∈ l, isColor s = true) (hl : l.length ≤ n) : Sh (5 * n) 1 (th l) := by
  have k : ∀ x ∈ sts l, Sh 4 0 x := fun x hx => by
    obtain ⟨s, hs, rfl⟩ := List.mem_map.mp hx
    obtain ⟨a, b⟩ := abc_small (h s hs)
    exact ⟨.str s, rfl, rfl, by simpa only [PyData.leavesShort] using a, (show s.cps.size ≤ 4 from b), by simp [PyData.depth]⟩
  have := (sh_lst k).2
  refine this.up ?_ (Nat.le_refl _)
  simp only [sts, List.length_map]
  omega
theorem repr_knot {ls rs : List (List Str)} (h : TgOk ls rs) : ∃ z : Str, ∀ W, pureG reprQD [.tup [.tup (tD ls), .tup (tD rs)]] W = .ok (false, .str z) W := by
  have k : ∀ qs : List (List Str), (∀ q ∈ qs, q ∈ ls ++ rs) → qs.length ≤ 60 → Sh 20000 2 (.tup (tD qs)) := fun qs hq hl => by
    have := (sh_lst (n := 300) (m := 1) (xs := tD qs) fun x hx => by
      obtain ⟨l, hl, rfl⟩ := List.mem_map.mp hx
      exact (sh_th (n := 60) (h.col l (hq l hl)) (h.len (hq l hl))).up (by omega) (Nat.le_refl _)).2
    refine this.up ?_ (by omega)
    rw [tD_len]
    omega
  have := (sh_lst (n := 20000) (m := 2) (xs := [.tup (tD ls), .tup (tD rs)]) fun x hx => by
    simp only [List.mem_cons, List.not_mem_nil, or_false] at hx
    rcases hx with rfl | rfl
    · exact k ls (fun q hq => List.mem_append_left _ hq) (by have := h.l8; omega)
    · exact k rs (fun q hq => List.mem_append_right _ hq) h.r60).2
  exact repr_of this (by simp) (by omega)
def okRow (y : D) : Bool := y.gd && (match y with | .tup ys => ys.all fun z => (D.pyN 11 z).isSome | _ => true)
theorem okRow_itm {y : D} (h : okRow y = true) : Itm y := by
  simp only [okRow, Bool.and_eq_true] at h
  refine ⟨h.1, fun ys e z hz => ?_⟩
  subst e
  exact Option.isSome_iff_exists.mp (List.all_eq_true.mp h.2 z hz)
structure It (y : D) : Prop where
  i : Itm y
  s : Sh 300 4 y
def itB (y : D) : Bool := okRow y && shB 300 4 y
theorem itB_ok {y : D} (h : itB y = true) : It y := by
  simp only [itB, Bool.and_eq_true] at h
  exact ⟨okRow_itm h.1, shB_ok h.2⟩
theorem odd_it : ∀ x ∈ oddL, itB x = true := by decide +kernel
theorem it_th {l : List Str} (h : l.length ≤ 60) (hc : ∀ s ∈ l, isColor s = true) : It (th l) := by
  refine ⟨⟨?_, fun ys e z hz => ?_⟩, (sh_th hc h).up (by omega) (by omega)⟩
  · simp only [th, D.gd, Bool.and_eq_true, gdL_iff, decide_eq_true_eq]
    refine ⟨fun z hz => ?_, by simp only [sts, List.length_map]; omega⟩
    obtain ⟨s, hs, rfl⟩ := List.mem_map.mp hz
    have := (abc_small (hc s hs)).2
    simp only [D.gd, decide_eq_true_eq]
    omega
  · cases e
    exact pd_sts z hz
structure Bt (n : Nat) (x : D) : Prop where
  go : Good x
  len : (its x).length ≤ n
  sh : Sh (301 * n + 400) 6 x
  ls : ∀ xs, x = .lst xs → ∀ y ∈ xs, It y
theorem bt_lst {n : Nat} {xs : List D} (h : ∀ y ∈ xs, It y) (hl : xs.length ≤ n) (hn : n ≤ 1000) : Bt n (.lst xs) ∧ Bt n (.tup xs) := by
  have g : D.gdL xs = true := gdL_iff.mpr fun y hy => (h y hy).i.1
  have g2 : xs.length ≤ 16777216 := by omega
  obtain ⟨s1, s2⟩ := sh_lst (n := 300) (m := 4) (xs := xs) fun x hx => (h x hx).s
  have w : 301 * xs.length ≤ 301 * n + 400 := by omega
  refine ⟨⟨⟨by simp only [D.gd, g, g2, decide_true, Bool.and_self], fun ys e => ?_⟩, hl, s1.up w (by omega), fun ys e => by cases e; exact h⟩,
    ⟨⟨by simp only [D.gd, g, g2, decide_true, Bool.and_self], fun ys e => ?_⟩, hl, s2.up w (by omega), fun ys e => by cases e⟩⟩
  · rcases e with e | e <;> cases e
    exact fun y hy => (h y hy).i
  · rcases e with e | e <;> cases e
    exact fun y hy => (h y hy).i
def okB (x : D) : Bool := x.gd && (match x with | .lst xs => xs.all okRow | .tup xs => xs.all okRow | _ => true)
theorem okB_good {x : D} (h : okB x = true) : Good x := by
  simp only [okB, Bool.and_eq_true] at h
  refine ⟨h.1, fun xs e y hy => ?_⟩
  rcases e with rfl | rfl <;> exact okRow_itm (List.all_eq_true.mp h.2 y hy)
def isL : D → Bool
  | .lst _ => true
  | _ => false
def btB (x : D) : Bool := okB x && decide ((its x).length ≤ 9) && shB 400 6 x && (match x with | .lst xs => xs.all itB | _ => true)
theorem btB_ok {x : D} {n : Nat} (h : btB x = true) (hn : 9 ≤ n) : Bt n x := by
  simp only [btB, Bool.and_eq_true, decide_eq_true_eq] at h
  obtain ⟨⟨⟨h1, h2⟩, h3⟩, h4⟩ := h
  refine ⟨okB_good h1, by omega, (shB_ok h3).up (by omega) (Nat.le_refl _), fun xs e y hy => ?_⟩
  subst e
  exact itB_ok (List.all_eq_true.mp h4 y hy)
def dispV : List Vl := [⟨.non, .pl, []⟩, ⟨.int 5, .pl, []⟩, ⟨.str "ab", .pl, []⟩, ⟨.dic false [], .pl, []⟩, ⟨.tup [.str "a"], .pl, []⟩, ⟨.lst [], .fr, []⟩, ⟨.lst [.tup []], .fr, []⟩, ⟨.lst [.lst [.str "a"]], .fr, []⟩, ⟨.lst [.tup [.str "A"]], .fr, []⟩,
  ⟨.lst (List.replicate 9 (.tup [.str "a"])), .fr, []⟩, ⟨.lst (List.replicate 8 (.tup [.str "a"])), .fr, []⟩]
theorem dispV_ok : ∀ v ∈ dispV, btB v.d = true ∧ v.t = [] ∧ (v.k = if isL v.d then .fr else .pl) := by decide +kernel
end Qk69

namespace Qk69
open PySem Z
noncomputable def DISP : E := (.cons (.cst .non) (.cons (.cst (.int 5)) (.cons (.cst (.str "ab")) (.cons (.cst (.dic false [])) (.cons (.tup (.cons (.cst (.str "a")) .nil)) (.cons (.lst .nil) (.cons (.lst (.cons (.tup .nil) .nil)) (.cons (.lst (.cons (.lst (.cons (.cst (.str "a")) .nil)) .nil)) (.cons (.lst (.cons (.tup (.cons (.cst (.str "A")) .nil)) .nil)) (.cons (.bin .Mult (.lst (.cons (.tup (.cons (.cst (.str "a")) .nil)) .nil)) (.cst (.int 9))) (.cons (.bin .Mult (.lst (.cons (.tup (.cons (.cst (.str "a")) .nil)) .nil)) (.cst (.int 8))) .nil)))))))))))
theorem disp_ok (ρ : En) (W : Dr) : evL DISP ρ W = .ok dispV W := by
  have m9 : binD .Mult (.lst [.tup [.str "a"]]) (.int 9) = some (true, .lst (List.replicate 9 (.tup [.str "a"]))) := by
    simp only [binD, big_eq]
    rw [if_pos ⟨by decide, by decide, by decide⟩]
    rfl
  have m8 : binD .Mult (.lst [.tup [.str "a"]]) (.int 8) = some (true, .lst (List.replicate 8 (.tup [.str "a"]))) := by
    simp only [binD, big_eq]
    rw [if_pos ⟨by decide, by decide, by decide⟩]
    rfl
  have c0 : 0 ≤ cap := by decide
  have c1 : 1 ≤ cap := by decide
  have v0 : vf (.lst []) [] = ⟨.lst [], .fr, []⟩ := vf_nil
  unfold DISP dispV
  simp only [edN0, edN1, edN2, edN3, wip, SOut.wp, vl_int, vl_str, vl_bl, vl_non, nd2, Nat.reduceLeDiff, Nat.reduceEqDiff, not_false_eq_true, and_self, and_true, true_and, putAll, big_eq, ↓evS_for, ↓ev_lc, evS, evT, evA, ev, evL, evO, evI, Out.bind, Out.st, ofS, ofO, D.isBl, vo, put, Vl.isFr, Vl.all, biD, ds, ts, sets, List.flatMap_cons, List.flatMap_nil, List.map_cons, List.map_nil, List.append_nil, List.nil_append, vl_nil, vf_nil, frz_nil, List.getElem?_cons_zero, List.getElem?_cons_succ, List.set_cons_zero, List.set_cons_succ, Bool.false_eq_true, if_false, if_true, reduceIte, List.length_cons, List.length_nil, Nat.reduceAdd, Nat.reduceSub, List.replicate, List.cons_append, List.replicate_succ, List.replicate_zero, Option.map_some, Option.map_none, Bool.not_true, Bool.not_false, List.singleton_append, m9, m8, c0, c1] <;> rfl
theorem disp_c : (dispV.length ≤ cap ∧ dispV.all Vl.plain = true) = True := eq_true ⟨by decide, by decide +kernel⟩
theorem pk_ok {T : Nat} {W : Dr} (h : Wd T W) (hT : T ≤ 1099511627776) : ∃ r q v W', v ∈ dispV ∧ Wd (T + 1) W' ∧ G__law_take [.drw, .int (dispV.length : Nat)] W = .ok (false, .int r) W' ∧ ixOf dispV.length r = some q ∧ dispV[q]? = some v := by
  have l11 : dispV.length = 11 := rfl
  obtain ⟨r, W', r0, r1, hw, e⟩ := take_ok (n := ((dispV.length : Nat) : Int)) h hT (by rw [l11]; omega) (by rw [l11]; omega)
  have hr : r.toNat < dispV.length := by omega
  exact ⟨r, r.toNat, dispV[r.toNat], W', List.getElem_mem hr, hw, e, ixOf_int r0 r1, List.getElem?_eq_getElem hr⟩
theorem Bb_eq : B__law_bent = (.seq (.iff (.or (.not (.tv (.isi (.var 1) [.list]))) (.tv (.cmp .Eq (.call G__law_take (.cons (.var 0) (.cons (.cst (.int 6)) .nil))) (.cst (.int 0))))) (.seq (.ret (.pkD 0 G__law_take DISP))
  .skip) .skip)
  (.seq (.par [2, 3] (.cons (.call G__law_take (.cons (.var 0) (.cons (.bin .Add (.bi .len (.cons (.var 1) .nil)) (.cst (.int 1))) .nil))) (.cons (.call G__law_take (.cons (.var 0) (.cons (.cst (.int 4)) .nil))) .nil)))
  (.seq (.iff (.tv (.cmp .Eq (.var 3) (.cst (.int 0)))) (.seq (.ret (.bin .Add (.bin .Add (.sl (.var 1) .no (.pt (.var 2))) (.lst (.cons (.call G__law_pick (.cons (.var 0) (.cons (.lst (.cons (.call G__law_odd (.cons (.var 0) .nil)) (.cons (.tup (.cons (.cst (.str "a")) (.cons (.cst (.str "abcde")) .nil))) (.cons (.call (pureG repTD) (.cons (.tup (.cons (.cst (.str "a")) .nil)) (.cons (.cst (.int 60)) .nil))) (.cons (.call (pureG repTD) (.cons (.tup (.cons (.cst (.str "b")) .nil)) (.cons (.cst (.int 44)) .nil))) .nil))))) .nil))) .nil))) (.sl (.var 1) (.pt (.var 2)) .no)))
  .skip) .skip)
  (.seq (.ret (.ite (.tv (.cmp .Eq (.var 3) (.cst (.int 1)))) (.bin .Add (.sl (.var 1) .no (.pt (.var 2))) (.sl (.var 1) (.pt (.bin .Add (.var 2) (.cst (.int 1)))) .no)) (.ite (.tv (.cmp .Eq (.var 3) (.cst (.int 2)))) (.bi .tuple (.cons (.var 1) .nil)) (.bin .Add (.var 1) (.var 1)))))
  .skip)))) := rfl
def A60 : D := th (List.replicate 60 "a")
def B44 : D := th (List.replicate 44 "b")
theorem tail_ok {T : Nat} {n : Nat} {xs : List D} {W : Dr} {x : D} (hxs : ∀ y ∈ xs, It y) (hl : xs.length ≤ n) (hn : n ≤ 100) {i : Nat} {y : D} (hy : It y) : Bt (2 * n + 9) (.lst (xs.take i ++ [y] ++ xs.drop i)) ∧ Bt (2 * n + 9) (.lst (xs.take i ++ xs.drop (i + 1))) ∧ Bt (2 * n + 9) (.tup xs) ∧ Bt (2 * n + 9) (.lst (xs ++ xs)) := by
  refine ⟨(bt_lst (fun z hz => ?_) ?_ (by omega)).1, (bt_lst (fun z hz => ?_) ?_ (by omega)).1, (bt_lst hxs (by omega) (by omega)).2, (bt_lst (fun z hz => ?_) ?_ (by omega)).1⟩
  · rcases List.mem_append.mp hz with hz | hz
    · rcases List.mem_append.mp hz with hz | hz
      · exact hxs z (List.mem_of_mem_take hz)
      · rw [List.mem_singleton.mp hz]; exact hy
    · exact hxs z (List.mem_of_mem_drop hz)
  · simp only [List.length_append, List.length_take, List.length_drop, List.length_singleton]; omega
  · rcases List.mem_append.mp hz with hz | hz
    · exact hxs z (List.mem_of_mem_take hz)
    · exact hxs z (List.mem_of_mem_drop hz)
  · simp only [List.length_append, List.length_take, List.length_drop]; omega
  · rcases List.mem_append.mp hz with hz | hz <;> exact hxs z hz
  · rw [List.length_append]; omega
theorem color_a : ∀ s ∈ [("a" : Str), "b"], isColor s = true := by decide +kernel
theorem bent_ok {T n : Nat} {x : D} {W : Dr} (h : Wd T W) (hT : T + 10 ≤ 1099511627776) (hx : Bt n x) (hn : n ≤ 100) :
    ∃ y W', Bt (2 * n + 9) y ∧ Wd (T + 6) W' ∧ G__law_bent [.drw, x] W = .ok (isL y, y) W' := by
  have tx := gd_typed hx.go.gd
  by_cases q : isL x = true
  · cases x <;> simp only [isL] at q <;> try (cases q; done)
    rename_i xs
    have hxs := hx.ls xs rfl
    have hl : xs.length ≤ n := hx.len
    have ty : [Ty.list].any (isD1 (.lst xs)) = true := rfl
    obtain ⟨r, W1, r0, r1, hw1, e1⟩ := take_ok (n := 6) h (by omega) (by omega) (by omega)
    have e0 : ∀ a b : Int, cmpD .Eq (.int a) (.int b) = some (decide (a = b)) := fun a b => eq_int
    by_cases q0 : r = 0
    · obtain ⟨p, q', v, W2, hv, hw2, e2, e3, e4⟩ := pk_ok hw1 (by omega)
      obtain ⟨v1, v2, v3⟩ := dispV_ok v hv
      refine ⟨v.d, W2, btB_ok v1 (by omega), hw2.mono (by omega), ?_⟩
      have e00 := e0 r 0
      rw [decide_eq_true q0] at e00
      unfold G__law_bent Z.run
      rw [Bb_eq]
      simp only [edN0, edN1, edN2, edN3, wip, SOut.wp, vl_int, vl_str, vl_bl, vl_non, nd2, Nat.reduceLeDiff, Nat.reduceEqDiff, not_false_eq_true, and_self, and_true, true_and, putAll, big_eq, ↓evS_for, ↓ev_lc, evS, evT, evA, ev, evL, evO, evI, Out.bind, Out.st, ofS, ofO, D.isBl, vo, put, Vl.isFr, Vl.all, biD, ds, ts, sets, List.flatMap_cons, List.flatMap_nil, List.map_cons, List.map_nil, List.append_nil, List.nil_append, vl_nil, vf_nil, frz_nil, List.getElem?_cons_zero, List.getElem?_cons_succ, List.set_cons_zero, List.set_cons_succ, Bool.false_eq_true, if_false, if_true, reduceIte, List.length_cons, List.length_nil, Nat.reduceAdd, Nat.reduceSub, List.replicate, List.cons_append, List.replicate_succ, List.replicate_zero, Option.map_some, Option.map_none, Bool.not_true, Bool.not_false, List.singleton_append, tx, ty, e1, e00, disp_ok, disp_c, e2, e3, e4]
      rw [v3]
      cases isL v.d <;> rfl
    · have e00 := e0 r 0
      rw [decide_eq_false q0] at e00
      obtain ⟨i, W2, i0, i1, hw2, e2⟩ := take_ok (n := ((xs.length + 1 : Nat) : Int)) hw1 (by omega) (by omega) (by omega)
      obtain ⟨i, rfl⟩ := Int.eq_ofNat_of_zero_le i0
      obtain ⟨w, W3, w0, w1, hw3, e3⟩ := take_ok (n := 4) hw2 (by omega) (by omega) (by omega)
      have hln : lenD [.lst xs] = some (false, .int xs.length) := len_lst
      have s1 : slD (.lst xs) none (some (i : Int)) = some (true, .lst (xs.take i)) := by simp only [slD]; rw [cut_to (by omega)]; rfl
      have s2 : ∀ i : Nat, slD (.lst xs) (some (i : Int)) none = some (true, .lst (xs.drop i)) := fun i => by simp only [slD]; rw [cut_from (by omega)]; rfl
      have ad : ∀ a b : List D, a.length + b.length ≤ 16777216 → binD .Add (.lst a) (.lst b) = some (true, .lst (a ++ b)) := fun a b h => by simp only [binD]; rw [if_pos h]
      have c1 : 1 ≤ cap := by decide
      have c2 : 2 ≤ cap := by decide
      have c4 : 4 ≤ cap := by decide
      by_cases q1 : w = 0
      · have e10 := e0 w 0
        rw [decide_eq_true q1] at e10
        obtain ⟨o, W4, ho, hw4, e4⟩ := odd_ok hw3 (by omega)
        obtain ⟨y, W5, hy, hw5, e5⟩ := pick_ok (xs := [o, .tup [.str "a", .str "abcde"], A60, B44]) hw4 (by omega) (by simp) (by simp)
        have iy : It y := by
          simp only [List.mem_cons, List.not_mem_nil, or_false] at hy
          rcases hy with rfl | rfl | rfl | rfl
          · exact itB_ok (odd_it _ ho)
          · exact itB_ok (by decide +kernel)
          · exact it_th (by simp) fun s hs => color_a s (by rw [(List.mem_replicate.mp hs).2]; simp)
          · exact it_th (by simp) fun s hs => color_a s (by rw [(List.mem_replicate.mp hs).2]; simp)
        obtain ⟨k1, _, _, _⟩ := tail_ok (T := T) (W := W) (x := y) hxs hl hn (i := i) iy
        refine ⟨_, W5, k1, hw5.mono (by omega), ?_⟩
        have rp1 : ∀ W, pureG repTD [.tup [.str "a"], .int 60] W = .ok (false, A60) W := fun W => pureG_some (by
          simp only [repTD]
          rw [if_pos ⟨by omega, by omega, by simp⟩]
          simp [th, sts, A60])
        have rp2 : ∀ W, pureG repTD [.tup [.str "b"], .int 44] W = .ok (false, B44) W := fun W => pureG_some (by
          simp only [repTD]
          rw [if_pos ⟨by omega, by omega, by simp⟩]
          simp [th, sts, B44])
        have va : ∀ t, vl A60 t = ⟨A60, .pl, []⟩ := fun _ => vl_th
        have vb : ∀ t, vl B44 t = ⟨B44, .pl, []⟩ := fun _ => vl_th
        have a1 := ad (xs.take i) [y] (by simp only [List.length_take, List.length_singleton]; omega)
        have a2 := ad (xs.take i ++ [y]) (xs.drop i) (by simp only [List.length_append, List.length_take, List.length_drop, List.length_singleton]; omega)
        unfold G__law_bent Z.run
        rw [Bb_eq]
        simp only [edN0, edN1, edN2, edN3, wip, SOut.wp, vl_int, vl_str, vl_bl, vl_non, nd2, Nat.reduceLeDiff, Nat.reduceEqDiff, not_false_eq_true, and_self, and_true, true_and, putAll, big_eq, ↓evS_for, ↓ev_lc, evS, evT, evA, ev, evL, evO, evI, Out.bind, Out.st, ofS, ofO, D.isBl, vo, put, Vl.isFr, Vl.all, biD, ds, ts, sets, List.flatMap_cons, List.flatMap_nil, List.map_cons, List.map_nil, List.append_nil, List.nil_append, vl_nil, vf_nil, frz_nil, List.getElem?_cons_zero, List.getElem?_cons_succ, List.set_cons_zero, List.set_cons_succ, Bool.false_eq_true, if_false, if_true, reduceIte, List.length_cons, List.length_nil, Nat.reduceAdd, Nat.reduceSub, List.replicate, List.cons_append, List.replicate_succ, List.replicate_zero, Option.map_some, Option.map_none, Bool.not_true, Bool.not_false, List.singleton_append, tx, ty, e1, e00, hln, add1, e2, e3, e10, s1, s2, e4, rp1, rp2, va, vb, e5, a1, a2, c1, c2, c4, vl_nil, vf_nil, isL] <;> try (simp only [edN0, edN1, edN2, edN3, wip, SOut.wp, vl_int, vl_str, vl_bl, vl_non, nd2, Nat.reduceLeDiff, Nat.reduceEqDiff, not_false_eq_true, and_self, and_true, true_and, putAll, big_eq, ↓evS_for, ↓ev_lc, evS, evT, evA, ev, evL, evO, evI, Out.bind, Out.st, ofS, ofO, D.isBl, vo, put, Vl.isFr, Vl.all, biD, ds, ts, sets, List.flatMap_cons, List.flatMap_nil, List.map_cons, List.map_nil, List.append_nil, List.nil_append, vl_nil, vf_nil, frz_nil, List.getElem?_cons_zero, List.getElem?_cons_succ, List.set_cons_zero, List.set_cons_succ, Bool.false_eq_true, if_false, if_true, reduceIte, List.length_cons, List.length_nil, Nat.reduceAdd, Nat.reduceSub, List.replicate, List.cons_append, List.replicate_succ, List.replicate_zero, Option.map_some, Option.map_none, Bool.not_true, Bool.not_false, List.singleton_append, tx, ty, e1, e00, hln, add1, e2, e3, e10, s1, s2, e4, rp1, rp2, va, vb, e5, a1, a2, c1, c2, c4, vl_nil, vf_nil, isL] <;> try simp only [edN0, edN1, edN2, edN3, wip, SOut.wp, vl_int, vl_str, vl_bl, vl_non, nd2, Nat.reduceLeDiff, Nat.reduceEqDiff, not_false_eq_true, and_self, and_true, true_and, putAll, big_eq, ↓evS_for, ↓ev_lc, evS, evT, evA, ev, evL, evO, evI, Out.bind, Out.st, ofS, ofO, D.isBl, vo, put, Vl.isFr, Vl.all, biD, ds, ts, sets, List.flatMap_cons, List.flatMap_nil, List.map_cons, List.map_nil, List.append_nil, List.nil_append, vl_nil, vf_nil, frz_nil, List.getElem?_cons_zero, List.getElem?_cons_succ, List.set_cons_zero, List.set_cons_succ, Bool.false_eq_true, if_false, if_true, reduceIte, List.length_cons, List.length_nil, Nat.reduceAdd, Nat.reduceSub, List.replicate, List.cons_append, List.replicate_succ, List.replicate_zero, Option.map_some, Option.map_none, Bool.not_true, Bool.not_false, List.singleton_append, tx, ty, e1, e00, hln, add1, e2, e3, e10, s1, s2, e4, rp1, rp2, va, vb, e5, a1, a2, c1, c2, c4, vl_nil, vf_nil, isL])
      · have e10 := e0 w 0
        rw [decide_eq_false q1] at e10
        obtain ⟨_, k2, k3, k4⟩ := tail_ok (T := T) (W := W) (x := D.non) hxs hl hn (i := i) (y := .non) (itB_ok (by decide +kernel))
        by_cases q2 : w = 1
        · have e11 := e0 w 1
          rw [decide_eq_true q2] at e11
          refine ⟨_, W3, k2, hw3.mono (by omega), ?_⟩
          have a1 := ad (xs.take i) (xs.drop (i + 1)) (by simp only [List.length_take, List.length_drop]; omega)
          unfold G__law_bent Z.run
          rw [Bb_eq]
          simp only [edN0, edN1, edN2, edN3, wip, SOut.wp, vl_int, vl_str, vl_bl, vl_non, nd2, Nat.reduceLeDiff, Nat.reduceEqDiff, not_false_eq_true, and_self, and_true, true_and, putAll, big_eq, ↓evS_for, ↓ev_lc, evS, evT, evA, ev, evL, evO, evI, Out.bind, Out.st, ofS, ofO, D.isBl, vo, put, Vl.isFr, Vl.all, biD, ds, ts, sets, List.flatMap_cons, List.flatMap_nil, List.map_cons, List.map_nil, List.append_nil, List.nil_append, vl_nil, vf_nil, frz_nil, List.getElem?_cons_zero, List.getElem?_cons_succ, List.set_cons_zero, List.set_cons_succ, Bool.false_eq_true, if_false, if_true, reduceIte, List.length_cons, List.length_nil, Nat.reduceAdd, Nat.reduceSub, List.replicate, List.cons_append, List.replicate_succ, List.replicate_zero, Option.map_some, Option.map_none, Bool.not_true, Bool.not_false, List.singleton_append, tx, ty, e1, e00, hln, add1, e2, e3, e10, e11, s1, s2, a1, c1, c2, c4, vl_nil, vf_nil, isL] <;> try (simp only [edN0, edN1, edN2, edN3, wip, SOut.wp, vl_int, vl_str, vl_bl, vl_non, nd2, Nat.reduceLeDiff, Nat.reduceEqDiff, not_false_eq_true, and_self, and_true, true_and, putAll, big_eq, ↓evS_for, ↓ev_lc, evS, evT, evA, ev, evL, evO, evI, Out.bind, Out.st, ofS, ofO, D.isBl, vo, put, Vl.isFr, Vl.all, biD, ds, ts, sets, List.flatMap_cons, List.flatMap_nil, List.map_cons, List.map_nil, List.append_nil, List.nil_append, vl_nil, vf_nil, frz_nil, List.getElem?_cons_zero, List.getElem?_cons_succ, List.set_cons_zero, List.set_cons_succ, Bool.false_eq_true, if_false, if_true, reduceIte, List.length_cons, List.length_nil, Nat.reduceAdd, Nat.reduceSub, List.replicate, List.cons_append, List.replicate_succ, List.replicate_zero, Option.map_some, Option.map_none, Bool.not_true, Bool.not_false, List.singleton_append, tx, ty, e1, e00, hln, add1, e2, e3, e10, e11, s1, s2, a1, c1, c2, c4, vl_nil, vf_nil, isL] <;> try simp only [edN0, edN1, edN2, edN3, wip, SOut.wp, vl_int, vl_str, vl_bl, vl_non, nd2, Nat.reduceLeDiff, Nat.reduceEqDiff, not_false_eq_true, and_self, and_true, true_and, putAll, big_eq, ↓evS_for, ↓ev_lc, evS, evT, evA, ev, evL, evO, evI, Out.bind, Out.st, ofS, ofO, D.isBl, vo, put, Vl.isFr, Vl.all, biD, ds, ts, sets, List.flatMap_cons, List.flatMap_nil, List.map_cons, List.map_nil, List.append_nil, List.nil_append, vl_nil, vf_nil, frz_nil, List.getElem?_cons_zero, List.getElem?_cons_succ, List.set_cons_zero, List.set_cons_succ, Bool.false_eq_true, if_false, if_true, reduceIte, List.length_cons, List.length_nil, Nat.reduceAdd, Nat.reduceSub, List.replicate, List.cons_append, List.replicate_succ, List.replicate_zero, Option.map_some, Option.map_none, Bool.not_true, Bool.not_false, List.singleton_append, tx, ty, e1, e00, hln, add1, e2, e3, e10, e11, s1, s2, a1, c1, c2, c4, vl_nil, vf_nil, isL])
        · have e11 := e0 w 1
          rw [decide_eq_false q2] at e11
          by_cases q3 : w = 2
          · have e12 := e0 w 2
            rw [decide_eq_true q3] at e12
            refine ⟨_, W3, k3, hw3.mono (by omega), ?_⟩
            have t1 : tupleD [.lst xs] = some (false, .tup xs) := rfl
            unfold G__law_bent Z.run
            rw [Bb_eq]
            simp only [edN0, edN1, edN2, edN3, wip, SOut.wp, vl_int, vl_str, vl_bl, vl_non, nd2, Nat.reduceLeDiff, Nat.reduceEqDiff, not_false_eq_true, and_self, and_true, true_and, putAll, big_eq, ↓evS_for, ↓ev_lc, evS, evT, evA, ev, evL, evO, evI, Out.bind, Out.st, ofS, ofO, D.isBl, vo, put, Vl.isFr, Vl.all, biD, ds, ts, sets, List.flatMap_cons, List.flatMap_nil, List.map_cons, List.map_nil, List.append_nil, List.nil_append, vl_nil, vf_nil, frz_nil, List.getElem?_cons_zero, List.getElem?_cons_succ, List.set_cons_zero, List.set_cons_succ, Bool.false_eq_true, if_false, if_true, reduceIte, List.length_cons, List.length_nil, Nat.reduceAdd, Nat.reduceSub, List.replicate, List.cons_append, List.replicate_succ, List.replicate_zero, Option.map_some, Option.map_none, Bool.not_true, Bool.not_false, List.singleton_append, tx, ty, e1, e00, hln, add1, e2, e3, e10, e11, e12, t1, c1, c2, c4, vl_nil, vf_nil, isL] <;> try (simp only [edN0, edN1, edN2, edN3, wip, SOut.wp, vl_int, vl_str, vl_bl, vl_non, nd2, Nat.reduceLeDiff, Nat.reduceEqDiff, not_false_eq_true, and_self, and_true, true_and, putAll, big_eq, ↓evS_for, ↓ev_lc, evS, evT, evA, ev, evL, evO, evI, Out.bind, Out.st, ofS, ofO, D.isBl, vo, put, Vl.isFr, Vl.all, biD, ds, ts, sets, List.flatMap_cons, List.flatMap_nil, List.map_cons, List.map_nil, List.append_nil, List.nil_append, vl_nil, vf_nil, frz_nil, List.getElem?_cons_zero, List.getElem?_cons_succ, List.set_cons_zero, List.set_cons_succ, Bool.false_eq_true, if_false, if_true, reduceIte, List.length_cons, List.length_nil, Nat.reduceAdd, Nat.reduceSub, List.replicate, List.cons_append, List.replicate_succ, List.replicate_zero, Option.map_some, Option.map_none, Bool.not_true, Bool.not_false, List.singleton_append, tx, ty, e1, e00, hln, add1, e2, e3, e10, e11, e12, t1, c1, c2, c4, vl_nil, vf_nil, isL] <;> try simp only [edN0, edN1, edN2, edN3, wip, SOut.wp, vl_int, vl_str, vl_bl, vl_non, nd2, Nat.reduceLeDiff, Nat.reduceEqDiff, not_false_eq_true, and_self, and_true, true_and, putAll, big_eq, ↓evS_for, ↓ev_lc, evS, evT, evA, ev, evL, evO, evI, Out.bind, Out.st, ofS, ofO, D.isBl, vo, put, Vl.isFr, Vl.all, biD, ds, ts, sets, List.flatMap_cons, List.flatMap_nil, List.map_cons, List.map_nil, List.append_nil, List.nil_append, vl_nil, vf_nil, frz_nil, List.getElem?_cons_zero, List.getElem?_cons_succ, List.set_cons_zero, List.set_cons_succ, Bool.false_eq_true, if_false, if_true, reduceIte, List.length_cons, List.length_nil, Nat.reduceAdd, Nat.reduceSub, List.replicate, List.cons_append, List.replicate_succ, List.replicate_zero, Option.map_some, Option.map_none, Bool.not_true, Bool.not_false, List.singleton_append, tx, ty, e1, e00, hln, add1, e2, e3, e10, e11, e12, t1, c1, c2, c4, vl_nil, vf_nil, isL])
          · have e12 := e0 w 2
            rw [decide_eq_false q3] at e12
            refine ⟨_, W3, k4, hw3.mono (by omega), ?_⟩
            have a1 := ad xs xs (by omega)
            unfold G__law_bent Z.run
            rw [Bb_eq]
            simp only [edN0, edN1, edN2, edN3, wip, SOut.wp, vl_int, vl_str, vl_bl, vl_non, nd2, Nat.reduceLeDiff, Nat.reduceEqDiff, not_false_eq_true, and_self, and_true, true_and, putAll, big_eq, ↓evS_for, ↓ev_lc, evS, evT, evA, ev, evL, evO, evI, Out.bind, Out.st, ofS, ofO, D.isBl, vo, put, Vl.isFr, Vl.all, biD, ds, ts, sets, List.flatMap_cons, List.flatMap_nil, List.map_cons, List.map_nil, List.append_nil, List.nil_append, vl_nil, vf_nil, frz_nil, List.getElem?_cons_zero, List.getElem?_cons_succ, List.set_cons_zero, List.set_cons_succ, Bool.false_eq_true, if_false, if_true, reduceIte, List.length_cons, List.length_nil, Nat.reduceAdd, Nat.reduceSub, List.replicate, List.cons_append, List.replicate_succ, List.replicate_zero, Option.map_some, Option.map_none, Bool.not_true, Bool.not_false, List.singleton_append, tx, ty, e1, e00, hln, add1, e2, e3, e10, e11, e12, a1, c1, c2, c4, vl_nil, vf_nil, isL] <;> try (simp only [edN0, edN1, edN2, edN3, wip, SOut.wp, vl_int, vl_str, vl_bl, vl_non, nd2, Nat.reduceLeDiff, Nat.reduceEqDiff, not_false_eq_true, and_self, and_true, true_and, putAll, big_eq, ↓evS_for, ↓ev_lc, evS, evT, evA, ev, evL, evO, evI, Out.bind, Out.st, ofS, ofO, D.isBl, vo, put, Vl.isFr, Vl.all, biD, ds, ts, sets, List.flatMap_cons, List.flatMap_nil, List.map_cons, List.map_nil, List.append_nil, List.nil_append, vl_nil, vf_nil, frz_nil, List.getElem?_cons_zero, List.getElem?_cons_succ, List.set_cons_zero, List.set_cons_succ, Bool.false_eq_true, if_false, if_true, reduceIte, List.length_cons, List.length_nil, Nat.reduceAdd, Nat.reduceSub, List.replicate, List.cons_append, List.replicate_succ, List.replicate_zero, Option.map_some, Option.map_none, Bool.not_true, Bool.not_false, List.singleton_append, tx, ty, e1, e00, hln, add1, e2, e3, e10, e11, e12, a1, c1, c2, c4, vl_nil, vf_nil, isL] <;> try simp only [edN0, edN1, edN2, edN3, wip, SOut.wp, vl_int, vl_str, vl_bl, vl_non, nd2, Nat.reduceLeDiff, Nat.reduceEqDiff, not_false_eq_true, and_self, and_true, true_and, putAll, big_eq, ↓evS_for, ↓ev_lc, evS, evT, evA, ev, evL, evO, evI, Out.bind, Out.st, ofS, ofO, D.isBl, vo, put, Vl.isFr, Vl.all, biD, ds, ts, sets, List.flatMap_cons, List.flatMap_nil, List.map_cons, List.map_nil, List.append_nil, List.nil_append, vl_nil, vf_nil, frz_nil, List.getElem?_cons_zero, List.getElem?_cons_succ, List.set_cons_zero, List.set_cons_succ, Bool.false_eq_true, if_false, if_true, reduceIte, List.length_cons, List.length_nil, Nat.reduceAdd, Nat.reduceSub, List.replicate, List.cons_append, List.replicate_succ, List.replicate_zero, Option.map_some, Option.map_none, Bool.not_true, Bool.not_false, List.singleton_append, tx, ty, e1, e00, hln, add1, e2, e3, e10, e11, e12, a1, c1, c2, c4, vl_nil, vf_nil, isL])
  · have ty : [Ty.list].any (isD1 x) = false := by
      cases x <;> first | rfl | (exact absurd rfl q)
    obtain ⟨p, q', v, W2, hv, hw2, e2, e3, e4⟩ := pk_ok h (by omega)
    obtain ⟨v1, v2, v3⟩ := dispV_ok v hv
    refine ⟨v.d, W2, btB_ok v1 (by omega), hw2.mono (by omega), ?_⟩
    unfold G__law_bent Z.run
    rw [Bb_eq]
    simp only [edN0, edN1, edN2, edN3, wip, SOut.wp, vl_int, vl_str, vl_bl, vl_non, nd2, Nat.reduceLeDiff, Nat.reduceEqDiff, not_false_eq_true, and_self, and_true, true_and, putAll, big_eq, ↓evS_for, ↓ev_lc, evS, evT, evA, ev, evL, evO, evI, Out.bind, Out.st, ofS, ofO, D.isBl, vo, put, Vl.isFr, Vl.all, biD, ds, ts, sets, List.flatMap_cons, List.flatMap_nil, List.map_cons, List.map_nil, List.append_nil, List.nil_append, vl_nil, vf_nil, frz_nil, List.getElem?_cons_zero, List.getElem?_cons_succ, List.set_cons_zero, List.set_cons_succ, Bool.false_eq_true, if_false, if_true, reduceIte, List.length_cons, List.length_nil, Nat.reduceAdd, Nat.reduceSub, List.replicate, List.cons_append, List.replicate_succ, List.replicate_zero, Option.map_some, Option.map_none, Bool.not_true, Bool.not_false, List.singleton_append, tx, ty, disp_ok, disp_c, e2, e3, e4]
    rw [v3]
    cases isL v.d <;> rfl
theorem lst_to {ls : List (List Str)} {k : Nat} : slD (.lst (tD ls)) none (some (k : Int)) = some (true, .lst (tD (ls.take k))) := by
  simp only [slD]
  rw [cut_to (by omega)]
  simp [tD, List.map_take]
theorem lst_from {ls : List (List Str)} {k : Nat} : slD (.lst (tD ls)) (some (k : Int)) none = some (true, .lst (tD (ls.drop k))) := by
  simp only [slD]
  rw [cut_from (by omega)]
  simp [tD, List.map_drop]
theorem tangled_ok {T : Nat} {W : Dr} (h : Wd T W) (hT : T + 300 ≤ 1099511627000) : ∃ xs ys W', (Bt 7 (.lst xs) ∧ Bt 7 (.lst ys)) ∧ Wd (T + 215) W' ∧ GT__law_tangled [.drw, .int 16] W = .ok (xs, ys) W' := by
  obtain ⟨r, W1, r0, r1, hw1, e1⟩ := take_ok (n := 4) h (by omega) (by omega) (by omega)
  obtain ⟨hs, W2, k1, k2, _, hw2, e2⟩ := hues_ok (n := 1 + r) hw1 (by omega) (by omega) (by omega)
  have ad : binD .Add (.int 1) (.int r) = some (false, .int (1 + r)) := rfl
  obtain ⟨x, W3, hx, hw3, e3⟩ := pick_ok (xs := [.int 4, .int 4, .int 7]) hw2 (by omega) (by simp) (by simp)
  obtain ⟨m, rfl, hm1, hm2⟩ : ∃ m : Nat, x = .int m ∧ 1 ≤ m ∧ m ≤ 7 := by
    simp only [List.mem_cons, List.not_mem_nil, or_false] at hx
    rcases hx with rfl | rfl | rfl <;> first | exact ⟨4, rfl, by decide, by decide⟩ | exact ⟨7, rfl, by decide, by decide⟩
  obtain ⟨ls, W4, hl, hw4, e4⟩ := lines_ok (hs := hs) (most := m) (beads := 16) hw3 (by omega) (fun z => by rw [z] at k1; simp at k1; omega) (by omega) (by omega) (by omega) (by omega) (by omega)
  have hlm := hl.most
  have e4 : G__law_lines [.drw, .lst (sts hs), .int m, .int 16] W3 = .ok (true, .lst (tD ls)) W4 := e4
  obtain ⟨c, W5, c0, c1, hw5, e5⟩ := take_ok (n := ((ls.length + 1 : Nat) : Int)) hw4 (by omega) (by omega) (by omega)
  obtain ⟨c, rfl⟩ := Int.eq_ofNat_of_zero_le c0
  have gt : cmpD .Gt (.int 16) (.int 9) = some true := rfl
  have c3 : 3 ≤ cap := by decide
  have c2 : 2 ≤ cap := by decide
  have v3 : ∀ t, vf (.lst [.int 4, .int 4, .int 7]) t = ⟨.lst [.int 4, .int 4, .int 7], .fr, []⟩ := fun t => vf_imm rfl
  have hln : lenD [.lst (tD ls)] = some (false, .int ls.length) := by rw [len_lst, tD_len]
  have it : ∀ qs : List (List Str), (∀ q ∈ qs, q ∈ ls) → qs.length ≤ 7 → Bt 7 (.lst (tD qs)) := fun qs hq hl7 => (bt_lst (fun y hy => by
    obtain ⟨l, hl2, rfl⟩ := List.mem_map.mp hy
    have hm := hq l hl2
    exact it_th (by have := sum_ge hm; have := hl.sum; omega) fun s hs => hue_color s (hues01 s (k2 s (hl.of l hm s hs)))) (by rw [tD_len]; exact hl7) (by omega)).1
  refine ⟨tD (ls.take c), tD (ls.drop c), W5, ⟨it _ (fun q hq => List.mem_of_mem_take hq) (by rw [List.length_take]; omega), it _ (fun q hq => List.mem_of_mem_drop hq) (by rw [List.length_drop]; omega)⟩, hw5.mono (by omega), ?_⟩
  unfold GT__law_tangled pair3G
  simp only [edN0, edN1, edN2, edN3, wip, SOut.wp, vl_int, vl_str, vl_bl, vl_non, nd2, Nat.reduceLeDiff, Nat.reduceEqDiff, not_false_eq_true, and_self, and_true, true_and, putAll, big_eq, ↓evS_for, ↓ev_lc, evS, evT, evA, ev, evL, evO, evI, Out.bind, Out.st, ofS, ofO, D.isBl, vo, put, Vl.isFr, Vl.all, biD, ds, ts, sets, List.flatMap_cons, List.flatMap_nil, List.map_cons, List.map_nil, List.append_nil, List.nil_append, vl_nil, vf_nil, frz_nil, List.getElem?_cons_zero, List.getElem?_cons_succ, List.set_cons_zero, List.set_cons_succ, Bool.false_eq_true, if_false, if_true, reduceIte, List.length_cons, List.length_nil, Nat.reduceAdd, Nat.reduceSub, List.replicate, List.cons_append, List.replicate_succ, List.replicate_zero, Option.map_some, Option.map_none, Bool.not_true, Bool.not_false, List.singleton_append, e1, ad, e2, gt, c3, c2, v3, vl_nil, vf_nil, e3, e4, vf_tD, hln, add1, e5, lst_to, lst_from, pairOf] <;> try simp only [edN0, edN1, edN2, edN3, wip, SOut.wp, vl_int, vl_str, vl_bl, vl_non, nd2, Nat.reduceLeDiff, Nat.reduceEqDiff, not_false_eq_true, and_self, and_true, true_and, putAll, big_eq, ↓evS_for, ↓ev_lc, evS, evT, evA, ev, evL, evO, evI, Out.bind, Out.st, ofS, ofO, D.isBl, vo, put, Vl.isFr, Vl.all, biD, ds, ts, sets, List.flatMap_cons, List.flatMap_nil, List.map_cons, List.map_nil, List.append_nil, List.nil_append, vl_nil, vf_nil, frz_nil, List.getElem?_cons_zero, List.getElem?_cons_succ, List.set_cons_zero, List.set_cons_succ, Bool.false_eq_true, if_false, if_true, reduceIte, List.length_cons, List.length_nil, Nat.reduceAdd, Nat.reduceSub, List.replicate, List.cons_append, List.replicate_succ, List.replicate_zero, Option.map_some, Option.map_none, Bool.not_true, Bool.not_false, List.singleton_append, e1, ad, e2, gt, c3, c2, v3, vl_nil, vf_nil, e3, e4, vf_tD, hln, add1, e5, lst_to, lst_from, pairOf]
end Qk69

namespace Qk69
open PySem Z
section
variable {ls ss : List (List Str)} {W : Dr}
theorem mthT {m : Str} {g : G} {e : E} {xs : List D} {k : Sc} {ρ : En} (hm : List.lookup m [("t_lines", D.tup (tD ls)), ("t_rings", .tup (tD ss))] = none) (hg : g [tgD ls ss] W = .ok (true, .lst xs) W) (hk : D.immL xs = true) (h : ev e ρ W = .ok ⟨tgD ls ss, k, []⟩ W) (hk2 : ∀ i, k ≠ .me i) : ev (.mth m "Tangle" g e .nil) ρ W = .ok ⟨.lst xs, .fr, []⟩ W := by
  have e0 : evL .nil ρ W = .ok [] W := rfl
  unfold tgD at h hg
  simp only [ev, h, Out.bind, e0, hm, and_self, if_true, ds, List.map_nil, hg, vo]
  rw [vf_imm (by simp only [D.kids]; exact hk)]
theorem mth_threads {e : E} {ρ : En} (h : ev e ρ W = .ok ⟨tgD ls ss, .pl, []⟩ W) : ev (.mth "threads" "Tangle" G_Tangle_threads e .nil) ρ W = .ok ⟨.lst (tD ls), .fr, []⟩ W :=
  mthT (by
    simp only [List.lookup_cons, List.lookup_nil]
    rw [show (("threads" : Str) == "t_lines") = false from by decide +kernel, show (("threads" : Str) == "t_rings") = false from by decide +kernel]) tg_threads (immL_tD ls) h fun _ e => nomatch e
theorem mth_rings {e : E} {ρ : En} (h : ev e ρ W = .ok ⟨tgD ls ss, .pl, []⟩ W) : ev (.mth "rings" "Tangle" G_Tangle_rings e .nil) ρ W = .ok ⟨.lst (tD ss), .fr, []⟩ W :=
  mthT (by
    simp only [List.lookup_cons, List.lookup_nil]
    rw [show (("rings" : Str) == "t_lines") = false from by decide +kernel, show (("rings" : Str) == "t_rings") = false from by decide +kernel]) tg_rings (immL_tD ss) h fun _ e => nomatch e
end
theorem vfd (d : D) (t : List Nat) : (vf d t).d = d := by unfold vf; split <;> rfl
def knD (ls rs : List (List Str)) : D := .tup [.tup (tD ls), .tup (tD rs)]
theorem vkn (a b : List (List Str)) (t : List Nat) : vl (knD a b) t = ⟨knD a b, .pl, []⟩ := vl_imm (by simp only [knD, D.imm, D.immL, immL_tD, Bool.and_self])
theorem vtg (a b : List (List Str)) (t : List Nat) : vl (tgD a b) t = ⟨tgD a b, .pl, []⟩ := vl_imm (by simp only [tgD, D.imm, D.immF, immL_tD, Bool.and_self])
theorem told_ok {ls rs : List (List Str)} {z : Str} {W : Dr} (h : ∀ W, pureG reprQD [knD ls rs] W = .ok (false, .str z) W) : G__law_told [tgD ls rs] W = .ok (false, .str z) W := by
  have m1 := fun W => mth_threads (ls := ls) (ss := rs) (e := .var 0) (ρ := [.val (tgD ls rs)]) (W := W) rfl
  have m2 := fun W => mth_rings (ls := ls) (ss := rs) (e := .var 0) (ρ := [.val (tgD ls rs)]) (W := W) rfl
  have ty : ∀ xs : List D, [Ty.list].any (isD1 (.lst xs)) = true := fun _ => rfl
  have tt : ∀ xs : List D, (D.lst xs).typed = true := fun _ => rfl
  have t1 : ∀ xs : List D, tupleD [.lst xs] = some (false, .tup xs) := fun _ => rfl
  have vt : ∀ (ls : List (List Str)) t, vl (.tup (tD ls)) t = ⟨.tup (tD ls), .pl, []⟩ := fun ls t => vl_imm (by simp only [D.imm]; exact immL_tD ls)
  have c2 : 2 ≤ cap := by decide
  have h := h W
  unfold knD at h
  have vk : ∀ t, vl (.tup [.tup (tD ls), .tup (tD rs)]) t = ⟨.tup [.tup (tD ls), .tup (tD rs)], .pl, []⟩ := fun t => vkn ls rs t
  have key : evS 1000000 B__law_told [.val (tgD ls rs)] W = .rt ⟨.str z, .pl, []⟩ [.val (tgD ls rs)] W := by
    unfold B__law_told
    simp only [edN0, edN1, edN2, edN3, wip, SOut.wp, vl_int, vl_str, vl_bl, vl_non, nd2, Nat.reduceLeDiff, Nat.reduceEqDiff, not_false_eq_true, and_self, and_true, true_and, putAll, big_eq, ↓evS_for, ↓ev_lc, evS, evT, evA, ev, evL, evO, evI, Out.bind, Out.st, ofS, ofO, D.isBl, vo, put, Vl.isFr, Vl.all, biD, ds, ts, sets, List.flatMap_cons, List.flatMap_nil, List.map_cons, List.map_nil, List.append_nil, List.nil_append, vl_nil, vf_nil, frz_nil, List.getElem?_cons_zero, List.getElem?_cons_succ, List.set_cons_zero, List.set_cons_succ, Bool.false_eq_true, if_false, if_true, reduceIte, List.length_cons, List.length_nil, Nat.reduceAdd, Nat.reduceSub, List.replicate, List.cons_append, List.replicate_succ, List.replicate_zero, Option.map_some, Option.map_none, Bool.not_true, Bool.not_false, List.singleton_append, ↓m1, ↓m2, ty, tt, t1, vt, c2, vk, h]
  have e0 : ([tgD ls rs].map Sl.val ++ List.replicate (1 - 1) Sl.un) = [.val (tgD ls rs)] := rfl
  unfold G__law_told Z.run
  rw [e0, key]
  rfl
theorem eqG_ok {a b c d : List (List Str)} {W : Dr} (neg : Bool) : eqG neg "Tangle" G_Tangle___eq__ [tgD a b, tgD c d] W = .ok (false, .bl ((decide (a = c) && decide (b = d)) != neg)) W := by
  have e := tg_eq (a := a) (b := b) (c := c) (d := d) (W := W)
  have hi : (insD "Tangle" (tgD a b) && insD "Tangle" (tgD c d)) = true := rfl
  simp only [eqG, hi, if_true, e]
theorem eqA_ok {a b : List (List Str)} {y : D} {W : Dr} (hp : plD "Tangle" y = true) (ht : y.typed = true) (hf : [Ty_Tangle].any (isD1 y) = false) (neg : Bool) : eqA neg "Tangle" G_Tangle___eq__ [tgD a b, y] W = .ok (false, .bl neg) W := by
  have e : G_Tangle___eq__ [tgD a b, y] W = .ok (false, .bl false) W := by
    unfold G_Tangle___eq__ Z.run B_Tangle___eq__
    simp only [edN0, edN1, edN2, edN3, wip, SOut.wp, vl_int, vl_str, vl_bl, vl_non, nd2, Nat.reduceLeDiff, Nat.reduceEqDiff, not_false_eq_true, and_self, and_true, true_and, putAll, big_eq, ↓evS_for, ↓ev_lc, evS, evT, evA, ev, evL, evO, evI, Out.bind, Out.st, ofS, ofO, D.isBl, vo, put, Vl.isFr, Vl.all, biD, ds, ts, sets, List.flatMap_cons, List.flatMap_nil, List.map_cons, List.map_nil, List.append_nil, List.nil_append, vl_nil, vf_nil, frz_nil, List.getElem?_cons_zero, List.getElem?_cons_succ, List.set_cons_zero, List.set_cons_succ, Bool.false_eq_true, if_false, if_true, reduceIte, List.length_cons, List.length_nil, Nat.reduceAdd, Nat.reduceSub, List.replicate, List.cons_append, List.replicate_succ, List.replicate_zero, Option.map_some, Option.map_none, Bool.not_true, Bool.not_false, List.singleton_append, hf, ht]
  have hi : (insD "Tangle" (tgD a b) && plD "Tangle" y) = true := by simp only [hp, Bool.and_true]; rfl
  simp only [eqA, hi, if_true, e]
  cases neg <;> rfl
theorem eq_kn {a b c d : List (List Str)} : cmpD .Eq (knD a b) (knD c d) = some (decide (a = c) && decide (b = d)) := by
  have p : ∀ a b : List (List Str), (knD a b).pd = some (.tuple [.tuple (a.map pdR), .tuple (b.map pdR)]) := fun a b => by
    have k : ∀ (n : Nat) (a : List (List Str)), D.pyNL (n + 2) (tD a) = some (a.map pdR) := fun n a => by
      induction a with
      | nil => rfl
      | cons l ls ih =>
        have h1 : D.pyN (n + 2) (th l) = some (pdR l) := pyN_th (n + 1) l
        show D.pyNL (n + 2) (th l :: tD ls) = _
        simp only [D.pyNL, h1, ih, List.map_cons]
    have h1 : ∀ a, D.pyN 11 (.tup (tD a)) = some (.tuple (a.map pdR)) := fun a => by
      show (D.pyNL 10 (tD a)).map PyData.tuple = _
      rw [k 8]; rfl
    show (D.pyNL 11 [.tup (tD a), .tup (tD b)]).map PyData.tuple = _
    simp only [D.pyNL, h1, Option.map_some]
  simp only [cmpD, D.eq, p, PyData.eqv, PyData.eqvAll, eqv_rows, Bool.and_true]
def LastOk (s : Sl) : Prop := s = .val .non ∨ ∃ a b, s = .val (.tup [knD a b, tgD a b])
def sx (x : D) : Sl := if isL x then .own x else .val x
theorem sx_or (x : D) : (isL x = true ∧ sx x = .own x) ∨ (isL x = false ∧ sx x = .val x) := by
  unfold sx
  cases isL x with
  | true => exact .inl ⟨rfl, rfl⟩
  | false => exact .inr ⟨rfl, rfl⟩
theorem tail5 {ls rs : List (List Str)} {z : Str} {s0 s1 s2 s3 s4 s5 s6 s7 s8 s9 s12 s13 s14 : Sl} {W : Dr} (h : ∀ W, pureG reprQD [knD ls rs] W = .ok (false, .str z) W) :
    evS 1000000 B_law_5 [s0, s1, s2, s3, s4, s5, s6, s7, s8, s9, .val (knD ls rs), .val (tgD ls rs), s12, s13, s14] W = .nx [s0, s1, .val (.tup [knD ls rs, tgD ls rs]), s3, s4, s5, s6, s7, s8, s9, .val (knD ls rs), .val (tgD ls rs), s12, s13, s14] W := by
  have t := told_ok (W := W) h
  have hne : cmpD .NotEq (.str z) (.str z) = some false := by rw [ne_str]; simp
  have c2 : 2 ≤ cap := by decide
  have vk : ∀ t, vl (.tup [knD ls rs, tgD ls rs]) t = ⟨.tup [knD ls rs, tgD ls rs], .pl, []⟩ := fun t => vl_imm (by simp only [knD, tgD, D.imm, D.immL, D.immF, immL_tD, Bool.and_self])
  unfold B_law_5 B_law_4
  simp only [edN0, edN1, edN2, edN3, wip, SOut.wp, vl_int, vl_str, vl_bl, vl_non, nd2, Nat.reduceLeDiff, Nat.reduceEqDiff, not_false_eq_true, and_self, and_true, true_and, putAll, big_eq, ↓evS_for, ↓ev_lc, evS, evT, evA, ev, evL, evO, evI, Out.bind, Out.st, ofS, ofO, D.isBl, vo, put, Vl.isFr, Vl.all, biD, ds, ts, sets, List.flatMap_cons, List.flatMap_nil, List.map_cons, List.map_nil, List.append_nil, List.nil_append, vl_nil, vf_nil, frz_nil, List.getElem?_cons_zero, List.getElem?_cons_succ, List.set_cons_zero, List.set_cons_succ, Bool.false_eq_true, if_false, if_true, reduceIte, List.length_cons, List.length_nil, Nat.reduceAdd, Nat.reduceSub, List.replicate, List.cons_append, List.replicate_succ, List.replicate_zero, Option.map_some, Option.map_none, Bool.not_true, Bool.not_false, List.singleton_append, t, h, hne, c2, vk] <;> try (simp only [edN0, edN1, edN2, edN3, wip, SOut.wp, vl_int, vl_str, vl_bl, vl_non, nd2, Nat.reduceLeDiff, Nat.reduceEqDiff, not_false_eq_true, and_self, and_true, true_and, putAll, big_eq, ↓evS_for, ↓ev_lc, evS, evT, evA, ev, evL, evO, evI, Out.bind, Out.st, ofS, ofO, D.isBl, vo, put, Vl.isFr, Vl.all, biD, ds, ts, sets, List.flatMap_cons, List.flatMap_nil, List.map_cons, List.map_nil, List.append_nil, List.nil_append, vl_nil, vf_nil, frz_nil, List.getElem?_cons_zero, List.getElem?_cons_succ, List.set_cons_zero, List.set_cons_succ, Bool.false_eq_true, if_false, if_true, reduceIte, List.length_cons, List.length_nil, Nat.reduceAdd, Nat.reduceSub, List.replicate, List.cons_append, List.replicate_succ, List.replicate_zero, Option.map_some, Option.map_none, Bool.not_true, Bool.not_false, List.singleton_append, t, h, hne, c2, vk] <;> try simp only [edN0, edN1, edN2, edN3, wip, SOut.wp, vl_int, vl_str, vl_bl, vl_non, nd2, Nat.reduceLeDiff, Nat.reduceEqDiff, not_false_eq_true, and_self, and_true, true_and, putAll, big_eq, ↓evS_for, ↓ev_lc, evS, evT, evA, ev, evL, evO, evI, Out.bind, Out.st, ofS, ofO, D.isBl, vo, put, Vl.isFr, Vl.all, biD, ds, ts, sets, List.flatMap_cons, List.flatMap_nil, List.map_cons, List.map_nil, List.append_nil, List.nil_append, vl_nil, vf_nil, frz_nil, List.getElem?_cons_zero, List.getElem?_cons_succ, List.set_cons_zero, List.set_cons_succ, Bool.false_eq_true, if_false, if_true, reduceIte, List.length_cons, List.length_nil, Nat.reduceAdd, Nat.reduceSub, List.replicate, List.cons_append, List.replicate_succ, List.replicate_zero, Option.map_some, Option.map_none, Bool.not_true, Bool.not_false, List.singleton_append, t, h, hne, c2, vk])
theorem tail6 {ls rs : List (List Str)} {z : Str} {x : D} {s0 s1 s2 s3 s5 s6 s7 s8 s9 s12 s13 s14 : Sl} {W : Dr} (h : ∀ W, pureG reprQD [knD ls rs] W = .ok (false, .str z) W) (ht : x.typed = true) (hl : (its x).length ≤ 1000) (ha : ls.length ≤ 1000 ∧ rs.length ≤ 1000) :
    ∃ s4', evS 1000000 B_law_6 [s0, s1, s2, s3, sx x, s5, s6, s7, s8, s9, .val (knD ls rs), .val (tgD ls rs), s12, s13, s14] W = .nx [s0, s1, .val (.tup [knD ls rs, tgD ls rs]), s3, s4', s5, s6, s7, s8, s9, .val (knD ls rs), .val (tgD ls rs), s12, s13, s14] W := by
  have m1 : ∀ s4 W, ev (.mth "threads" "Tangle" G_Tangle_threads (.var 11) .nil) [s0, s1, s2, s3, s4, s5, s6, s7, s8, s9, .val (knD ls rs), .val (tgD ls rs), s12, s13, s14] W = .ok ⟨.lst (tD ls), .fr, []⟩ W := fun s4 W => mth_threads rfl
  have m2 : ∀ s4 W, ev (.mth "rings" "Tangle" G_Tangle_rings (.var 11) .nil) [s0, s1, s2, s3, s4, s5, s6, s7, s8, s9, .val (knD ls rs), .val (tgD ls rs), s12, s13, s14] W = .ok ⟨.lst (tD rs), .fr, []⟩ W := fun s4 W => mth_rings rfl
  have t5 := fun s4 => tail5 (s0 := s0) (s1 := s1) (s2 := s2) (s3 := s3) (s4 := s4) (s5 := s5) (s6 := s6) (s7 := s7) (s8 := s8) (s9 := s9) (s12 := s12) (s13 := s13) (s14 := s14) (W := W) h
  have l1 : (tD ls).length < cap := by rw [tD_len]; unfold cap; omega
  have l2 : (tD rs).length < cap := by rw [tD_len]; unfold cap; omega
  have c1 : 1 ≤ cap := by decide
  rcases sx_or x with ⟨q1, q2⟩ | ⟨q1, q2⟩
  · obtain ⟨xs, rfl⟩ : ∃ xs, x = .lst xs := by cases x <;> first | exact ⟨_, rfl⟩ | (cases q1; done)
    have hl : xs.length ≤ 1000 := hl
    have l3 : xs.length < cap := by unfold cap; omega
    have ty : [Ty.list].any (isD1 (.lst xs)) = true := rfl
    have vq : ∀ t, vl (.tup [.str "q"]) t = ⟨.tup [.str "q"], .pl, []⟩ := fun t => vl_imm rfl
    refine ⟨.own (.lst (xs ++ [.tup [.str "q"]])), ?_⟩
    unfold B_law_6
    rw [q2]
    simp only [edN0, edN1, edN2, edN3, wip, SOut.wp, vl_int, vl_str, vl_bl, vl_non, nd2, Nat.reduceLeDiff, Nat.reduceEqDiff, not_false_eq_true, and_self, and_true, true_and, putAll, big_eq, ↓evS_for, ↓ev_lc, evS, evT, evA, ev, evL, evO, evI, Out.bind, Out.st, ofS, ofO, D.isBl, vo, put, Vl.isFr, Vl.all, biD, ds, ts, sets, List.flatMap_cons, List.flatMap_nil, List.map_cons, List.map_nil, List.append_nil, List.nil_append, vl_nil, vf_nil, frz_nil, List.getElem?_cons_zero, List.getElem?_cons_succ, List.set_cons_zero, List.set_cons_succ, Bool.false_eq_true, if_false, if_true, reduceIte, List.length_cons, List.length_nil, Nat.reduceAdd, Nat.reduceSub, List.replicate, List.cons_append, List.replicate_succ, List.replicate_zero, Option.map_some, Option.map_none, Bool.not_true, Bool.not_false, List.singleton_append, ↓m1, ↓m2, l1, l2, l3, ty, ht, c1, vq, t5] <;> try (simp only [edN0, edN1, edN2, edN3, wip, SOut.wp, vl_int, vl_str, vl_bl, vl_non, nd2, Nat.reduceLeDiff, Nat.reduceEqDiff, not_false_eq_true, and_self, and_true, true_and, putAll, big_eq, ↓evS_for, ↓ev_lc, evS, evT, evA, ev, evL, evO, evI, Out.bind, Out.st, ofS, ofO, D.isBl, vo, put, Vl.isFr, Vl.all, biD, ds, ts, sets, List.flatMap_cons, List.flatMap_nil, List.map_cons, List.map_nil, List.append_nil, List.nil_append, vl_nil, vf_nil, frz_nil, List.getElem?_cons_zero, List.getElem?_cons_succ, List.set_cons_zero, List.set_cons_succ, Bool.false_eq_true, if_false, if_true, reduceIte, List.length_cons, List.length_nil, Nat.reduceAdd, Nat.reduceSub, List.replicate, List.cons_append, List.replicate_succ, List.replicate_zero, Option.map_some, Option.map_none, Bool.not_true, Bool.not_false, List.singleton_append, ↓m1, ↓m2, l1, l2, l3, ty, ht, c1, vq, t5] <;> try simp only [edN0, edN1, edN2, edN3, wip, SOut.wp, vl_int, vl_str, vl_bl, vl_non, nd2, Nat.reduceLeDiff, Nat.reduceEqDiff, not_false_eq_true, and_self, and_true, true_and, putAll, big_eq, ↓evS_for, ↓ev_lc, evS, evT, evA, ev, evL, evO, evI, Out.bind, Out.st, ofS, ofO, D.isBl, vo, put, Vl.isFr, Vl.all, biD, ds, ts, sets, List.flatMap_cons, List.flatMap_nil, List.map_cons, List.map_nil, List.append_nil, List.nil_append, vl_nil, vf_nil, frz_nil, List.getElem?_cons_zero, List.getElem?_cons_succ, List.set_cons_zero, List.set_cons_succ, Bool.false_eq_true, if_false, if_true, reduceIte, List.length_cons, List.length_nil, Nat.reduceAdd, Nat.reduceSub, List.replicate, List.cons_append, List.replicate_succ, List.replicate_zero, Option.map_some, Option.map_none, Bool.not_true, Bool.not_false, List.singleton_append, ↓m1, ↓m2, l1, l2, l3, ty, ht, c1, vq, t5])
  · have ty : [Ty.list].any (isD1 x) = false := by cases x <;> first | rfl | (cases q1; done)
    refine ⟨.val x, ?_⟩
    unfold B_law_6
    rw [q2]
    simp only [edN0, edN1, edN2, edN3, wip, SOut.wp, vl_int, vl_str, vl_bl, vl_non, nd2, Nat.reduceLeDiff, Nat.reduceEqDiff, not_false_eq_true, and_self, and_true, true_and, putAll, big_eq, ↓evS_for, ↓ev_lc, evS, evT, evA, ev, evL, evO, evI, Out.bind, Out.st, ofS, ofO, D.isBl, vo, put, Vl.isFr, Vl.all, biD, ds, ts, sets, List.flatMap_cons, List.flatMap_nil, List.map_cons, List.map_nil, List.append_nil, List.nil_append, vl_nil, vf_nil, frz_nil, List.getElem?_cons_zero, List.getElem?_cons_succ, List.set_cons_zero, List.set_cons_succ, Bool.false_eq_true, if_false, if_true, reduceIte, List.length_cons, List.length_nil, Nat.reduceAdd, Nat.reduceSub, List.replicate, List.cons_append, List.replicate_succ, List.replicate_zero, Option.map_some, Option.map_none, Bool.not_true, Bool.not_false, List.singleton_append, ↓m1, ↓m2, l1, l2, ty, ht, c1, t5] <;> try (simp only [edN0, edN1, edN2, edN3, wip, SOut.wp, vl_int, vl_str, vl_bl, vl_non, nd2, Nat.reduceLeDiff, Nat.reduceEqDiff, not_false_eq_true, and_self, and_true, true_and, putAll, big_eq, ↓evS_for, ↓ev_lc, evS, evT, evA, ev, evL, evO, evI, Out.bind, Out.st, ofS, ofO, D.isBl, vo, put, Vl.isFr, Vl.all, biD, ds, ts, sets, List.flatMap_cons, List.flatMap_nil, List.map_cons, List.map_nil, List.append_nil, List.nil_append, vl_nil, vf_nil, frz_nil, List.getElem?_cons_zero, List.getElem?_cons_succ, List.set_cons_zero, List.set_cons_succ, Bool.false_eq_true, if_false, if_true, reduceIte, List.length_cons, List.length_nil, Nat.reduceAdd, Nat.reduceSub, List.replicate, List.cons_append, List.replicate_succ, List.replicate_zero, Option.map_some, Option.map_none, Bool.not_true, Bool.not_false, List.singleton_append, ↓m1, ↓m2, l1, l2, ty, ht, c1, t5] <;> try simp only [edN0, edN1, edN2, edN3, wip, SOut.wp, vl_int, vl_str, vl_bl, vl_non, nd2, Nat.reduceLeDiff, Nat.reduceEqDiff, not_false_eq_true, and_self, and_true, true_and, putAll, big_eq, ↓evS_for, ↓ev_lc, evS, evT, evA, ev, evL, evO, evI, Out.bind, Out.st, ofS, ofO, D.isBl, vo, put, Vl.isFr, Vl.all, biD, ds, ts, sets, List.flatMap_cons, List.flatMap_nil, List.map_cons, List.map_nil, List.append_nil, List.nil_append, vl_nil, vf_nil, frz_nil, List.getElem?_cons_zero, List.getElem?_cons_succ, List.set_cons_zero, List.set_cons_succ, Bool.false_eq_true, if_false, if_true, reduceIte, List.length_cons, List.length_nil, Nat.reduceAdd, Nat.reduceSub, List.replicate, List.cons_append, List.replicate_succ, List.replicate_zero, Option.map_some, Option.map_none, Bool.not_true, Bool.not_false, List.singleton_append, ↓m1, ↓m2, l1, l2, ty, ht, c1, t5])
theorem tail7 {ls rs : List (List Str)} {z : Str} {x : D} {s0 s1 s2 s3 s5 s6 s7 s8 s9 s12 s13 s14 : Sl} {W : Dr} (h : ∀ W, pureG reprQD [knD ls rs] W = .ok (false, .str z) W) (ht : x.typed = true) (hl : (its x).length ≤ 1000) (ha : ls.length ≤ 1000 ∧ rs.length ≤ 1000) (h2 : LastOk s2) :
    ∃ s4', evS 1000000 B_law_7 [s0, s1, s2, s3, sx x, s5, s6, s7, s8, s9, .val (knD ls rs), .val (tgD ls rs), s12, s13, s14] W = .nx [s0, s1, .val (.tup [knD ls rs, tgD ls rs]), s3, s4', s5, s6, s7, s8, s9, .val (knD ls rs), .val (tgD ls rs), s12, s13, s14] W := by
  obtain ⟨s4', t6⟩ := tail6 (s0 := s0) (s1 := s1) (s2 := s2) (s3 := s3) (s5 := s5) (s6 := s6) (s7 := s7) (s8 := s8) (s9 := s9) (s12 := s12) (s13 := s13) (s14 := s14) (W := W) h ht hl ha
  refine ⟨s4', ?_⟩
  rcases h2 with rfl | ⟨a, b, rfl⟩
  · have i1 : cmpD .IsNot .non .non = some false := rfl
    unfold B_law_7
    simp only [edN0, edN1, edN2, edN3, wip, SOut.wp, vl_int, vl_str, vl_bl, vl_non, nd2, Nat.reduceLeDiff, Nat.reduceEqDiff, not_false_eq_true, and_self, and_true, true_and, putAll, big_eq, ↓evS_for, ↓ev_lc, evS, evT, evA, ev, evL, evO, evI, Out.bind, Out.st, ofS, ofO, D.isBl, vo, put, Vl.isFr, Vl.all, biD, ds, ts, sets, List.flatMap_cons, List.flatMap_nil, List.map_cons, List.map_nil, List.append_nil, List.nil_append, vl_nil, vf_nil, frz_nil, List.getElem?_cons_zero, List.getElem?_cons_succ, List.set_cons_zero, List.set_cons_succ, Bool.false_eq_true, if_false, if_true, reduceIte, List.length_cons, List.length_nil, Nat.reduceAdd, Nat.reduceSub, List.replicate, List.cons_append, List.replicate_succ, List.replicate_zero, Option.map_some, Option.map_none, Bool.not_true, Bool.not_false, List.singleton_append, i1, t6]
  · have i1 : cmpD .IsNot (.tup [knD a b, tgD a b]) .non = some true := rfl
    have x0 : ixD (.tup [knD a b, tgD a b]) (.int 0) = some (knD a b) := rfl
    have x1 : ixD (.tup [knD a b, tgD a b]) (.int 1) = some (tgD a b) := rfl
    have q := eqG_ok (a := ls) (b := rs) (c := a) (d := b) (W := W) false
    have ne : ∀ v : Bool, cmpD .NotEq (.bl (v != false)) (.bl v) = some false := fun v => by cases v <;> rfl
    unfold B_law_7
    simp only [edN0, edN1, edN2, edN3, wip, SOut.wp, vl_int, vl_str, vl_bl, vl_non, nd2, Nat.reduceLeDiff, Nat.reduceEqDiff, not_false_eq_true, and_self, and_true, true_and, putAll, big_eq, ↓evS_for, ↓ev_lc, evS, evT, evA, ev, evL, evO, evI, Out.bind, Out.st, ofS, ofO, D.isBl, vo, put, Vl.isFr, Vl.all, biD, ds, ts, sets, List.flatMap_cons, List.flatMap_nil, List.map_cons, List.map_nil, List.append_nil, List.nil_append, vl_nil, vf_nil, frz_nil, List.getElem?_cons_zero, List.getElem?_cons_succ, List.set_cons_zero, List.set_cons_succ, Bool.false_eq_true, if_false, if_true, reduceIte, List.length_cons, List.length_nil, Nat.reduceAdd, Nat.reduceSub, List.replicate, List.cons_append, List.replicate_succ, List.replicate_zero, Option.map_some, Option.map_none, Bool.not_true, Bool.not_false, List.singleton_append, i1, x0, x1, q, eq_kn, vkn, vtg, ne, t6] <;> try (simp only [edN0, edN1, edN2, edN3, wip, SOut.wp, vl_int, vl_str, vl_bl, vl_non, nd2, Nat.reduceLeDiff, Nat.reduceEqDiff, not_false_eq_true, and_self, and_true, true_and, putAll, big_eq, ↓evS_for, ↓ev_lc, evS, evT, evA, ev, evL, evO, evI, Out.bind, Out.st, ofS, ofO, D.isBl, vo, put, Vl.isFr, Vl.all, biD, ds, ts, sets, List.flatMap_cons, List.flatMap_nil, List.map_cons, List.map_nil, List.append_nil, List.nil_append, vl_nil, vf_nil, frz_nil, List.getElem?_cons_zero, List.getElem?_cons_succ, List.set_cons_zero, List.set_cons_succ, Bool.false_eq_true, if_false, if_true, reduceIte, List.length_cons, List.length_nil, Nat.reduceAdd, Nat.reduceSub, List.replicate, List.cons_append, List.replicate_succ, List.replicate_zero, Option.map_some, Option.map_none, Bool.not_true, Bool.not_false, List.singleton_append, i1, x0, x1, q, eq_kn, vkn, vtg, ne, t6] <;> try simp only [edN0, edN1, edN2, edN3, wip, SOut.wp, vl_int, vl_str, vl_bl, vl_non, nd2, Nat.reduceLeDiff, Nat.reduceEqDiff, not_false_eq_true, and_self, and_true, true_and, putAll, big_eq, ↓evS_for, ↓ev_lc, evS, evT, evA, ev, evL, evO, evI, Out.bind, Out.st, ofS, ofO, D.isBl, vo, put, Vl.isFr, Vl.all, biD, ds, ts, sets, List.flatMap_cons, List.flatMap_nil, List.map_cons, List.map_nil, List.append_nil, List.nil_append, vl_nil, vf_nil, frz_nil, List.getElem?_cons_zero, List.getElem?_cons_succ, List.set_cons_zero, List.set_cons_succ, Bool.false_eq_true, if_false, if_true, reduceIte, List.length_cons, List.length_nil, Nat.reduceAdd, Nat.reduceSub, List.replicate, List.cons_append, List.replicate_succ, List.replicate_zero, Option.map_some, Option.map_none, Bool.not_true, Bool.not_false, List.singleton_append, i1, x0, x1, q, eq_kn, vkn, vtg, ne, t6])
end Qk69

namespace Qk69
open PySem Z
theorem Bt.up {n m : Nat} {x : D} (h : Bt n x) (hm : n ≤ m) : Bt m x := ⟨h.go, by have := h.len; omega, h.sh.up (by omega) (Nat.le_refl _), h.ls⟩
section
variable {T n : Nat} {x y x' : D} {s0 s2 s3 s4 s5 s6 s7 s8 s9 s10 s11 s12 s13 s14 : Sl} {W W' : Dr}
theorem put4 (e : G__law_bent [.drw, x] W = .ok (isL x', x') W') :
    evS 1000000 (.asg 4 (.call G__law_bent (.cons (.var 1) (.cons (.var 4) .nil)))) [s0, .val .drw, s2, s3, sx x, s5, s6, s7, s8, s9, s10, s11, s12, s13, s14] W = .nx [s0, .val .drw, s2, s3, sx x', s5, s6, s7, s8, s9, s10, s11, s12, s13, s14] W' := by
  have fz : frz [s0, .val .drw, s2, s3, .own x, s5, s6, s7, s8, s9, s10, s11, s12, s13, s14] [4] = [s0, .val .drw, s2, s3, .val x, s5, s6, s7, s8, s9, s10, s11, s12, s13, s14] := frz_one rfl
  rcases sx_or x with ⟨q1, q2⟩ | ⟨q1, q2⟩ <;> rw [q2] <;> rcases sx_or x' with ⟨p1, p2⟩ | ⟨p1, p2⟩ <;> rw [p2] <;> rw [p1] at e
  · by_cases q : x'.kids = true
    · have v : vf x' [4] = ⟨x', .fr, []⟩ := vf_imm q
      simp only [edN0, edN1, edN2, edN3, wip, SOut.wp, vl_int, vl_str, vl_bl, vl_non, nd2, Nat.reduceLeDiff, Nat.reduceEqDiff, not_false_eq_true, and_self, and_true, true_and, putAll, big_eq, ↓evS_for, ↓ev_lc, evS, evT, evA, ev, evL, evO, evI, Out.bind, Out.st, ofS, ofO, D.isBl, vo, put, Vl.isFr, Vl.all, biD, ds, ts, sets, List.flatMap_cons, List.flatMap_nil, List.map_cons, List.map_nil, List.append_nil, List.nil_append, vl_nil, vf_nil, frz_nil, List.getElem?_cons_zero, List.getElem?_cons_succ, List.set_cons_zero, List.set_cons_succ, Bool.false_eq_true, if_false, if_true, reduceIte, List.length_cons, List.length_nil, Nat.reduceAdd, Nat.reduceSub, List.replicate, List.cons_append, List.replicate_succ, List.replicate_zero, Option.map_some, Option.map_none, Bool.not_true, Bool.not_false, List.singleton_append, e, v] <;> try (simp only [edN0, edN1, edN2, edN3, wip, SOut.wp, vl_int, vl_str, vl_bl, vl_non, nd2, Nat.reduceLeDiff, Nat.reduceEqDiff, not_false_eq_true, and_self, and_true, true_and, putAll, big_eq, ↓evS_for, ↓ev_lc, evS, evT, evA, ev, evL, evO, evI, Out.bind, Out.st, ofS, ofO, D.isBl, vo, put, Vl.isFr, Vl.all, biD, ds, ts, sets, List.flatMap_cons, List.flatMap_nil, List.map_cons, List.map_nil, List.append_nil, List.nil_append, vl_nil, vf_nil, frz_nil, List.getElem?_cons_zero, List.getElem?_cons_succ, List.set_cons_zero, List.set_cons_succ, Bool.false_eq_true, if_false, if_true, reduceIte, List.length_cons, List.length_nil, Nat.reduceAdd, Nat.reduceSub, List.replicate, List.cons_append, List.replicate_succ, List.replicate_zero, Option.map_some, Option.map_none, Bool.not_true, Bool.not_false, List.singleton_append, e, v] <;> try simp only [edN0, edN1, edN2, edN3, wip, SOut.wp, vl_int, vl_str, vl_bl, vl_non, nd2, Nat.reduceLeDiff, Nat.reduceEqDiff, not_false_eq_true, and_self, and_true, true_and, putAll, big_eq, ↓evS_for, ↓ev_lc, evS, evT, evA, ev, evL, evO, evI, Out.bind, Out.st, ofS, ofO, D.isBl, vo, put, Vl.isFr, Vl.all, biD, ds, ts, sets, List.flatMap_cons, List.flatMap_nil, List.map_cons, List.map_nil, List.append_nil, List.nil_append, vl_nil, vf_nil, frz_nil, List.getElem?_cons_zero, List.getElem?_cons_succ, List.set_cons_zero, List.set_cons_succ, Bool.false_eq_true, if_false, if_true, reduceIte, List.length_cons, List.length_nil, Nat.reduceAdd, Nat.reduceSub, List.replicate, List.cons_append, List.replicate_succ, List.replicate_zero, Option.map_some, Option.map_none, Bool.not_true, Bool.not_false, List.singleton_append, e, v])
    · have v : vf x' [4] = ⟨x', .fr, [4]⟩ := by unfold vf; rw [if_neg q]
      simp only [edN0, edN1, edN2, edN3, wip, SOut.wp, vl_int, vl_str, vl_bl, vl_non, nd2, Nat.reduceLeDiff, Nat.reduceEqDiff, not_false_eq_true, and_self, and_true, true_and, putAll, big_eq, ↓evS_for, ↓ev_lc, evS, evT, evA, ev, evL, evO, evI, Out.bind, Out.st, ofS, ofO, D.isBl, vo, put, Vl.isFr, Vl.all, biD, ds, ts, sets, List.flatMap_cons, List.flatMap_nil, List.map_cons, List.map_nil, List.append_nil, List.nil_append, vl_nil, vf_nil, frz_nil, List.getElem?_cons_zero, List.getElem?_cons_succ, List.set_cons_zero, List.set_cons_succ, Bool.false_eq_true, if_false, if_true, reduceIte, List.length_cons, List.length_nil, Nat.reduceAdd, Nat.reduceSub, List.replicate, List.cons_append, List.replicate_succ, List.replicate_zero, Option.map_some, Option.map_none, Bool.not_true, Bool.not_false, List.singleton_append, e, v, fz] <;> try (simp only [edN0, edN1, edN2, edN3, wip, SOut.wp, vl_int, vl_str, vl_bl, vl_non, nd2, Nat.reduceLeDiff, Nat.reduceEqDiff, not_false_eq_true, and_self, and_true, true_and, putAll, big_eq, ↓evS_for, ↓ev_lc, evS, evT, evA, ev, evL, evO, evI, Out.bind, Out.st, ofS, ofO, D.isBl, vo, put, Vl.isFr, Vl.all, biD, ds, ts, sets, List.flatMap_cons, List.flatMap_nil, List.map_cons, List.map_nil, List.append_nil, List.nil_append, vl_nil, vf_nil, frz_nil, List.getElem?_cons_zero, List.getElem?_cons_succ, List.set_cons_zero, List.set_cons_succ, Bool.false_eq_true, if_false, if_true, reduceIte, List.length_cons, List.length_nil, Nat.reduceAdd, Nat.reduceSub, List.replicate, List.cons_append, List.replicate_succ, List.replicate_zero, Option.map_some, Option.map_none, Bool.not_true, Bool.not_false, List.singleton_append, e, v, fz] <;> try simp only [edN0, edN1, edN2, edN3, wip, SOut.wp, vl_int, vl_str, vl_bl, vl_non, nd2, Nat.reduceLeDiff, Nat.reduceEqDiff, not_false_eq_true, and_self, and_true, true_and, putAll, big_eq, ↓evS_for, ↓ev_lc, evS, evT, evA, ev, evL, evO, evI, Out.bind, Out.st, ofS, ofO, D.isBl, vo, put, Vl.isFr, Vl.all, biD, ds, ts, sets, List.flatMap_cons, List.flatMap_nil, List.map_cons, List.map_nil, List.append_nil, List.nil_append, vl_nil, vf_nil, frz_nil, List.getElem?_cons_zero, List.getElem?_cons_succ, List.set_cons_zero, List.set_cons_succ, Bool.false_eq_true, if_false, if_true, reduceIte, List.length_cons, List.length_nil, Nat.reduceAdd, Nat.reduceSub, List.replicate, List.cons_append, List.replicate_succ, List.replicate_zero, Option.map_some, Option.map_none, Bool.not_true, Bool.not_false, List.singleton_append, e, v, fz])
  · by_cases q : x'.imm = true
    · have v : vl x' [4] = ⟨x', .pl, []⟩ := vl_imm q
      simp only [edN0, edN1, edN2, edN3, wip, SOut.wp, vl_int, vl_str, vl_bl, vl_non, nd2, Nat.reduceLeDiff, Nat.reduceEqDiff, not_false_eq_true, and_self, and_true, true_and, putAll, big_eq, ↓evS_for, ↓ev_lc, evS, evT, evA, ev, evL, evO, evI, Out.bind, Out.st, ofS, ofO, D.isBl, vo, put, Vl.isFr, Vl.all, biD, ds, ts, sets, List.flatMap_cons, List.flatMap_nil, List.map_cons, List.map_nil, List.append_nil, List.nil_append, vl_nil, vf_nil, frz_nil, List.getElem?_cons_zero, List.getElem?_cons_succ, List.set_cons_zero, List.set_cons_succ, Bool.false_eq_true, if_false, if_true, reduceIte, List.length_cons, List.length_nil, Nat.reduceAdd, Nat.reduceSub, List.replicate, List.cons_append, List.replicate_succ, List.replicate_zero, Option.map_some, Option.map_none, Bool.not_true, Bool.not_false, List.singleton_append, e, v] <;> try (simp only [edN0, edN1, edN2, edN3, wip, SOut.wp, vl_int, vl_str, vl_bl, vl_non, nd2, Nat.reduceLeDiff, Nat.reduceEqDiff, not_false_eq_true, and_self, and_true, true_and, putAll, big_eq, ↓evS_for, ↓ev_lc, evS, evT, evA, ev, evL, evO, evI, Out.bind, Out.st, ofS, ofO, D.isBl, vo, put, Vl.isFr, Vl.all, biD, ds, ts, sets, List.flatMap_cons, List.flatMap_nil, List.map_cons, List.map_nil, List.append_nil, List.nil_append, vl_nil, vf_nil, frz_nil, List.getElem?_cons_zero, List.getElem?_cons_succ, List.set_cons_zero, List.set_cons_succ, Bool.false_eq_true, if_false, if_true, reduceIte, List.length_cons, List.length_nil, Nat.reduceAdd, Nat.reduceSub, List.replicate, List.cons_append, List.replicate_succ, List.replicate_zero, Option.map_some, Option.map_none, Bool.not_true, Bool.not_false, List.singleton_append, e, v] <;> try simp only [edN0, edN1, edN2, edN3, wip, SOut.wp, vl_int, vl_str, vl_bl, vl_non, nd2, Nat.reduceLeDiff, Nat.reduceEqDiff, not_false_eq_true, and_self, and_true, true_and, putAll, big_eq, ↓evS_for, ↓ev_lc, evS, evT, evA, ev, evL, evO, evI, Out.bind, Out.st, ofS, ofO, D.isBl, vo, put, Vl.isFr, Vl.all, biD, ds, ts, sets, List.flatMap_cons, List.flatMap_nil, List.map_cons, List.map_nil, List.append_nil, List.nil_append, vl_nil, vf_nil, frz_nil, List.getElem?_cons_zero, List.getElem?_cons_succ, List.set_cons_zero, List.set_cons_succ, Bool.false_eq_true, if_false, if_true, reduceIte, List.length_cons, List.length_nil, Nat.reduceAdd, Nat.reduceSub, List.replicate, List.cons_append, List.replicate_succ, List.replicate_zero, Option.map_some, Option.map_none, Bool.not_true, Bool.not_false, List.singleton_append, e, v])
    · have v : vl x' [4] = ⟨x', .pl, [4]⟩ := by unfold vl; rw [if_neg q]
      simp only [edN0, edN1, edN2, edN3, wip, SOut.wp, vl_int, vl_str, vl_bl, vl_non, nd2, Nat.reduceLeDiff, Nat.reduceEqDiff, not_false_eq_true, and_self, and_true, true_and, putAll, big_eq, ↓evS_for, ↓ev_lc, evS, evT, evA, ev, evL, evO, evI, Out.bind, Out.st, ofS, ofO, D.isBl, vo, put, Vl.isFr, Vl.all, biD, ds, ts, sets, List.flatMap_cons, List.flatMap_nil, List.map_cons, List.map_nil, List.append_nil, List.nil_append, vl_nil, vf_nil, frz_nil, List.getElem?_cons_zero, List.getElem?_cons_succ, List.set_cons_zero, List.set_cons_succ, Bool.false_eq_true, if_false, if_true, reduceIte, List.length_cons, List.length_nil, Nat.reduceAdd, Nat.reduceSub, List.replicate, List.cons_append, List.replicate_succ, List.replicate_zero, Option.map_some, Option.map_none, Bool.not_true, Bool.not_false, List.singleton_append, e, v, fz] <;> try (simp only [edN0, edN1, edN2, edN3, wip, SOut.wp, vl_int, vl_str, vl_bl, vl_non, nd2, Nat.reduceLeDiff, Nat.reduceEqDiff, not_false_eq_true, and_self, and_true, true_and, putAll, big_eq, ↓evS_for, ↓ev_lc, evS, evT, evA, ev, evL, evO, evI, Out.bind, Out.st, ofS, ofO, D.isBl, vo, put, Vl.isFr, Vl.all, biD, ds, ts, sets, List.flatMap_cons, List.flatMap_nil, List.map_cons, List.map_nil, List.append_nil, List.nil_append, vl_nil, vf_nil, frz_nil, List.getElem?_cons_zero, List.getElem?_cons_succ, List.set_cons_zero, List.set_cons_succ, Bool.false_eq_true, if_false, if_true, reduceIte, List.length_cons, List.length_nil, Nat.reduceAdd, Nat.reduceSub, List.replicate, List.cons_append, List.replicate_succ, List.replicate_zero, Option.map_some, Option.map_none, Bool.not_true, Bool.not_false, List.singleton_append, e, v, fz] <;> try simp only [edN0, edN1, edN2, edN3, wip, SOut.wp, vl_int, vl_str, vl_bl, vl_non, nd2, Nat.reduceLeDiff, Nat.reduceEqDiff, not_false_eq_true, and_self, and_true, true_and, putAll, big_eq, ↓evS_for, ↓ev_lc, evS, evT, evA, ev, evL, evO, evI, Out.bind, Out.st, ofS, ofO, D.isBl, vo, put, Vl.isFr, Vl.all, biD, ds, ts, sets, List.flatMap_cons, List.flatMap_nil, List.map_cons, List.map_nil, List.append_nil, List.nil_append, vl_nil, vf_nil, frz_nil, List.getElem?_cons_zero, List.getElem?_cons_succ, List.set_cons_zero, List.set_cons_succ, Bool.false_eq_true, if_false, if_true, reduceIte, List.length_cons, List.length_nil, Nat.reduceAdd, Nat.reduceSub, List.replicate, List.cons_append, List.replicate_succ, List.replicate_zero, Option.map_some, Option.map_none, Bool.not_true, Bool.not_false, List.singleton_append, e, v, fz])
  · simp only [edN0, edN1, edN2, edN3, wip, SOut.wp, vl_int, vl_str, vl_bl, vl_non, nd2, Nat.reduceLeDiff, Nat.reduceEqDiff, not_false_eq_true, and_self, and_true, true_and, putAll, big_eq, ↓evS_for, ↓ev_lc, evS, evT, evA, ev, evL, evO, evI, Out.bind, Out.st, ofS, ofO, D.isBl, vo, put, Vl.isFr, Vl.all, biD, ds, ts, sets, List.flatMap_cons, List.flatMap_nil, List.map_cons, List.map_nil, List.append_nil, List.nil_append, vl_nil, vf_nil, frz_nil, List.getElem?_cons_zero, List.getElem?_cons_succ, List.set_cons_zero, List.set_cons_succ, Bool.false_eq_true, if_false, if_true, reduceIte, List.length_cons, List.length_nil, Nat.reduceAdd, Nat.reduceSub, List.replicate, List.cons_append, List.replicate_succ, List.replicate_zero, Option.map_some, Option.map_none, Bool.not_true, Bool.not_false, List.singleton_append, e, vf_nil] <;> try (simp only [edN0, edN1, edN2, edN3, wip, SOut.wp, vl_int, vl_str, vl_bl, vl_non, nd2, Nat.reduceLeDiff, Nat.reduceEqDiff, not_false_eq_true, and_self, and_true, true_and, putAll, big_eq, ↓evS_for, ↓ev_lc, evS, evT, evA, ev, evL, evO, evI, Out.bind, Out.st, ofS, ofO, D.isBl, vo, put, Vl.isFr, Vl.all, biD, ds, ts, sets, List.flatMap_cons, List.flatMap_nil, List.map_cons, List.map_nil, List.append_nil, List.nil_append, vl_nil, vf_nil, frz_nil, List.getElem?_cons_zero, List.getElem?_cons_succ, List.set_cons_zero, List.set_cons_succ, Bool.false_eq_true, if_false, if_true, reduceIte, List.length_cons, List.length_nil, Nat.reduceAdd, Nat.reduceSub, List.replicate, List.cons_append, List.replicate_succ, List.replicate_zero, Option.map_some, Option.map_none, Bool.not_true, Bool.not_false, List.singleton_append, e, vf_nil] <;> try simp only [edN0, edN1, edN2, edN3, wip, SOut.wp, vl_int, vl_str, vl_bl, vl_non, nd2, Nat.reduceLeDiff, Nat.reduceEqDiff, not_false_eq_true, and_self, and_true, true_and, putAll, big_eq, ↓evS_for, ↓ev_lc, evS, evT, evA, ev, evL, evO, evI, Out.bind, Out.st, ofS, ofO, D.isBl, vo, put, Vl.isFr, Vl.all, biD, ds, ts, sets, List.flatMap_cons, List.flatMap_nil, List.map_cons, List.map_nil, List.append_nil, List.nil_append, vl_nil, vf_nil, frz_nil, List.getElem?_cons_zero, List.getElem?_cons_succ, List.set_cons_zero, List.set_cons_succ, Bool.false_eq_true, if_false, if_true, reduceIte, List.length_cons, List.length_nil, Nat.reduceAdd, Nat.reduceSub, List.replicate, List.cons_append, List.replicate_succ, List.replicate_zero, Option.map_some, Option.map_none, Bool.not_true, Bool.not_false, List.singleton_append, e, vf_nil])
  · simp only [edN0, edN1, edN2, edN3, wip, SOut.wp, vl_int, vl_str, vl_bl, vl_non, nd2, Nat.reduceLeDiff, Nat.reduceEqDiff, not_false_eq_true, and_self, and_true, true_and, putAll, big_eq, ↓evS_for, ↓ev_lc, evS, evT, evA, ev, evL, evO, evI, Out.bind, Out.st, ofS, ofO, D.isBl, vo, put, Vl.isFr, Vl.all, biD, ds, ts, sets, List.flatMap_cons, List.flatMap_nil, List.map_cons, List.map_nil, List.append_nil, List.nil_append, vl_nil, vf_nil, frz_nil, List.getElem?_cons_zero, List.getElem?_cons_succ, List.set_cons_zero, List.set_cons_succ, Bool.false_eq_true, if_false, if_true, reduceIte, List.length_cons, List.length_nil, Nat.reduceAdd, Nat.reduceSub, List.replicate, List.cons_append, List.replicate_succ, List.replicate_zero, Option.map_some, Option.map_none, Bool.not_true, Bool.not_false, List.singleton_append, e, vl_nil] <;> try (simp only [edN0, edN1, edN2, edN3, wip, SOut.wp, vl_int, vl_str, vl_bl, vl_non, nd2, Nat.reduceLeDiff, Nat.reduceEqDiff, not_false_eq_true, and_self, and_true, true_and, putAll, big_eq, ↓evS_for, ↓ev_lc, evS, evT, evA, ev, evL, evO, evI, Out.bind, Out.st, ofS, ofO, D.isBl, vo, put, Vl.isFr, Vl.all, biD, ds, ts, sets, List.flatMap_cons, List.flatMap_nil, List.map_cons, List.map_nil, List.append_nil, List.nil_append, vl_nil, vf_nil, frz_nil, List.getElem?_cons_zero, List.getElem?_cons_succ, List.set_cons_zero, List.set_cons_succ, Bool.false_eq_true, if_false, if_true, reduceIte, List.length_cons, List.length_nil, Nat.reduceAdd, Nat.reduceSub, List.replicate, List.cons_append, List.replicate_succ, List.replicate_zero, Option.map_some, Option.map_none, Bool.not_true, Bool.not_false, List.singleton_append, e, vl_nil] <;> try simp only [edN0, edN1, edN2, edN3, wip, SOut.wp, vl_int, vl_str, vl_bl, vl_non, nd2, Nat.reduceLeDiff, Nat.reduceEqDiff, not_false_eq_true, and_self, and_true, true_and, putAll, big_eq, ↓evS_for, ↓ev_lc, evS, evT, evA, ev, evL, evO, evI, Out.bind, Out.st, ofS, ofO, D.isBl, vo, put, Vl.isFr, Vl.all, biD, ds, ts, sets, List.flatMap_cons, List.flatMap_nil, List.map_cons, List.map_nil, List.append_nil, List.nil_append, vl_nil, vf_nil, frz_nil, List.getElem?_cons_zero, List.getElem?_cons_succ, List.set_cons_zero, List.set_cons_succ, Bool.false_eq_true, if_false, if_true, reduceIte, List.length_cons, List.length_nil, Nat.reduceAdd, Nat.reduceSub, List.replicate, List.cons_append, List.replicate_succ, List.replicate_zero, Option.map_some, Option.map_none, Bool.not_true, Bool.not_false, List.singleton_append, e, vl_nil])
theorem put5 (e : G__law_bent [.drw, x] W = .ok (isL x', x') W') :
    evS 1000000 (.asg 5 (.call G__law_bent (.cons (.var 1) (.cons (.var 5) .nil)))) [s0, .val .drw, s2, s3, s4, sx x, s6, s7, s8, s9, s10, s11, s12, s13, s14] W = .nx [s0, .val .drw, s2, s3, s4, sx x', s6, s7, s8, s9, s10, s11, s12, s13, s14] W' := by
  have fz : frz [s0, .val .drw, s2, s3, s4, .own x, s6, s7, s8, s9, s10, s11, s12, s13, s14] [5] = [s0, .val .drw, s2, s3, s4, .val x, s6, s7, s8, s9, s10, s11, s12, s13, s14] := frz_one rfl
  rcases sx_or x with ⟨q1, q2⟩ | ⟨q1, q2⟩ <;> rw [q2] <;> rcases sx_or x' with ⟨p1, p2⟩ | ⟨p1, p2⟩ <;> rw [p2] <;> rw [p1] at e
  · by_cases q : x'.kids = true
    · have v : vf x' [5] = ⟨x', .fr, []⟩ := vf_imm q
      simp only [edN0, edN1, edN2, edN3, wip, SOut.wp, vl_int, vl_str, vl_bl, vl_non, nd2, Nat.reduceLeDiff, Nat.reduceEqDiff, not_false_eq_true, and_self, and_true, true_and, putAll, big_eq, ↓evS_for, ↓ev_lc, evS, evT, evA, ev, evL, evO, evI, Out.bind, Out.st, ofS, ofO, D.isBl, vo, put, Vl.isFr, Vl.all, biD, ds, ts, sets, List.flatMap_cons, List.flatMap_nil, List.map_cons, List.map_nil, List.append_nil, List.nil_append, vl_nil, vf_nil, frz_nil, List.getElem?_cons_zero, List.getElem?_cons_succ, List.set_cons_zero, List.set_cons_succ, Bool.false_eq_true, if_false, if_true, reduceIte, List.length_cons, List.length_nil, Nat.reduceAdd, Nat.reduceSub, List.replicate, List.cons_append, List.replicate_succ, List.replicate_zero, Option.map_some, Option.map_none, Bool.not_true, Bool.not_false, List.singleton_append, e, v] <;> try (simp only [edN0, edN1, edN2, edN3, wip, SOut.wp, vl_int, vl_str, vl_bl, vl_non, nd2, Nat.reduceLeDiff, Nat.reduceEqDiff, not_false_eq_true, and_self, and_true, true_and, putAll, big_eq, ↓evS_for, ↓ev_lc, evS, evT, evA, ev, evL, evO, evI, Out.bind, Out.st, ofS, ofO, D.isBl, vo, put, Vl.isFr, Vl.all, biD, ds, ts, sets, List.flatMap_cons, List.flatMap_nil, List.map_cons, List.map_nil, List.append_nil, List.nil_append, vl_nil, vf_nil, frz_nil, List.getElem?_cons_zero, List.getElem?_cons_succ, List.set_cons_zero, List.set_cons_succ, Bool.false_eq_true, if_false, if_true, reduceIte, List.length_cons, List.length_nil, Nat.reduceAdd, Nat.reduceSub, List.replicate, List.cons_append, List.replicate_succ, List.replicate_zero, Option.map_some, Option.map_none, Bool.not_true, Bool.not_false, List.singleton_append, e, v] <;> try simp only [edN0, edN1, edN2, edN3, wip, SOut.wp, vl_int, vl_str, vl_bl, vl_non, nd2, Nat.reduceLeDiff, Nat.reduceEqDiff, not_false_eq_true, and_self, and_true, true_and, putAll, big_eq, ↓evS_for, ↓ev_lc, evS, evT, evA, ev, evL, evO, evI, Out.bind, Out.st, ofS, ofO, D.isBl, vo, put, Vl.isFr, Vl.all, biD, ds, ts, sets, List.flatMap_cons, List.flatMap_nil, List.map_cons, List.map_nil, List.append_nil, List.nil_append, vl_nil, vf_nil, frz_nil, List.getElem?_cons_zero, List.getElem?_cons_succ, List.set_cons_zero, List.set_cons_succ, Bool.false_eq_true, if_false, if_true, reduceIte, List.length_cons, List.length_nil, Nat.reduceAdd, Nat.reduceSub, List.replicate, List.cons_append, List.replicate_succ, List.replicate_zero, Option.map_some, Option.map_none, Bool.not_true, Bool.not_false, List.singleton_append, e, v])
    · have v : vf x' [5] = ⟨x', .fr, [5]⟩ := by unfold vf; rw [if_neg q]
      simp only [edN0, edN1, edN2, edN3, wip, SOut.wp, vl_int, vl_str, vl_bl, vl_non, nd2, Nat.reduceLeDiff, Nat.reduceEqDiff, not_false_eq_true, and_self, and_true, true_and, putAll, big_eq, ↓evS_for, ↓ev_lc, evS, evT, evA, ev, evL, evO, evI, Out.bind, Out.st, ofS, ofO, D.isBl, vo, put, Vl.isFr, Vl.all, biD, ds, ts, sets, List.flatMap_cons, List.flatMap_nil, List.map_cons, List.map_nil, List.append_nil, List.nil_append, vl_nil, vf_nil, frz_nil, List.getElem?_cons_zero, List.getElem?_cons_succ, List.set_cons_zero, List.set_cons_succ, Bool.false_eq_true, if_false, if_true, reduceIte, List.length_cons, List.length_nil, Nat.reduceAdd, Nat.reduceSub, List.replicate, List.cons_append, List.replicate_succ, List.replicate_zero, Option.map_some, Option.map_none, Bool.not_true, Bool.not_false, List.singleton_append, e, v, fz] <;> try (simp only [edN0, edN1, edN2, edN3, wip, SOut.wp, vl_int, vl_str, vl_bl, vl_non, nd2, Nat.reduceLeDiff, Nat.reduceEqDiff, not_false_eq_true, and_self, and_true, true_and, putAll, big_eq, ↓evS_for, ↓ev_lc, evS, evT, evA, ev, evL, evO, evI, Out.bind, Out.st, ofS, ofO, D.isBl, vo, put, Vl.isFr, Vl.all, biD, ds, ts, sets, List.flatMap_cons, List.flatMap_nil, List.map_cons, List.map_nil, List.append_nil, List.nil_append, vl_nil, vf_nil, frz_nil, List.getElem?_cons_zero, List.getElem?_cons_succ, List.set_cons_zero, List.set_cons_succ, Bool.false_eq_true, if_false, if_true, reduceIte, List.length_cons, List.length_nil, Nat.reduceAdd, Nat.reduceSub, List.replicate, List.cons_append, List.replicate_succ, List.replicate_zero, Option.map_some, Option.map_none, Bool.not_true, Bool.not_false, List.singleton_append, e, v, fz] <;> try simp only [edN0, edN1, edN2, edN3, wip, SOut.wp, vl_int, vl_str, vl_bl, vl_non, nd2, Nat.reduceLeDiff, Nat.reduceEqDiff, not_false_eq_true, and_self, and_true, true_and, putAll, big_eq, ↓evS_for, ↓ev_lc, evS, evT, evA, ev, evL, evO, evI, Out.bind, Out.st, ofS, ofO, D.isBl, vo, put, Vl.isFr, Vl.all, biD, ds, ts, sets, List.flatMap_cons, List.flatMap_nil, List.map_cons, List.map_nil, List.append_nil, List.nil_append, vl_nil, vf_nil, frz_nil, List.getElem?_cons_zero, List.getElem?_cons_succ, List.set_cons_zero, List.set_cons_succ, Bool.false_eq_true, if_false, if_true, reduceIte, List.length_cons, List.length_nil, Nat.reduceAdd, Nat.reduceSub, List.replicate, List.cons_append, List.replicate_succ, List.replicate_zero, Option.map_some, Option.map_none, Bool.not_true, Bool.not_false, List.singleton_append, e, v, fz])
  · by_cases q : x'.imm = true
    · have v : vl x' [5] = ⟨x', .pl, []⟩ := vl_imm q
      simp only [edN0, edN1, edN2, edN3, wip, SOut.wp, vl_int, vl_str, vl_bl, vl_non, nd2, Nat.reduceLeDiff, Nat.reduceEqDiff, not_false_eq_true, and_self, and_true, true_and, putAll, big_eq, ↓evS_for, ↓ev_lc, evS, evT, evA, ev, evL, evO, evI, Out.bind, Out.st, ofS, ofO, D.isBl, vo, put, Vl.isFr, Vl.all, biD, ds, ts, sets, List.flatMap_cons, List.flatMap_nil, List.map_cons, List.map_nil, List.append_nil, List.nil_append, vl_nil, vf_nil, frz_nil, List.getElem?_cons_zero, List.getElem?_cons_succ, List.set_cons_zero, List.set_cons_succ, Bool.false_eq_true, if_false, if_true, reduceIte, List.length_cons, List.length_nil, Nat.reduceAdd, Nat.reduceSub, List.replicate, List.cons_append, List.replicate_succ, List.replicate_zero, Option.map_some, Option.map_none, Bool.not_true, Bool.not_false, List.singleton_append, e, v] <;> try (simp only [edN0, edN1, edN2, edN3, wip, SOut.wp, vl_int, vl_str, vl_bl, vl_non, nd2, Nat.reduceLeDiff, Nat.reduceEqDiff, not_false_eq_true, and_self, and_true, true_and, putAll, big_eq, ↓evS_for, ↓ev_lc, evS, evT, evA, ev, evL, evO, evI, Out.bind, Out.st, ofS, ofO, D.isBl, vo, put, Vl.isFr, Vl.all, biD, ds, ts, sets, List.flatMap_cons, List.flatMap_nil, List.map_cons, List.map_nil, List.append_nil, List.nil_append, vl_nil, vf_nil, frz_nil, List.getElem?_cons_zero, List.getElem?_cons_succ, List.set_cons_zero, List.set_cons_succ, Bool.false_eq_true, if_false, if_true, reduceIte, List.length_cons, List.length_nil, Nat.reduceAdd, Nat.reduceSub, List.replicate, List.cons_append, List.replicate_succ, List.replicate_zero, Option.map_some, Option.map_none, Bool.not_true, Bool.not_false, List.singleton_append, e, v] <;> try simp only [edN0, edN1, edN2, edN3, wip, SOut.wp, vl_int, vl_str, vl_bl, vl_non, nd2, Nat.reduceLeDiff, Nat.reduceEqDiff, not_false_eq_true, and_self, and_true, true_and, putAll, big_eq, ↓evS_for, ↓ev_lc, evS, evT, evA, ev, evL, evO, evI, Out.bind, Out.st, ofS, ofO, D.isBl, vo, put, Vl.isFr, Vl.all, biD, ds, ts, sets, List.flatMap_cons, List.flatMap_nil, List.map_cons, List.map_nil, List.append_nil, List.nil_append, vl_nil, vf_nil, frz_nil, List.getElem?_cons_zero, List.getElem?_cons_succ, List.set_cons_zero, List.set_cons_succ, Bool.false_eq_true, if_false, if_true, reduceIte, List.length_cons, List.length_nil, Nat.reduceAdd, Nat.reduceSub, List.replicate, List.cons_append, List.replicate_succ, List.replicate_zero, Option.map_some, Option.map_none, Bool.not_true, Bool.not_false, List.singleton_append, e, v])
    · have v : vl x' [5] = ⟨x', .pl, [5]⟩ := by unfold vl; rw [if_neg q]
      simp only [edN0, edN1, edN2, edN3, wip, SOut.wp, vl_int, vl_str, vl_bl, vl_non, nd2, Nat.reduceLeDiff, Nat.reduceEqDiff, not_false_eq_true, and_self, and_true, true_and, putAll, big_eq, ↓evS_for, ↓ev_lc, evS, evT, evA, ev, evL, evO, evI, Out.bind, Out.st, ofS, ofO, D.isBl, vo, put, Vl.isFr, Vl.all, biD, ds, ts, sets, List.flatMap_cons, List.flatMap_nil, List.map_cons, List.map_nil, List.append_nil, List.nil_append, vl_nil, vf_nil, frz_nil, List.getElem?_cons_zero, List.getElem?_cons_succ, List.set_cons_zero, List.set_cons_succ, Bool.false_eq_true, if_false, if_true, reduceIte, List.length_cons, List.length_nil, Nat.reduceAdd, Nat.reduceSub, List.replicate, List.cons_append, List.replicate_succ, List.replicate_zero, Option.map_some, Option.map_none, Bool.not_true, Bool.not_false, List.singleton_append, e, v, fz] <;> try (simp only [edN0, edN1, edN2, edN3, wip, SOut.wp, vl_int, vl_str, vl_bl, vl_non, nd2, Nat.reduceLeDiff, Nat.reduceEqDiff, not_false_eq_true, and_self, and_true, true_and, putAll, big_eq, ↓evS_for, ↓ev_lc, evS, evT, evA, ev, evL, evO, evI, Out.bind, Out.st, ofS, ofO, D.isBl, vo, put, Vl.isFr, Vl.all, biD, ds, ts, sets, List.flatMap_cons, List.flatMap_nil, List.map_cons, List.map_nil, List.append_nil, List.nil_append, vl_nil, vf_nil, frz_nil, List.getElem?_cons_zero, List.getElem?_cons_succ, List.set_cons_zero, List.set_cons_succ, Bool.false_eq_true, if_false, if_true, reduceIte, List.length_cons, List.length_nil, Nat.reduceAdd, Nat.reduceSub, List.replicate, List.cons_append, List.replicate_succ, List.replicate_zero, Option.map_some, Option.map_none, Bool.not_true, Bool.not_false, List.singleton_append, e, v, fz] <;> try simp only [edN0, edN1, edN2, edN3, wip, SOut.wp, vl_int, vl_str, vl_bl, vl_non, nd2, Nat.reduceLeDiff, Nat.reduceEqDiff, not_false_eq_true, and_self, and_true, true_and, putAll, big_eq, ↓evS_for, ↓ev_lc, evS, evT, evA, ev, evL, evO, evI, Out.bind, Out.st, ofS, ofO, D.isBl, vo, put, Vl.isFr, Vl.all, biD, ds, ts, sets, List.flatMap_cons, List.flatMap_nil, List.map_cons, List.map_nil, List.append_nil, List.nil_append, vl_nil, vf_nil, frz_nil, List.getElem?_cons_zero, List.getElem?_cons_succ, List.set_cons_zero, List.set_cons_succ, Bool.false_eq_true, if_false, if_true, reduceIte, List.length_cons, List.length_nil, Nat.reduceAdd, Nat.reduceSub, List.replicate, List.cons_append, List.replicate_succ, List.replicate_zero, Option.map_some, Option.map_none, Bool.not_true, Bool.not_false, List.singleton_append, e, v, fz])
  · simp only [edN0, edN1, edN2, edN3, wip, SOut.wp, vl_int, vl_str, vl_bl, vl_non, nd2, Nat.reduceLeDiff, Nat.reduceEqDiff, not_false_eq_true, and_self, and_true, true_and, putAll, big_eq, ↓evS_for, ↓ev_lc, evS, evT, evA, ev, evL, evO, evI, Out.bind, Out.st, ofS, ofO, D.isBl, vo, put, Vl.isFr, Vl.all, biD, ds, ts, sets, List.flatMap_cons, List.flatMap_nil, List.map_cons, List.map_nil, List.append_nil, List.nil_append, vl_nil, vf_nil, frz_nil, List.getElem?_cons_zero, List.getElem?_cons_succ, List.set_cons_zero, List.set_cons_succ, Bool.false_eq_true, if_false, if_true, reduceIte, List.length_cons, List.length_nil, Nat.reduceAdd, Nat.reduceSub, List.replicate, List.cons_append, List.replicate_succ, List.replicate_zero, Option.map_some, Option.map_none, Bool.not_true, Bool.not_false, List.singleton_append, e, vf_nil] <;> try (simp only [edN0, edN1, edN2, edN3, wip, SOut.wp, vl_int, vl_str, vl_bl, vl_non, nd2, Nat.reduceLeDiff, Nat.reduceEqDiff, not_false_eq_true, and_self, and_true, true_and, putAll, big_eq, ↓evS_for, ↓ev_lc, evS, evT, evA, ev, evL, evO, evI, Out.bind, Out.st, ofS, ofO, D.isBl, vo, put, Vl.isFr, Vl.all, biD, ds, ts, sets, List.flatMap_cons, List.flatMap_nil, List.map_cons, List.map_nil, List.append_nil, List.nil_append, vl_nil, vf_nil, frz_nil, List.getElem?_cons_zero, List.getElem?_cons_succ, List.set_cons_zero, List.set_cons_succ, Bool.false_eq_true, if_false, if_true, reduceIte, List.length_cons, List.length_nil, Nat.reduceAdd, Nat.reduceSub, List.replicate, List.cons_append, List.replicate_succ, List.replicate_zero, Option.map_some, Option.map_none, Bool.not_true, Bool.not_false, List.singleton_append, e, vf_nil] <;> try simp only [edN0, edN1, edN2, edN3, wip, SOut.wp, vl_int, vl_str, vl_bl, vl_non, nd2, Nat.reduceLeDiff, Nat.reduceEqDiff, not_false_eq_true, and_self, and_true, true_and, putAll, big_eq, ↓evS_for, ↓ev_lc, evS, evT, evA, ev, evL, evO, evI, Out.bind, Out.st, ofS, ofO, D.isBl, vo, put, Vl.isFr, Vl.all, biD, ds, ts, sets, List.flatMap_cons, List.flatMap_nil, List.map_cons, List.map_nil, List.append_nil, List.nil_append, vl_nil, vf_nil, frz_nil, List.getElem?_cons_zero, List.getElem?_cons_succ, List.set_cons_zero, List.set_cons_succ, Bool.false_eq_true, if_false, if_true, reduceIte, List.length_cons, List.length_nil, Nat.reduceAdd, Nat.reduceSub, List.replicate, List.cons_append, List.replicate_succ, List.replicate_zero, Option.map_some, Option.map_none, Bool.not_true, Bool.not_false, List.singleton_append, e, vf_nil])
  · simp only [edN0, edN1, edN2, edN3, wip, SOut.wp, vl_int, vl_str, vl_bl, vl_non, nd2, Nat.reduceLeDiff, Nat.reduceEqDiff, not_false_eq_true, and_self, and_true, true_and, putAll, big_eq, ↓evS_for, ↓ev_lc, evS, evT, evA, ev, evL, evO, evI, Out.bind, Out.st, ofS, ofO, D.isBl, vo, put, Vl.isFr, Vl.all, biD, ds, ts, sets, List.flatMap_cons, List.flatMap_nil, List.map_cons, List.map_nil, List.append_nil, List.nil_append, vl_nil, vf_nil, frz_nil, List.getElem?_cons_zero, List.getElem?_cons_succ, List.set_cons_zero, List.set_cons_succ, Bool.false_eq_true, if_false, if_true, reduceIte, List.length_cons, List.length_nil, Nat.reduceAdd, Nat.reduceSub, List.replicate, List.cons_append, List.replicate_succ, List.replicate_zero, Option.map_some, Option.map_none, Bool.not_true, Bool.not_false, List.singleton_append, e, vl_nil] <;> try (simp only [edN0, edN1, edN2, edN3, wip, SOut.wp, vl_int, vl_str, vl_bl, vl_non, nd2, Nat.reduceLeDiff, Nat.reduceEqDiff, not_false_eq_true, and_self, and_true, true_and, putAll, big_eq, ↓evS_for, ↓ev_lc, evS, evT, evA, ev, evL, evO, evI, Out.bind, Out.st, ofS, ofO, D.isBl, vo, put, Vl.isFr, Vl.all, biD, ds, ts, sets, List.flatMap_cons, List.flatMap_nil, List.map_cons, List.map_nil, List.append_nil, List.nil_append, vl_nil, vf_nil, frz_nil, List.getElem?_cons_zero, List.getElem?_cons_succ, List.set_cons_zero, List.set_cons_succ, Bool.false_eq_true, if_false, if_true, reduceIte, List.length_cons, List.length_nil, Nat.reduceAdd, Nat.reduceSub, List.replicate, List.cons_append, List.replicate_succ, List.replicate_zero, Option.map_some, Option.map_none, Bool.not_true, Bool.not_false, List.singleton_append, e, vl_nil] <;> try simp only [edN0, edN1, edN2, edN3, wip, SOut.wp, vl_int, vl_str, vl_bl, vl_non, nd2, Nat.reduceLeDiff, Nat.reduceEqDiff, not_false_eq_true, and_self, and_true, true_and, putAll, big_eq, ↓evS_for, ↓ev_lc, evS, evT, evA, ev, evL, evO, evI, Out.bind, Out.st, ofS, ofO, D.isBl, vo, put, Vl.isFr, Vl.all, biD, ds, ts, sets, List.flatMap_cons, List.flatMap_nil, List.map_cons, List.map_nil, List.append_nil, List.nil_append, vl_nil, vf_nil, frz_nil, List.getElem?_cons_zero, List.getElem?_cons_succ, List.set_cons_zero, List.set_cons_succ, Bool.false_eq_true, if_false, if_true, reduceIte, List.length_cons, List.length_nil, Nat.reduceAdd, Nat.reduceSub, List.replicate, List.cons_append, List.replicate_succ, List.replicate_zero, Option.map_some, Option.map_none, Bool.not_true, Bool.not_false, List.singleton_append, e, vl_nil])
noncomputable def A4 : S := (.asg 4 (.call G__law_bent (.cons (.var 1) (.cons (.var 4) .nil))))
noncomputable def A5 : S := (.asg 5 (.call G__law_bent (.cons (.var 1) (.cons (.var 5) .nil))))
theorem B1_eq : B_law_1 = (.kl [] (.seq (.iff (.tv (.cmp .Eq (.call G__law_take (.cons (.var 1) (.cons (.cst (.int 2)) .nil))) (.cst (.int 0)))) (.seq A4 .skip) (.seq A5 .skip)) .skip) [6]) := rfl
theorem change {i : D} (h : Wd T W) (hT : T + 20 ≤ 1099511627776) (hx : Bt n x) (hy : Bt n y) (hn : n ≤ 100) :
    ∃ x' y' W', Bt (2 * n + 9) x' ∧ Bt (2 * n + 9) y' ∧ Wd (T + 8) W' ∧ forOne 1000000 B_law_1 (.nm 6) i [s0, .val .drw, s2, s3, sx x, sx y, s6, s7, s8, s9, s10, s11, s12, s13, s14] W = .nx [s0, .val .drw, s2, s3, sx x', sx y', .un, s7, s8, s9, s10, s11, s12, s13, s14] W' := by
  obtain ⟨r, W1, r0, r1, hw1, e1⟩ := take_ok (n := 2) h (by omega) (by omega) (by omega)
  have e0 : cmpD .Eq (.int r) (.int 0) = some (decide (r = 0)) := eq_int
  by_cases q : r = 0
  · rw [decide_eq_true q] at e0
    obtain ⟨x', W2, b1, hw2, e2⟩ := bent_ok hw1 (by omega) hx hn
    have p : evS 1000000 A4 _ _ = _ := put4 (s0 := s0) (s2 := s2) (s3 := s3) (s5 := sx y) (s6 := .val i) (s7 := s7) (s8 := s8) (s9 := s9) (s10 := s10) (s11 := s11) (s12 := s12) (s13 := s13) (s14 := s14) e2
    refine ⟨x', y, W2, b1, hy.up (by omega), hw2.mono (by omega), ?_⟩
    rw [B1_eq]
    unfold forOne
    simp only [edN0, edN1, edN2, edN3, wip, SOut.wp, vl_int, vl_str, vl_bl, vl_non, nd2, Nat.reduceLeDiff, Nat.reduceEqDiff, not_false_eq_true, and_self, and_true, true_and, putAll, big_eq, ↓evS_for, ↓ev_lc, evS, evT, evA, ev, evL, evO, evI, Out.bind, Out.st, ofS, ofO, D.isBl, vo, put, Vl.isFr, Vl.all, biD, ds, ts, sets, List.flatMap_cons, List.flatMap_nil, List.map_cons, List.map_nil, List.append_nil, List.nil_append, vl_nil, vf_nil, frz_nil, List.getElem?_cons_zero, List.getElem?_cons_succ, List.set_cons_zero, List.set_cons_succ, Bool.false_eq_true, if_false, if_true, reduceIte, List.length_cons, List.length_nil, Nat.reduceAdd, Nat.reduceSub, List.replicate, List.cons_append, List.replicate_succ, List.replicate_zero, Option.map_some, Option.map_none, Bool.not_true, Bool.not_false, List.singleton_append, bindP, e1, e0, p]
  · rw [decide_eq_false q] at e0
    obtain ⟨y', W2, b1, hw2, e2⟩ := bent_ok hw1 (by omega) hy hn
    have p : evS 1000000 A5 _ _ = _ := put5 (s0 := s0) (s2 := s2) (s3 := s3) (s4 := sx x) (s6 := .val i) (s7 := s7) (s8 := s8) (s9 := s9) (s10 := s10) (s11 := s11) (s12 := s12) (s13 := s13) (s14 := s14) e2
    refine ⟨x, y', W2, hx.up (by omega), b1, hw2.mono (by omega), ?_⟩
    rw [B1_eq]
    unfold forOne
    simp only [edN0, edN1, edN2, edN3, wip, SOut.wp, vl_int, vl_str, vl_bl, vl_non, nd2, Nat.reduceLeDiff, Nat.reduceEqDiff, not_false_eq_true, and_self, and_true, true_and, putAll, big_eq, ↓evS_for, ↓ev_lc, evS, evT, evA, ev, evL, evO, evI, Out.bind, Out.st, ofS, ofO, D.isBl, vo, put, Vl.isFr, Vl.all, biD, ds, ts, sets, List.flatMap_cons, List.flatMap_nil, List.map_cons, List.map_nil, List.append_nil, List.nil_append, vl_nil, vf_nil, frz_nil, List.getElem?_cons_zero, List.getElem?_cons_succ, List.set_cons_zero, List.set_cons_succ, Bool.false_eq_true, if_false, if_true, reduceIte, List.length_cons, List.length_nil, Nat.reduceAdd, Nat.reduceSub, List.replicate, List.cons_append, List.replicate_succ, List.replicate_zero, Option.map_some, Option.map_none, Bool.not_true, Bool.not_false, List.singleton_append, bindP, e1, e0, p]
end
theorem rows_bt {x : D} {ls : List (List Str)} (h : RowsIn x ls) (hc : ∀ l ∈ ls, l.length ≤ 60 ∧ ∀ s ∈ l, isColor s = true) (hl : ls.length ≤ 100) : Bt 100 x := by
  obtain ⟨a, b⟩ := bt_lst (n := 100) (xs := tD ls) (fun y hy => by
    obtain ⟨l, hl, rfl⟩ := List.mem_map.mp hy
    exact it_th (hc l hl).1 (hc l hl).2) (by rw [tD_len]; exact hl) (by omega)
  rcases h with rfl | rfl
  · exact a
  · exact b
theorem due_of {x y : D} {ls rs : List (List Str)} (hx : RowsIn x ls) (hy : RowsIn y rs) (h : TgOk ls rs) : dueB x y = true := by
  have ix : its x = tD ls := by rcases hx with rfl | rfl <;> rfl
  have iy : its y = tD rs := by rcases hy with rfl | rfl <;> rfl
  have all : ∀ qs : List (List Str), (∀ q ∈ qs, q ∈ ls ++ rs) → (tD qs).all isThreadD = true := fun qs hq => List.all_eq_true.mpr fun z hz => by
    obtain ⟨l, hl, rfl⟩ := List.mem_map.mp hz
    have h1 := h.ne l (hq l hl)
    have h2 := h.col l (hq l hl)
    have : (sts l).all isColorD = true := List.all_eq_true.mpr fun x hx => by
      obtain ⟨s, hs, rfl⟩ := sts_mem hx
      exact h2 s hs
    have hn : (sts l).isEmpty = false := by cases l <;> first | exact absurd rfl h1 | rfl
    simp only [th, isThreadD, this, hn]; rfl
  have rx : rowsB x = true := by rcases hx with rfl | rfl <;> exact all ls fun q hq => List.mem_append_left _ hq
  have ry : rowsB y = true := by rcases hy with rfl | rfl <;> exact all rs fun q hq => List.mem_append_right _ hq
  unfold dueB
  rw [rx, ry, ix, iy, tD_app, beads_tD, tD_len]
  have h1 := h.l8
  have h2 := h.one
  have h3 := h.sum
  simp only [h1, decide_eq_true h2, decide_eq_true h3, decide_true, Bool.and_self]
theorem tangle_rows {x y : D} {ls rs : List (List Str)} {W : Dr} (hx : RowsIn x ls) (hy : RowsIn y rs) (h : TgOk ls rs) : G_Tangle [x, y] W = .ok (false, tgD ls (rr rs)) W := by
  have bx := rows_bt hx (fun l hl => ⟨h.len (List.mem_append_left _ hl), h.col l (List.mem_append_left _ hl)⟩) (by have := h.l8; omega)
  have by_ := rows_bt hy (fun l hl => ⟨h.len (List.mem_append_right _ hl), h.col l (List.mem_append_right _ hl)⟩) (by have := h.r60; omega)
  have e := are_tangled_gen (W := W) bx.go by_.go (by have := bx.len; have := by_.len; omega)
  rw [due_of hx hy h] at e
  exact Tangle_yes e hx hy h
theorem tail8 {ls rs : List (List Str)} {z : Str} {x y : D} {s0 s1 s2 s3 s6 s7 s9 s14 : Sl} {W : Dr} (h : TgOk ls rs) (hz : ∀ W, pureG reprQD [knD ls (rr rs)] W = .ok (false, .str z) W) (hx : RowsIn x ls) (hy : RowsIn y rs) (h2 : LastOk s2) :
    ∃ s4' s12', evS 1000000 B_law_8 [s0, s1, s2, s3, sx x, sx y, s6, s7, .own (.lst [tgD ls (rr rs), tgD ls (rr rs)]), s9, .val (knD ls (rr rs)), .val (tgD ls (rr rs)), .un, .un, s14] W = .nx [s0, s1, .val (.tup [knD ls (rr rs), tgD ls (rr rs)]), s3, s4', sx y, s6, s7, .own (.lst [tgD ls (rr rs), tgD ls (rr rs)]), s9, .val (knD ls (rr rs)), .val (tgD ls (rr rs)), s12', .un, s14] W := by
  have tx : x.typed = true := by rcases hx with rfl | rfl <;> rfl
  have ix : its x = tD ls := by rcases hx with rfl | rfl <;> rfl
  have hit : y.items = some (tD rs) := by rcases hy with rfl | rfl <;> rfl
  have h8 := h.l8
  have h60 := h.r60
  obtain ⟨s4', t7⟩ := tail7 (ls := ls) (rs := rr rs) (x := x) (s0 := s0) (s1 := s1) (s2 := s2) (s3 := s3) (s5 := sx y) (s6 := s6) (s7 := s7) (s8 := .own (.lst [tgD ls (rr rs), tgD ls (rr rs)])) (s9 := s9) (s12 := .own (.lst (tD (rs.map fun r => rot r 1)))) (s13 := .un) (s14 := s14) (W := W) hz tx (by rw [ix, tD_len]; omega) ⟨by omega, by rw [(rr_perm rs).length_eq, List.length_map]; omega⟩ h2
  refine ⟨s4', .own (.lst (tD (rs.map fun r => rot r 1))), ?_⟩
  have hr : ∀ r ∈ rs, r ≠ [] := fun r hr => h.ne r (List.mem_append_right _ hr)
  have l1 : lcGo (lcOne E_law_3 .nil (.nm 13) [13] [s0, s1, s2, s3, sx x, sx y, s6, s7, .own (.lst [tgD ls (rr rs), tgD ls (rr rs)]), s9, .val (knD ls (rr rs)), .val (tgD ls (rr rs)), .un, .un, s14]) (tD rs) [] [] W = .ok ⟨.lst (rs.map fun r => th (rot r 1)), .fr, []⟩ W := lc_each th (fun r => th (rot r 1)) (Nat.le_trans h60 (by decide)) fun r hr2 => by
    have hlen := h.len (List.mem_append_right ls hr2)
    refine ⟨⟨th (rot r 1), .pl, []⟩, lcOne_ok ?_, rfl, rfl⟩
    have a := th_add (l := r.drop 1) (k := r.take 1) (by simp only [List.length_take, List.length_drop]; omega)
    have f1 : slD (th r) (some (1 : Int)) none = some (false, th (r.drop 1)) := th_from (k := 1)
    have f2 : slD (th r) none (some (1 : Int)) = some (false, th (r.take 1)) := th_to (k := 1)
    unfold E_law_3
    simp only [edN0, edN1, edN2, edN3, wip, SOut.wp, vl_int, vl_str, vl_bl, vl_non, nd2, Nat.reduceLeDiff, Nat.reduceEqDiff, not_false_eq_true, and_self, and_true, true_and, putAll, big_eq, ↓evS_for, ↓ev_lc, evS, evT, evA, ev, evL, evO, evI, Out.bind, Out.st, ofS, ofO, D.isBl, vo, put, Vl.isFr, Vl.all, biD, ds, ts, sets, List.flatMap_cons, List.flatMap_nil, List.map_cons, List.map_nil, List.append_nil, List.nil_append, vl_nil, vf_nil, frz_nil, List.getElem?_cons_zero, List.getElem?_cons_succ, List.set_cons_zero, List.set_cons_succ, Bool.false_eq_true, if_false, if_true, reduceIte, List.length_cons, List.length_nil, Nat.reduceAdd, Nat.reduceSub, List.replicate, List.cons_append, List.replicate_succ, List.replicate_zero, Option.map_some, Option.map_none, Bool.not_true, Bool.not_false, List.singleton_append, f1, f2, a, rot, vl_th] <;> try simp only [edN0, edN1, edN2, edN3, wip, SOut.wp, vl_int, vl_str, vl_bl, vl_non, nd2, Nat.reduceLeDiff, Nat.reduceEqDiff, not_false_eq_true, and_self, and_true, true_and, putAll, big_eq, ↓evS_for, ↓ev_lc, evS, evT, evA, ev, evL, evO, evI, Out.bind, Out.st, ofS, ofO, D.isBl, vo, put, Vl.isFr, Vl.all, biD, ds, ts, sets, List.flatMap_cons, List.flatMap_nil, List.map_cons, List.map_nil, List.append_nil, List.nil_append, vl_nil, vf_nil, frz_nil, List.getElem?_cons_zero, List.getElem?_cons_succ, List.set_cons_zero, List.set_cons_succ, Bool.false_eq_true, if_false, if_true, reduceIte, List.length_cons, List.length_nil, Nat.reduceAdd, Nat.reduceSub, List.replicate, List.cons_append, List.replicate_succ, List.replicate_zero, Option.map_some, Option.map_none, Bool.not_true, Bool.not_false, List.singleton_append, f1, f2, a, rot, vl_th]
  have etd : (rs.map fun r => th (rot r 1)) = tD (rs.map fun r => rot r 1) := by simp [tD, Function.comp_def]
  rw [etd] at l1
  have tg := tangle_rows (W := W) hx (y := .lst (tD (rs.map fun r => rot r 1))) (.inl rfl) h.far
  rw [rr_far hr] at tg
  have q1 : eqG true "Tangle" G_Tangle___eq__ [tgD ls (rr rs), tgD ls (rr rs)] W = .ok (false, .bl false) W := by
    have := eqG_ok (a := ls) (b := rr rs) (c := ls) (d := rr rs) (W := W) true
    simpa using this
  have q2 := eqA_ok (a := ls) (b := rr rs) (y := knD ls (rr rs)) (W := W) rfl rfl rfl false
  have q3 := eqA_ok (a := ls) (b := rr rs) (y := .non) (W := W) rfl rfl rfl true
  have x1 : ixD (.lst [tgD ls (rr rs), tgD ls (rr rs)]) (.int 1) = some (tgD ls (rr rs)) := rfl
  have dd : ∀ a : List (List Str), decide (a = a) = true := fun a => decide_eq_true rfl
  unfold B_law_8
  rcases sx_or x with ⟨p1, p2⟩ | ⟨p1, p2⟩ <;> rcases sx_or y with ⟨p3, p4⟩ | ⟨p3, p4⟩ <;> rw [p2, p4] at l1 <;> rw [p2, p4] at t7 <;> rw [p2, p4] <;> simp only [edN0, edN1, edN2, edN3, wip, SOut.wp, vl_int, vl_str, vl_bl, vl_non, nd2, Nat.reduceLeDiff, Nat.reduceEqDiff, not_false_eq_true, and_self, and_true, true_and, putAll, big_eq, ↓evS_for, ↓ev_lc, evS, evT, evA, ev, evL, evO, evI, Out.bind, Out.st, ofS, ofO, D.isBl, vo, put, Vl.isFr, Vl.all, biD, ds, ts, sets, List.flatMap_cons, List.flatMap_nil, List.map_cons, List.map_nil, List.append_nil, List.nil_append, vl_nil, vf_nil, frz_nil, List.getElem?_cons_zero, List.getElem?_cons_succ, List.set_cons_zero, List.set_cons_succ, Bool.false_eq_true, if_false, if_true, reduceIte, List.length_cons, List.length_nil, Nat.reduceAdd, Nat.reduceSub, List.replicate, List.cons_append, List.replicate_succ, List.replicate_zero, Option.map_some, Option.map_none, Bool.not_true, Bool.not_false, List.singleton_append, hit, l1, vf_tD, tg, vtg, x1, q1, q2, q3, dd, vkn, Bool.bne_true, t7] <;> try (simp only [edN0, edN1, edN2, edN3, wip, SOut.wp, vl_int, vl_str, vl_bl, vl_non, nd2, Nat.reduceLeDiff, Nat.reduceEqDiff, not_false_eq_true, and_self, and_true, true_and, putAll, big_eq, ↓evS_for, ↓ev_lc, evS, evT, evA, ev, evL, evO, evI, Out.bind, Out.st, ofS, ofO, D.isBl, vo, put, Vl.isFr, Vl.all, biD, ds, ts, sets, List.flatMap_cons, List.flatMap_nil, List.map_cons, List.map_nil, List.append_nil, List.nil_append, vl_nil, vf_nil, frz_nil, List.getElem?_cons_zero, List.getElem?_cons_succ, List.set_cons_zero, List.set_cons_succ, Bool.false_eq_true, if_false, if_true, reduceIte, List.length_cons, List.length_nil, Nat.reduceAdd, Nat.reduceSub, List.replicate, List.cons_append, List.replicate_succ, List.replicate_zero, Option.map_some, Option.map_none, Bool.not_true, Bool.not_false, List.singleton_append, hit, l1, vf_tD, tg, vtg, x1, q1, q2, q3, dd, vkn, Bool.bne_true, t7] <;> try simp only [edN0, edN1, edN2, edN3, wip, SOut.wp, vl_int, vl_str, vl_bl, vl_non, nd2, Nat.reduceLeDiff, Nat.reduceEqDiff, not_false_eq_true, and_self, and_true, true_and, putAll, big_eq, ↓evS_for, ↓ev_lc, evS, evT, evA, ev, evL, evO, evI, Out.bind, Out.st, ofS, ofO, D.isBl, vo, put, Vl.isFr, Vl.all, biD, ds, ts, sets, List.flatMap_cons, List.flatMap_nil, List.map_cons, List.map_nil, List.append_nil, List.nil_append, vl_nil, vf_nil, frz_nil, List.getElem?_cons_zero, List.getElem?_cons_succ, List.set_cons_zero, List.set_cons_succ, Bool.false_eq_true, if_false, if_true, reduceIte, List.length_cons, List.length_nil, Nat.reduceAdd, Nat.reduceSub, List.replicate, List.cons_append, List.replicate_succ, List.replicate_zero, Option.map_some, Option.map_none, Bool.not_true, Bool.not_false, List.singleton_append, hit, l1, vf_tD, tg, vtg, x1, q1, q2, q3, dd, vkn, Bool.bne_true, t7])
end Qk69

namespace Qk69
open PySem Z
theorem tail9 {ls rs : List (List Str)} {z : Str} {x y : D} {s0 s1 s2 s3 s6 s7 s14 : Sl} {W : Dr} (h : TgOk ls rs) (hz : ∀ W, pureG reprQD [knD ls (rr rs)] W = .ok (false, .str z) W) (hx : RowsIn x ls) (hy : RowsIn y rs) (h2 : LastOk s2) :
    ∃ s4' s12', evS 1000000 B_law_9 [s0, s1, s2, s3, sx x, sx y, s6, s7, .own (.lst [tgD ls (rr rs), tgD ls (rr rs)]), .own (.lst [.non, .non]), .un, .un, .un, .un, s14] W = .nx [s0, s1, .val (.tup [knD ls (rr rs), tgD ls (rr rs)]), s3, s4', sx y, s6, s7, .own (.lst [tgD ls (rr rs), tgD ls (rr rs)]), .own (.lst [.non, .non]), .val (knD ls (rr rs)), .val (tgD ls (rr rs)), s12', .un, s14] W := by
  obtain ⟨s4', s12', t8⟩ := tail8 (s0 := s0) (s1 := s1) (s3 := s3) (s6 := s6) (s7 := s7) (s9 := .own (.lst [.non, .non])) (s14 := s14) (W := W) h hz hx hy h2
  refine ⟨s4', s12', ?_⟩
  have kn : G__law_knot [x, y] W = .ok (false, knD ls (rr rs)) W := knot_ok hx hy (fun r hr => ⟨h.ne r (List.mem_append_right _ hr), by have := h.len (List.mem_append_right ls hr); omega⟩) (by have := h.r60; omega)
  have x0 : ixD (.lst [tgD ls (rr rs), tgD ls (rr rs)]) (.int 0) = some (tgD ls (rr rs)) := rfl
  have hnn : cmpD .NotEq (.lst [.non, .non]) (.lst [.non, .non]) = some false := by decide +kernel
  have t := told_ok (W := W) hz
  have hne : cmpD .NotEq (.str z) (.str z) = some false := by rw [ne_str]; simp
  have nd2 : ([10, 11] : List Nat).Nodup := by decide
  have c2 : 2 ≤ cap := by decide
  unfold B_law_9
  rcases sx_or x with ⟨p1, p2⟩ | ⟨p1, p2⟩ <;> rcases sx_or y with ⟨p3, p4⟩ | ⟨p3, p4⟩ <;> rw [p2, p4] at t8 <;> rw [p2, p4] <;> simp only [edN0, edN1, edN2, edN3, wip, SOut.wp, vl_int, vl_str, vl_bl, vl_non, nd2, Nat.reduceLeDiff, Nat.reduceEqDiff, not_false_eq_true, and_self, and_true, true_and, putAll, big_eq, ↓evS_for, ↓ev_lc, evS, evT, evA, ev, evL, evO, evI, Out.bind, Out.st, ofS, ofO, D.isBl, vo, put, Vl.isFr, Vl.all, biD, ds, ts, sets, List.flatMap_cons, List.flatMap_nil, List.map_cons, List.map_nil, List.append_nil, List.nil_append, vl_nil, vf_nil, frz_nil, List.getElem?_cons_zero, List.getElem?_cons_succ, List.set_cons_zero, List.set_cons_succ, Bool.false_eq_true, if_false, if_true, reduceIte, List.length_cons, List.length_nil, Nat.reduceAdd, Nat.reduceSub, List.replicate, List.cons_append, List.replicate_succ, List.replicate_zero, Option.map_some, Option.map_none, Bool.not_true, Bool.not_false, List.singleton_append, kn, x0, vkn, vtg, nd2, hnn, t, hz, hne, c2, vl_nil, vf_nil, t8] <;> try (simp only [edN0, edN1, edN2, edN3, wip, SOut.wp, vl_int, vl_str, vl_bl, vl_non, nd2, Nat.reduceLeDiff, Nat.reduceEqDiff, not_false_eq_true, and_self, and_true, true_and, putAll, big_eq, ↓evS_for, ↓ev_lc, evS, evT, evA, ev, evL, evO, evI, Out.bind, Out.st, ofS, ofO, D.isBl, vo, put, Vl.isFr, Vl.all, biD, ds, ts, sets, List.flatMap_cons, List.flatMap_nil, List.map_cons, List.map_nil, List.append_nil, List.nil_append, vl_nil, vf_nil, frz_nil, List.getElem?_cons_zero, List.getElem?_cons_succ, List.set_cons_zero, List.set_cons_succ, Bool.false_eq_true, if_false, if_true, reduceIte, List.length_cons, List.length_nil, Nat.reduceAdd, Nat.reduceSub, List.replicate, List.cons_append, List.replicate_succ, List.replicate_zero, Option.map_some, Option.map_none, Bool.not_true, Bool.not_false, List.singleton_append, kn, x0, vkn, vtg, nd2, hnn, t, hz, hne, c2, vl_nil, vf_nil, t8] <;> try simp only [edN0, edN1, edN2, edN3, wip, SOut.wp, vl_int, vl_str, vl_bl, vl_non, nd2, Nat.reduceLeDiff, Nat.reduceEqDiff, not_false_eq_true, and_self, and_true, true_and, putAll, big_eq, ↓evS_for, ↓ev_lc, evS, evT, evA, ev, evL, evO, evI, Out.bind, Out.st, ofS, ofO, D.isBl, vo, put, Vl.isFr, Vl.all, biD, ds, ts, sets, List.flatMap_cons, List.flatMap_nil, List.map_cons, List.map_nil, List.append_nil, List.nil_append, vl_nil, vf_nil, frz_nil, List.getElem?_cons_zero, List.getElem?_cons_succ, List.set_cons_zero, List.set_cons_succ, Bool.false_eq_true, if_false, if_true, reduceIte, List.length_cons, List.length_nil, Nat.reduceAdd, Nat.reduceSub, List.replicate, List.cons_append, List.replicate_succ, List.replicate_zero, Option.map_some, Option.map_none, Bool.not_true, Bool.not_false, List.singleton_append, kn, x0, vkn, vtg, nd2, hnn, t, hz, hne, c2, vl_nil, vf_nil, t8])
theorem core {x y : D} {s0 s1 s2 s3 : Sl} {W : Dr} (hx : Bt 60 x) (hy : Bt 60 y) (h2 : LastOk s2) :
    ∃ o : SOut, ∃ s2', LastOk s2' ∧ evS 1000000 (.seq (.par [7, 8] (.cons (.call (pureG reprQD) (.cons (.lst (.cons (.var 4) (.cons (.var 5) .nil))) .nil)) (.cons (.lst .nil) .nil)))
      (.seq (.cpl 8 9 (.call G_Tangle (.cons (.var 4) (.cons (.var 5) .nil))))
      (.seq (.cpa 8 9 (.callk G_Tangle 2 [1, 0] (.cons (.var 5) (.cons (.var 4) .nil))))
      (.seq (.iff (.tv (.cmp .NotEq (.call (pureG reprQD) (.cons (.lst (.cons (.var 4) (.cons (.var 5) .nil))) .nil)) (.var 7))) (.seq (.ret (.cst (.bl false)))
      .skip) .skip)
      B_law_10)))) [s0, s1, s2, s3, sx x, sx y, .un, .un, .un, .un, .un, .un, .un, .un, .un] W = o ∧
      (o.wp [6, 9, 12, 8, 10, 11, 5, 7, 4, 3] = .nx [s0, s1, s2', .un, .un, .un, .un, .un, .un, .un, .un, .un, .un, .un, .un] W ∨ o.wp [6, 9, 12, 8, 10, 11, 5, 7, 4, 3] = .ct [s0, s1, s2', .un, .un, .un, .un, .un, .un, .un, .un, .un, .un, .un, .un] W) := by
  obtain ⟨sh, _⟩ := sh_lst (n := 301 * 60 + 400) (m := 6) (xs := [x, y]) fun d hd => by
    simp only [List.mem_cons, List.not_mem_nil, or_false] at hd
    rcases hd with rfl | rfl
    · exact hx.sh
    · exact hy.sh
  obtain ⟨z, hz⟩ := repr_of sh (by simp) (by omega)
  have hz := hz W
  have hne : cmpD .NotEq (.str z) (.str z) = some false := by rw [ne_str]; simp
  have nd2 : ([7, 8] : List Nat).Nodup := by decide
  have c0 : 0 ≤ cap := by decide
  have c2 : 2 ≤ cap := by decide
  have z0 : 0 < cap := by decide
  have z1 : 1 < cap := by decide
  have hpk : pick [1, 0] [y, x] = [x, y] := rfl
  have hl : (its x).length + (its y).length ≤ 1000 := by have := hx.len; have := hy.len; omega
  have du := is_due_ok (W := W) hx.go hy.go hl
  cases hd : dueB x y with
  | false =>
    rw [hd] at du
    have tn := Tangle_no (W := W) hx.go hy.go hl hd
    have t1 : [Ty_NoState].any (isD1 (.exc "NoState" [])) = true := by simp [isD1, Ty_NoState]
    have tt : (D.exc "NoState" []).typed = true := rfl
    have hit : ∀ xs : List D, (D.lst xs).items = some xs := fun _ => rfl
    have lc : ∀ ρ : En, ρ.length = 15 → lcGo (lcOne (.cst (.int 1)) T_law_2 (.nm 14) [14] ρ) [.exc "NoState" [], .exc "NoState" []] [] [] W = .ok ⟨.lst [], .fr, []⟩ W := fun ρ hρ =>
      lc_filter (one := lcOne (.cst (.int 1)) T_law_2 (.nm 14) [14] ρ) (fun _ : Unit => D.exc "NoState" []) (fun _ => false) (W := W) (xs := [(), ()]) (by decide) fun c _ => ⟨⟨.exc "NoState" [], .pl, []⟩, by
        refine lcOne_if ?_ fun z => by cases z
        have hs : ((ρ.set 14 Sl.un).set 14 (.val (.exc "NoState" [])))[14]? = some (.val (.exc "NoState" [])) := List.getElem?_set_self (by rw [List.length_set]; omega)
        unfold T_law_2
        simp only [edN0, edN1, edN2, edN3, wip, SOut.wp, vl_int, vl_str, vl_bl, vl_non, nd2, Nat.reduceLeDiff, Nat.reduceEqDiff, not_false_eq_true, and_self, and_true, true_and, putAll, big_eq, ↓evS_for, ↓ev_lc, evS, evT, evA, ev, evL, evO, evI, Out.bind, Out.st, ofS, ofO, D.isBl, vo, put, Vl.isFr, Vl.all, biD, ds, ts, sets, List.flatMap_cons, List.flatMap_nil, List.map_cons, List.map_nil, List.append_nil, List.nil_append, vl_nil, vf_nil, frz_nil, List.getElem?_cons_zero, List.getElem?_cons_succ, List.set_cons_zero, List.set_cons_succ, Bool.false_eq_true, if_false, if_true, reduceIte, List.length_cons, List.length_nil, Nat.reduceAdd, Nat.reduceSub, List.replicate, List.cons_append, List.replicate_succ, List.replicate_zero, Option.map_some, Option.map_none, Bool.not_true, Bool.not_false, List.singleton_append, hs, t1, tt], rfl, rfl⟩
    have nn : pureG neNilD [.lst [], .lst []] W = .ok (false, .bl false) W := pureG_some rfl
    refine ⟨_, s2, h2, rfl, .inr ?_⟩
    have l1 := lc [s0, s1, s2, s3, sx x, sx y, .un, .val (.str z), .own (.lst []), .own (.lst [.exc "NoState" [], .exc "NoState" []]), .un, .un, .un, .un, .un] rfl
    unfold B_law_10
    rcases sx_or x with ⟨p1, p2⟩ | ⟨p1, p2⟩ <;> rcases sx_or y with ⟨p3, p4⟩ | ⟨p3, p4⟩ <;> rw [p2, p4] at l1 <;> rw [p2, p4] <;> simp only [edN0, edN1, edN2, edN3, wip, SOut.wp, vl_int, vl_str, vl_bl, vl_non, nd2, Nat.reduceLeDiff, Nat.reduceEqDiff, not_false_eq_true, and_self, and_true, true_and, putAll, big_eq, ↓evS_for, ↓ev_lc, evS, evT, evA, ev, evL, evO, evI, Out.bind, Out.st, ofS, ofO, D.isBl, vo, put, Vl.isFr, Vl.all, biD, ds, ts, sets, List.flatMap_cons, List.flatMap_nil, List.map_cons, List.map_nil, List.append_nil, List.nil_append, vl_nil, vf_nil, frz_nil, List.getElem?_cons_zero, List.getElem?_cons_succ, List.set_cons_zero, List.set_cons_succ, Bool.false_eq_true, if_false, if_true, reduceIte, List.length_cons, List.length_nil, Nat.reduceAdd, Nat.reduceSub, List.replicate, List.cons_append, List.replicate_succ, List.replicate_zero, Option.map_some, Option.map_none, Bool.not_true, Bool.not_false, List.singleton_append, vfd, hz, hne, nd2, c0, c2, z0, z1, hpk, du, tn, hit, l1, nn, vl_nil, vf_nil, ne_eq] <;> try (simp only [edN0, edN1, edN2, edN3, wip, SOut.wp, vl_int, vl_str, vl_bl, vl_non, nd2, Nat.reduceLeDiff, Nat.reduceEqDiff, not_false_eq_true, and_self, and_true, true_and, putAll, big_eq, ↓evS_for, ↓ev_lc, evS, evT, evA, ev, evL, evO, evI, Out.bind, Out.st, ofS, ofO, D.isBl, vo, put, Vl.isFr, Vl.all, biD, ds, ts, sets, List.flatMap_cons, List.flatMap_nil, List.map_cons, List.map_nil, List.append_nil, List.nil_append, vl_nil, vf_nil, frz_nil, List.getElem?_cons_zero, List.getElem?_cons_succ, List.set_cons_zero, List.set_cons_succ, Bool.false_eq_true, if_false, if_true, reduceIte, List.length_cons, List.length_nil, Nat.reduceAdd, Nat.reduceSub, List.replicate, List.cons_append, List.replicate_succ, List.replicate_zero, Option.map_some, Option.map_none, Bool.not_true, Bool.not_false, List.singleton_append, vfd, hz, hne, nd2, c0, c2, z0, z1, hpk, du, tn, hit, l1, nn, vl_nil, vf_nil, ne_eq] <;> try simp only [edN0, edN1, edN2, edN3, wip, SOut.wp, vl_int, vl_str, vl_bl, vl_non, nd2, Nat.reduceLeDiff, Nat.reduceEqDiff, not_false_eq_true, and_self, and_true, true_and, putAll, big_eq, ↓evS_for, ↓ev_lc, evS, evT, evA, ev, evL, evO, evI, Out.bind, Out.st, ofS, ofO, D.isBl, vo, put, Vl.isFr, Vl.all, biD, ds, ts, sets, List.flatMap_cons, List.flatMap_nil, List.map_cons, List.map_nil, List.append_nil, List.nil_append, vl_nil, vf_nil, frz_nil, List.getElem?_cons_zero, List.getElem?_cons_succ, List.set_cons_zero, List.set_cons_succ, Bool.false_eq_true, if_false, if_true, reduceIte, List.length_cons, List.length_nil, Nat.reduceAdd, Nat.reduceSub, List.replicate, List.cons_append, List.replicate_succ, List.replicate_zero, Option.map_some, Option.map_none, Bool.not_true, Bool.not_false, List.singleton_append, vfd, hz, hne, nd2, c0, c2, z0, z1, hpk, du, tn, hit, l1, nn, vl_nil, vf_nil, ne_eq])
  | true =>
    rw [hd] at du
    obtain ⟨ls, rs, rx, ry, ht⟩ := due_rows hd
    obtain ⟨zk, hk⟩ := repr_knot ht.rr
    have tg := tangle_rows (W := W) rx ry ht
    obtain ⟨s4', s12', t9⟩ := tail9 (s0 := s0) (s1 := s1) (s3 := s3) (s6 := .un) (s7 := .val (.str z)) (s14 := .un) (W := W) ht hk rx ry h2
    refine ⟨_, .val (.tup [knD ls (rr rs), tgD ls (rr rs)]), .inr ⟨_, _, rfl⟩, rfl, .inl ?_⟩
    unfold B_law_10
    rcases sx_or x with ⟨p1, p2⟩ | ⟨p1, p2⟩ <;> rcases sx_or y with ⟨p3, p4⟩ | ⟨p3, p4⟩ <;> rw [p2, p4] at t9 <;> rw [p2, p4] <;> simp only [edN0, edN1, edN2, edN3, wip, SOut.wp, vl_int, vl_str, vl_bl, vl_non, nd2, Nat.reduceLeDiff, Nat.reduceEqDiff, not_false_eq_true, and_self, and_true, true_and, putAll, big_eq, ↓evS_for, ↓ev_lc, evS, evT, evA, ev, evL, evO, evI, Out.bind, Out.st, ofS, ofO, D.isBl, vo, put, Vl.isFr, Vl.all, biD, ds, ts, sets, List.flatMap_cons, List.flatMap_nil, List.map_cons, List.map_nil, List.append_nil, List.nil_append, vl_nil, vf_nil, frz_nil, List.getElem?_cons_zero, List.getElem?_cons_succ, List.set_cons_zero, List.set_cons_succ, Bool.false_eq_true, if_false, if_true, reduceIte, List.length_cons, List.length_nil, Nat.reduceAdd, Nat.reduceSub, List.replicate, List.cons_append, List.replicate_succ, List.replicate_zero, Option.map_some, Option.map_none, Bool.not_true, Bool.not_false, List.singleton_append, vfd, hz, hne, nd2, c0, c2, z0, z1, hpk, du, tg, vtg, t9, vl_nil, vf_nil, ne_eq] <;> try (simp only [edN0, edN1, edN2, edN3, wip, SOut.wp, vl_int, vl_str, vl_bl, vl_non, nd2, Nat.reduceLeDiff, Nat.reduceEqDiff, not_false_eq_true, and_self, and_true, true_and, putAll, big_eq, ↓evS_for, ↓ev_lc, evS, evT, evA, ev, evL, evO, evI, Out.bind, Out.st, ofS, ofO, D.isBl, vo, put, Vl.isFr, Vl.all, biD, ds, ts, sets, List.flatMap_cons, List.flatMap_nil, List.map_cons, List.map_nil, List.append_nil, List.nil_append, vl_nil, vf_nil, frz_nil, List.getElem?_cons_zero, List.getElem?_cons_succ, List.set_cons_zero, List.set_cons_succ, Bool.false_eq_true, if_false, if_true, reduceIte, List.length_cons, List.length_nil, Nat.reduceAdd, Nat.reduceSub, List.replicate, List.cons_append, List.replicate_succ, List.replicate_zero, Option.map_some, Option.map_none, Bool.not_true, Bool.not_false, List.singleton_append, vfd, hz, hne, nd2, c0, c2, z0, z1, hpk, du, tg, vtg, t9, vl_nil, vf_nil, ne_eq] <;> try simp only [edN0, edN1, edN2, edN3, wip, SOut.wp, vl_int, vl_str, vl_bl, vl_non, nd2, Nat.reduceLeDiff, Nat.reduceEqDiff, not_false_eq_true, and_self, and_true, true_and, putAll, big_eq, ↓evS_for, ↓ev_lc, evS, evT, evA, ev, evL, evO, evI, Out.bind, Out.st, ofS, ofO, D.isBl, vo, put, Vl.isFr, Vl.all, biD, ds, ts, sets, List.flatMap_cons, List.flatMap_nil, List.map_cons, List.map_nil, List.append_nil, List.nil_append, vl_nil, vf_nil, frz_nil, List.getElem?_cons_zero, List.getElem?_cons_succ, List.set_cons_zero, List.set_cons_succ, Bool.false_eq_true, if_false, if_true, reduceIte, List.length_cons, List.length_nil, Nat.reduceAdd, Nat.reduceSub, List.replicate, List.cons_append, List.replicate_succ, List.replicate_zero, Option.map_some, Option.map_none, Bool.not_true, Bool.not_false, List.singleton_append, vfd, hz, hne, nd2, c0, c2, z0, z1, hpk, du, tg, vtg, t9, vl_nil, vf_nil, ne_eq])
noncomputable def RC : S := (.seq (.par [7, 8] (.cons (.call (pureG reprQD) (.cons (.lst (.cons (.var 4) (.cons (.var 5) .nil))) .nil)) (.cons (.lst .nil) .nil)))
      (.seq (.cpl 8 9 (.call G_Tangle (.cons (.var 4) (.cons (.var 5) .nil))))
      (.seq (.cpa 8 9 (.callk G_Tangle 2 [1, 0] (.cons (.var 5) (.cons (.var 4) .nil))))
      (.seq (.iff (.tv (.cmp .NotEq (.call (pureG reprQD) (.cons (.lst (.cons (.var 4) (.cons (.var 5) .nil))) .nil)) (.var 7))) (.seq (.ret (.cst (.bl false)))
      .skip) .skip)
      B_law_10))))
theorem B11_eq : B_law_11 = (.kl [] (.seq (.unpT 4 5 GT__law_tangled (.cons (.var 1) (.cons (.cst (.int 16)) .nil)))
  (.seq (.kl [6] (.for (.nm 6) (.rng (.cons (.call G__law_pick (.cons (.var 1) (.cons (.lst (.cons (.cst (.int 0)) (.cons (.cst (.int 0)) (.cons (.cst (.int 1)) (.cons (.cst (.int 2)) .nil))))) .nil))) .nil)) B_law_1) [6])
  RC)) [6, 9, 12, 8, 10, 11, 5, 7, 4, 3]) := rfl
theorem turn {T : Nat} {s2 : Sl} {ns : List Int} {i : D} {W : Dr} (h : Wd T W) (hT : T + 3000 ≤ 1099511627000) (h2 : LastOk s2) :
    ∃ s2' W', LastOk s2' ∧ Wd (T + 3000) W' ∧ (forOne 1000000 B_law_11 (.nm 3) i [.val (.scr ns), .val .drw, s2, .un, .un, .un, .un, .un, .un, .un, .un, .un, .un, .un, .un] W = .nx [.val (.scr ns), .val .drw, s2', .un, .un, .un, .un, .un, .un, .un, .un, .un, .un, .un, .un] W' ∨
      forOne 1000000 B_law_11 (.nm 3) i [.val (.scr ns), .val .drw, s2, .un, .un, .un, .un, .un, .un, .un, .un, .un, .un, .un, .un] W = .ct [.val (.scr ns), .val .drw, s2', .un, .un, .un, .un, .un, .un, .un, .un, .un, .un, .un, .un] W') := by
  obtain ⟨xs, ys, W1, ⟨bx, by_⟩, hw1, e1⟩ := tangled_ok h (by omega)
  obtain ⟨c, W2, hc, hw2, e2⟩ := pick_ok (xs := [.int 0, .int 0, .int 1, .int 2]) hw1 (by omega) (by simp) (by simp)
  obtain ⟨m, rfl, hm⟩ : ∃ m : Nat, c = .int m ∧ m ≤ 2 := by
    simp only [List.mem_cons, List.not_mem_nil, or_false] at hc
    rcases hc with rfl | rfl | rfl | rfl <;> first | exact ⟨0, rfl, by decide⟩ | exact ⟨1, rfl, by decide⟩ | exact ⟨2, rfl, by decide⟩
  have g1 := rngN (n := m) (by omega)
  obtain ⟨ρ', W3, e3, x', y', rfl, bx', by', hw3⟩ := for_inv0 (f := forOne 1000000 B_law_1 (.nm 6)) (xs := (List.range m).map fun k : Nat => .int (k : Int)) (ρ := [.val (.scr ns), .val .drw, s2, .val i, .own (.lst xs), .own (.lst ys), .un, .un, .un, .un, .un, .un, .un, .un, .un]) (W := W2)
    (fun k ρ V => ∃ x' y', ρ = [.val (.scr ns), .val .drw, s2, .val i, sx x', sx y', .un, .un, .un, .un, .un, .un, .un, .un, .un] ∧ Bt (16 * 2 ^ k - 9) x' ∧ Bt (16 * 2 ^ k - 9) y' ∧ Wd (T + 300 + 8 * k) V) ⟨.lst xs, .lst ys, rfl, bx, by_, hw2.mono (by omega)⟩ (fun k j ρ V hj ⟨x1, y1, q0, q1, q2, q3⟩ => by
      subst q0
      obtain ⟨rfl, hk⟩ := rng_at hj
      have hk2 : k = 0 ∨ k = 1 := by omega
      obtain ⟨x2, y2, V', p1, p2, p3, p4⟩ := change (i := .int k) (s0 := .val (.scr ns)) (s2 := s2) (s3 := .val i) (s6 := .un) (s7 := .un) (s8 := .un) (s9 := .un) (s10 := .un) (s11 := .un) (s12 := .un) (s13 := .un) (s14 := .un) q3 (by omega) q1 q2 (by rcases hk2 with rfl | rfl <;> decide)
      refine ⟨_, V', .inl p4, x2, y2, rfl, p1.up ?_, p2.up ?_, p3.mono (by omega)⟩ <;> rcases hk2 with rfl | rfl <;> decide)
  rw [rng_len] at bx' by' hw3
  have hb : 16 * 2 ^ m - 9 ≤ 60 := by
    have : m = 0 ∨ m = 1 ∨ m = 2 := by omega
    rcases this with rfl | rfl | rfl <;> decide
  obtain ⟨o, s2', l2, e4, e5⟩ := core (s0 := .val (.scr ns)) (s1 := .val .drw) (s2 := s2) (s3 := .val i) (W := W3) (bx'.up hb) (by'.up hb) h2
  have e4 : evS 1000000 RC _ _ = o := e4
  have c4 : 4 ≤ cap := by decide
  have v4 : ∀ t, vf (.lst [.int 0, .int 0, .int 1, .int 2]) t = ⟨.lst [.int 0, .int 0, .int 1, .int 2], .fr, []⟩ := fun t => vf_imm rfl
  have im : (∀ v ∈ [(⟨.drw, .pl, []⟩ : Vl), ⟨.int 16, .pl, []⟩], v.d.imm = true) ∧ 4 ≠ 5 := ⟨fun v hv => by
    simp only [List.mem_cons, List.not_mem_nil, or_false] at hv
    rcases hv with rfl | rfl <;> rfl, by decide⟩
  have key : forOne 1000000 B_law_11 (.nm 3) i [.val (.scr ns), .val .drw, s2, .un, .un, .un, .un, .un, .un, .un, .un, .un, .un, .un, .un] W = o.wp [6, 9, 12, 8, 10, 11, 5, 7, 4, 3] := by
    rw [B11_eq]
    unfold forOne
    simp only [edN0, edN1, edN2, edN3, wip, SOut.wp, vl_int, vl_str, vl_bl, vl_non, nd2, Nat.reduceLeDiff, Nat.reduceEqDiff, not_false_eq_true, and_self, and_true, true_and, putAll, big_eq, ↓evS_for, ↓ev_lc, evS, evT, evA, ev, evL, evO, evI, Out.bind, Out.st, ofS, ofO, D.isBl, vo, put, Vl.isFr, Vl.all, biD, ds, ts, sets, List.flatMap_cons, List.flatMap_nil, List.map_cons, List.map_nil, List.append_nil, List.nil_append, vl_nil, vf_nil, frz_nil, List.getElem?_cons_zero, List.getElem?_cons_succ, List.set_cons_zero, List.set_cons_succ, Bool.false_eq_true, if_false, if_true, reduceIte, List.length_cons, List.length_nil, Nat.reduceAdd, Nat.reduceSub, List.replicate, List.cons_append, List.replicate_succ, List.replicate_zero, Option.map_some, Option.map_none, Bool.not_true, Bool.not_false, List.singleton_append, bindP, eq_true im, e1, c4, v4, e2, vl_nil, g1, e3, e4]
  refine ⟨s2', W3, l2, hw3.mono (by omega), ?_⟩
  rw [key]
  exact e5
theorem run_ok : RunOk := by
  intro ns hns
  obtain ⟨m, hm, hm1⟩ : ∃ m : Nat, minD2 [.int ns.length, .int 30] = some (false, .int m) ∧ m ≤ 30 := by
    by_cases q : (30 : Int) < ns.length
    · exact ⟨30, by simp only [minD2, if_pos q]; rfl, by omega⟩
    · exact ⟨ns.length, by simp only [minD2, if_neg q], by omega⟩
  have hadd : binD .Add (.int 6) (.int m) = some (false, .int ((6 + m : Nat) : Int)) := by simp only [binD]; rw [Int.natCast_add]; rfl
  have g1 := rngN (n := 6 + m) (by omega)
  have hln : lenD [.scr ns] = some (false, .int ns.length) := rfl
  obtain ⟨ρ', W', e, s2', rfl, l2, hw⟩ := for_inv0 (f := forOne 1000000 B_law_11 (.nm 3)) (xs := (List.range (6 + m)).map fun k : Nat => .int (k : Int)) (ρ := [.val (.scr ns), .val .drw, .val .non, .un, .un, .un, .un, .un, .un, .un, .un, .un, .un, .un, .un]) (W := dr0 ns)
    (fun k ρ V => ∃ s2, ρ = [.val (.scr ns), .val .drw, s2, .un, .un, .un, .un, .un, .un, .un, .un, .un, .un, .un, .un] ∧ LastOk s2 ∧ Wd (3000 * k) V) ⟨_, rfl, .inl rfl, wd0 ns⟩ (fun k x ρ V hx ⟨s2, q0, q1, q2⟩ => by
      subst q0
      obtain ⟨rfl, hk⟩ := rng_at hx
      obtain ⟨s2', V', l2, p1, p2⟩ := turn (ns := ns) (i := .int k) q2 (by omega) q1
      exact ⟨_, V', p2, s2', rfl, l2, p1.mono (by omega)⟩)
  refine ⟨[.un, .un, .un, .un, .un, .un, .un, .un, .un, .un, .un, .un, .un, .un, .un], W', ?_⟩
  unfold B_law law0
  simp only [edN0, edN1, edN2, edN3, wip, SOut.wp, vl_int, vl_str, vl_bl, vl_non, nd2, Nat.reduceLeDiff, Nat.reduceEqDiff, not_false_eq_true, and_self, and_true, true_and, putAll, big_eq, ↓evS_for, ↓ev_lc, evS, evT, evA, ev, evL, evO, evI, Out.bind, Out.st, ofS, ofO, D.isBl, vo, put, Vl.isFr, Vl.all, biD, ds, ts, sets, List.flatMap_cons, List.flatMap_nil, List.map_cons, List.map_nil, List.append_nil, List.nil_append, vl_nil, vf_nil, frz_nil, List.getElem?_cons_zero, List.getElem?_cons_succ, List.set_cons_zero, List.set_cons_succ, Bool.false_eq_true, if_false, if_true, reduceIte, List.length_cons, List.length_nil, Nat.reduceAdd, Nat.reduceSub, List.replicate, List.cons_append, List.replicate_succ, List.replicate_zero, Option.map_some, Option.map_none, Bool.not_true, Bool.not_false, List.singleton_append, List.set_cons_succ, hln, hm, hadd, g1, e] <;> try simp only [edN0, edN1, edN2, edN3, wip, SOut.wp, vl_int, vl_str, vl_bl, vl_non, nd2, Nat.reduceLeDiff, Nat.reduceEqDiff, not_false_eq_true, and_self, and_true, true_and, putAll, big_eq, ↓evS_for, ↓ev_lc, evS, evT, evA, ev, evL, evO, evI, Out.bind, Out.st, ofS, ofO, D.isBl, vo, put, Vl.isFr, Vl.all, biD, ds, ts, sets, List.flatMap_cons, List.flatMap_nil, List.map_cons, List.map_nil, List.append_nil, List.nil_append, vl_nil, vf_nil, frz_nil, List.getElem?_cons_zero, List.getElem?_cons_succ, List.set_cons_zero, List.set_cons_succ, Bool.false_eq_true, if_false, if_true, reduceIte, List.length_cons, List.length_nil, Nat.reduceAdd, Nat.reduceSub, List.replicate, List.cons_append, List.replicate_succ, List.replicate_zero, Option.map_some, Option.map_none, Bool.not_true, Bool.not_false, List.singleton_append, List.set_cons_succ, hln, hm, hadd, g1, e]
end Qk69

namespace Qk69
open PySem PySem.Spec PyProof.Rows L2 Z
def loose0 : List Str := ["ThreadError", "NoState", "LETTERS", "MOST_LETTERS", "MOST_THREADS", "MOST_BEADS", "is_color", "is_thread", "turned", "least_turn", "are_tangled", "Tangle", "_law_begun", "_law_mixed", "_law_take", "_law_pick", "_law_shuffled", "_law_caught", "_law_odd", "_law_hues"]
def loose1 : List Str := ["_law_lines", "_law_least_turn", "_law_knot", "_law_tangled", "_law_are_rows", "_law_is_due", "_law_told", "_law_bent"]
def loose : List Str := loose0 ++ loose1
abbrev R : PySem.W.OpenRow := PySem.W.OpenLaw.row PySem.Challenge.rw_tradedtails_k69_tangles_made_or_refused
abbrev hk : PySem.W.Hook := Z.hookY 5 fa fn tf ex
def ob (s : PySem.W.SharedT) : He.AlX := Z.obsY 5 fa fn tf ex (HandSHeadRun.getT s)
theorem ob_eq (s : PySem.W.SharedT) : ob s = hk.obs s.abs := Z.obsY_eq (HandSHeadRun.getT_eq s)
set_option maxHeartbeats 0 in
theorem run (w : World) : HandSHeadRun.RunEq R (PySem.W.view R.prog [32]) hk ob 3000 loose w := by
  intro os
  kernel_rfl
end Qk69
open PySem PySem.W PySem.Calls PyProof.Rows
set_option maxRecDepth 100000 in
set_option maxHeartbeats 0 in
theorem PySem.Challenge.cw_tradedtails_k69_tangles_made_or_refused_holds : PySem.Challenge.rw_tradedtails_k69_tangles_made_or_refused.Holds := by
  w_on; o_law
  refine HandSHeadRun.head_any (r := OpenLaw.row PySem.Challenge.rw_tradedtails_k69_tangles_made_or_refused) (q := view (OpenLaw.row PySem.Challenge.rw_tradedtails_k69_tangles_made_or_refused).prog [32]) (H := Qk69.hk) (ob := Qk69.ob) (M := 3000) (loose := Qk69.loose) (d := HandSHeadRun.topDef (OpenLaw.row PySem.Challenge.rw_tradedtails_k69_tangles_made_or_refused).prog 32) (kwd := []) Qk69.ob_eq
    (by kernel_rfl) (fun s => by kernel_rfl) Qk69.run (by kernel_rfl) (by kernel_rfl) (by kernel_rfl) (by rfl) (by first | assumption | decide +kernel) (by decide +kernel) ⟨rfl, rfl, rfl, rfl, rfl, by decide +kernel⟩ ?hw ?hc
  case hw => w_witness2
  case hc =>
    refine Z.law_endG (n := 5) (l := PySem.Challenge.rw_tradedtails_k69_tangles_made_or_refused) (k := 7) (x := "_law_script") Qk69.cas Qk69.cxs rfl (by kernel_rfl) ⟨rfl, by decide, by decide⟩ fun w mg fl h K KX c G hmg0 => ?_
    have hmg : mg ("law" : PySem.Str) = some (.ref fl) := by
      have e : (HandSHeadRun.topDef (OpenLaw.row PySem.Challenge.rw_tradedtails_k69_tangles_made_or_refused).prog 32).name = ("law" : PySem.Str) := by kernel_rfl
      rw [← e]
      exact hmg0
    exact Qk69.law_at KX G hmg c.t.d c.more Qk69.run_ok rfl

