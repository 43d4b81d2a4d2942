import PyProof.Rows.All
import Wide.All
import OpenK.AllK
import Wide.FinOn
import PySem.Syntax
import PyProof.ReprReads
import KE.LtData
import HandS.ForMost
import HandS.Text
import HandS.ForExc
import HandS.TryOnly
import HandS.Defaults
import KE.DataEq
import HandS.HeadHook1
import HandS.Lambda
import HandS.TupAny
import HandS.TupLe
import HandS.IsInst
import HandS.TupMul
import HandS.Walk
import HandS.ExcOwn
import HandS.ExcIs
import HandS.Small
import HandS.SetFor
import HandS.EndTab
import HandS.HeadWalk
import HandS.HeadHook4
import HandS.Head2
import HandS.Star
import HandS.More
import KE.GoesMore
import HandS.Style
import HandS.Dict
import HandS.Zip
import HandS.DictComp
import KE.SortData
import HandS.Conv
import HandS.Strs
import KE.KExcSuper
import HandS.ExcInit
import HandS.ExcField
import PyProof.StrOps2
import HandS.ExcValue
import KE.DataMinMax
import HandS.Sort
import PyProof.Rows.IntBool
import PyProof.CallStr
import PyProof.NeKinds
import OpenK.KOps
import PyProof.StrLawsTight
import Lean
import PySem.Challenge.RW_tradedtails_k02_states_made_or_refused
set_option Elab.async false
set_option linter.all false
set_option maxRecDepth 100000
set_option maxHeartbeats 4000000
namespace Z
open PySem
noncomputable section
theorem ex_big (n : Int) : ∃ x : Int, x = n := ⟨n, rfl⟩
def big (n : Int) : Int := Classical.choose (ex_big n)
theorem big_eq (n : Int) : big n = n := Classical.choose_spec (ex_big n)

inductive D where
  | non
  | bl (b : Bool)
  | int (i : Int)
  | str (x : Str)
  | tup (xs : List D)
  | lst (xs : List D)
  | dic (t : Bool) (kvs : List (D × D))
  | ins (c : Str) (fs : List (Str × D))
  | exc (c : Str) (fs : List (Str × D))
  | drw
  | fn (f : Str)
  | scr (ns : List Int)
  deriving Inhabited

mutual
/-- nothing in it can be changed -/
def D.imm : D → Bool
  | .non => true
  | .bl _ => true
  | .int _ => true
  | .str _ => true
  | .tup xs => D.immL xs
  | .lst _ => false
  | .dic _ _ => false
  | .ins _ fs => D.immF fs
  | .exc _ _ => false
  | .drw => true
  | .fn _ => true
  | .scr _ => false
def D.immL : List D → Bool
  | [] => true
  | x :: xs => D.imm x && D.immL xs
def D.immF : List (Str × D) → Bool
  | [] => true
  | (_, x) :: xs => D.imm x && D.immF xs
end
def immV : List (D × D) → Bool
  | [] => true
  | (k, v) :: r => k.imm && v.imm && immV r
def D.kids : D → Bool
  | .lst xs => D.immL xs
  | .dic _ kvs => immV kvs
  | d => d.imm

mutual
/-- as the library's data -/
def D.py : D → Option PyData
  | .non => some .none
  | .bl b => some (.bool b)
  | .int i => some (.int i)
  | .str x => some (.str x)
  | .tup xs => (D.pyL xs).map .tuple
  | .lst xs => (D.pyL xs).map .list
  | _ => none
def D.pyL : List D → Option (List PyData)
  | [] => some []
  | x :: xs => match D.py x, D.pyL xs with
    | some y, some ys => some (y :: ys)
    | _, _ => none
end

structure Dr where
  on : Bool
  wide : List Int
  cells : List Int
  rest : Int
  turn : Int

inductive Out (α : Type) where
  | ok (a : α) (W : Dr)
  | ex (x : D) (W : Dr)
  | stk

def Out.bind {α β : Type} (o : Out α) (f : α → Dr → Out β) : Out β :=
  match o with
  | .ok a W => f a W
  | .ex x W => .ex x W
  | .stk => .stk

abbrev G := List D → Dr → Out (Bool × D)

inductive Sc where
  | pl
  | fr
  | me (i : Nat)
  deriving DecidableEq
structure Vl where
  d : D
  k : Sc := .pl
  t : List Nat := []

def vl (d : D) (t : List Nat) : Vl := ⟨d, .pl, if d.imm then [] else t⟩
def vf (d : D) (t : List Nat) : Vl := ⟨d, .fr, if d.kids then [] else t⟩
def vo (r : Bool × D) (t : List Nat) : Vl := if r.1 then vf r.2 t else vl r.2 t
def Vl.all (v : Vl) : List Nat := match v.k with
  | .me i => i :: v.t
  | _ => v.t
def Vl.isFr (v : Vl) : Bool := match v.k with
  | .fr => true
  | _ => false

inductive Sl where
  | un
  | val (d : D)
  | own (d : D)
  | slf (p : Nat) (n : Str) (fs : List (Str × D))
  deriving Inhabited
def Sl.noSlf : Sl → Bool
  | .slf _ _ _ => false
  | _ => true
abbrev En := List Sl

def frz (ρ : En) (t : List Nat) : En := ρ.mapIdx fun i s => match s with
  | .own d => if t.contains i then .val d else .own d
  | s => s
def put (ρ : En) (i : Nat) (v : Vl) : En := (frz ρ v.all).set i (if v.isFr then .own v.d else .val v.d)
def wip (ρ : En) : List Nat → En
  | [] => ρ
  | v :: vs => (wip ρ vs).set v .un

inductive Bi where
  | len | list | tuple | min | max | sum | all | any | sorted | abs | int | repr | str | dict | set
inductive Ty where
  | int | bool | str | list | tuple | dict
  | cls (c : Str) (below : List Str)
inductive Bm where
  | get | index | count | join | split | values | keys

inductive Pat where
  | nm (i : Nat)
  | tp (is : List Nat)

inductive E where
  | var (i : Nat)
  | cst (d : D)
  | gl (d : D)
  | bin (op : Operator) (a b : E)
  | neg (a : E)
  | not (a : E)
  | cmp (op : CmpOp) (a b : E)
  | chn (o1 o2 : CmpOp) (a b c : E)
  | and (a b : E)
  | or (a b : E)
  | ite (c a b : E)
  | tup (xs : E)
  | lst (xs : E)
  | nil
  | cons (h t : E)
  | star (h t : E)
  | ix (a b : E)
  | sl (a lo hi : E)
  | no
  | rev (a : E)
  | bi (f : Bi) (args : E)
  | isi (a : E) (tys : List Ty)
  | call (g : G) (args : E)
  | callk (g : G) (m : Nat) (is : List Nat) (args : E)
  | calv (i : Nat) (tb : List (Str × G)) (args : E)
  | attr (a : E) (f : Str)
  | bm (m : Bm) (a args : E)
  | mth (m cl : Str) (g : G) (a args : E)
  | op (ck : D → Bool) (g : G) (a args : E)
  | lc (elt : E) (pt : Pat) (src ts : E) (own : List Nat)
  | dc (kx vx : E) (pt : Pat) (src ts : E) (own : List Nat)
  | tv (a : E)
  | pt (a : E)
  | wk (a : E)
  | rng (args : E)
  | enu (a : E)
  | zip (a b : E)
  | items (a : E)
  | drg (k : Bool) (a : E)
  | drc (a : E)
  | drn (a : E)
  | drp (a : E)
  | caught (a : E)
  | hand (h : Out Vl → Out Vl) (a : E)
  | no_

def ixOf (n : Nat) (i : Int) : Option Nat := L2.ixN n i
def atD {α : Type} (xs : List α) (i : Int) : Option α := L2.atI xs i
def cutD {α : Type} (xs : List α) (lo hi : Option Int) : List α := (xs.drop (HT.sIx xs.length 0 lo)).take (HT.sIx xs.length xs.length hi - HT.sIx xs.length 0 lo)

def binD (op : Operator) (x y : D) : Option (Bool × D) :=
  match op, x, y with
  | .Add, .int i, .int j => some (false, .int (i + j))
  | .Sub, .int i, .int j => some (false, .int (i - j))
  | .Mult, .int i, .int j => if (-(big (2 ^ 64)) < i ∧ i < big (2 ^ 64)) ∨ (-(big (2 ^ 64)) < j ∧ j < big (2 ^ 64)) then some (false, .int (i * j)) else none
  | .FloorDiv, .int i, .int j => if 0 < j ∧ j < big 1073741824 then some (false, .int (i / j)) else none
  | .Mod, .int i, .int j => if 0 < j then some (false, .int (i % j)) else none
  | .Pow, .int i, .int j => if 0 ≤ j ∧ j ≤ big 1000000 ∧ i.natAbs < 2 ^ 64 then some (false, .int (i ^ j.toNat)) else none
  | .Add, .str a, .str b => if a.length + b.length ≤ 16777216 then some (false, .str (a ++ b)) else none
  | .Add, .tup a, .tup b => if a.length + b.length ≤ 16777216 then some (false, .tup (a ++ b)) else none
  | .Add, .lst a, .lst b => if a.length + b.length ≤ 16777216 then some (true, .lst (a ++ b)) else none
  | .Mult, .lst a, .int k => if -(big (2 ^ 63)) ≤ k ∧ k < big (2 ^ 63) ∧ a.length * k.toNat ≤ 16777216 then some (true, .lst (List.replicate k.toNat a).flatten) else none
  | .Mult, .tup a, .int k => if a ≠ [] ∧ 2 ≤ k ∧ k ≤ 1000 ∧ a.length ≤ 1000 then some (false, .tup (List.replicate k.toNat a).flatten) else none
  | _, _, _ => none

mutual
def D.pyN : Nat → D → Option PyData
  | _, .non => some .none
  | _, .bl b => some (.bool b)
  | _, .int i => some (.int i)
  | _, .str x => some (.str x)
  | n + 1, .tup xs => (D.pyNL n xs).map .tuple
  | n + 1, .lst xs => (D.pyNL n xs).map .list
  | _, _ => none
def D.pyNL : Nat → List D → Option (List PyData)
  | _, [] => some []
  | n, x :: xs => match D.pyN n x, D.pyNL n xs with
    | some y, some ys => some (y :: ys)
    | _, _ => none
end
abbrev D.pd (d : D) : Option PyData := D.pyN 12 d

def D.eq (x y : D) : Option Bool := match x.pd, y.pd with
  | some a, some b => some (PyData.eqv a b)
  | _, _ => none
def D.lt (x y : D) : Option Bool := match x.pd, y.pd with
  | some a, some b => if PySem.W.alike a b = true then (match a with | .none => none | _ => some (PySem.W.dataLt a b)) else none
  | _, _ => none

def D.key1 : D → Bool
  | .int _ => true
  | .str _ => true
  | _ => false
def D.keyOk (t : Bool) (d : D) : Bool := if t then (match d with
  | .tup xs => xs.all D.key1
  | _ => false) else d.key1
section
open Classical
def dPut (kvs : List (D × D)) (k v : D) : List (D × D) := if (kvs.any fun p => decide (p.1 = k)) = true then kvs.map (fun p => if p.1 = k then (p.1, v) else p) else kvs ++ [(k, v)]
end

def cap : Nat := 16777216

def cmpD (op : CmpOp) (x y : D) : Option Bool :=
  match op with
  | .Eq => x.eq y
  | .NotEq => (x.eq y).map (!·)
  | .Lt => (match x, y with | .int i, .int j => some (decide (i < j)) | _, _ => x.lt y)
  | .LtE => (match x, y with | .int i, .int j => some (decide (i ≤ j)) | _, _ => none)
  | .Gt => (match x, y with | .int i, .int j => some (decide (j < i)) | _, _ => none)
  | .GtE => (match x, y with | .int i, .int j => some (decide (j ≤ i)) | _, _ => none)
  | .Is => (match x, y with
    | x, .non => some (match x with | .non => true | _ => false)
    | .bl a, .bl b => some (a == b)
    | _, _ => none)
  | .IsNot => (match x, y with
    | x, .non => some (match x with | .non => false | _ => true)
    | .bl a, .bl b => some (a != b)
    | _, _ => none)
  | .In => inD x y
  | .NotIn => (inD x y).map (!·)
where
  inD (x y : D) : Option Bool := match x, y with
    | .str a, .str b => some (!(Builtin.Str.occurrences b a 0 b.length 1).isEmpty)
    | x, .lst ys => anyEq x ys
    | x, .tup ys => anyEq x ys
    | _, _ => none
  anyEq (x : D) (ys : List D) : Option Bool := match x.pd, D.pyNL 12 ys with
    | some a, some bs => some (bs.any fun b => PyData.eqv b a)
    | _, _ => none

def D.items : D → Option (List D)
  | .lst xs => some xs
  | .scr ns => some (ns.map .int)
  | .tup xs => some xs
  | .str x => some (x.cps.toList.map fun c => .str ⟨#[c]⟩)
  | _ => none
def zipK : D → D → Option (List D × List D)
  | .lst xs, .lst ys => some (xs, ys)
  | .tup xs, .tup ys => some (xs, ys)
  | _, _ => none
def D.seq : D → Option (List D)
  | .lst xs => some xs
  | .tup xs => some xs
  | _ => none
def D.ints : List D → Option (List Int)
  | [] => some []
  | .int i :: r => (D.ints r).map (i :: ·)
  | _ => none
def D.bls : List D → Option (List Bool)
  | [] => some []
  | .bl b :: r => (D.bls r).map (b :: ·)
  | _ => none
def lenD : List D → Option (Bool × D)
  | [.lst xs] => some (false, .int xs.length)
  | [.tup xs] => some (false, .int xs.length)
  | [.scr ns] => some (false, .int ns.length)
  | [.str x] => if x.length ≤ cap then some (false, .int x.length) else none
  | _ => none
def listD : List D → Option (Bool × D)
  | [.lst xs] => some (true, .lst xs)
  | [.tup xs] => some (true, .lst xs)
  | _ => none
def tupleD : List D → Option (Bool × D)
  | [.lst xs] => some (false, .tup xs)
  | [.tup xs] => some (false, .tup xs)
  | _ => none
def minD2 : List D → Option (Bool × D)
  | [.int i, .int j] => some (false, .int (if j < i then j else i))
  | _ => none
def maxD2 : List D → Option (Bool × D)
  | [.int i, .int j] => some (false, .int (if j > i then j else i))
  | _ => none
def sumD : List D → Option (Bool × D)
  | [.lst xs] => (D.ints xs).map fun ns => (false, .int ns.sum)
  | _ => none
def allD : List D → Option (Bool × D)
  | [.lst xs] => (D.bls xs).map fun bs => (false, .bl (bs.all id))
  | _ => none
def anyD : List D → Option (Bool × D)
  | [.lst xs] => (D.bls xs).map fun bs => (false, .bl (bs.any id))
  | _ => none
def absD : List D → Option (Bool × D)
  | [.int i] => some (false, .int (if i < 0 then -i else i))
  | _ => none
def intD : List D → Option (Bool × D)
  | [.int i] => some (false, .int i)
  | [.bl b] => some (false, .int (if b then 1 else 0))
  | _ => none
def biD (f : Bi) (xs : List D) : Option (Bool × D) :=
  match f with
  | .len => lenD xs
  | .list => listD xs
  | .tuple => tupleD xs
  | .min => minD2 xs
  | .max => maxD2 xs
  | .sum => sumD xs
  | .all => allD xs
  | .any => anyD xs
  | .abs => absD xs
  | .int => intD xs
  | _ => none

def ixD (x y : D) : Option D :=
  match x, y with
  | .lst xs, .int i => atD xs i
  | .tup xs, .int i => atD xs i
  | .str x, .int i => if x.length ≤ cap then (atD x.cps.toList i).map fun c => .str ⟨#[c]⟩ else none
  | _, _ => none
def slD (x : D) (lo hi : Option Int) : Option (Bool × D) :=
  match x with
  | .lst xs => some (true, .lst (cutD xs lo hi))
  | .tup xs => some (false, .tup (cutD xs lo hi))
  | .str x => if x.length ≤ cap then some (false, .str (L2.cutS x lo hi)) else none
  | _ => none
def revD (x : D) : Option (Bool × D) :=
  match x with
  | .lst xs => some (true, .lst xs.reverse)
  | .tup xs => some (false, .tup xs.reverse)
  | _ => none
def D.typed : D → Bool
  | .drw => false
  | .fn _ => false
  | .scr _ => false
  | .dic true _ => false
  | _ => true
def isD1 (x : D) : Ty → Bool
  | .int => match x with | .int _ => true | .bl _ => true | _ => false
  | .bool => match x with | .bl _ => true | _ => false
  | .str => match x with | .str _ => true | _ => false
  | .list => match x with | .lst _ => true | _ => false
  | .tuple => match x with | .tup _ => true | _ => false
  | .dict => match x with | .dic _ _ => true | .drw => true | _ => false
  | .cls c below => match x with
    | .ins c' _ => c' == c || below.contains c'
    | .exc c' _ => c' == c || below.contains c'
    | _ => false
def attrD (x : D) (f : Str) : Option D :=
  match x with
  | .ins _ fs => fs.lookup f
  | _ => none
def bmD (m : Bm) (x : D) (xs : List D) : Option (Bool × D) :=
  match m, x, xs with
  | .count, .lst xs, [.bl b] => (D.bls xs).map fun bs => (false, .int (bs.count b : Nat))
  | .index, .lst xs, [.bl b] => (D.bls xs).bind fun bs => if b ∈ bs then some (false, .int (bs.idxOf b : Nat)) else none
  | _, _, _ => none

def rngD : List D → Option (List D)
  | [.int n] => if -(big (2 ^ 62)) ≤ n ∧ n < big (2 ^ 62) then some ((List.range n.toNat).map fun k : Nat => .int (k : Int)) else none
  | [.int a, .int b] => if -(big (2 ^ 62)) ≤ a ∧ a < big (2 ^ 62) ∧ -(big (2 ^ 62)) ≤ b ∧ b < big (2 ^ 62) then some ((List.range (b - a).toNat).map fun k : Nat => .int (a + k)) else none
  | _ => none
def zipD : List D → List D → List D
  | x :: xs, y :: ys => .tup [x, y] :: zipD xs ys
  | _, _ => []
def enuD (k : Nat) : List D → List D
  | [] => []
  | x :: xs => .tup [.int k, x] :: enuD (k + 1) xs

def sets (ρ : En) : List Nat → List D → En
  | i :: is, x :: xs => sets (ρ.set i (.val x)) is xs
  | _, _ => ρ
def bindP (pt : Pat) (x : D) (ρ : En) : Option En :=
  match pt with
  | .nm i => some (ρ.set i (.val x))
  | .tp is => match x with
    | .tup xs => if xs.length = is.length then some (sets ρ is xs) else none
    | _ => none

def D.isBl : D → Option Bool
  | .bl b => some b
  | _ => none
def ds (vs : List Vl) : List D := vs.map (·.d)
def ts (vs : List Vl) : List Nat := vs.flatMap (·.all)
def ofO {α β : Type} (o : Option α) (f : α → Out β) : Out β := match o with
  | some a => f a
  | none => .stk

theorem Out.bind_bind {α β γ : Type} (o : Out α) (f : α → Dr → Out β) (g : β → Dr → Out γ) : (o.bind f).bind g = o.bind fun a W => (f a W).bind g := by cases o <;> rfl
theorem ofO_bind {α β γ : Type} (o : Option α) (f : α → Out β) (g : β → Dr → Out γ) : (ofO o f).bind g = ofO o fun a => (f a).bind g := by cases o <;> rfl
theorem Out.ok_bind {α β : Type} (a : α) (W : Dr) (f : α → Dr → Out β) : (Out.ok a W).bind f = f a W := rfl
theorem ite_bind {α β : Type} (b : Bool) (x y : Out α) (f : α → Dr → Out β) : (if b = true then x else y).bind f = if b = true then x.bind f else y.bind f := by cases b <;> rfl

def pick {α : Type} (is : List Nat) (xs : List α) : List α := is.filterMap fun i => xs[i]?
def lcGo (one : D → Dr → Out (Option Vl)) : List D → List D → List Nat → Dr → Out Vl
  | [], acc, t, W => .ok (vf (.lst acc) t) W
  | x :: xs, acc, t, W => match one x W with
    | .ok none W' => lcGo one xs acc t W'
    | .ok (some v) W' => if acc.length < cap then lcGo one xs (acc ++ [v.d]) (t ++ v.all) W' else .stk
    | _ => .stk
def dcGo (one : D → Dr → Out (Option (D × D))) : List D → List (D × D) → Dr → Out Vl
  | [], acc, W => .ok ⟨.dic false acc, .fr, []⟩ W
  | x :: xs, acc, W => match one x W with
    | .ok none W' => dcGo one xs acc W'
    | .ok (some p) W' => if p.1.keyOk false = true ∧ p.2.imm = true ∧ acc.length < cap then dcGo one xs (dPut acc p.1 p.2) W' else .stk
    | _ => .stk
structure Wk where
  xs : List D
  me : List Nat
  t : List Nat

mutual
/-- an expression -/
def ev : E → En → Dr → Out Vl
  | .var i, ρ, W => match ρ[i]? with
    | some (.val d) => .ok ⟨d, .pl, []⟩ W
    | some (.own d) => .ok ⟨d, .me i, []⟩ W
    | _ => .stk
  | .cst d, _, W => .ok ⟨d, .pl, []⟩ W
  | .gl d, _, W => .ok ⟨d, .pl, []⟩ W
  | .bin op a b, ρ, W => (ev a ρ W).bind fun x W => (ev b ρ W).bind fun y W => ofO (binD op x.d y.d) fun r => .ok (vo r (x.t ++ y.t)) W
  | .neg a, ρ, W => (ev a ρ W).bind fun x W => match x.d with
    | .int i => .ok ⟨.int (-i), .pl, []⟩ W
    | _ => .stk
  | .not a, ρ, W => (ev a ρ W).bind fun x W => ofO x.d.isBl fun b => .ok ⟨.bl (!b), .pl, []⟩ W
  | .cmp op a b, ρ, W => (ev a ρ W).bind fun x W => (ev b ρ W).bind fun y W => ofO (cmpD op x.d y.d) fun r => .ok ⟨.bl r, .pl, []⟩ W
  | .chn o1 o2 a b c, ρ, W => (ev a ρ W).bind fun x W => (ev b ρ W).bind fun y W => ofO (cmpD o1 x.d y.d) fun r =>
    if r then (ev c ρ W).bind fun z W => ofO (cmpD o2 y.d z.d) fun r => .ok ⟨.bl r, .pl, []⟩ W else .ok ⟨.bl false, .pl, []⟩ W
  | .and a b, ρ, W => (ev a ρ W).bind fun x W => ofO x.d.isBl fun c => if c then ev b ρ W else .ok ⟨.bl false, .pl, []⟩ W
  | .or a b, ρ, W => (ev a ρ W).bind fun x W => ofO x.d.isBl fun c => if c then .ok ⟨.bl true, .pl, []⟩ W else ev b ρ W
  | .ite c a b, ρ, W => (evT c ρ W).bind fun k W => if k then ev a ρ W else ev b ρ W
  | .tup xs, ρ, W => (evL xs ρ W).bind fun vs W => if vs.length ≤ cap then .ok (vl (.tup (ds vs)) (ts vs)) W else .stk
  | .lst xs, ρ, W => (evL xs ρ W).bind fun vs W => if vs.length ≤ cap then .ok (vf (.lst (ds vs)) (ts vs)) W else .stk
  | .ix a b, ρ, W => (ev a ρ W).bind fun x W => (ev b ρ W).bind fun y W => ofO (ixD x.d y.d) fun r => .ok (vl r x.t) W
  | .sl a lo hi, ρ, W => (ev a ρ W).bind fun x W => (evO lo ρ W).bind fun l W => (evO hi ρ W).bind fun h W => ofO (slD x.d l h) fun r => .ok (vo r x.t) W
  | .rev a, ρ, W => (ev a ρ W).bind fun x W => ofO (revD x.d) fun r => .ok (vo r x.t) W
  | .bi f args, ρ, W => (evL args ρ W).bind fun vs W => ofO (biD f (ds vs)) fun r => .ok (vo r (vs.flatMap (·.t))) W
  | .isi a tys, ρ, W => (ev a ρ W).bind fun x W => if x.d.typed then .ok ⟨.bl (tys.any (isD1 x.d)), .pl, []⟩ W else .stk
  | .call g args, ρ, W => (evL args ρ W).bind fun vs W => (g (ds vs) W).bind fun r W => .ok (vo r (ts vs)) W
  | .calv i tb args, ρ, W => match ρ[i]? with
    | some (.val (.fn f)) => match tb.lookup f with
      | some g => (evL args ρ W).bind fun vs W => (g (ds vs) W).bind fun r W => .ok (vo r (ts vs)) W
      | none => .stk
    | _ => .stk
  | .callk g m is args, ρ, W => (evL args ρ W).bind fun vs W => if vs.length = m then (g (pick is (ds vs)) W).bind fun r W => .ok (vo r (ts vs)) W else .stk
  | .attr a f, ρ, W => (ev a ρ W).bind fun x W => ofO (attrD x.d f) fun r => .ok (vl r x.t) W
  | .bm m a args, ρ, W => (ev a ρ W).bind fun x W => match x.d with
    | .lst xs => (evL args ρ W).bind fun vs W => ofO (bmD m (.lst xs) (ds vs)) fun r => .ok (vo r (x.t ++ ts vs)) W
    | _ => .stk
  | .mth m cl g a args, ρ, W => (ev a ρ W).bind fun x W => match x.d with
    | .ins n fs => if n = cl ∧ fs.lookup m = none then (evL args ρ W).bind fun vs W => (g (x.d :: ds vs) W).bind fun r W => .ok (vo r (ts (x :: vs))) W else .stk
    | _ => .stk
  | .op ck g a args, ρ, W => (ev a ρ W).bind fun x W => if ck x.d = true then (evL args ρ W).bind fun vs W => (g (x.d :: ds vs) W).bind fun r W => .ok (vo r (ts (x :: vs))) W else .stk
  | .drg k a, ρ, W => (ev a ρ W).bind fun x W => match x.d with
    | .drw => .ok ⟨.int (if k then W.turn else W.rest), .pl, []⟩ W
    | _ => .stk
  | .drc a, ρ, W => (ev a ρ W).bind fun x W => match x.d with
    | .drw => .ok ⟨.lst (W.cells.map .int), .pl, []⟩ W
    | _ => .stk
  | .drn a, ρ, W => (ev a ρ W).bind fun x W => match x.d with
    | .drw => .ok ⟨.bl (!W.wide.isEmpty), .pl, []⟩ W
    | _ => .stk
  | .drp a, ρ, W => (ev a ρ W).bind fun x W => match x.d, W.wide with
    | .drw, w :: ws => .ok ⟨.int w, .pl, []⟩ { W with wide := ws }
    | _, _ => .stk
  | .hand h a, ρ, W => h (ev a ρ W)
  | .caught a, ρ, W => match ev a ρ W with
    | .ok _ W' => .ok ⟨.non, .pl, []⟩ W'
    | .ex (.exc n fs) W' => .ok ⟨.exc n fs, .pl, []⟩ W'
    | _ => .stk
  | .lc elt pt src tst own, ρ, W => (evI src ρ W).bind fun p W => match p.t with
    | [] => lcGo (fun x W => ofO (bindP pt x (wip ρ own)) fun ρ' => (evA tst ρ' W).bind fun b W => if b then (ev elt ρ' W).bind fun v W => .ok (some v) W else .ok none W) p.xs [] [] W
    | _ => .stk
  | .dc kx vx pt src tst own, ρ, W => (evI src ρ W).bind fun p W => match p.t with
    | [] => dcGo (fun x W => ofO (bindP pt x (wip ρ own)) fun ρ' => (evA tst ρ' W).bind fun b W => if b then (ev kx ρ' W).bind fun k W => (ev vx ρ' W).bind fun v W => .ok (some (k.d, v.d)) W else .ok none W) p.xs [] W
    | _ => .stk
  | _, _, _ => .stk
/-- a test -/
def evT : E → En → Dr → Out Bool
  | .and a b, ρ, W => (evT a ρ W).bind fun c W => if c then evT b ρ W else .ok false W
  | .or a b, ρ, W => (evT a ρ W).bind fun c W => if c then .ok true W else evT b ρ W
  | .not a, ρ, W => (evT a ρ W).bind fun c W => .ok (!c) W
  | .tv a, ρ, W => (ev a ρ W).bind fun x W => ofO x.d.isBl fun c => .ok c W
  | _, _, _ => .stk
/-- all of some tests -/
def evA : E → En → Dr → Out Bool
  | .nil, _, W => .ok true W
  | .cons h t, ρ, W => (evT h ρ W).bind fun c W => if c then evA t ρ W else .ok false W
  | _, _, _ => .stk
/-- arguments -/
def evL : E → En → Dr → Out (List Vl)
  | .nil, _, W => .ok [] W
  | .cons h t, ρ, W => (ev h ρ W).bind fun x W => (evL t ρ W).bind fun xs W => .ok (x :: xs) W
  | .star h t, ρ, W => (ev h ρ W).bind fun x W => ofO x.d.seq fun ys => (evL t ρ W).bind fun xs W => .ok (ys.map (fun y => vl y x.t) ++ xs) W
  | _, _, _ => .stk
/-- a slice's part -/
def evO : E → En → Dr → Out (Option Int)
  | .no, _, W => .ok none W
  | .pt a, ρ, W => (ev a ρ W).bind fun x W => match x.d with
    | .int i => .ok (some i) W
    | _ => .stk
  | _, _, _ => .stk
/-- what is walked -/
def evI : E → En → Dr → Out Wk
  | .rng args, ρ, W => (evL args ρ W).bind fun vs W => ofO (rngD (ds vs)) fun xs => .ok ⟨xs, [], []⟩ W
  | .enu a, ρ, W => (ev a ρ W).bind fun x W => ofO x.d.seq fun xs => .ok ⟨enuD 0 xs, x.all, x.t⟩ W
  | .zip a b, ρ, W => (ev a ρ W).bind fun x W => (ev b ρ W).bind fun y W => ofO (zipK x.d y.d) fun p => .ok ⟨zipD p.1 p.2, x.all ++ y.all, x.t ++ y.t⟩ W
  | .items a, ρ, W => (ev a ρ W).bind fun x W => match x.d with
    | .dic _ kvs => .ok ⟨kvs.map fun p => .tup [p.1, p.2], x.all, x.t⟩ W
    | _ => .stk
  | .wk a, ρ, W => (ev a ρ W).bind fun x W => ofO x.d.items fun xs => .ok ⟨xs, x.all, x.t⟩ W
  | _, _, _ => .stk
end

inductive S where
  | skip
  | seq (a b : S)
  | asg (i : Nat) (e : E)
  | unp (is : List Nat) (e : E)
  | par (is : List Nat) (e : E)
  | aug (i : Nat) (op : Operator) (e : E)
  | setix (i : Nat) (k e : E)
  | setk (i : Nat) (k e : E)
  | app (i : Nat) (e : E)
  | popa (j i : Nat) (args : E)
  | popp (j i : Nat) (args : E)
  | fld (i : Nat) (f : Str) (e : E)
  | drs (k : Bool) (i : Nat) (e : E)
  | expr (e : E)
  | ret (e : E)
  | retn
  | iff (c : E) (a b : S)
  | for (pt : Pat) (src : E) (b : S)
  | whl (c : E) (b : S)
  | brk
  | cont
  | raise (c : Str) (f : List Str) (args : E)
  | bad
  | kl (is : List Nat) (b : S) (js : List Nat)
  | cpp (i j : Nat) (e : E)
  | cpl (i j : Nat) (e : E)
  | cpa (i j : Nat) (e : E)
  | tapp (e a : E)
  | tclr (e : E)

inductive SOut where
  | nx (ρ : En) (W : Dr)
  | bk (ρ : En) (W : Dr)
  | ct (ρ : En) (W : Dr)
  | rt (v : Vl) (ρ : En) (W : Dr)
  | ex (x : D) (ρ : En) (W : Dr)
  | stk

def Out.st {α : Type} (o : Out α) (ρ : En) (f : α → Dr → SOut) : SOut := match o with
  | .ok a W => f a W
  | .ex x W => .ex x ρ W
  | .stk => .stk
def ofS {α : Type} (o : Option α) (f : α → SOut) : SOut := match o with
  | some a => f a
  | none => .stk
def forGo (f : D → En → Dr → SOut) : List D → En → Dr → SOut
  | [], ρ, W => .nx ρ W
  | x :: xs, ρ, W => match f x ρ W with
    | .nx ρ' W' => forGo f xs ρ' W'
    | .ct ρ' W' => forGo f xs ρ' W'
    | .bk ρ' W' => .nx ρ' W'
    | o => o
def whlGo (c : En → Dr → Out Bool) (f : En → Dr → SOut) : Nat → En → Dr → SOut
  | 0, _, _ => .stk
  | n + 1, ρ, W => (c ρ W).st ρ fun b W => if b then (match f ρ W with
    | .nx ρ' W' => whlGo c f n ρ' W'
    | .ct ρ' W' => whlGo c f n ρ' W'
    | .bk ρ' W' => .nx ρ' W'
    | o => o) else .nx ρ W
def setD (o k d : D) : Option D := match o, k with
  | .lst xs, .int i => (ixOf xs.length i).map fun j => .lst (xs.set j d)
  | .dic t kvs, k => if k.keyOk t = true ∧ kvs.length < cap then some (.dic t (dPut kvs k d)) else none
  | _, _ => none
def popD (xs : List D) : List D → Option (D × List D)
  | [] => match xs[xs.length - 1]? with
    | some y => some (y, xs.dropLast)
    | none => none
  | [.int i] => if -(big (2 ^ 63)) ≤ i ∧ i < big (2 ^ 63) then match ixOf xs.length i with
      | some k => (xs[k]?).map fun y => (y, xs.eraseIdx k)
      | none => none
    else none
  | _ => none
def putAll (ρ : En) : List Nat → List Vl → En
  | i :: is, v :: vs => putAll ((ρ.set i (if v.isFr then .own v.d else .val v.d))) is vs
  | _, _ => ρ

def putFD (f : Str) (v : D) : List (Str × D) → List (Str × D)
  | [] => [(f, v)]
  | (g, x) :: r => if g = f then (g, v) :: r else (g, x) :: putFD f v r
def SOut.wp (js : List Nat) : SOut → SOut
  | .nx ρ W => .nx (wip ρ js) W
  | .bk ρ W => .bk (wip ρ js) W
  | .ct ρ W => .ct (wip ρ js) W
  | .rt v ρ W => .rt v ρ W
  | .ex x ρ W => .ex x ρ W
  | .stk => .stk
def evS (fu : Nat) : S → En → Dr → SOut
  | .skip, ρ, W => .nx ρ W
  | .seq a b, ρ, W => match evS fu a ρ W with
    | .nx ρ' W' => evS fu b ρ' W'
    | o => o
  | .asg i e, ρ, W => (ev e ρ W).st ρ fun v W => .nx (put ρ i v) W
  | .unp is e, ρ, W => (ev e ρ W).st ρ fun v W => match v.d with
    | .tup xs => if xs.length = is.length then .nx (sets (frz ρ v.all) is xs) W else .stk
    | _ => .stk
  | .par is e, ρ, W => (evL e ρ W).st ρ fun vs W => if vs.length = is.length ∧ is.Nodup then .nx (putAll (frz ρ (ts vs)) is vs) W else .stk
  | .aug i op e, ρ, W => match ρ[i]? with
    | some (.val (.int x)) => (ev e ρ W).st ρ fun v W => match v.d with
      | .int y => match binD op (.int x) (.int y) with
        | some (_, .int z) => .nx (ρ.set i (.val (.int z))) W
        | _ => .stk
      | _ => .stk
    | _ => .stk
  | .setix i k e, ρ, W => match ρ[i]? with
    | some (.own (.lst _)) => (ev e ρ W).st ρ fun v W => (ev k ρ W).st ρ fun n W => match (frz ρ (v.all ++ n.all))[i]?, n.d with
      | some (.own (.lst xs)), .int m => ofS (ixOf xs.length m) fun j => .nx ((frz ρ (v.all ++ n.all)).set i (.own (.lst (xs.set j v.d)))) W
      | _, _ => .stk
    | _ => .stk
  | .setk i k e, ρ, W => match ρ[i]? with
    | some (.own (.dic _ _)) => (ev e ρ W).st ρ fun v W => (ev k ρ W).st ρ fun n W => match (frz ρ (v.all ++ n.all))[i]? with
      | some (.own (.dic t kvs)) => if n.d.keyOk t = true ∧ kvs.length < cap then .nx ((frz ρ (v.all ++ n.all)).set i (.own (.dic t (dPut kvs n.d v.d)))) W else .stk
      | _ => .stk
    | _ => .stk
  | .app i e, ρ, W => match ρ[i]? with
    | some (.own (.lst _)) => (ev e ρ W).st ρ fun v W => match (frz ρ v.all)[i]? with
      | some (.own (.lst xs)) => if xs.length < cap then .nx ((frz ρ v.all).set i (.own (.lst (xs ++ [v.d])))) W else .stk
      | _ => .stk
    | _ => .stk
  | .popa j i args, ρ, W => match ρ[i]? with
    | some (.own (.lst xs)) => (evL args ρ W).st ρ fun vs W => ofS (popD xs (ds vs)) fun p => .nx ((ρ.set i (.own (.lst p.2))).set j (.val p.1)) W
    | _ => .stk
  | .popp j i args, ρ, W => match ρ[i]?, ρ[j]? with
    | some (.own (.lst xs)), some (.own (.lst ys)) => (evL args ρ W).st ρ fun vs W => if i = j then .stk else ofS (popD xs (ds vs)) fun p => if ys.length < cap then .nx ((ρ.set i (.own (.lst p.2))).set j (.own (.lst (ys ++ [p.1])))) W else .stk
    | _, _ => .stk
  | .fld i f e, ρ, W => match ρ[i]? with
    | some (.slf _ _ _) => (ev e ρ W).st ρ fun v W => match (frz ρ v.all)[i]? with
      | some (.slf p n fs) => if fs.length < 1000 ∧ (((frz ρ v.all).set i .un).all Sl.noSlf) = true then .nx ((frz ρ v.all).set i (.slf p n (putFD f v.d fs))) W else .stk
      | _ => .stk
    | _ => .stk
  | .drs k i e, ρ, W => (ev e ρ W).st ρ fun v W => match ρ[i]?, v.d with
    | some (.val .drw), .int j => .nx ρ (if k then { W with turn := j } else { W with rest := j })
    | _, _ => .stk
  | .expr e, ρ, W => (ev e ρ W).st ρ fun _ W => .nx ρ W
  | .ret e, ρ, W => (ev e ρ W).st ρ fun v W => .rt v ρ W
  | .retn, ρ, W => .rt ⟨.non, .pl, []⟩ ρ W
  | .iff c a b, ρ, W => (evT c ρ W).st ρ fun k W => if k then evS fu a ρ W else evS fu b ρ W
  | .for pt src b, ρ, W => (evI src ρ W).st ρ fun p W => forGo (fun x ρ W => ofS (bindP pt x ρ) fun ρ' => evS fu b ρ' W) p.xs (frz ρ (p.me ++ p.t)) W
  | .whl c b, ρ, W => whlGo (evT c) (evS fu b) fu ρ W
  | .brk, ρ, W => .bk ρ W
  | .cont, ρ, W => .ct ρ W
  | .bad, _, _ => .stk
  | .kl is b js, ρ, W => (evS fu b (wip ρ is) W).wp js
  | .cpp i j e, ρ, W => match ρ[i]? with
    | some (.own (.lst xs)) => match ev e ρ W with
      | .ok v W' => if v.k = .pl ∧ v.t = [] ∧ xs.length < cap then .nx ((ρ.set i (.own (.lst (xs ++ [v.d])))).set j (.val .non)) W' else .stk
      | .ex (.exc n fs) W' => .nx (ρ.set j (.val (.exc n fs))) W'
      | _ => .stk
    | _ => .stk
  | .cpl i j e, ρ, W => match ρ[i]? with
    | some (.own (.lst xs)) => match ev e ρ W with
      | .ok v W' => if v.k = .pl ∧ v.t = [] ∧ xs.length < cap then .nx ((ρ.set i (.own (.lst (xs ++ [v.d])))).set j (.own (.lst [.non]))) W' else .stk
      | .ex (.exc n fs) W' => .nx (ρ.set j (.own (.lst [.exc n fs]))) W'
      | _ => .stk
    | _ => .stk
  | .cpa i j e, ρ, W => match ρ[i]?, ρ[j]? with
    | some (.own (.lst xs)), some (.own (.lst ys)) => if ys.length < cap ∧ i ≠ j then match ev e ρ W with
      | .ok v W' => if v.k = .pl ∧ v.t = [] ∧ xs.length < cap then .nx ((ρ.set i (.own (.lst (xs ++ [v.d])))).set j (.own (.lst (ys ++ [.non])))) W' else .stk
      | .ex (.exc n fs) W' => .nx (ρ.set j (.own (.lst (ys ++ [.exc n fs])))) W'
      | _ => .stk
      else .stk
    | _, _ => .stk
  | .tapp e a, ρ, W => (ev e ρ W).st ρ fun v W => match v.k, v.d with
    | .fr, .lst xs => if xs.length < cap then (ev a ρ W).st ρ fun _ W => .nx ρ W else .stk
    | _, _ => .stk
  | .tclr e, ρ, W => (ev e ρ W).st ρ fun v W => match v.k, v.d with
    | .fr, .lst _ => .nx ρ W
    | _, _ => .stk
  | .raise c f args, ρ, W => (evL args ρ W).st ρ fun vs W => match f with
    | [] => .ex (.exc c []) ρ W
    | _ => if vs.length = f.length ∧ D.immF (f.zip (ds vs)) = true then .ex (.exc c (f.zip (ds vs))) ρ W else .stk

def run (fu N ps : Nat) (b : S) : G := fun xs W =>
  if xs.length = ps then match evS fu b (xs.map .val ++ List.replicate (N - ps) .un) W with
    | .nx _ W' => .ok (false, .non) W'
    | .rt v _ W' => match v.k with
      | .pl => .ok (false, v.d) W'
      | _ => .ok (true, v.d) W'
    | .ex x _ W' => .ex x W'
    | _ => .stk
  else .stk
def runC (fu N ps p : Nat) (nm : Str) (b : S) : G := fun xs W =>
  if xs.length + 1 = ps then match evS fu b (.slf p nm [] :: (xs.map .val ++ List.replicate (N - ps) .un)) W with
    | .nx ρ W' => match (ρ[(0 : Nat)]? : Option Sl) with
      | some (.slf q n fs) => if q = p then .ok (false, .ins n fs) W' else .stk
      | _ => .stk
    | .ex x _ W' => .ex x W'
    | _ => .stk
  else .stk
end
end Z

namespace Z
open PySem PySem.Spec PyProof.Rows L2
open Classical

structure Pm where
  K : PySem.W.Frag
  ca : Str → Option Addr
  cx : Str → Option Addr
  dl : List Addr
  d2 : Addr
  tb : List (Addr × Str) := []
def Pm.mv (c : Pm) : List Addr := c.dl ++ c.tb.map (·.1)

def XO (cls : Value) (d : Option Addr) (a : Addr) : HO := .ext fun h => ∃ (oe : Obj) (vs : Array Value), h.get? a = some oe ∧ Zc cls d oe ∧ oe.data = .fields vs
def SqS (K : PySem.W.Frag) (F : Hp) (a : Addr) (vs : List V) : Prop := (∃ o, F a = some (.frz o (.lst vs))) ∨ F a = some (.lst vs) ∨ ∀ H, SqL K H a vs
theorem SqS.seq {K : PySem.W.Frag} {F H : Hp} {a : Addr} {vs : List V} (s : Same F H) (h : SqS K F a vs) : SqL K H a vs := by
  rcases h with ⟨o, h⟩ | h | h
  · exact .inl (.inr ⟨o, s _ _ h⟩)
  · exact .inl (.inl (s _ _ h))
  · exact h H
theorem SqS.mono {K : PySem.W.Frag} {F H : Hp} {a : Addr} {vs : List V} (s : Same F H) (h : SqS K F a vs) : SqS K H a vs := by
  rcases h with ⟨o, h⟩ | h | h
  · exact .inl ⟨o, s _ _ h⟩
  · exact .inr (.inl (s _ _ h))
  · exact .inr (.inr h)
def Nt (o : HO) : Prop := ∀ ps, o ≠ .tbl ps
def Ob (o : HO) : Prop := Nt o ∧ ∀ xs, o ≠ .tup xs
def Thr (H : Hp) (a : Addr) : Prop := ∃ o, H a = some o ∧ Ob o
abbrev Nil (H : Hp) (a : Addr) : Prop := ¬ Thr H a
theorem Nil.of {H : Hp} {a : Addr} (h : H a = none) : Nil H a := fun ⟨o, e, _⟩ => by rw [h] at e; cases e
theorem Nil.no {H : Hp} {a : Addr} {o : HO} (h : Nil H a) (e : H a = some o) (n : Ob o) : False := h ⟨o, e, n⟩
theorem nt_lst {xs : List V} : Nt (.lst xs) := fun _ h => by cases h
theorem nt_tup {xs : List V} : Nt (.tup xs) := fun _ h => by cases h
theorem nt_ins {C dx : Addr} {fs : List (Str × V)} : Nt (.ins C dx fs) := fun _ h => by cases h
theorem nt_dK {kvs : List (Key × V)} : Nt (.dK kvs) := fun _ h => by cases h
theorem ob_lst {xs : List V} : Ob (.lst xs) := ⟨nt_lst, fun _ h => by cases h⟩
theorem ob_ins {C dx : Addr} {fs : List (Str × V)} : Ob (.ins C dx fs) := ⟨nt_ins, fun _ h => by cases h⟩
theorem ob_dK {kvs : List (Key × V)} : Ob (.dK kvs) := ⟨nt_dK, fun _ h => by cases h⟩
theorem Thr.lst {H : Hp} {a : Addr} {xs : List V} (h : H a = some (.lst xs)) : Thr H a := ⟨_, h, ob_lst⟩
theorem Thr.ins {H : Hp} {a C dx : Addr} {fs : List (Str × V)} (h : H a = some (.ins C dx fs)) : Thr H a := ⟨_, h, ob_ins⟩
theorem Thr.dK {H : Hp} {a : Addr} {kvs : List (Key × V)} (h : H a = some (.dK kvs)) : Thr H a := ⟨_, h, ob_dK⟩
def keyD : Key → D
  | .inl i => .int i
  | .inr x => .str x
mutual
inductive Rep (c : Pm) (F : Hp) : V → D → Prop
  | non : Rep c F .non .non
  | bl (b : Bool) : Rep c F (.bl b) (.bl b)
  | int (i : Int) : Rep c F (.int i) (.int i)
  | str (x : Str) : Rep c F (.str x) (.str x)
  | tup {a : Addr} {vs : List V} {xs : List D} : F a = some (.tup vs) → RepL c F vs xs → Rep c F (.ref a) (.tup xs)
  | lst {a : Addr} {vs : List V} {xs : List D} : F a = some (.lst vs) → RepL c F vs xs → Rep c F (.ref a) (.lst xs)
  | ins {a C dx : Addr} {n : Str} {gs : List (Str × V)} {fs : List (Str × D)} : F a = some (.ins C dx gs) → c.ca n = some C → RepF c F gs fs → Rep c F (.ref a) (.ins n fs)
  | drw {a : Addr} : c.dl.head? = some a → Rep c F (.ref a) .drw
  | scr {a : Addr} {ns : List Int} : SqS c.K F a (ns.map V.int) → Rep c F (.ref a) (.scr ns)
  | dicK {a : Addr} {ks : List (Key × V)} {kvs : List (D × D)} : Rd F a (.dK ks) → kvs.map (·.1) = ks.map (fun q => keyD q.1) → RepL c F (ks.map (·.2)) (kvs.map (·.2)) → Rep c F (.ref a) (.dic false kvs)
  | dicT {a : Addr} {ks : List (List Key × V)} {kvs : List (D × D)} : Rd F a (.dT ks) → kvs.map (·.1) = ks.map (fun q => .tup (q.1.map keyD)) → RepL c F (ks.map (·.2)) (kvs.map (·.2)) → Rep c F (.ref a) (.dic true kvs)
  | fn {f : Str} : Rep c F (.ref (He.ga c.K f)) (.fn f)
  | exc0 {a C : Addr} {n : Str} : F a = some (XO (.ref C) none a) → c.cx n = some C → Rep c F (.ref a) (.exc n [])
  | exc1 {a C dd : Addr} {n : Str} {gs : List (Str × V)} {fs : List (Str × D)} : F a = some (XO (.ref C) (some dd) a) → c.cx n = some C → F dd = some (.xd gs) → RepF c F gs fs → fs ≠ [] → Rep c F (.ref a) (.exc n fs)
inductive RepL (c : Pm) (F : Hp) : List V → List D → Prop
  | nil : RepL c F [] []
  | cons {v : V} {vs : List V} {x : D} {xs : List D} : Rep c F v x → RepL c F vs xs → RepL c F (v :: vs) (x :: xs)
inductive RepF (c : Pm) (F : Hp) : List (Str × V) → List (Str × D) → Prop
  | nil : RepF c F [] []
  | cons {f : Str} {v : V} {gs : List (Str × V)} {x : D} {fs : List (Str × D)} : Rep c F v x → RepF c F gs fs → RepF c F ((f, v) :: gs) ((f, x) :: fs)
end

theorem Same.sqT {K : PySem.W.Frag} {H H' : Hp} {a : Addr} {xs : List V} (e : Same H H') (h : SqT K H a xs) : SqT K H' a xs := by
  rcases h with (h | ⟨o, h⟩) | h
  · exact .inl (.inl (e _ _ h))
  · exact .inl (.inr ⟨o, e _ _ h⟩)
  · exact .inr h

theorem Rd.mono {F F' : Hp} {a : Addr} {u : HO} (e : Same F F') (h : Rd F a u) : Rd F' a u := h.elim (fun h => .inl (e _ _ h)) fun ⟨o, h⟩ => .inr ⟨o, e _ _ h⟩
section
variable {c : Pm} {F F' : Hp}
mutual
theorem Rep.mono (e : Same F F') : ∀ {v : V} {x : D}, Rep c F v x → Rep c F' v x
  | _, _, .non => .non
  | _, _, .bl b => .bl b
  | _, _, .int b => .int b
  | _, _, .str b => .str b
  | _, _, .tup h r => .tup (e _ _ h) (RepL.mono e r)
  | _, _, .lst h r => .lst (e _ _ h) (RepL.mono e r)
  | _, _, .ins h k r => .ins (e _ _ h) k (RepF.mono e r)
  | _, _, .drw h => .drw h
  | _, _, .scr h => .scr (SqS.mono e h)
  | _, _, .dicK h k r => .dicK (Rd.mono e h) k (RepL.mono e r)
  | _, _, .dicT h k r => .dicT (Rd.mono e h) k (RepL.mono e r)
  | _, _, .fn => .fn
  | _, _, .exc0 h k => .exc0 (e _ _ h) k
  | _, _, .exc1 h k q r n => .exc1 (e _ _ h) k (e _ _ q) (RepF.mono e r) n
theorem RepL.mono (e : Same F F') : ∀ {v : List V} {x : List D}, RepL c F v x → RepL c F' v x
  | _, _, .nil => .nil
  | _, _, .cons h r => .cons (Rep.mono e h) (RepL.mono e r)
theorem RepF.mono (e : Same F F') : ∀ {v : List (Str × V)} {x : List (Str × D)}, RepF c F v x → RepF c F' v x
  | _, _, .nil => .nil
  | _, _, .cons h r => .cons (Rep.mono e h) (RepF.mono e r)
end
theorem RepL.length : ∀ {vs : List V} {xs : List D}, RepL c F vs xs → vs.length = xs.length
  | _, _, .nil => rfl
  | _, _, .cons _ r => by rw [List.length_cons, List.length_cons, RepL.length r]
theorem RepL.get : ∀ {vs : List V} {xs : List D} {i : Nat} {x : D}, RepL c F vs xs → xs[i]? = some x → ∃ v, vs[i]? = some v ∧ Rep c F v x
  | _, _, i, _, .nil, e => by simp at e
  | _, _, 0, _, .cons h r, e => ⟨_, rfl, by simp at e; subst e; exact h⟩
  | _, _, i + 1, _, .cons h r, e => by simpa using RepL.get (i := i) r (by simpa using e)
theorem RepL.append : ∀ {vs ws : List V} {xs ys : List D}, RepL c F vs xs → RepL c F ws ys → RepL c F (vs ++ ws) (xs ++ ys)
  | _, _, _, _, .nil, s => s
  | _, _, _, _, .cons h r, s => .cons h (RepL.append r s)
theorem RepL.take : ∀ {vs : List V} {xs : List D} (n : Nat), RepL c F vs xs → RepL c F (vs.take n) (xs.take n)
  | _, _, 0, _ => .nil
  | _, _, _ + 1, .nil => .nil
  | _, _, n + 1, .cons h r => .cons h (RepL.take n r)
theorem RepL.drop : ∀ {vs : List V} {xs : List D} (n : Nat), RepL c F vs xs → RepL c F (vs.drop n) (xs.drop n)
  | _, _, 0, r => r
  | _, _, _ + 1, .nil => .nil
  | _, _, n + 1, .cons _ r => RepL.drop n r
theorem RepL.set {v : V} {x : D} (h : Rep c F v x) : ∀ {vs : List V} {xs : List D} (i : Nat), RepL c F vs xs → RepL c F (vs.set i v) (xs.set i x)
  | _, _, _, .nil => .nil
  | _, _, 0, .cons _ r => .cons h r
  | _, _, i + 1, .cons k r => .cons k (RepL.set h i r)
theorem RepL.reverse {vs : List V} {xs : List D} (h : RepL c F vs xs) : RepL c F vs.reverse xs.reverse := by
  induction h using RepL.rec (motive_1 := fun _ _ _ => True) (motive_3 := fun _ _ _ => True) with
  | nil => exact .nil
  | cons h r _ ih => rw [List.reverse_cons, List.reverse_cons]; exact RepL.append ih (.cons h .nil)
  | _ => trivial
theorem RepF.look : ∀ {gs : List (Str × V)} {fs : List (Str × D)} {f : Str} {x : D}, RepF c F gs fs → fs.lookup f = some x → ∃ v, gs.lookup f = some v ∧ Rep c F v x
  | _, _, f, x, .nil, e => by simp at e
  | _, _, f, x, .cons (f := g) h r, e => by
    by_cases hg : f == g
    · rw [List.lookup_cons, hg] at e
      have e' := Option.some.inj e
      exact ⟨_, by rw [List.lookup_cons, hg], e' ▸ h⟩
    · have hg' : (f == g) = false := by simpa using hg
      rw [List.lookup_cons, hg'] at e
      obtain ⟨v, h1, h2⟩ := RepF.look r e
      exact ⟨v, by rw [List.lookup_cons, hg']; exact h1, h2⟩
theorem RepF.lookN : ∀ {gs : List (Str × V)} {fs : List (Str × D)} {f : Str}, RepF c F gs fs → fs.lookup f = none → gs.lookup f = none
  | _, _, f, .nil, e => rfl
  | _, _, f, .cons (f := g) h r, e => by
    by_cases hg : f == g
    · rw [List.lookup_cons, hg] at e; cases e
    · have hg' : (f == g) = false := by simpa using hg
      rw [List.lookup_cons, hg'] at e ⊢
      exact RepF.lookN r e

def Soft (F : Hp) (a : Addr) : Prop := F a = none ∨ (∃ xs, F a = some (.lst xs)) ∨ (∃ xs, F a = some (.dK xs)) ∨ (∃ xs, F a = some (.dT xs))
theorem Soft.nt {a : Addr} (h : Soft F a) {o : HO} (e : F a = some o) : Nt o := by
  rcases h with q | ⟨xs, q⟩ | ⟨xs, q⟩ | ⟨xs, q⟩ <;> rw [e] at q <;> cases q <;> exact fun _ h => by cases h
theorem Soft.ob {a : Addr} (h : Soft F a) {o : HO} (e : F a = some o) : Ob o := by
  rcases h with q | ⟨xs, q⟩ | ⟨xs, q⟩ | ⟨xs, q⟩ <;> rw [e] at q <;> cases q <;> exact ⟨fun _ => HO.noConfusion, fun _ => HO.noConfusion⟩
theorem Soft.thr {a : Addr} (h : Soft F a) (e : F a ≠ none) : Thr F a := by
  cases q : F a with
  | none => exact absurd q e
  | some o => exact ⟨o, q, h.ob q⟩
theorem Soft.sqT {A : Addr → Prop} (hA : ∀ a, A a → Soft F a) (hF : ∀ a, ¬ A a → F' a = F a) {a : Addr} {vs : List V} (h : SqT c.K F a vs) : SqT c.K F' a vs := by
  rcases h with (h | ⟨o, h⟩) | h
  · refine .inl (.inl ?_)
    rw [hF a fun z => ?_]; exact h
    rcases hA a z with q | ⟨xs, q⟩ | ⟨xs, q⟩ | ⟨xs, q⟩ <;> rw [h] at q <;> cases q
  · refine .inl (.inr ⟨o, ?_⟩)
    rw [hF a fun z => ?_]; exact h
    rcases hA a z with q | ⟨xs, q⟩ | ⟨xs, q⟩ | ⟨xs, q⟩ <;> rw [h] at q <;> cases q
  · exact .inr h
mutual
theorem Rep.soft {A : Addr → Prop} (hA : ∀ a, A a → Soft F a) (hF : ∀ a, ¬ A a → F' a = F a) : ∀ {v : V} {x : D}, Rep c F v x → x.imm = true → Rep c F' v x
  | _, _, .non, _ => .non
  | _, _, .bl b, _ => .bl b
  | _, _, .int b, _ => .int b
  | _, _, .str b, _ => .str b
  | _, _, .tup (a := a) h r, m => by
    have q : ¬ A a := fun z => by
      rcases hA a z with q | ⟨xs, q⟩ | ⟨xs, q⟩ | ⟨xs, q⟩ <;> rw [h] at q <;> cases q
    exact .tup ((hF a q).trans h) (RepL.soft hA hF r (by simpa only [D.imm] using m))
  | _, _, .lst h r, m => by simp [D.imm] at m
  | _, _, .ins (a := a) h k r, m => by
    have q : ¬ A a := fun z => by
      rcases hA a z with q | ⟨xs, q⟩ | ⟨xs, q⟩ | ⟨xs, q⟩ <;> rw [h] at q <;> cases q
    exact .ins ((hF a q).trans h) k (RepF.soft hA hF r (by simpa only [D.imm] using m))
  | _, _, .drw h, _ => .drw h
  | _, _, .scr h, m => by simp [D.imm] at m
  | _, _, .dicK h k r, m => by simp [D.imm] at m
  | _, _, .dicT h k r, m => by simp [D.imm] at m
  | _, _, .fn, _ => .fn
  | _, _, .exc0 h k, m => by simp [D.imm] at m
  | _, _, .exc1 h k q r n, m => by simp [D.imm] at m
theorem RepL.soft {A : Addr → Prop} (hA : ∀ a, A a → Soft F a) (hF : ∀ a, ¬ A a → F' a = F a) : ∀ {v : List V} {x : List D}, RepL c F v x → D.immL x = true → RepL c F' v x
  | _, _, .nil, _ => .nil
  | _, _, .cons h r, m => by
    simp only [D.immL, Bool.and_eq_true] at m
    exact .cons (Rep.soft hA hF h m.1) (RepL.soft hA hF r m.2)
theorem RepF.soft {A : Addr → Prop} (hA : ∀ a, A a → Soft F a) (hF : ∀ a, ¬ A a → F' a = F a) : ∀ {v : List (Str × V)} {x : List (Str × D)}, RepF c F v x → D.immF x = true → RepF c F' v x
  | _, _, .nil, _ => .nil
  | _, _, .cons h r, m => by
    simp only [D.immF, Bool.and_eq_true] at m
    exact .cons (Rep.soft hA hF h m.1) (RepF.soft hA hF r m.2)
end
end

def OwnAt (c : Pm) (F H : Hp) (p : Addr) (x : D) : Prop := match x with
  | .lst xs => ∃ vs, H p = some (.lst vs) ∧ RepL c F vs xs
  | .dic false kvs => ∃ ks : List (Key × V), H p = some (.dK ks) ∧ kvs.map (·.1) = ks.map (fun q => keyD q.1) ∧ RepL c F (ks.map (·.2)) (kvs.map (·.2))
  | .dic true kvs => ∃ ks : List (List Key × V), H p = some (.dT ks) ∧ kvs.map (·.1) = ks.map (fun q => .tup (q.1.map keyD)) ∧ RepL c F (ks.map (·.2)) (kvs.map (·.2))
  | _ => False
theorem OwnAt.obj {c : Pm} {F H : Hp} {p : Addr} {x : D} (h : OwnAt c F H p x) : (∃ vs, H p = some (.lst vs)) ∨ (∃ ks, H p = some (.dK ks)) ∨ ∃ ks, H p = some (.dT ks) := by
  cases x <;> try exact h.elim
  · obtain ⟨vs, h1, h2⟩ := h
    exact .inl ⟨_, h1⟩
  · rename_i t kvs
    cases t
    · obtain ⟨vs, h1, h2⟩ := h
      exact .inr (.inl ⟨_, h1⟩)
    · obtain ⟨vs, h1, h2⟩ := h
      exact .inr (.inr ⟨_, h1⟩)
theorem OwnAt.mono {c : Pm} {F F' H H' : Hp} {p : Addr} {x : D} (h : OwnAt c F H p x) (e : Same F F') (eh : ∀ o, H p = some o → H' p = some o) : OwnAt c F' H' p x := by
  cases x <;> try exact h
  · obtain ⟨vs, h1, h2⟩ := h
    exact ⟨vs, eh _ h1, h2.mono e⟩
  · rename_i t kvs
    cases t
    · obtain ⟨vs, h1, h2, h3⟩ := h
      exact ⟨vs, eh _ h1, h2, h3.mono e⟩
    · obtain ⟨vs, h1, h2, h3⟩ := h
      exact ⟨vs, eh _ h1, h2, h3.mono e⟩
theorem nt_dT {kvs : List (List Key × V)} : Nt (.dT kvs) := fun _ h => by cases h
theorem ob_dT {kvs : List (List Key × V)} : Ob (.dT kvs) := ⟨nt_dT, fun _ h => by cases h⟩
theorem OwnAt.thr {c : Pm} {F H : Hp} {p : Addr} {x : D} (h : OwnAt c F H p x) : Thr H p := by
  rcases h.obj with ⟨_, q⟩ | ⟨_, q⟩ | ⟨_, q⟩
  · exact .lst q
  · exact .dK q
  · exact ⟨_, q, ob_dT⟩
theorem OwnAt.ntl {c : Pm} {F H : Hp} {p : Addr} {x : D} (h : OwnAt c F H p x) {o : HO} (e : H p = .some o) : Nt o := by
  obtain ⟨o', e', n⟩ := h.thr
  rw [e] at e'
  cases e'
  exact n.1
theorem OwnAt.some {c : Pm} {F H : Hp} {p : Addr} {x : D} (h : OwnAt c F H p x) : H p ≠ none := fun z => Nil.of z h.thr
theorem OwnAt.softH {c : Pm} {F H : Hp} {p : Addr} {x : D} (h : OwnAt c F H p x) : Soft H p := by
  rcases h.obj with q | q | q
  · exact .inr (.inl q)
  · exact .inr (.inr (.inl q))
  · exact .inr (.inr (.inr q))
theorem OwnAt.rep {c : Pm} {F F' H : Hp} {p : Addr} {x : D} (h : OwnAt c F H p x) (e : Same F F') (hp : F' p = H p) : Rep c F' (.ref p) x := by
  cases x <;> try exact h.elim
  · obtain ⟨vs, h1, h2⟩ := h
    exact .lst (hp.trans h1) (h2.mono e)
  · rename_i t kvs
    cases t
    · obtain ⟨vs, h1, h2, h3⟩ := h
      exact .dicK (.inl (hp.trans h1)) h2 (h3.mono e)
    · obtain ⟨vs, h1, h2, h3⟩ := h
      exact .dicT (.inl (hp.trans h1)) h2 (h3.mono e)
theorem immV_snd : ∀ {kvs : List (D × D)}, immV kvs = true → D.immL (kvs.map (·.2)) = true
  | [], _ => rfl
  | (k, v) :: r, h => by
    simp only [immV, Bool.and_eq_true] at h
    simp only [List.map_cons, D.immL, Bool.and_eq_true]
    exact ⟨h.1.2, immV_snd h.2⟩
theorem OwnAt.soft {c : Pm} {F F' H : Hp} {p : Addr} {x : D} {A : Addr → Prop} (hA : ∀ a, A a → Soft F a) (hF : ∀ a, ¬ A a → F' a = F a) (h : OwnAt c F H p x) (m : x.kids = true) : OwnAt c F' H p x := by
  cases x <;> try exact h.elim
  · obtain ⟨vs, h1, h2⟩ := h
    exact ⟨vs, h1, h2.soft hA hF (by simpa only [D.kids] using m)⟩
  · rename_i t kvs
    simp only [D.kids] at m
    cases t
    · obtain ⟨vs, h1, h2, h3⟩ := h
      exact ⟨vs, h1, h2, h3.soft hA hF (immV_snd m)⟩
    · obtain ⟨vs, h1, h2, h3⟩ := h
      exact ⟨vs, h1, h2, h3.soft hA hF (immV_snd m)⟩

def drK (W : Dr) (a1 a2 : Addr) : List (Key × V) := [(Sum.inr "wide", .ref a1), (Sum.inr "cells", .ref a2), (Sum.inr "rest", .int W.rest), (Sum.inr "turn", .int W.turn)]
def DrawAt (c : Pm) (W : Dr) (H : Hp) : Prop := c.dl = [] ∨ ∃ a0 a1, c.dl = [a0, a1] ∧ a0 ≠ a1 ∧ H a0 = some (.dK (drK W a1 c.d2)) ∧ H a1 = some (.lst (W.wide.map .int))
theorem DrawAt.nt {c : Pm} {W : Dr} {H : Hp} (h : DrawAt c W H) {a : Addr} (ha : a ∈ c.dl) {o : HO} (e : H a = .some o) : Nt o := by
  rcases h with h | ⟨a0, a1, h, _, e0, e1⟩
  · rw [h] at ha; simp at ha
  · rw [h] at ha
    simp only [List.mem_cons, List.not_mem_nil, or_false] at ha
    rcases ha with rfl | rfl
    · rw [e0] at e; cases e; exact nt_dK
    · rw [e1] at e; cases e; exact nt_lst
theorem DrawAt.some {c : Pm} {W : Dr} {H : Hp} (h : DrawAt c W H) {a : Addr} (ha : a ∈ c.dl) : H a ≠ none := by
  rcases h with h | ⟨a0, a1, h, _, e0, e1⟩
  · rw [h] at ha; simp at ha
  · rw [h] at ha
    simp only [List.mem_cons, List.not_mem_nil, or_false] at ha
    rcases ha with rfl | rfl
    · rw [e0]; simp
    · rw [e1]; simp

structure Stp (c : Pm) (W : Dr) (F H F' H' : Hp) : Prop where
  f : Same F F'
  sub : Same F' H'
  h : ∀ a o, H a = some o → a ∉ c.mv → Nt o → H' a = some o
  new : ∀ a, F a = none → Thr H a → F' a = none
  nt : ∀ a o, F' a = some o → Nt o
  av : ∀ a ∈ c.mv, F' a = none
  dr : DrawAt c W H'
  cl : c.dl ≠ [] → F' c.d2 = some (.lst (W.cells.map .int))
  tabs : LamX.Tabs c.tb H'
section
variable {c : Pm} {W W' W1 : Dr} {F H F' H' F1 H1 : Hp}
theorem Stp.sm (s : Stp c W F H F' H') {a : Addr} (ha : a ∈ c.mv) : H' a ≠ none := by
  unfold Pm.mv at ha
  rcases List.mem_append.mp ha with h | h
  · exact s.dr.some h
  · obtain ⟨p, h1, h2⟩ := List.mem_map.mp h
    obtain ⟨ps, e, _⟩ := s.tabs p h1
    rw [← h2, e]
    exact fun z => nomatch z
theorem Stp.there (s : Stp c W F H F' H') {a : Addr} (m : a ∉ c.mv) (e : Thr H a) : Thr H' a := by
  obtain ⟨o, e, n⟩ := e
  exact ⟨o, s.h a o e m n.1, n⟩
theorem Stp.keepN (s : Stp c W F H F' H') {a : Addr} (m : a ∉ c.mv) (e : Nil H' a) : Nil H a := fun z => e (s.there m z)
theorem Stp.fresh (s : Stp c W F H F' H') {a : Addr} (e : H' a = none) : a ∉ c.mv := fun z => s.sm z e
theorem Stp.trans (a : Stp c W F H F1 H1) (b : Stp c W' F1 H1 F' H') : Stp c W' F H F' H' :=
  ⟨fun x o e => b.f x o (a.f x o e), b.sub, fun x o e n k => b.h x o (a.h x o e n k) n k, fun x e n => if m : x ∈ c.mv then b.av x m else b.new x (a.new x e n) (a.there m n), b.nt, b.av, b.dr, b.cl, b.tabs⟩
theorem Stp.refl (s : Stp c W F H F' H') : Stp c W F' H' F' H' := ⟨Same.refl _, s.sub, fun _ _ e _ _ => e, fun _ e _ => e, s.nt, s.av, s.dr, s.cl, s.tabs⟩
end

def SlfAt (c : Pm) (H0 F H : Hp) (p : Addr) (n : Str) (fs : List (Str × D)) : Prop := F p = none ∧ p ∉ c.mv ∧ Nil H0 p ∧ ∃ C dx gs, H p = some (.ins C dx gs) ∧ c.ca n = some C ∧ RepF c F gs fs
def SlotOk (c : Pm) (H0 F H : Hp) : Sl → Option (Option V) → Prop
  | .un, o => o ≠ none
  | .val x, o => ∃ v, o = some (some v) ∧ Rep c F v x
  | .own x, o => ∃ p, o = some (some (.ref p)) ∧ F p = none ∧ p ∉ c.mv ∧ Nil H0 p ∧ OwnAt c F H p x
  | .slf p n fs, o => o = some (some (.ref p)) ∧ SlfAt c H0 F H p n fs
structure Rel (c : Pm) (F0 H0 : Hp) (ρ : En) (σ : L2.St) (F H : Hp) (W : Dr) : Prop where
  len : ρ.length = σ.length
  stp : Stp c W F0 H0 F H
  slot : ∀ (i : Nat) (s : Sl), ρ[i]? = some s → SlotOk c H0 F H s σ[i]?
  dist : ∀ (i j : Nat) (x y : D) (p : Addr), ρ[i]? = some (.own x) → ρ[j]? = some (.own y) → σ[i]? = some (some (.ref p)) → σ[j]? = some (some (.ref p)) → i = j

def AtS (σ : L2.St) (t : List Nat) (a : Addr) : Prop := ∃ i, i ∈ t ∧ σ[i]? = some (some (.ref a))
noncomputable def Fz (F H : Hp) (σ : L2.St) (t : List Nat) : Hp := fun a => if AtS σ t a then H a else F a
theorem Fz_nil {F H : Hp} {σ : L2.St} : Fz F H σ [] = F := by
  funext a; unfold Fz; rw [if_neg]; rintro ⟨i, h, _⟩; simp at h
theorem Fz_in {F H : Hp} {σ : L2.St} {t : List Nat} {a : Addr} (h : AtS σ t a) : Fz F H σ t a = H a := if_pos h
theorem Fz_out {F H : Hp} {σ : L2.St} {t : List Nat} {a : Addr} (h : ¬ AtS σ t a) : Fz F H σ t a = F a := if_neg h
theorem Fz_up {F H : Hp} {σ : L2.St} {t : List Nat} (s : Same F H) : Same F (Fz F H σ t) := fun a o e => by
  by_cases h : AtS σ t a
  · rw [Fz_in h]; exact s a o e
  · rw [Fz_out h]; exact e
theorem Fz_dn {F H : Hp} {σ : L2.St} {t : List Nat} (s : Same F H) : Same (Fz F H σ t) H := fun a o e => by
  by_cases h : AtS σ t a
  · rw [Fz_in h] at e; exact e
  · rw [Fz_out h] at e; exact s a o e
theorem Fz_mono {F H : Hp} {σ : L2.St} {t t' : List Nat} (s : Same F H) (ht : ∀ i ∈ t, i ∈ t') : Same (Fz F H σ t) (Fz F H σ t') := fun a o e => by
  by_cases h' : AtS σ t' a
  · rw [Fz_in h']; exact Fz_dn s a o e
  · have h : ¬ AtS σ t a := fun ⟨i, h1, h2⟩ => h' ⟨i, ht i h1, h2⟩
    rw [Fz_out h']; rw [Fz_out h] at e; exact e

def ExOk (c : Pm) (F : Hp) (x : D) (cls : Value) (dd : Option Addr) : Prop := match x with
  | .exc n fs => ∃ C, c.cx n = some C ∧ cls = .ref C ∧ match fs with
    | [] => dd = none
    | fs => D.immF fs = true ∧ ∃ a gs, dd = some a ∧ F a = some (.xd gs) ∧ RepF c F gs fs
  | _ => False

structure ValOk (c : Pm) (ρ : En) (σ : L2.St) (Hs F H : Hp) (u : V) (v : Vl) : Prop where
  own : ∀ i ∈ v.all, ∃ x, ρ[i]? = some (.own x)
  at_ : match v.k with
    | .pl => Rep c (Fz F H σ v.t) u v.d
    | .me i => v.t = [] ∧ ρ[i]? = some (.own v.d) ∧ σ[i]? = some (some u)
    | .fr => ∃ p, u = .ref p ∧ F p = none ∧ p ∉ c.mv ∧ Nil Hs p ∧ OwnAt c (Fz F H σ v.t) H p v.d

def TmpAt : List V → List Vl → Addr → Prop
  | u :: us, v :: vs, a => (v.k = .fr ∧ u = .ref a) ∨ TmpAt us vs a
  | _, _, _ => False
def Apart : List V → List Vl → Prop
  | u :: us, v :: vs => (∀ a, v.k = .fr → u = .ref a → ¬ TmpAt us vs a) ∧ Apart us vs
  | _, _ => True

def Pst (c : Pm) (Wx : WX) (σ : L2.St) (F H : Hp) {α β : Type} (ok : α → β → Hp → Hp → Prop) (Q : β → Hp → Prop) : Out α → Prop
  | .ok a W' => ∀ b F' H', Stp c W' F H F' H' → ok a b F' H' → Q b H'
  | .ex x W' => ∀ cls dd F' H', Stp c W' F H F' H' → ExOk c F' x cls dd → Wx cls dd σ H'
  | .stk => False
end Z

namespace Z
open PySem PySem.Spec PyProof.Rows L2
open Classical
section
variable {c : Pm} {W W' W1 W2 : Dr} {F0 H0 F H F' H' F1 H1 F2 H2 Hs : Hp} {ρ : En} {σ : L2.St} {u w : V} {v : Vl}

theorem Rel.step (R : Rel c F0 H0 ρ σ F H W) (s : Stp c W' F H F' H') : Rel c F0 H0 ρ σ F' H' W' := by
  refine ⟨R.len, R.stp.trans s, fun i x e => ?_, R.dist⟩
  have k := R.slot i x e
  cases x with
  | un => exact k
  | val x => obtain ⟨v, h1, h2⟩ := k; exact ⟨v, h1, h2.mono s.f⟩
  | own x =>
    obtain ⟨p, h1, h2, h3, h4, h5⟩ := k
    exact ⟨p, h1, s.new p h2 h5.thr, h3, h4, h5.mono s.f fun o e => s.h p o e h3 (h5.ntl e)⟩
  | slf p n fs =>
    obtain ⟨h1, h2, h3, h4, C, dx, gs, h5, h6, h7⟩ := k
    exact ⟨h1, s.new p h2 (.ins h5), h3, h4, C, dx, gs, s.h p _ h5 h3 nt_ins, h6, h7.mono s.f⟩
theorem Rel.own (R : Rel c F0 H0 ρ σ F H W) {i : Nat} {x : D} (e : ρ[i]? = some (.own x)) : ∃ p, σ[i]? = some (some (.ref p)) ∧ F p = none ∧ p ∉ c.mv ∧ Nil H0 p ∧ OwnAt c F H p x := R.slot i _ e
theorem Rel.at_ (R : Rel c F0 H0 ρ σ F H W) {t : List Nat} (ht : ∀ i ∈ t, ∃ x, ρ[i]? = some (.own x)) {a : Addr} (h : AtS σ t a) : F a = none ∧ a ∉ c.mv ∧ Soft H a ∧ H a ≠ none := by
  obtain ⟨i, hi, e⟩ := h
  obtain ⟨x, hx⟩ := ht i hi
  obtain ⟨p, h1, h2, h3, h4, h5⟩ := R.own hx
  have q : a = p := by
    rw [e] at h1
    exact V.ref.inj (Option.some.inj (Option.some.inj h1))
  subst q
  exact ⟨h2, h3, h5.softH, h5.some⟩
theorem Fz_step (R : Rel c F0 H0 ρ σ F H W) {t : List Nat} (ht : ∀ i ∈ t, ∃ x, ρ[i]? = some (.own x)) (s : Stp c W' F H F' H') : Same (Fz F H σ t) (Fz F' H' σ t) := fun a o e => by
  by_cases h : AtS σ t a
  · obtain ⟨_, h2, h3, _⟩ := R.at_ ht h
    rw [Fz_in h] at e ⊢
    exact s.h a o e h2 (h3.nt e)
  · rw [Fz_out h] at e ⊢
    exact s.f a o e
theorem Fz_soft (R : Rel c F0 H0 ρ σ F H W) {t : List Nat} (ht : ∀ i ∈ t, ∃ x, ρ[i]? = some (.own x)) : (∀ a, AtS σ t a → Soft (Fz F H σ t) a) ∧ ∀ a, ¬ AtS σ t a → F a = Fz F H σ t a :=
  ⟨fun a h => by
    have q := (R.at_ ht h).2.2.1
    unfold Soft at q ⊢
    rw [Fz_in h]; exact q, fun a h => (Fz_out h).symm⟩
theorem ValOk.t_own {v : Vl} (k : ValOk c ρ σ Hs F H u v) : ∀ i ∈ v.t, ∃ x, ρ[i]? = some (.own x) := fun i hi => k.own i (by
  unfold Vl.all; split
  · exact List.mem_cons_of_mem _ hi
  · exact hi)
theorem ValOk.step (R : Rel c F0 H0 ρ σ F H W) (k : ValOk c ρ σ Hs F H u v) (s : Stp c W' F H F' H') : ValOk c ρ σ Hs F' H' u v := by
  refine ⟨k.own, ?_⟩
  have ht := k.t_own
  have a := k.at_
  revert a
  cases v.k with
  | pl => exact fun a => a.mono (Fz_step R ht s)
  | me i => exact fun a => a
  | fr =>
    rintro ⟨p, h1, h2, h3, h4, h5⟩
    exact ⟨p, h1, s.new p h2 h5.thr, h3, h4, h5.mono (Fz_step R ht s) fun o e => s.h p o e h3 (h5.ntl e)⟩
theorem ValOk.start {Hs' : Hp} (k : ValOk c ρ σ Hs F H u v) (h : ∀ a, a ∉ c.mv → Nil Hs a → Nil Hs' a) : ValOk c ρ σ Hs' F H u v := by
  refine ⟨k.own, ?_⟩
  have a := k.at_
  revert a
  cases v.k with
  | pl => exact fun a => a
  | me i => exact fun a => a
  | fr =>
    rintro ⟨p, h1, h2, h3, h4, h5⟩
    exact ⟨p, h1, h2, h3, h _ h3 h4, h5⟩

theorem Rep.intI {i : Int} (r : Rep c F u (.int i)) : u = .int i := by cases r; rfl
theorem Rep.strI {i : Str} (r : Rep c F u (.str i)) : u = .str i := by cases r; rfl
theorem Rep.blI {i : Bool} (r : Rep c F u (.bl i)) : u = .bl i := by cases r; rfl
theorem Rep.nonI (r : Rep c F u .non) : u = .non := by cases r; rfl
theorem Rep.tupI {xs : List D} (r : Rep c F u (.tup xs)) : ∃ a vs, u = .ref a ∧ SqT c.K F a vs ∧ RepL c F vs xs := by cases r with | tup h r => exact ⟨_, _, rfl, .inl (.inl h), r⟩
theorem Rep.tupP {xs : List D} (r : Rep c F u (.tup xs)) : ∃ a vs, u = .ref a ∧ F a = some (.tup vs) ∧ RepL c F vs xs := by cases r with | tup h r => exact ⟨_, _, rfl, h, r⟩
theorem Rep.lstI {xs : List D} (r : Rep c F u (.lst xs)) : ∃ a vs, u = .ref a ∧ F a = some (.lst vs) ∧ RepL c F vs xs := by cases r with | lst h r => exact ⟨_, _, rfl, h, r⟩
theorem Rep.insI {n : Str} {fs : List (Str × D)} (r : Rep c F u (.ins n fs)) : ∃ a C dx gs, u = .ref a ∧ F a = some (.ins C dx gs) ∧ c.ca n = some C ∧ RepF c F gs fs := by cases r with | ins h k r => exact ⟨_, _, _, _, rfl, h, k, r⟩
theorem ValOk.rep {x : D} (R : Rel c F0 H0 ρ σ F H W) (k : ValOk c ρ σ Hs F H u v) (e : v.d = x) (hx : ∀ F H p, ¬ OwnAt c F H p x) : Rep c (Fz F H σ v.t) u x := by
  subst e
  have a := k.at_
  revert a
  cases v.k with
  | pl => exact fun a => a
  | me i =>
    rintro ⟨h1, h2, h3⟩
    obtain ⟨p, _, _, _, _, h⟩ := R.own h2
    exact (hx _ _ _ h).elim
  | fr =>
    rintro ⟨p, _, _, _, _, h⟩
    exact (hx _ _ _ h).elim
theorem ValOk.int {i : Int} (R : Rel c F0 H0 ρ σ F H W) (k : ValOk c ρ σ Hs F H u v) (e : v.d = .int i) : u = .int i := (k.rep R e fun _ _ _ h => h).intI
theorem ValOk.str {i : Str} (R : Rel c F0 H0 ρ σ F H W) (k : ValOk c ρ σ Hs F H u v) (e : v.d = .str i) : u = .str i := (k.rep R e fun _ _ _ h => h).strI
theorem ValOk.bl {i : Bool} (R : Rel c F0 H0 ρ σ F H W) (k : ValOk c ρ σ Hs F H u v) (e : v.d = .bl i) : u = .bl i := (k.rep R e fun _ _ _ h => h).blI
theorem ValOk.non (R : Rel c F0 H0 ρ σ F H W) (k : ValOk c ρ σ Hs F H u v) (e : v.d = .non) : u = .non := (k.rep R e fun _ _ _ h => h).nonI
theorem ValOk.tup {xs : List D} (R : Rel c F0 H0 ρ σ F H W) (k : ValOk c ρ σ Hs F H u v) (e : v.d = .tup xs) : ∃ a vs, u = .ref a ∧ SqT c.K (Fz F H σ v.t) a vs ∧ RepL c (Fz F H σ v.t) vs xs := (k.rep R e fun _ _ _ h => h).tupI
theorem ValOk.tupP {xs : List D} (R : Rel c F0 H0 ρ σ F H W) (k : ValOk c ρ σ Hs F H u v) (e : v.d = .tup xs) : ∃ a vs, u = .ref a ∧ Fz F H σ v.t a = some (.tup vs) ∧ RepL c (Fz F H σ v.t) vs xs := (k.rep R e fun _ _ _ h => h).tupP
theorem ValOk.lst {xs : List D} (R : Rel c F0 H0 ρ σ F H W) (k : ValOk c ρ σ Hs F H u v) (e : v.d = .lst xs) : ∃ a vs, u = .ref a ∧ H a = some (.lst vs) ∧ RepL c (Fz F H σ v.t) vs xs := by
  have a := k.at_
  rw [e] at a
  revert a
  cases v.k with
  | pl =>
    intro a
    obtain ⟨p, vs, h1, h2, h3⟩ := a.lstI
    exact ⟨p, vs, h1, Fz_dn R.stp.sub _ _ h2, h3⟩
  | me i =>
    rintro ⟨h1, h2, h3⟩
    obtain ⟨p, e1, _, _, _, vs, e2, e3⟩ := R.own h2
    rw [h3] at e1
    refine ⟨p, vs, Option.some.inj (Option.some.inj e1), e2, ?_⟩
    rw [h1, Fz_nil]; exact e3
  | fr =>
    rintro ⟨p, h1, _, _, _, vs, e2, e3⟩
    exact ⟨p, vs, h1, e2, e3⟩

theorem ValOk.dicK {kvs : List (D × D)} (R : Rel c F0 H0 ρ σ F H W) (k : ValOk c ρ σ Hs F H u v) (e : v.d = .dic false kvs) : ∃ a, ∃ ks : List (Key × V), u = .ref a ∧ Rd H a (.dK ks) ∧ kvs.map (·.1) = ks.map (fun q => keyD q.1) ∧ RepL c (Fz F H σ v.t) (ks.map (·.2)) (kvs.map (·.2)) := by
  have a := k.at_
  rw [e] at a
  revert a
  cases v.k with
  | pl =>
    intro a
    cases a with
    | dicK h1 h2 h3 => exact ⟨_, _, rfl, Rd.mono (Fz_dn R.stp.sub) h1, h2, h3⟩
  | me i =>
    rintro ⟨h1, h2, h3⟩
    obtain ⟨p, e1, _, _, _, vs, e2, e3, e4⟩ := R.own h2
    rw [h3] at e1
    refine ⟨p, vs, Option.some.inj (Option.some.inj e1), .inl e2, e3, ?_⟩
    rw [h1, Fz_nil]; exact e4
  | fr =>
    rintro ⟨p, h1, _, _, _, vs, e2, e3, e4⟩
    exact ⟨p, vs, h1, .inl e2, e3, e4⟩

theorem ValOk.dicT {kvs : List (D × D)} (R : Rel c F0 H0 ρ σ F H W) (k : ValOk c ρ σ Hs F H u v) (e : v.d = .dic true kvs) : ∃ a, ∃ ks : List (List Key × V), u = .ref a ∧ Rd H a (.dT ks) ∧ kvs.map (·.1) = ks.map (fun q => .tup (q.1.map keyD)) ∧ RepL c (Fz F H σ v.t) (ks.map (·.2)) (kvs.map (·.2)) := by
  have a := k.at_
  rw [e] at a
  revert a
  cases v.k with
  | pl =>
    intro a
    cases a with
    | dicT h1 h2 h3 => exact ⟨_, _, rfl, Rd.mono (Fz_dn R.stp.sub) h1, h2, h3⟩
  | me i =>
    rintro ⟨h1, h2, h3⟩
    obtain ⟨p, e1, _, _, _, vs, e2, e3, e4⟩ := R.own h2
    rw [h3] at e1
    refine ⟨p, vs, Option.some.inj (Option.some.inj e1), .inl e2, e3, ?_⟩
    rw [h1, Fz_nil]; exact e4
  | fr =>
    rintro ⟨p, h1, _, _, _, vs, e2, e3, e4⟩
    exact ⟨p, vs, h1, .inl e2, e3, e4⟩

theorem ValOk.dic_ref {t : Bool} {kvs : List (D × D)} (R : Rel c F0 H0 ρ σ F H W) (k : ValOk c ρ σ Hs F H u v) (e : v.d = .dic t kvs) : ∃ a, u = .ref a := by
  cases t
  · obtain ⟨a, _, h, _⟩ := k.dicK R e; exact ⟨a, h⟩
  · obtain ⟨a, _, h, _⟩ := k.dicT R e; exact ⟨a, h⟩

theorem ValOk.of_rep (r : Rep c F u v.d) (hk : v.k = .pl) (ht : v.t = []) : ValOk c ρ σ Hs F H u v := by
  refine ⟨fun i hi => ?_, ?_⟩
  · unfold Vl.all at hi; rw [hk, ht] at hi; simp at hi
  · rw [hk, ht, Fz_nil]; exact r
theorem ValOk.of_plain {t : List Nat} {x : D} (R : Rel c F0 H0 ρ σ F H W) (ht : ∀ i ∈ t, ∃ x, ρ[i]? = some (.own x)) (r : Rep c (Fz F H σ t) u x) : ValOk c ρ σ Hs F H u (vl x t) := by
  unfold vl
  by_cases m : x.imm = true
  · rw [if_pos m]
    obtain ⟨a1, a2⟩ := Fz_soft R ht
    exact ValOk.of_rep (Rep.soft a1 a2 r m) rfl rfl
  · rw [if_neg m]
    exact ⟨fun i hi => ht i hi, r⟩
theorem Stp.make {o : HO} {p : Addr} (s : Stp c W F H F H) (hp : H p = none) : Stp c W F H F (upd H p o) := by
  have ne : ∀ a, H a ≠ none → a ≠ p := fun a h z => h (by rw [z]; exact hp)
  have k : Same H (upd H p o) := fun a o' e => by rw [upd_ne (ne a (by rw [e]; simp))]; exact e
  refine ⟨Same.refl _, fun a o' e => k _ _ (s.sub _ _ e), fun a o' e _ _ => k _ _ e, fun _ e _ => e, s.nt, s.av, ?_, s.cl, s.tabs.ext k⟩
  rcases s.dr with h | ⟨a0, a1, h, n, e0, e1⟩
  · exact .inl h
  · exact .inr ⟨a0, a1, h, n, k _ _ e0, k _ _ e1⟩
theorem Stp.makeF {o : HO} {p : Addr} (s : Stp c W F H F H) (hp : H p = none) (no : Nt o := by intro _ h; first | cases h | (unfold XO at h; cases h)) : Stp c W F H (upd F p o) (upd H p o) := by
  have ne : ∀ a, H a ≠ none → a ≠ p := fun a h z => h (by rw [z]; exact hp)
  have b := s.make (o := o) hp
  refine ⟨fun a o' e => ?_, fun a o' e => ?_, b.h, fun a e n => ?_, fun a o' e => ?_, fun a ha => ?_, b.dr, fun hd => ?_, b.tabs⟩
  · rw [upd_ne (ne a (by rw [s.sub _ _ e]; simp))]; exact e
  · by_cases q : a = p
    · subst q; rw [upd_same] at e ⊢; exact e
    · rw [upd_ne q] at e; exact b.sub _ _ e
  · rw [upd_ne (ne a fun z => Nil.of z n)]; exact e
  · by_cases q : a = p
    · subst q; rw [upd_same] at e; cases e; exact no
    · rw [upd_ne q] at e; exact s.nt a o' e
  · rw [upd_ne (ne a (s.sm ha))]; exact s.av a ha
  · have e := s.cl hd
    rw [upd_ne (ne _ (by rw [s.sub _ _ e]; simp))]; exact e
theorem Rel.refl (R : Rel c F0 H0 ρ σ F H W) : Stp c W F H F H := R.stp.refl
theorem ValOk.new_lst {p : Addr} {vs : List V} {xs : List D} {t : List Nat} (R : Rel c F0 H0 ρ σ F H W) (ht : ∀ i ∈ t, ∃ x, ρ[i]? = some (.own x)) (hp : H p = none) (hn : Nil Hs p) (r : RepL c (Fz F H σ t) vs xs) :
    ValOk c ρ σ Hs F (upd H p (.lst vs)) (.ref p) (vf (.lst xs) t) := by
  have hF : F p = none := by
    cases q : F p with
    | none => rfl
    | some o => rw [R.stp.sub _ _ q] at hp; cases hp
  have hd : p ∉ c.mv := fun h => R.stp.sm h hp
  have S := R.refl.make (o := .lst vs) hp
  unfold vf
  by_cases m : (D.lst xs).kids = true
  · rw [if_pos m]
    obtain ⟨a1, a2⟩ := Fz_soft R ht
    refine ⟨fun i hi => by simp [Vl.all] at hi, p, rfl, hF, hd, hn, vs, upd_same, ?_⟩
    rw [Fz_nil]
    exact RepL.soft a1 a2 r (by simpa only [D.kids] using m)
  · rw [if_neg m]
    exact ⟨fun i hi => ht i hi, p, rfl, hF, hd, hn, vs, upd_same, r.mono (Fz_step R ht S)⟩
theorem Rep.new_tup {p : Addr} {vs : List V} {xs : List D} {t : List Nat} (R : Rel c F0 H0 ρ σ F H W) (ht : ∀ i ∈ t, ∃ x, ρ[i]? = some (.own x)) (hp : H p = none) (r : RepL c (Fz F H σ t) vs xs) :
    ValOk c ρ σ Hs (upd F p (.tup vs)) (upd H p (.tup vs)) (.ref p) (vl (.tup xs) t) := by
  have S := R.refl.makeF (o := .tup vs) hp
  refine ValOk.of_plain (R.step S) ht ?_
  refine .tup ?_ (r.mono (Fz_step R ht S))
  have : ¬ AtS σ t p := fun h => (R.at_ ht h).2.2.2 hp
  rw [Fz_out this, upd_same]
end

def rdE (c : Pm) (Wx : WX) (e : E) : TE := fun σ H Q => ∃ F0 H0 ρ F W, Rel c F0 H0 ρ σ F H W ∧ Pst c Wx σ F H (fun v u F' H' => ValOk c ρ σ H F' H' u v) Q (ev e ρ W)
def rdT (c : Pm) (Wx : WX) (e : E) : TT := fun σ H Q => ∃ F0 H0 ρ F W, Rel c F0 H0 ρ σ F H W ∧ Pst c Wx σ F H (fun b u _ _ => u = b) Q (evT e ρ W)
def rdA (c : Pm) (Wx : WX) (e : E) : TT := fun σ H Q => ∃ F0 H0 ρ F W, Rel c F0 H0 ρ σ F H W ∧ Pst c Wx σ F H (fun b u _ _ => u = b) Q (evA e ρ W)
def rdO (c : Pm) (Wx : WX) (e : E) : TO := fun σ H Q => ∃ F0 H0 ρ F W, Rel c F0 H0 ρ σ F H W ∧ Pst c Wx σ F H (fun b u _ _ => u = b) Q (evO e ρ W)
def rdL (c : Pm) (Wx : WX) (e : E) : TA := fun σ H Q => ∃ F0 H0 ρ F W, Rel c F0 H0 ρ σ F H W ∧ Pst c Wx σ F H (fun vs us F' H' => Paired (fun u v => ValOk c ρ σ H F' H' u v) us vs ∧ Apart us vs) Q (evL e ρ W)

theorem pe_wk {X : Cx} {e : Expr} {t t' : TE} (h : PE X e t) (k : ∀ σ H Q, t' σ H Q → t σ H Q) : PE X e t' := ⟨fun pins s σ H Q I q => h.run pins s σ H Q I (k _ _ _ q)⟩
theorem pt_wk {X : Cx} {e : Expr} {t t' : TT} (h : PT X e t) (k : ∀ σ H Q, t' σ H Q → t σ H Q) : PT X e t' := ⟨fun pins s σ H Q I q => h.run pins s σ H Q I (k _ _ _ q)⟩
theorem pw_wk {X : Cx} {e : Expr} {t t' : TT} (h : PW X e t) (k : ∀ σ H Q, t' σ H Q → t σ H Q) : PW X e t' := ⟨fun wh pins s σ H Q I q => h.run wh pins s σ H Q I (k _ _ _ q)⟩
theorem pa_wk {X : Cx} {e : List Expr} {t t' : TA} (h : PA X e t) (k : ∀ σ H Q, t' σ H Q → t σ H Q) : PA X e t' := ⟨fun pos pins s σ H Q I q => h.run pos pins s σ H Q I (k _ _ _ q)⟩
theorem po_wk {X : Cx} {e : Option Expr} {t t' : TO} (h : PO X e t) (k : ∀ σ H Q, t' σ H Q → t σ H Q) : PO X e t' := ⟨fun pins s σ H Q I q => h.run pins s σ H Q I (k _ _ _ q)⟩

section
variable {c : Pm} {Wx : WX} {W1 : Dr} {F0 H0 F H F1 H1 : Hp} {ρ : En} {σ : L2.St} {α β : Type} {ok : α → β → Hp → Hp → Prop} {Q : β → Hp → Prop}
theorem rd_gen {α' β' : Type} {ok1 : Hp → α' → β' → Hp → Hp → Prop} {o : Out α'} {g : α' → Dr → Out α} {Q2 : β' → Hp → Prop} (R : Rel c F0 H0 ρ σ F1 H1 W1) (S : Stp c W1 F H F1 H1) (hP : Pst c Wx σ F H ok Q (o.bind g))
    (k : ∀ y W2 u F2 H2, Stp c W2 F H F2 H2 → Stp c W2 F1 H1 F2 H2 → ok1 H1 y u F2 H2 → Rel c F0 H0 ρ σ F2 H2 W2 → Pst c Wx σ F H ok Q (g y W2) → Q2 u H2) : Pst c Wx σ F1 H1 (ok1 H1) Q2 o := by
  cases o with
  | stk => exact hP
  | ex x W2 => exact fun cls dd F2 H2 S2 x => hP cls dd F2 H2 (S.trans S2) x
  | ok y W2 => exact fun u F2 H2 S2 V => k y W2 u F2 H2 (S.trans S2) S2 V (R.step S2) hP
theorem rd_e {e : E} {g : Vl → Dr → Out α} {Q2 : V → Hp → Prop} (R : Rel c F0 H0 ρ σ F1 H1 W1) (S : Stp c W1 F H F1 H1) (hP : Pst c Wx σ F H ok Q ((ev e ρ W1).bind g))
    (k : ∀ y W2 u F2 H2, Stp c W2 F H F2 H2 → Stp c W2 F1 H1 F2 H2 → ValOk c ρ σ H F2 H2 u y → Rel c F0 H0 ρ σ F2 H2 W2 → Pst c Wx σ F H ok Q (g y W2) → Q2 u H2) : rdE c Wx e σ H1 Q2 :=
  ⟨F0, H0, ρ, F1, W1, R, rd_gen (ok1 := fun H1 v u F' H' => ValOk c ρ σ H1 F' H' u v) R S hP fun y W2 u F2 H2 S2 S12 V R2 hP => k y W2 u F2 H2 S2 S12 (V.start fun a m z => S.keepN m z) R2 hP⟩
theorem rd_t {e : E} {g : Bool → Dr → Out α} {Q2 : Bool → Hp → Prop} (R : Rel c F0 H0 ρ σ F1 H1 W1) (S : Stp c W1 F H F1 H1) (hP : Pst c Wx σ F H ok Q ((evT e ρ W1).bind g))
    (k : ∀ b W2 F2 H2, Stp c W2 F H F2 H2 → Stp c W2 F1 H1 F2 H2 → Rel c F0 H0 ρ σ F2 H2 W2 → Pst c Wx σ F H ok Q (g b W2) → Q2 b H2) : rdT c Wx e σ H1 Q2 :=
  ⟨F0, H0, ρ, F1, W1, R, rd_gen (ok1 := fun _ b u _ _ => u = b) R S hP fun y W2 u F2 H2 S2 S12 V R2 hP => by subst V; exact k _ W2 F2 H2 S2 S12 R2 hP⟩
theorem rd_o {e : E} {g : Option Int → Dr → Out α} {Q2 : Option Int → Hp → Prop} (R : Rel c F0 H0 ρ σ F1 H1 W1) (S : Stp c W1 F H F1 H1) (hP : Pst c Wx σ F H ok Q ((evO e ρ W1).bind g))
    (k : ∀ b W2 F2 H2, Stp c W2 F H F2 H2 → Stp c W2 F1 H1 F2 H2 → Rel c F0 H0 ρ σ F2 H2 W2 → Pst c Wx σ F H ok Q (g b W2) → Q2 b H2) : rdO c Wx e σ H1 Q2 :=
  ⟨F0, H0, ρ, F1, W1, R, rd_gen (ok1 := fun _ b u _ _ => u = b) R S hP fun y W2 u F2 H2 S2 S12 V R2 hP => by subst V; exact k _ W2 F2 H2 S2 S12 R2 hP⟩
theorem rd_l {e : E} {g : List Vl → Dr → Out α} {Q2 : List V → Hp → Prop} (R : Rel c F0 H0 ρ σ F1 H1 W1) (S : Stp c W1 F H F1 H1) (hP : Pst c Wx σ F H ok Q ((evL e ρ W1).bind g))
    (k : ∀ ys W2 us F2 H2, Stp c W2 F H F2 H2 → Stp c W2 F1 H1 F2 H2 → Paired (fun u v => ValOk c ρ σ H F2 H2 u v) us ys → Rel c F0 H0 ρ σ F2 H2 W2 → Pst c Wx σ F H ok Q (g ys W2) → Q2 us H2) : rdL c Wx e σ H1 Q2 :=
  ⟨F0, H0, ρ, F1, W1, R, rd_gen (ok1 := fun H1 vs us F' H' => Paired (fun u v => ValOk c ρ σ H1 F' H' u v) us vs ∧ Apart us vs) R S hP fun y W2 u F2 H2 S2 S12 V R2 hP => k y W2 u F2 H2 S2 S12 (Paired.mapP V.1 fun _ _ z => z.start fun a m z => S.keepN m z) R2 hP⟩
theorem rd_lx {e : E} {g : List Vl → Dr → Out α} {Q2 : List V → Hp → Prop} (R : Rel c F0 H0 ρ σ F1 H1 W1) (S : Stp c W1 F H F1 H1) (hP : Pst c Wx σ F H ok Q ((evL e ρ W1).bind g))
    (k : ∀ ys W2 us F2 H2, Stp c W2 F H F2 H2 → Stp c W2 F1 H1 F2 H2 → Paired (fun u v => ValOk c ρ σ H1 F2 H2 u v) us ys → Apart us ys → Rel c F0 H0 ρ σ F2 H2 W2 → Pst c Wx σ F H ok Q (g ys W2) → Q2 us H2) : rdL c Wx e σ H1 Q2 :=
  ⟨F0, H0, ρ, F1, W1, R, rd_gen (ok1 := fun H1 vs us F' H' => Paired (fun u v => ValOk c ρ σ H1 F' H' u v) us vs ∧ Apart us vs) R S hP fun y W2 u F2 H2 S2 S12 V R2 hP => k y W2 u F2 H2 S2 S12 V.1 V.2 R2 hP⟩
theorem rd_le {e : E} {g : List Vl → Dr → Out α} {Q2 : List V → Hp → Prop} (R : Rel c F0 H0 ρ σ F1 H1 W1) (S : Stp c W1 F H F1 H1) (hP : Pst c Wx σ F H ok Q ((evL e ρ W1).bind g))
    (k : ∀ ys W2 us F2 H2, evL e ρ W1 = .ok ys W2 → Stp c W2 F H F2 H2 → Stp c W2 F1 H1 F2 H2 → Paired (fun u v => ValOk c ρ σ H F2 H2 u v) us ys → Rel c F0 H0 ρ σ F2 H2 W2 → Pst c Wx σ F H ok Q (g ys W2) → Q2 us H2) : rdL c Wx e σ H1 Q2 := by
  refine rd_l (Q := Q) (ok := ok) (g := fun ys W2 => if evL e ρ W1 = .ok ys W2 then g ys W2 else .stk) R S ?_ fun ys W2 us F2 H2 S2 S12 A R2 hP => ?_
  · revert hP
    cases h : evL e ρ W1 with
    | stk => exact fun h => h
    | ex x W => exact fun h => h
    | ok ys W => intro hP; show Pst c Wx σ F H ok Q (if _ then _ else _); rw [if_pos rfl]; exact hP
  · by_cases h : evL e ρ W1 = .ok ys W2
    · rw [if_pos h] at hP
      exact k ys W2 us F2 H2 h S2 S12 A R2 hP
    · rw [if_neg h] at hP; exact hP.elim
theorem pst_ok {o : Out α} (h : Pst c Wx σ F H ok Q o) : Pst c Wx σ F H ok Q (o.bind fun b W => .ok b W) := by cases o <;> exact h
theorem ofO_some {γ : Type} {o : Option γ} {f : γ → Out α} (hP : Pst c Wx σ F H ok Q (ofO o f)) : ∃ a, o = some a ∧ Pst c Wx σ F H ok Q (f a) := by
  cases o with
  | none => exact hP.elim
  | some a => exact ⟨a, rfl, hP⟩
end
end Z

namespace Z
open PySem PySem.Spec PyProof.Rows L2
open Classical

structure Cn (c : Pm) (Wx : WX) (k : Nat) (X : Cx) : Prop where
  hk : X.K = c.K
  calm : X.calm = true
  nd : X.N.Nodup
  tk : Takes X Wx
  room : Room k X.A

section
variable {c : Pm} {Wx : WX} {X : Cx} {n : Nat} {W W' W1 W2 : Dr} {F0 H0 F H F' H' F1 H1 F2 H2 Hs : Hp} {ρ : En} {σ : L2.St} {u w : V} {x y v : Vl} {Q : VK}

abbrev Fin_ (c : Pm) (Wx : WX) (ρ : En) (σ : L2.St) (F H : Hp) (Q : VK) (r : Vl) (W : Dr) : Prop := Pst c Wx σ F H (fun v u F' H' => ValOk c ρ σ H F' H' u v) Q (.ok r W)

theorem fin_sc {d : D} {u : V} (R : Rel c F0 H0 ρ σ F2 H2 W2) (S : Stp c W2 F H F2 H2) (hq : Fin_ c Wx ρ σ F H Q ⟨d, .pl, []⟩ W2) (r : Rep c F2 u d) : Q u H2 := hq u F2 H2 S (.of_rep r rfl rfl)
theorem fin_vl {d : D} {t : List Nat} {u : V} (R : Rel c F0 H0 ρ σ F2 H2 W2) (S : Stp c W2 F H F2 H2) (ht : ∀ i ∈ t, ∃ x, ρ[i]? = some (.own x)) (hq : Fin_ c Wx ρ σ F H Q (vl d t) W2) (r : Rep c (Fz F2 H2 σ t) u d) : Q u H2 :=
  hq u F2 H2 S (.of_plain R ht r)
theorem fin_tup {xs : List D} {vs : List V} {t : List Nat} (R : Rel c F0 H0 ρ σ F2 H2 W2) (S : Stp c W2 F H F2 H2) (ht : ∀ i ∈ t, ∃ x, ρ[i]? = some (.own x)) (hq : Fin_ c Wx ρ σ F H Q (vl (.tup xs) t) W2) (r : RepL c (Fz F2 H2 σ t) vs xs) :
    ∀ p, H2 p = none → Q (.ref p) (upd H2 p (.tup vs)) := fun p hp => hq _ _ _ (S.trans (R.refl.makeF hp)) (Rep.new_tup R ht hp r)
theorem fin_lst {xs : List D} {vs : List V} {t : List Nat} (R : Rel c F0 H0 ρ σ F2 H2 W2) (S : Stp c W2 F H F2 H2) (ht : ∀ i ∈ t, ∃ x, ρ[i]? = some (.own x)) (hq : Fin_ c Wx ρ σ F H Q (vf (.lst xs) t) W2) (r : RepL c (Fz F2 H2 σ t) vs xs) :
    ∀ p, H2 p = none → Q (.ref p) (upd H2 p (.lst vs)) := fun p hp => hq _ _ _ (S.trans (R.refl.make hp)) (.new_lst R ht hp (S.keepN (R.stp.fresh hp) (.of hp)) r)

theorem own_app {t t' : List Nat} (h : ∀ i ∈ t, ∃ x, ρ[i]? = some (.own x)) (h' : ∀ i ∈ t', ∃ x, ρ[i]? = some (.own x)) : ∀ i ∈ t ++ t', ∃ x, ρ[i]? = some (.own x) := fun i hi => (List.mem_append.mp hi).elim (h i) (h' i)
theorem Fz_l (S : Same F H) {t t' : List Nat} : Same (Fz F H σ t) (Fz F H σ (t ++ t')) := Fz_mono S fun i h => List.mem_append_left _ h
theorem Fz_r (S : Same F H) {t t' : List Nat} : Same (Fz F H σ t') (Fz F H σ (t ++ t')) := Fz_mono S fun i h => List.mem_append_right _ h
theorem cap_eq : (cap : Nat) = sizeLine := by rw [sizeLine_eq]; rfl
theorem cap_num : (16777216 : Nat) = sizeLine := by rw [sizeLine_eq]

theorem e_var {i : Nat} {z : Str} {pos : Pos} (hN : X.N[i]? = some z) (hv : Vis X.env.scope z) (hd : (z == ("__debug__" : Str)) = false) (hcd : (z == ("__classdict__" : Str)) = false) : PE X (.Name z pos) (rdE c Wx (.var i)) := by
  refine pe_wk (pe_var hN hv hd hcd) fun σ H Q ⟨F0, H0, ρ, F, W, R, hP⟩ => ?_
  simp only [ev] at hP
  cases e : ρ[i]? with
  | none => rw [e] at hP; exact hP.elim
  | some s =>
    rw [e] at hP
    cases s with
    | un => exact hP.elim
    | slf _ _ _ => exact hP.elim
    | val d =>
      obtain ⟨v, h1, h2⟩ := R.slot i _ e
      exact ⟨v, h1, fin_sc R R.refl hP h2⟩
    | own d =>
      obtain ⟨p, h1, h2, h3, h4, h5⟩ := R.own e
      refine ⟨.ref p, h1, hP _ F H R.refl ⟨fun j hj => ?_, rfl, e, h1⟩⟩
      have : j = i := by simpa [Vl.all] using hj
      subst this
      exact ⟨d, e⟩
theorem e_int {i : Int} {j : Nat} {pos : Pos} : PE X (.Constant (.int i) j pos) (rdE c Wx (.cst (.int i))) :=
  pe_wk pe_int fun σ H Q ⟨F0, H0, ρ, F, W, R, hP⟩ => fin_sc R R.refl (by simpa only [ev] using hP) (.int i)
theorem e_bl {i : Bool} {j : Nat} {pos : Pos} : PE X (.Constant (.bool i) j pos) (rdE c Wx (.cst (.bl i))) :=
  pe_wk pe_bl fun σ H Q ⟨F0, H0, ρ, F, W, R, hP⟩ => fin_sc R R.refl (by simpa only [ev] using hP) (.bl i)
theorem e_non {j : Nat} {pos : Pos} : PE X (.Constant .none j pos) (rdE c Wx (.cst .non)) :=
  pe_wk pe_non fun σ H Q ⟨F0, H0, ρ, F, W, R, hP⟩ => fin_sc R R.refl (by simpa only [ev] using hP) .non
theorem e_str {i : Str} {j : Nat} {pos : Pos} : PE X (.Constant (.str i) j pos) (rdE c Wx (.cst (.str i))) :=
  pe_wk pe_str fun σ H Q ⟨F0, H0, ρ, F, W, R, hP⟩ => fin_sc R R.refl (by simpa only [ev] using hP) (.str i)
theorem e_gl {z : Str} {v : V} {uu : Value} {d : D} {pos : Pos} (hg : Gl X z) (hm : X.mg z = some uu) (r : RelV v uu) (hr : ∀ F, Rep c F v d) (hd : (z == ("__debug__" : Str)) = false) : PE X (.Name z pos) (rdE c Wx (.gl d)) :=
  pe_wk (pe_glob hg hm r hd) fun σ H Q ⟨F0, H0, ρ, F, W, R, hP⟩ => fin_sc R R.refl (by simpa only [ev] using hP) (hr F)

def BinOk (c : Pm) (f : D → D → Option (Bool × D)) (r : R2) : Prop :=
  ∀ {Wx : WX} {W2 : Dr} {F0 H0 F H F2 H2 : Hp} {ρ : En} {σ : L2.St} {u w : V} {x y : Vl} {Q : VK} {z : Bool × D}, Rel c F0 H0 ρ σ F2 H2 W2 → Stp c W2 F H F2 H2 → ValOk c ρ σ H F2 H2 u x → ValOk c ρ σ H F2 H2 w y →
    f x.d y.d = some z → Fin_ c Wx ρ σ F H Q (vo z (x.t ++ y.t)) W2 → r u w H2 Q

theorem e_bin {op : Operator} {a b : Expr} {ea eb : E} {pos : Pos} {r : R2} (ho : OpR X (binaryOp op) r) (k : BinOk c (binD op) r) (ha : PE X a (rdE c Wx ea)) (hb : PE X b (rdE c Wx eb)) : PE X (.BinOp a op b pos) (rdE c Wx (.bin op ea eb)) := by
  refine pe_wk (pe_op ho ha hb) fun σ H Q ⟨F0, H0, ρ, F, W, R, hP⟩ => ?_
  simp only [ev] at hP
  refine rd_e R R.refl hP fun x W1 u F1 H1 S1 _ V1 R1 hP => ?_
  refine rd_e R1 S1 hP fun y W2 w F2 H2 S2 S12 V2 R2 hP => ?_
  obtain ⟨z, hz, hP⟩ := ofO_some hP
  exact k R2 S2 (V1.step R1 S12) V2 hz hP

def rAddD (K : PySem.W.Frag) : R2 := fun x y H Q => (∃ i j, x = .int i ∧ y = .int j ∧ Q (.int (i + j)) H) ∨ (∃ i j, x = .str i ∧ y = .str j ∧ i.length + j.length ≤ sizeLine ∧ Q (.str (i ++ j)) H) ∨ rCatA K x y H Q ∨ rCat x y H Q
theorem op_addD : OpR X (binaryOp .Add) (rAddD X.K) := op_add.or (op_add_str.or (op_catA.or op_cat))
theorem add_ok : BinOk c (binD .Add) (rAddD c.K) := by
  intro Wx W2 F0 H0 F H F2 H2 ρ σ u w x y Q z R S V1 V2 h hq
  have ht := own_app V1.t_own V2.t_own
  cases e1 : x.d <;> cases e2 : y.d <;> rw [e1, e2] at h <;> simp only [binD, big_eq] at h <;> try (cases h)
  case int.int i j =>
    exact .inl ⟨i, j, V1.int R e1, V2.int R e2, fin_vl R S ht hq (.int _)⟩
  case str.str i j =>
    split at h <;> cases h
    rename_i hz
    exact .inr (.inl ⟨i, j, V1.str R e1, V2.str R e2, by rw [← cap_num]; exact hz, fin_vl R S ht hq (.str _)⟩)
  case tup.tup xs ys =>
    split at h <;> cases h
    rename_i hz
    obtain ⟨a, vs, rfl, h1, r1⟩ := V1.tupP R e1
    obtain ⟨b, ws, rfl, h2, r2⟩ := V2.tupP R e2
    have r1' := r1.mono (Fz_l (t' := y.t) R.stp.sub)
    have r2' := r2.mono (Fz_r (t := x.t) R.stp.sub)
    refine .inr (.inr (.inl ⟨a, b, vs, ws, rfl, rfl, Same.sqT (Fz_dn R.stp.sub) (.inl (.inl h1)), Same.sqT (Fz_dn R.stp.sub) (.inl (.inl h2)), by rw [r1.length, r2.length, ← cap_num]; exact hz, fun e => ?_, fun _ e => ?_, fun _ _ => fin_tup R S ht hq (r1'.append r2')⟩))
    · subst e
      cases r1
      exact fin_vl R S ht hq (.tup (Fz_r R.stp.sub _ _ h2) (by simpa using r2'))
    · subst e
      cases r2
      exact fin_vl R S ht hq (.tup (Fz_l R.stp.sub _ _ h1) (by simpa using r1'))
  case lst.lst xs ys =>
    split at h <;> cases h
    rename_i hz
    obtain ⟨a, vs, rfl, h1, r1⟩ := V1.lst R e1
    obtain ⟨b, ws, rfl, h2, r2⟩ := V2.lst R e2
    exact .inr (.inr (.inr ⟨a, b, vs, ws, rfl, rfl, h1, h2, by rw [r1.length, r2.length, ← cap_num]; exact hz, fin_lst R S ht hq ((r1.mono (Fz_l R.stp.sub)).append (r2.mono (Fz_r R.stp.sub)))⟩))
theorem sub_ok : BinOk c (binD .Sub) (rI0 fun i j => .int (i - j)) := by
  intro Wx W2 F0 H0 F H F2 H2 ρ σ u w x y Q z R S V1 V2 h hq
  cases e1 : x.d <;> cases e2 : y.d <;> rw [e1, e2] at h <;> simp only [binD, big_eq] at h <;> try (cases h)
  exact ⟨_, _, V1.int R e1, V2.int R e2, fin_vl R S (own_app V1.t_own V2.t_own) hq (.int _)⟩
theorem div_ok : BinOk c (binD .FloorDiv) (rI CDiv fun i j => .int (i / j)) := by
  intro Wx W2 F0 H0 F H F2 H2 ρ σ u w x y Q z R S V1 V2 h hq
  cases e1 : x.d <;> cases e2 : y.d <;> rw [e1, e2] at h <;> simp only [binD, big_eq] at h <;> try (cases h)
  split at h <;> cases h
  exact ⟨_, _, V1.int R e1, V2.int R e2, by assumption, fin_vl R S (own_app V1.t_own V2.t_own) hq (.int _)⟩
theorem mod_ok : BinOk c (binD .Mod) (rI (fun _ j => 0 < j) fun i j => .int (i % j)) := by
  intro Wx W2 F0 H0 F H F2 H2 ρ σ u w x y Q z R S V1 V2 h hq
  cases e1 : x.d <;> cases e2 : y.d <;> rw [e1, e2] at h <;> simp only [binD, big_eq] at h <;> try (cases h)
  split at h <;> cases h
  exact ⟨_, _, V1.int R e1, V2.int R e2, by assumption, fin_vl R S (own_app V1.t_own V2.t_own) hq (.int _)⟩
theorem pow_ok : BinOk c (binD .Pow) (rI CPow fun i j => .int (i ^ j.toNat)) := by
  intro Wx W2 F0 H0 F H F2 H2 ρ σ u w x y Q z R S V1 V2 h hq
  cases e1 : x.d <;> cases e2 : y.d <;> rw [e1, e2] at h <;> simp only [binD, big_eq] at h <;> try (cases h)
  split at h <;> cases h
  exact ⟨_, _, V1.int R e1, V2.int R e2, by assumption, fin_vl R S (own_app V1.t_own V2.t_own) hq (.int _)⟩
end
end Z

namespace Z
open PySem PySem.Spec PyProof.Rows L2
open Classical
section
variable {c : Pm} {Wx : WX} {X : Cx} {n : Nat} {W W' W1 W2 W3 : Dr} {F0 H0 F H F' H' F1 H1 F2 H2 F3 H3 Hs : Hp} {ρ : En} {σ : L2.St} {u w : V} {x y v : Vl} {Q : VK} {us : List V} {vs : List Vl}

theorem Paired.at_ {α β : Type} {G : α → β → Prop} : ∀ {l₁ : List α} {l₂ : List β} {i : Nat} {b : β}, Paired G l₁ l₂ → l₂[i]? = some b → ∃ a, l₁[i]? = some a ∧ G a b
  | _, _, i, _, .nil, e => by simp at e
  | _, _, 0, _, .cons r _, e => by simp at e; subst e; exact ⟨_, rfl, r⟩
  | _, _, i + 1, _, .cons _ t, e => by simpa using Paired.at_ (i := i) t (by simpa using e)
theorem Paired.len {α β : Type} {G : α → β → Prop} : ∀ {l₁ : List α} {l₂ : List β}, Paired G l₁ l₂ → l₁.length = l₂.length
  | _, _, .nil => rfl
  | _, _, .cons _ t => by simp [Paired.len t]

noncomputable def Ft (F H : Hp) (us : List V) (vs : List Vl) : Hp := fun a => if TmpAt us vs a then H a else F a
abbrev ArgOk (c : Pm) (ρ : En) (σ : L2.St) (Hs F H : Hp) (us : List V) (vs : List Vl) : Prop := Paired (fun u v => ValOk c ρ σ Hs F H u v) us vs
theorem tmp_at : ∀ {us : List V} {vs : List Vl}, ArgOk c ρ σ Hs F2 H2 us vs → ∀ {a : Addr}, TmpAt us vs a → F2 a = none ∧ a ∉ c.mv ∧ Nil Hs a ∧ Thr H2 a
  | _, _, .nil, a, h => h.elim
  | _, _, .cons (a := u) (b := v) r t, a, h => by
    rcases h with ⟨h1, h2⟩ | h
    · have k := r.at_
      rw [h1] at k
      obtain ⟨p, e1, e2, e3, e4, e5⟩ := k
      rw [h2] at e1
      have q : a = p := V.ref.inj e1
      subst q
      exact ⟨e2, e3, e4, e5.thr⟩
    · exact tmp_at t h
theorem Ft_up (s : Same F H) : Same F (Ft F H us vs) := fun a o e => by
  unfold Ft; by_cases h : TmpAt us vs a
  · rw [if_pos h]; exact s a o e
  · rw [if_neg h]; exact e
theorem Ft_dn (s : Same F H) : Same (Ft F H us vs) H := fun a o e => by
  unfold Ft at e; by_cases h : TmpAt us vs a
  · rw [if_pos h] at e; exact e
  · rw [if_neg h] at e; exact s a o e
theorem Ft_stp (S : Stp c W2 F H F2 H2) (A : ArgOk c ρ σ H F2 H2 us vs) : Stp c W2 F H (Ft F2 H2 us vs) H2 := by
  refine ⟨fun a o e => Ft_up S.sub _ _ (S.f a o e), Ft_dn S.sub, S.h, fun a e nn => ?_, fun a o e => ?_, fun a ha => ?_, S.dr, fun hd => Ft_up S.sub _ _ (S.cl hd), S.tabs⟩
  · have : ¬ TmpAt us vs a := fun h => (tmp_at A h).2.2.1 nn
    unfold Ft; rw [if_neg this]; exact S.new a e nn
  · by_cases h : TmpAt us vs a
    · obtain ⟨o', e', n⟩ := (tmp_at A h).2.2.2
      unfold Ft at e; rw [if_pos h, e'] at e; cases e; exact n.1
    · unfold Ft at e; rw [if_neg h] at e; exact S.nt a o e
  · have : ¬ TmpAt us vs a := fun h => (tmp_at A h).2.1 ha
    unfold Ft; rw [if_neg this]; exact S.av a ha
theorem Ft_rel (R0 : Rel c F0 H0 ρ σ F H W) (R : Rel c F0 H0 ρ σ F2 H2 W2) (S : Stp c W2 F H F2 H2) (A : ArgOk c ρ σ H F2 H2 us vs) : Rel c F0 H0 ρ σ (Ft F2 H2 us vs) H2 W2 := R0.step (Ft_stp S A)
theorem ts_own : ∀ {us : List V} {vs : List Vl}, ArgOk c ρ σ Hs F2 H2 us vs → ∀ i ∈ ts vs, ∃ x, ρ[i]? = some (.own x)
  | _, _, .nil, i, h => by simp [ts] at h
  | _, _, .cons r t, i, h => by
    unfold ts at h
    rw [List.flatMap_cons, List.mem_append] at h
    rcases h with h | h
    · exact r.own i h
    · exact ts_own t i h
theorem val_rep (R : Rel c F0 H0 ρ σ F2 H2 W2) (k : ValOk c ρ σ Hs F2 H2 u v) {FF : Hp} {t : List Nat} (hs : Same F2 FF) (hF : ∀ a, AtS σ t a → FF a = H2 a) (ht : ∀ i ∈ v.all, i ∈ t) (hT : v.k = .fr → ∀ a, u = .ref a → FF a = H2 a) : Rep c FF u v.d := by
  have up : Same (Fz F2 H2 σ v.t) FF := fun a o e => by
    by_cases h : AtS σ v.t a
    · rw [Fz_in h] at e
      rw [hF a]
      · exact e
      · obtain ⟨i, h1, h2⟩ := h
        refine ⟨i, ht i ?_, h2⟩
        unfold Vl.all; split
        · exact List.mem_cons_of_mem _ h1
        · exact h1
    · rw [Fz_out h] at e; exact hs a o e
  have a := k.at_
  have hm := ht
  unfold Vl.all at hm
  revert a hm hT
  cases v.k with
  | pl => exact fun _ a _ => a.mono up
  | me i =>
    rintro - ⟨h1, h2, h3⟩ hm
    obtain ⟨p, e1, _, _, _, e2⟩ := R.own h2
    rw [h3] at e1
    have q := Option.some.inj (Option.some.inj e1)
    subst q
    exact e2.rep hs (hF _ ⟨i, hm i List.mem_cons_self, h3⟩)
  | fr =>
    rintro hT ⟨p, e1, _, _, _, e2⟩ _
    subst e1
    exact e2.rep up (hT rfl _ rfl)
theorem args_rep (R : Rel c F0 H0 ρ σ F2 H2 W2) {FF : Hp} {t : List Nat} (hs : Same F2 FF) (hF : ∀ a, AtS σ t a → FF a = H2 a) : ∀ {us : List V} {vs : List Vl}, ArgOk c ρ σ Hs F2 H2 us vs → (∀ i ∈ ts vs, i ∈ t) → (∀ a, TmpAt us vs a → FF a = H2 a) → RepL c FF us (ds vs)
  | _, _, .nil, _, _ => .nil
  | _, _, .cons r k, ht, hT => by
    refine .cons (val_rep R r hs hF (fun i hi => ht i ?_) fun e a h => hT a (.inl ⟨e, h⟩)) (args_rep R hs hF k (fun i hi => ht i ?_) fun a h => hT a (.inr h))
    · unfold ts; rw [List.flatMap_cons]; exact List.mem_append_left _ hi
    · unfold ts; rw [List.flatMap_cons]; exact List.mem_append_right _ hi
theorem args_all (R0 : Rel c F0 H0 ρ σ F H W) (R : Rel c F0 H0 ρ σ F2 H2 W2) (S : Stp c W2 F H F2 H2) (A : ArgOk c ρ σ H F2 H2 us vs) : RepL c (Fz (Ft F2 H2 us vs) H2 σ (ts vs)) us (ds vs) := by
  refine args_rep (t := ts vs) R (fun a o e => Fz_up (Ft_dn R.stp.sub) _ _ (Ft_up R.stp.sub _ _ e)) (fun a h => Fz_in h) A (fun _ h => h) fun a h => ?_
  by_cases q : AtS σ (ts vs) a
  · exact Fz_in q
  · rw [Fz_out q]; unfold Ft; rw [if_pos h]

theorem l_nil : PA X [] (rdL c Wx .nil) := pa_wk pa_nil fun σ H Q ⟨F0, H0, ρ, F, W, R, hP⟩ => by
  simp only [evL] at hP
  exact hP [] F H R.refl ⟨.nil, trivial⟩
theorem l_cons {e : Expr} {es : List Expr} {a b : E} (ha : PE X e (rdE c Wx a)) (hb : PA X es (rdL c Wx b)) (hs : starEach (e :: es) X.env = (false, eval e X.env) :: starEach es X.env) : PA X (e :: es) (rdL c Wx (.cons a b)) := by
  refine pa_wk (pa_cons ha hb hs) fun σ H Q ⟨F0, H0, ρ, F, W, R, hP⟩ => ?_
  simp only [evL] at hP
  refine rd_e R R.refl hP fun x W1 u F1 H1 S1 _ V1 R1 hP => ?_
  refine rd_lx R1 S1 hP fun ys W2 us F2 H2 S2 S12 V2 A2 R2 hP => ?_
  refine hP _ _ _ S2 ⟨.cons (V1.step R1 S12) (Paired.mapP V2 fun _ _ z => z.start fun a m z => S1.keepN m z), fun a hk hu z => ?_, A2⟩
  have k := V1.at_
  rw [hk] at k
  obtain ⟨p, e1, _, _, _, e5⟩ := k
  rw [hu] at e1
  have q : a = p := V.ref.inj e1
  subst q
  exact (tmp_at V2 z).2.2.1 e5.thr

theorem e_tup {es : List Expr} {a : E} {k : Nat} {pos : Pos} (ha : PA X es (rdL c Wx a)) : PE X (.Tuple es k pos) (rdE c Wx (.tup a)) := by
  refine pe_wk (pe_tup ha) fun σ H Q ⟨F0, H0, ρ, F, W, R, hP⟩ => ?_
  simp only [ev] at hP
  refine rd_l R R.refl hP fun vs W2 us F2 H2 S2 _ A R2 hP => ?_
  by_cases hl : vs.length ≤ cap
  · rw [if_pos hl] at hP
    exact ⟨by rw [Paired.len A, ← cap_eq]; exact hl, fin_tup (Ft_rel R R2 S2 A) (Ft_stp S2 A) (ts_own A) hP (args_all R R2 S2 A)⟩
  · rw [if_neg hl] at hP; exact hP.elim
theorem e_lst {es : List Expr} {a : E} {pos : Pos} (ha : PA X es (rdL c Wx a)) : PE X (.List es pos) (rdE c Wx (.lst a)) := by
  refine pe_wk (pe_lst ha) fun σ H Q ⟨F0, H0, ρ, F, W, R, hP⟩ => ?_
  simp only [ev] at hP
  refine rd_l R R.refl hP fun vs W2 us F2 H2 S2 _ A R2 hP => ?_
  by_cases hl : vs.length ≤ cap
  · rw [if_pos hl] at hP
    exact ⟨by rw [Paired.len A, ← cap_eq]; exact hl, fin_lst (Ft_rel R R2 S2 A) (Ft_stp S2 A) (ts_own A) hP (args_all R R2 S2 A)⟩
  · rw [if_neg hl] at hP; exact hP.elim

def ResOk (c : Pm) (Hs F H : Hp) (u : V) (r : Bool × D) : Prop := if r.1 then ∃ p, u = .ref p ∧ F p = none ∧ p ∉ c.mv ∧ Nil Hs p ∧ OwnAt c F H p r.2 else Rep c F u r.2
def PstG (c : Pm) (F H : Hp) (Q : VK) (E : XK) : Out (Bool × D) → Prop
  | .ok r W' => ∀ u F' H', Stp c W' F H F' H' → ResOk c H F' H' u r → Q u H'
  | .ex x W' => ∀ cls dd F' H', Stp c W' F H F' H' → ExOk c F' x cls dd → E cls dd H'
  | .stk => False
def spG (c : Pm) (g : G) : Sp := fun vs H Q E => ∃ F xs W, RepL c F vs xs ∧ Stp c W F H F H ∧ PstG c F H Q E (g xs W)

noncomputable def Fh (F : Hp) (σ : L2.St) (t : List Nat) : Hp := fun a => if AtS σ t a then none else F a
theorem Fh_in {t : List Nat} {a : Addr} (h : AtS σ t a) : Fh F σ t a = none := if_pos h
theorem Fh_out {t : List Nat} {a : Addr} (h : ¬ AtS σ t a) : Fh F σ t a = F a := if_neg h
theorem Fh_stp {t : List Nat} (R0 : Rel c F0 H0 ρ σ F H W) (S : Stp c W2 F H F2 H2) (A : ArgOk c ρ σ H F2 H2 us vs) (ht : ∀ i ∈ t, ∃ x, ρ[i]? = some (.own x)) (T : Stp c W3 (Fz (Ft F2 H2 us vs) H2 σ t) H2 F3 H3) : Stp c W3 F H (Fh F3 σ t) H3 := by
  have S' := Ft_stp S A
  have R' : Rel c F0 H0 ρ σ (Ft F2 H2 us vs) H2 W2 := R0.step S'
  refine ⟨fun a o e => ?_, fun a o e => ?_, fun a o e nn k => T.h a o (S.h a o e nn k) nn k, fun a e nn => ?_, fun a o e => ?_, fun a ha => ?_, T.dr, fun hd => ?_, T.tabs⟩
  · have q : ¬ AtS σ t a := fun h => by
      have := (R0.at_ ht h).1
      rw [e] at this; cases this
    rw [Fh_out q]
    exact T.f a o (by rw [Fz_out q]; exact S'.f a o e)
  · by_cases q : AtS σ t a
    · rw [Fh_in q] at e; cases e
    · rw [Fh_out q] at e; exact T.sub a o e
  · by_cases q : AtS σ t a
    · exact Fh_in q
    · rw [Fh_out q]
      by_cases m : a ∈ c.mv
      · exact T.av a m
      · exact T.new a (by rw [Fz_out q]; exact S'.new a e nn) (S.there m nn)
  · by_cases q : AtS σ t a
    · rw [Fh_in q] at e; cases e
    · rw [Fh_out q] at e; exact T.nt a o e
  · by_cases q : AtS σ t a
    · exact Fh_in q
    · rw [Fh_out q]; exact T.av a ha
  · have e0 := R0.stp.cl hd
    rw [Fh_out fun q => by rw [(R0.at_ ht q).1] at e0; cases e0]
    exact T.cl hd
theorem Fh_soft {t : List Nat} (R' : Rel c F0 H0 ρ σ F2 H2 W2) (ht : ∀ i ∈ t, ∃ x, ρ[i]? = some (.own x)) (T : Stp c W3 (Fz F2 H2 σ t) H2 F3 H3) : (∀ a, AtS σ t a → Soft F3 a) ∧ ∀ a, ¬ AtS σ t a → Fh F3 σ t a = F3 a := by
  refine ⟨fun a h => ?_, fun a h => Fh_out h⟩
  obtain ⟨_, _, h3, h4⟩ := R'.at_ ht h
  cases e : H2 a with
  | none => exact absurd e h4
  | some o =>
    have : F3 a = some o := T.f a o (by rw [Fz_in h]; exact e)
    unfold Soft at h3 ⊢
    rw [e] at h3; rw [this]; exact h3
theorem Fh_up {t : List Nat} (T : Same F3 H3) : Same F3 (Fz (Fh F3 σ t) H3 σ t) := fun a o e => by
  by_cases q : AtS σ t a
  · rw [Fz_in q]; exact T a o e
  · rw [Fz_out q, Fh_out q]; exact e
theorem call_end {g : G} {t : List Nat} (R0 : Rel c F0 H0 ρ σ F H W) (S : Stp c W2 F H F2 H2) (A : ArgOk c ρ σ H F2 H2 us vs) (ht : ∀ i ∈ t, ∃ x, ρ[i]? = some (.own x)) {o : Out (Bool × D)}
    (hP : Pst c Wx σ F H (fun v u F' H' => ValOk c ρ σ H F' H' u v) Q (o.bind fun r W => .ok (vo r t) W)) :
    PstG c (Fz (Ft F2 H2 us vs) H2 σ t) H2 Q (fun cls dd H' => Wx cls dd σ H') o := by
  have S' := Ft_stp S A
  have R' : Rel c F0 H0 ρ σ (Ft F2 H2 us vs) H2 W2 := R0.step S'
  cases o with
  | stk => exact hP
  | ex x W3 =>
    intro cls dd F3 H3 T hx
    refine hP cls dd _ H3 (Fh_stp R0 S A ht T) ?_
    obtain ⟨a1, a2⟩ := Fh_soft R' ht T
    revert hx
    unfold ExOk
    cases x <;> try exact fun h => h
    rename_i nm fs
    rintro ⟨C, h1, h2, h3⟩
    refine ⟨C, h1, h2, ?_⟩
    revert h3
    split
    · exact fun h => h
    · rintro ⟨m, b, gs, e1, e2, e3⟩
      refine ⟨m, b, gs, e1, ?_, RepF.soft a1 a2 e3 m⟩
      rw [a2]
      · exact e2
      · intro z
        rcases a1 _ z with q | ⟨xs, q⟩ | ⟨xs, q⟩ | ⟨xs, q⟩ <;> rw [e2] at q <;> cases q
  | ok r W3 =>
    intro u F3 H3 T hr
    have S3 := Fh_stp R0 S A ht T
    obtain ⟨a1, a2⟩ := Fh_soft R' ht T
    refine hP u _ H3 S3 ?_
    have R3 := R0.step S3
    unfold ResOk at hr
    unfold vo
    obtain ⟨b, d⟩ := r
    cases b with
    | false =>
      rw [if_neg Bool.false_ne_true] at hr
      simp only [Bool.false_eq_true, if_false]
      unfold vl
      by_cases m : d.imm = true
      · rw [if_pos m]
        exact ValOk.of_rep (Rep.soft a1 a2 hr m) rfl rfl
      · rw [if_neg m]
        exact ⟨fun i hi => ht i hi, hr.mono (Fh_up T.sub)⟩
    | true =>
      rw [if_pos rfl] at hr
      obtain ⟨p, rfl, e1, e2, e3, e4⟩ := hr
      simp only [if_true]
      have hp : Fh F3 σ t p = none := by
        by_cases q : AtS σ t p
        · exact Fh_in q
        · rw [Fh_out q]; exact e1
      unfold vf
      by_cases m : d.kids = true
      · rw [if_pos m]
        refine ⟨fun i hi => by simp [Vl.all] at hi, p, rfl, hp, e2, S.keepN e2 e3, ?_⟩
        rw [Fz_nil]
        exact e4.soft a1 a2 m
      · rw [if_neg m]
        exact ⟨fun i hi => ht i hi, p, rfl, hp, e2, S.keepN e2 e3, e4.mono (Fh_up T.sub) fun _ h => h⟩
end
end Z

namespace Z
open PySem PySem.Spec PyProof.Rows L2
open Classical

mutual
theorem pyN_ok : ∀ (n : Nat) (d : D) (p : PyData), D.pyN n d = some p → p.plain = true ∧ p.depth ≤ n + 1
  | _, .non, _, h => by simp only [D.pyN, Option.some.injEq] at h; subst h; exact ⟨rfl, by simp [PyData.depth]⟩
  | _, .bl b, _, h => by simp only [D.pyN, Option.some.injEq] at h; subst h; exact ⟨rfl, by simp [PyData.depth]⟩
  | _, .int b, _, h => by simp only [D.pyN, Option.some.injEq] at h; subst h; exact ⟨rfl, by simp [PyData.depth]⟩
  | _, .str b, _, h => by simp only [D.pyN, Option.some.injEq] at h; subst h; exact ⟨rfl, by simp [PyData.depth]⟩
  | 0, .tup xs, _, h => by simp [D.pyN] at h
  | 0, .lst xs, _, h => by simp [D.pyN] at h
  | n + 1, .tup xs, p, h => by
    simp only [D.pyN, Option.map_eq_some_iff] at h
    obtain ⟨ps, h1, h2⟩ := h
    subst h2
    obtain ⟨a, b⟩ := pyNL_ok n xs ps h1
    exact ⟨by simpa only [PyData.plain] using a, by simp only [PyData.depth]; omega⟩
  | n + 1, .lst xs, p, h => by
    simp only [D.pyN, Option.map_eq_some_iff] at h
    obtain ⟨ps, h1, h2⟩ := h
    subst h2
    obtain ⟨a, b⟩ := pyNL_ok n xs ps h1
    exact ⟨by simpa only [PyData.plain] using a, by simp only [PyData.depth]; omega⟩
  | n, .dic _ _, _, h => by cases n <;> simp [D.pyN] at h
  | n, .ins _ _, _, h => by cases n <;> simp [D.pyN] at h
  | n, .exc _ _, _, h => by cases n <;> simp [D.pyN] at h
  | n, .drw, _, h => by cases n <;> simp [D.pyN] at h
  | n, .scr _, _, h => by cases n <;> simp [D.pyN] at h
  | n, .fn _, _, h => by cases n <;> simp [D.pyN] at h
theorem pyNL_ok : ∀ (n : Nat) (xs : List D) (ps : List PyData), D.pyNL n xs = some ps → PyData.plainAll ps = true ∧ PyData.depthAll ps ≤ n + 1
  | n, [], ps, h => by simp only [D.pyNL, Option.some.injEq] at h; subst h; exact ⟨rfl, by simp [PyData.depthAll]⟩
  | n, x :: xs, ps, h => by
    simp only [D.pyNL] at h
    split at h
    · rename_i y ys h1 h2
      cases h
      obtain ⟨a1, b1⟩ := pyN_ok n x y h1
      obtain ⟨a2, b2⟩ := pyNL_ok n xs ys h2
      exact ⟨by simp [PyData.plainAll, a1, a2], by simp only [PyData.depthAll]; omega⟩
    · cases h
end
mutual
theorem rep_dp {c : Pm} {F : Hp} : ∀ (n : Nat) (d : D) (p : PyData) (u : V), D.pyN n d = some p → Rep c F u d → Dp c.K F u p
  | _, .non, _, _, h, r => by simp only [D.pyN, Option.some.injEq] at h; subst h; cases r; exact .non
  | _, .bl b, _, _, h, r => by simp only [D.pyN, Option.some.injEq] at h; subst h; cases r; exact .bl _
  | _, .int b, _, _, h, r => by simp only [D.pyN, Option.some.injEq] at h; subst h; cases r; exact .int _
  | _, .str b, _, _, h, r => by simp only [D.pyN, Option.some.injEq] at h; subst h; cases r; exact .str _
  | 0, .tup xs, _, _, h, r => by simp [D.pyN] at h
  | 0, .lst xs, _, _, h, r => by simp [D.pyN] at h
  | n + 1, .tup xs, p, u, h, r => by
    simp only [D.pyN, Option.map_eq_some_iff] at h
    obtain ⟨ps, h1, h2⟩ := h
    subst h2
    obtain ⟨a, vs, rfl, h3, h4⟩ := r.tupI
    exact .tup h3 (repL_dp n xs ps vs h1 h4)
  | n + 1, .lst xs, p, u, h, r => by
    simp only [D.pyN, Option.map_eq_some_iff] at h
    obtain ⟨ps, h1, h2⟩ := h
    subst h2
    obtain ⟨a, vs, rfl, h3, h4⟩ := r.lstI
    exact .lst (.inl (.inl h3)) (repL_dp n xs ps vs h1 h4)
  | n, .dic _ _, _, _, h, _ => by cases n <;> simp [D.pyN] at h
  | n, .ins _ _, _, _, h, _ => by cases n <;> simp [D.pyN] at h
  | n, .exc _ _, _, _, h, _ => by cases n <;> simp [D.pyN] at h
  | n, .drw, _, _, h, _ => by cases n <;> simp [D.pyN] at h
  | n, .scr _, _, _, h, _ => by cases n <;> simp [D.pyN] at h
  | n, .fn _, _, _, h, _ => by cases n <;> simp [D.pyN] at h
theorem repL_dp {c : Pm} {F : Hp} : ∀ (n : Nat) (xs : List D) (ps : List PyData) (us : List V), D.pyNL n xs = some ps → RepL c F us xs → DpAll c.K F us ps
  | n, [], ps, us, h, r => by simp only [D.pyNL, Option.some.injEq] at h; subst h; cases r; exact .nil
  | n, x :: xs, ps, us, h, r => by
    simp only [D.pyNL] at h
    split at h
    · rename_i y ys h1 h2
      cases h
      cases r with
      | cons r1 r2 => exact .cons (rep_dp n x y _ h1 r1) (repL_dp n xs ys _ h2 r2)
    · cases h
end
mutual
theorem dp_mono {K : PySem.W.Frag} {H H' : Hp} (e : Same H H') : ∀ {v : V} {p : PyData}, Dp K H v p → Dp K H' v p
  | _, _, .non => .non
  | _, _, .bl b => .bl b
  | _, _, .int b => .int b
  | _, _, .str b => .str b
  | _, _, .lst h r => .lst (e.seq h) (dpAll_mono e r)
  | _, _, .tup h r => .tup (Same.sqT e h) (dpAll_mono e r)
theorem dpAll_mono {K : PySem.W.Frag} {H H' : Hp} (e : Same H H') : ∀ {v : List V} {p : List PyData}, DpAll K H v p → DpAll K H' v p
  | _, _, .nil => .nil
  | _, _, .cons h r => .cons (dp_mono e h) (dpAll_mono e r)
end

section
variable {c : Pm} {Wx : WX} {X : Cx} {n : Nat} {W W' W1 W2 : Dr} {F0 H0 F H F' H' F1 H1 F2 H2 Hs : Hp} {ρ : En} {σ : L2.St} {u w : V} {x y v : Vl} {Q : VK}
theorem val_dp {p : PyData} (R : Rel c F0 H0 ρ σ F H W) (k : ValOk c ρ σ Hs F H u v) (h : v.d.pd = some p) : Dp c.K H u p := by
  cases e : v.d <;> rw [e] at h
  case lst xs =>
    unfold D.pd at h
    simp only [D.pyN, Option.map_eq_some_iff] at h
    obtain ⟨ps, h1, h2⟩ := h
    subst h2
    obtain ⟨a, vs, rfl, h3, h4⟩ := k.lst R e
    exact .lst (.inl (.inl h3)) (dpAll_mono (Fz_dn R.stp.sub) (repL_dp _ _ _ _ h1 h4))
  case dic t kvs => simp [D.pd, D.pyN] at h
  all_goals exact dp_mono (Fz_dn R.stp.sub) (rep_dp _ _ _ _ h (k.rep R e fun _ _ _ h => h))
def rEqP (K : PySem.W.Frag) (neg : Bool) : R2 := fun x y H Q => ∃ d e, Dp K H x d ∧ Dp K H y e ∧ d.plain = true ∧ e.plain = true ∧ d.depth ≤ 60 ∧ Q (.bl (if neg then !PyData.eqv d e else PyData.eqv d e)) H
theorem room_min {A : Around} {d e : PyData} (hu : A.units + 64 < cLine) (h : d.depth ≤ 60) : A.units + min d.depth e.depth < cLine := by
  have : min d.depth e.depth ≤ d.depth := Nat.min_le_left _ _
  omega
theorem op_eqP (hu : X.A.units + 64 < cLine) : OpR X (compareOp .Eq) (rEqP X.K false) := by
  intro pins s σ H x y v u Q I rx ry h
  obtain ⟨d, e, hd, he, sd, se, hz, q⟩ := h
  obtain ⟨as, r1⟩ := Dp.reads I d x v hd rx
  obtain ⟨bs, r2⟩ := Dp.reads I e y u he ry
  exact SeqAt.eq_plain r1 r2 sd se (room_min hu hz) ⟨.bl _, H, I, rfl, q⟩
theorem op_neP (hu : X.A.units + 64 < cLine) : OpR X (compareOp .NotEq) (rEqP X.K true) := by
  intro pins s σ H x y v u Q I rx ry h
  obtain ⟨d, e, hd, he, sd, se, hz, q⟩ := h
  obtain ⟨as, r1⟩ := Dp.reads I d x v hd rx
  obtain ⟨bs, r2⟩ := Dp.reads I e y u he ry
  exact SeqAt.ne_plain r1 r2 sd se (room_min hu hz) ⟨.bl _, H, I, rfl, q⟩
def rInP (K : PySem.W.Frag) (neg : Bool) : R2 := fun x y H Q => ∃ d es, Dp K H x d ∧ d.plain = true ∧ d.depth ≤ 60 ∧ (Dp K H y (.list es) ∨ Dp K H y (.tuple es)) ∧ PyData.plainAll es = true ∧
  Q (.bl (if neg then !es.any (fun e => PyData.eqv e d) else es.any fun e => PyData.eqv e d)) H
theorem room_in {A : Around} {d : PyData} {n : Nat} (hu : A.units + 64 < cLine) (h : d.depth ≤ 60) : A.units + 1 + min n d.depth < cLine := by
  have : min n d.depth ≤ d.depth := Nat.min_le_right _ _
  omega
theorem op_inP (hu : X.A.units + 64 < cLine) : OpR X (compareOp .In) (rInP X.K false) := by
  intro pins s σ H x y v u Q I rx ry h
  obtain ⟨d, es, hd, sd, hz, hl, se, q⟩ := h
  obtain ⟨as, r1⟩ := Dp.reads I d x v hd rx
  rcases hl with hl | hl
  · obtain ⟨bs, r2⟩ := Dp.reads I _ y u hl ry
    exact SeqAt.in_list_data r2 r1 se sd (room_in hu hz) ⟨.bl _, H, I, rfl, q⟩
  · obtain ⟨bs, r2⟩ := Dp.reads I _ y u hl ry
    exact SeqAt.in_tuple_data r2 r1 se sd (room_in hu hz) ⟨.bl _, H, I, rfl, q⟩
theorem op_ninP (hu : X.A.units + 64 < cLine) : OpR X (compareOp .NotIn) (rInP X.K true) := by
  intro pins s σ H x y v u Q I rx ry h
  obtain ⟨d, es, hd, sd, hz, hl, se, q⟩ := h
  obtain ⟨as, r1⟩ := Dp.reads I d x v hd rx
  rcases hl with hl | hl
  · obtain ⟨bs, r2⟩ := Dp.reads I _ y u hl ry
    exact SeqAt.notIn_list_data r2 r1 se sd (room_in hu hz) ⟨.bl _, H, I, rfl, q⟩
  · obtain ⟨bs, r2⟩ := Dp.reads I _ y u hl ry
    exact SeqAt.notIn_tuple_data r2 r1 se sd (room_in hu hz) ⟨.bl _, H, I, rfl, q⟩

def CmpOk (c : Pm) (f : D → D → Option Bool) (r : R2) : Prop :=
  ∀ {W2 : Dr} {F0 H0 H F2 H2 : Hp} {ρ : En} {σ : L2.St} {u w : V} {x y : Vl} {Q : VK} {z : Bool}, Rel c F0 H0 ρ σ F2 H2 W2 → ValOk c ρ σ H F2 H2 u x → ValOk c ρ σ H F2 H2 w y → f x.d y.d = some z → Q (.bl z) H2 → r u w H2 Q
theorem e_cmp {op : CmpOp} {a b : Expr} {ea eb : E} {pos : Pos} {r : R2} (ho : OpR X (compareOp op) r) (k : CmpOk c (cmpD op) r) (ha : PE X a (rdE c Wx ea)) (hb : PE X b (rdE c Wx eb)) (hm : behindInMarks op b = false) :
    PE X (.Compare a [op] [b] pos) (rdE c Wx (.cmp op ea eb)) := by
  refine pe_wk (pe_cmpR ho ha hb hm) fun σ H Q ⟨F0, H0, ρ, F, W, R, hP⟩ => ?_
  simp only [ev] at hP
  refine rd_e R R.refl hP fun x W1 u F1 H1 S1 _ V1 R1 hP => ?_
  refine rd_e R1 S1 hP fun y W2 w F2 H2 S2 S12 V2 R2 hP => ?_
  obtain ⟨z, hz, hP⟩ := ofO_some hP
  exact k R2 (V1.step R1 S12) V2 hz (fin_sc R2 S2 hP (.bl z))
theorem t_cmp {op : CmpOp} {a b : Expr} {ea eb : E} {pos : Pos} {r : R2} (ho : OpR X (compareOp op) r) (k : CmpOk c (cmpD op) r) (ha : PE X a (rdE c Wx ea)) (hb : PE X b (rdE c Wx eb)) (hm : behindInMarks op b = false) :
    PT X (.Compare a [op] [b] pos) (rdT c Wx (.tv (.cmp op ea eb))) := by
  refine pt_wk (pt_cmpR ho ha hb hm) fun σ H Q ⟨F0, H0, ρ, F, W, R, hP⟩ => ?_
  simp only [evT, ev, Out.bind_bind, ofO_bind, Out.ok_bind] at hP
  refine rd_e R R.refl hP fun x W1 u F1 H1 S1 _ V1 R1 hP => ?_
  refine rd_e R1 S1 hP fun y W2 w F2 H2 S2 S12 V2 R2 hP => ?_
  obtain ⟨z, hz, hP⟩ := ofO_some hP
  exact k R2 (V1.step R1 S12) V2 hz ⟨z, rfl, hP z F2 H2 S2 rfl⟩
end
end Z

namespace Z
open PySem PySem.Spec PyProof.Rows L2
open Classical
section
variable {c : Pm} {Wx : WX} {X : Cx} {n : Nat} {W W' W1 W2 : Dr} {F0 H0 F H F' H' F1 H1 F2 H2 Hs : Hp} {ρ : En} {σ : L2.St} {u w : V} {x y v : Vl} {Q : VK}

theorem eq_ok : CmpOk c (cmpD .Eq) (rEqP c.K false) := by
  intro W2 F0 H0 H F2 H2 ρ σ u w x y Q z R V1 V2 h q
  simp only [cmpD, D.eq] at h
  split at h
  · rename_i a b h1 h2
    cases h
    obtain ⟨p1, d1⟩ := pyN_ok _ _ _ h1
    exact ⟨a, b, val_dp R V1 h1, val_dp R V2 h2, p1, (pyN_ok _ _ _ h2).1, by omega, q⟩
  · cases h
theorem ne_ok : CmpOk c (cmpD .NotEq) (rEqP c.K true) := by
  intro W2 F0 H0 H F2 H2 ρ σ u w x y Q z R V1 V2 h q
  simp only [cmpD, D.eq, Option.map_eq_some_iff] at h
  obtain ⟨k, h, rfl⟩ := h
  split at h
  · rename_i a b h1 h2
    cases h
    obtain ⟨p1, d1⟩ := pyN_ok _ _ _ h1
    exact ⟨a, b, val_dp R V1 h1, val_dp R V2 h2, p1, (pyN_ok _ _ _ h2).1, by omega, q⟩
  · cases h
theorem le_ok : CmpOk c (cmpD .LtE) (rI0 fun i j => .bl (decide (i ≤ j))) := by
  intro W2 F0 H0 H F2 H2 ρ σ u w x y Q z R V1 V2 h q
  cases e1 : x.d <;> cases e2 : y.d <;> rw [e1, e2] at h <;> simp only [cmpD] at h <;> try (cases h)
  exact ⟨_, _, V1.int R e1, V2.int R e2, q⟩
theorem gt_ok : CmpOk c (cmpD .Gt) (rI0 fun i j => .bl (decide (j < i))) := by
  intro W2 F0 H0 H F2 H2 ρ σ u w x y Q z R V1 V2 h q
  cases e1 : x.d <;> cases e2 : y.d <;> rw [e1, e2] at h <;> simp only [cmpD] at h <;> try (cases h)
  exact ⟨_, _, V1.int R e1, V2.int R e2, q⟩
theorem ge_ok : CmpOk c (cmpD .GtE) (rI0 fun i j => .bl (decide (j ≤ i))) := by
  intro W2 F0 H0 H F2 H2 ρ σ u w x y Q z R V1 V2 h q
  cases e1 : x.d <;> cases e2 : y.d <;> rw [e1, e2] at h <;> simp only [cmpD] at h <;> try (cases h)
  exact ⟨_, _, V1.int R e1, V2.int R e2, q⟩
def rLtP (K : PySem.W.Frag) : R2 := fun x y H Q => ∃ d e, Dp K H x d ∧ Dp K H y e ∧ PySem.W.alike d e = true ∧ d ≠ .none ∧ d.depth ≤ 60 ∧ Q (.bl (PySem.W.dataLt d e)) H
theorem op_ltP (hu : X.A.units + 64 < cLine) : OpR X (compareOp .Lt) (rLtP X.K) := by
  intro pins s σ H x y v u Q I rx ry h
  obtain ⟨d, e, hd, he, sd, se, hz, q⟩ := h
  obtain ⟨as, r1⟩ := Dp.reads I d x v hd rx
  obtain ⟨bs, r2⟩ := Dp.reads I e y u he ry
  exact PySem.W.rcLt_alike d e X.A s v u as bs r1 r2 sd se (room_min hu hz) X.prog X.w X.xe _ ⟨.bl _, H, I, rfl, q⟩
def rLtD (K : PySem.W.Frag) : R2 := fun x y H Q => (rI0 fun i j => .bl (decide (i < j))) x y H Q ∨ rLtP K x y H Q
theorem op_ltD (hu : X.A.units + 64 < cLine) : OpR X (compareOp .Lt) (rLtD X.K) := op_lt.or (op_ltP hu)
theorem lt_aux (R : Rel c F0 H0 ρ σ F2 H2 W2) (V1 : ValOk c ρ σ H F2 H2 u x) (V2 : ValOk c ρ σ H F2 H2 w y) {z : Bool} (h : x.d.lt y.d = some z) (q : Q (.bl z) H2) : rLtP c.K u w H2 Q := by
  unfold D.lt at h
  split at h
  · rename_i a b h1 h2
    split at h
    · rename_i ha
      split at h
      · cases h
      · rename_i hn
        cases h
        exact ⟨a, b, val_dp R V1 h1, val_dp R V2 h2, ha, hn, by have := (pyN_ok _ _ _ h1).2; omega, q⟩
    · cases h
  · cases h
theorem lt_ok : CmpOk c (cmpD .Lt) (rLtD c.K) := by
  intro W2 F0 H0 H F2 H2 ρ σ u w x y Q z R V1 V2 h q
  simp only [cmpD] at h
  split at h
  · rename_i i j e1 e2
    cases h
    exact .inl ⟨i, j, V1.int R e1, V2.int R e2, q⟩
  · exact .inr (lt_aux R V1 V2 h q)
theorem val_non (R : Rel c F0 H0 ρ σ F H W) (k : ValOk c ρ σ Hs F H u v) : (decide (u = .non)) = (match v.d with | .non => true | _ => false) := by
  cases e : v.d
  case lst xs => obtain ⟨a, vs, rfl, _⟩ := k.lst R e; rfl
  case dic t kvs => obtain ⟨a, rfl⟩ := k.dic_ref R e; rfl
  all_goals (have a := k.rep R e fun _ _ _ h => h; cases a <;> rfl)
def rIsD (neg : Bool) : R2 := fun x y H Q => (y = .non ∧ Q (.bl (if neg then !decide (x = .non) else decide (x = .non))) H) ∨ ∃ a b, x = .bl a ∧ y = .bl b ∧ Q (.bl (if neg then !decide (a = b) else decide (a = b))) H
theorem op_isD : OpR X (compareOp .Is) (rIsD false) := op_isN.or op_is_bl
theorem op_isnD : OpR X (compareOp .IsNot) (rIsD true) := op_notN.or op_isnot_bl
theorem is_ok : CmpOk c (cmpD .Is) (rIsD false) := by
  intro W2 F0 H0 H F2 H2 ρ σ u w x y Q z R V1 V2 h q
  simp only [cmpD] at h
  split at h
  · rename_i e2
    cases h
    exact .inl ⟨V2.non R e2, by simp only [Bool.false_eq_true, if_false]; rw [val_non R V1]; exact q⟩
  · rename_i a b e1 e2
    cases h
    refine .inr ⟨a, b, V1.bl R e1, V2.bl R e2, ?_⟩
    simp only [Bool.false_eq_true, if_false]
    have : (a == b) = decide (a = b) := by cases a <;> cases b <;> rfl
    rw [← this]; exact q
  · cases h
theorem isn_ok : CmpOk c (cmpD .IsNot) (rIsD true) := by
  intro W2 F0 H0 H F2 H2 ρ σ u w x y Q z R V1 V2 h q
  simp only [cmpD] at h
  split at h
  · rename_i e2
    cases h
    refine .inl ⟨V2.non R e2, ?_⟩
    simp only [if_true]
    rw [val_non R V1]
    cases e : x.d <;> rw [e] at q <;> exact q
  · rename_i a b e1 e2
    cases h
    refine .inr ⟨a, b, V1.bl R e1, V2.bl R e2, ?_⟩
    simp only [if_true]
    have : (a != b) = !decide (a = b) := by cases a <;> cases b <;> rfl
    rw [← this]; exact q
  · cases h
def rInD (K : PySem.W.Frag) (neg : Bool) : R2 := fun x y H Q => (∃ i j, x = .str i ∧ y = .str j ∧ Q (.bl (if neg then !(!(Builtin.Str.occurrences j i 0 j.length 1).isEmpty) else !(Builtin.Str.occurrences j i 0 j.length 1).isEmpty)) H) ∨ rInP K neg x y H Q
theorem op_inD (hu : X.A.units + 64 < cLine) : OpR X (compareOp .In) (rInD X.K false) := op_in_str.or (op_inP hu)
theorem op_ninD (hu : X.A.units + 64 < cLine) : OpR X (compareOp .NotIn) (rInD X.K true) := op_notIn_str.or (op_ninP hu)
theorem val_dps_l {ys : List D} {ps : List PyData} (R : Rel c F0 H0 ρ σ F H W) (k : ValOk c ρ σ Hs F H u v) (e : v.d = .lst ys) (h : D.pyNL 12 ys = some ps) : Dp c.K H u (.list ps) := by
  obtain ⟨a, vs, rfl, h3, h4⟩ := k.lst R e
  exact .lst (.inl (.inl h3)) (dpAll_mono (Fz_dn R.stp.sub) (repL_dp _ _ _ _ h h4))
theorem val_dps_t {ys : List D} {ps : List PyData} (R : Rel c F0 H0 ρ σ F H W) (k : ValOk c ρ σ Hs F H u v) (e : v.d = .tup ys) (h : D.pyNL 12 ys = some ps) : Dp c.K H u (.tuple ps) := by
  obtain ⟨a, vs, rfl, h3, h4⟩ := k.tup R e
  exact .tup (Same.sqT (Fz_dn R.stp.sub) h3) (dpAll_mono (Fz_dn R.stp.sub) (repL_dp _ _ _ _ h h4))
theorem in_aux (neg : Bool) (R : Rel c F0 H0 ρ σ F2 H2 W2) (V1 : ValOk c ρ σ H F2 H2 u x) (V2 : ValOk c ρ σ H F2 H2 w y) {z : Bool} (h : cmpD.inD x.d y.d = some z) (q : Q (.bl (if neg then !z else z)) H2) : rInD c.K neg u w H2 Q := by
  unfold cmpD.inD at h
  split at h
  · rename_i a b e1 e2
    cases h
    exact .inl ⟨a, b, V1.str R e1, V2.str R e2, q⟩
  · rename_i ys _ e2
    unfold cmpD.anyEq at h
    split at h
    · rename_i a bs h1 h2
      cases h
      obtain ⟨p1, d1⟩ := pyN_ok _ _ _ h1
      exact .inr ⟨a, bs, val_dp R V1 h1, p1, by omega, .inl (val_dps_l R V2 e2 h2), (pyNL_ok _ _ _ h2).1, q⟩
    · cases h
  · rename_i ys _ e2
    unfold cmpD.anyEq at h
    split at h
    · rename_i a bs h1 h2
      cases h
      obtain ⟨p1, d1⟩ := pyN_ok _ _ _ h1
      exact .inr ⟨a, bs, val_dp R V1 h1, p1, by omega, .inr (val_dps_t R V2 e2 h2), (pyNL_ok _ _ _ h2).1, q⟩
    · cases h
  · cases h
theorem in_ok : CmpOk c (cmpD .In) (rInD c.K false) := by
  intro W2 F0 H0 H F2 H2 ρ σ u w x y Q z R V1 V2 h q
  exact in_aux false R V1 V2 h q
theorem nin_ok : CmpOk c (cmpD .NotIn) (rInD c.K true) := by
  intro W2 F0 H0 H F2 H2 ρ σ u w x y Q z R V1 V2 h q
  simp only [cmpD, Option.map_eq_some_iff] at h
  obtain ⟨k, h, rfl⟩ := h
  exact in_aux true R V1 V2 h q

theorem cmp_all (op : CmpOp) (hk : X.K = c.K) (hu : X.A.units + 64 < cLine) : ∃ r, OpR X (compareOp op) r ∧ CmpOk c (cmpD op) r := by
  cases op with
  | Eq => exact ⟨_, hk ▸ op_eqP hu, eq_ok⟩
  | NotEq => exact ⟨_, hk ▸ op_neP hu, ne_ok⟩
  | Lt => exact ⟨_, hk ▸ op_ltD hu, lt_ok⟩
  | LtE => exact ⟨_, op_le, le_ok⟩
  | Gt => exact ⟨_, op_gt, gt_ok⟩
  | GtE => exact ⟨_, op_ge, ge_ok⟩
  | Is => exact ⟨_, op_isD, is_ok⟩
  | IsNot => exact ⟨_, op_isnD, isn_ok⟩
  | In => exact ⟨_, hk ▸ op_inD hu, in_ok⟩
  | NotIn => exact ⟨_, hk ▸ op_ninD hu, nin_ok⟩

theorem t_chn {o1 o2 : CmpOp} {a b d : Expr} {ea eb ed : E} {pos : Pos} {r1 r2 : R2} (h1 : OpR X (compareOp o1) r1) (k1 : CmpOk c (cmpD o1) r1) (h2 : OpR X (compareOp o2) r2) (k2 : CmpOk c (cmpD o2) r2)
    (ha : PE X a (rdE c Wx ea)) (hb : PE X b (rdE c Wx eb)) (hd : PE X d (rdE c Wx ed)) (hm : lastMarks [o1, o2] [b, d] = false) : PT X (.Compare a [o1, o2] [b, d] pos) (rdT c Wx (.tv (.chn o1 o2 ea eb ed))) := by
  refine pt_wk (pt_chain h1 h2 ha hb hd hm) fun σ H Q ⟨F0, H0, ρ, F, W, R, hP⟩ => ?_
  simp only [evT, ev, Out.bind_bind, ofO_bind, ite_bind, Out.ok_bind] at hP
  refine rd_e R R.refl hP fun x W1 u F1 H1 S1 _ V1 R1 hP => ?_
  refine rd_e R1 S1 hP fun y W2 w F2 H2 S2 S12 V2 R2 hP => ?_
  obtain ⟨z, hz, hP⟩ := ofO_some hP
  refine k1 R2 (V1.step R1 S12) V2 hz ⟨z, rfl, ?_⟩
  cases z with
  | false =>
    rw [if_neg Bool.false_ne_true] at hP ⊢
    exact ⟨false, rfl, hP false F2 H2 S2 rfl⟩
  | true =>
    rw [if_pos rfl] at hP ⊢
    refine rd_e R2 S2 hP fun z W3 t F3 H3 S3 S23 V3 R3 hP => ?_
    obtain ⟨z, hz, hP⟩ := ofO_some hP
    exact k2 R3 (V2.step R2 S23) V3 hz ⟨z, rfl, hP z F3 H3 S3 rfl⟩

theorem isBl_eq {d : D} {b : Bool} (h : d.isBl = some b) : d = .bl b := by
  cases d <;> simp only [D.isBl] at h <;> cases h
  rfl
theorem t_val {a : Expr} {ea : E} (ha : PE X a (rdE c Wx ea)) (he : ∀ whole, isTrue a X.env whole = (do let v ← whole; standAt a.pos; holding [v] (truthy v))) : PT X a (rdT c Wx (.tv ea)) := by
  refine pt_wk (pt_val ha he) fun σ H Q ⟨F0, H0, ρ, F, W, R, hP⟩ => ?_
  simp only [evT] at hP
  refine rd_e R R.refl hP fun x W1 u F1 H1 S1 _ V1 R1 hP => ?_
  obtain ⟨b, hb, hP⟩ := ofO_some hP
  exact ⟨b, V1.bl R1 (isBl_eq hb), hP b F1 H1 S1 rfl⟩
theorem w_and1 {a : Expr} {ea : E} {pos : Pos} (ha : PT X a (rdT c Wx ea)) : PW X (.BoolOp .And [a] pos) (rdT c Wx ea) := pw_and1 ha
theorem w_or1 {a : Expr} {ea : E} {pos : Pos} (ha : PT X a (rdT c Wx ea)) : PW X (.BoolOp .Or [a] pos) (rdT c Wx ea) := pw_or1 ha
theorem w_and {a b : Expr} {rest : List Expr} {ea eb : E} {pos : Pos} (ha : PT X a (rdT c Wx ea)) (hb : PW X (.BoolOp .And (b :: rest) pos) (rdT c Wx eb)) : PW X (.BoolOp .And (a :: b :: rest) pos) (rdT c Wx (.and ea eb)) := by
  refine pw_wk (pw_and ha hb) fun σ H Q ⟨F0, H0, ρ, F, W, R, hP⟩ => ?_
  simp only [evT] at hP
  refine rd_t R R.refl hP fun b W1 F1 H1 S1 _ R1 hP => ?_
  cases b with
  | false => rw [if_neg Bool.false_ne_true] at hP ⊢; exact hP false F1 H1 S1 rfl
  | true =>
    rw [if_pos rfl] at hP ⊢
    exact rd_t R1 S1 (pst_ok hP) fun b W2 F2 H2 S2 _ _ hP => hP b F2 H2 S2 rfl
theorem w_or {a b : Expr} {rest : List Expr} {ea eb : E} {pos : Pos} (ha : PT X a (rdT c Wx ea)) (hb : PW X (.BoolOp .Or (b :: rest) pos) (rdT c Wx eb)) : PW X (.BoolOp .Or (a :: b :: rest) pos) (rdT c Wx (.or ea eb)) := by
  refine pw_wk (pw_or ha hb) fun σ H Q ⟨F0, H0, ρ, F, W, R, hP⟩ => ?_
  simp only [evT] at hP
  refine rd_t R R.refl hP fun b W1 F1 H1 S1 _ R1 hP => ?_
  cases b with
  | true => rw [if_pos rfl] at hP ⊢; exact hP true F1 H1 S1 rfl
  | false =>
    rw [if_neg Bool.false_ne_true] at hP ⊢
    exact rd_t R1 S1 (pst_ok hP) fun b W2 F2 H2 S2 _ _ hP => hP b F2 H2 S2 rfl
theorem t_not {a : Expr} {ea : E} {pos : Pos} (ha : PT X a (rdT c Wx ea)) : PT X (.UnaryOp .Not a pos) (rdT c Wx (.not ea)) := by
  refine pt_wk (pt_not ha) fun σ H Q ⟨F0, H0, ρ, F, W, R, hP⟩ => ?_
  simp only [evT] at hP
  exact rd_t R R.refl hP fun b W1 F1 H1 S1 _ R1 hP => hP (!b) F1 H1 S1 rfl
theorem e_and {a b : Expr} {rest : List Expr} {ea eb : E} {pos : Pos} (ha : PE X a (rdE c Wx ea)) (hb : PE X (.BoolOp .And (b :: rest) pos) (rdE c Wx eb)) : PE X (.BoolOp .And (a :: b :: rest) pos) (rdE c Wx (.and ea eb)) := by
  refine pe_wk (pe_and ha hb) fun σ H Q ⟨F0, H0, ρ, F, W, R, hP⟩ => ?_
  simp only [ev] at hP
  refine rd_e R R.refl hP fun x W1 u F1 H1 S1 _ V1 R1 hP => ?_
  obtain ⟨b, hb, hP⟩ := ofO_some hP
  refine ⟨b, V1.bl R1 (isBl_eq hb), ?_⟩
  cases b with
  | false => rw [if_neg Bool.false_ne_true] at hP ⊢; exact fin_sc R1 S1 hP (.bl false)
  | true =>
    rw [if_pos rfl] at hP ⊢
    exact rd_e R1 S1 (pst_ok hP) fun y W2 w F2 H2 S2 _ V2 _ hP => hP w F2 H2 S2 V2
theorem e_not {a : Expr} {ea : E} {pos : Pos} (ha : PE X a (rdE c Wx ea)) : PE X (.UnaryOp .Not a pos) (rdE c Wx (.not ea)) := by
  refine pe_wk (pe_not ha) fun σ H Q ⟨F0, H0, ρ, F, W, R, hP⟩ => ?_
  simp only [ev] at hP
  refine rd_e R R.refl hP fun x W1 u F1 H1 S1 _ V1 R1 hP => ?_
  obtain ⟨b, hb, hP⟩ := ofO_some hP
  exact ⟨b, V1.bl R1 (isBl_eq hb), fin_sc R1 S1 hP (.bl _)⟩
theorem e_neg {a : Expr} {ea : E} {pos : Pos} (ha : PE X a (rdE c Wx ea)) : PE X (.UnaryOp .USub a pos) (rdE c Wx (.neg ea)) := by
  refine pe_wk (pe_un un_neg ha) fun σ H Q ⟨F0, H0, ρ, F, W, R, hP⟩ => ?_
  simp only [ev] at hP
  refine rd_e R R.refl hP fun x W1 u F1 H1 S1 _ V1 R1 hP => ?_
  split at hP
  · rename_i i e
    exact ⟨i, V1.int R1 e, fin_sc R1 S1 hP (.int _)⟩
  · exact hP.elim
theorem e_ite {t a b : Expr} {et ea eb : E} {pos : Pos} (ht : PT X t (rdT c Wx et)) (ha : PE X a (rdE c Wx ea)) (hb : PE X b (rdE c Wx eb)) : PE X (.IfExp t a b pos) (rdE c Wx (.ite et ea eb)) := by
  refine pe_wk (pe_ifExp ht ha hb) fun σ H Q ⟨F0, H0, ρ, F, W, R, hP⟩ => ?_
  simp only [ev] at hP
  refine rd_t R R.refl hP fun b W1 F1 H1 S1 _ R1 hP => ?_
  cases b with
  | true =>
    rw [if_pos rfl] at hP ⊢
    exact rd_e R1 S1 (pst_ok hP) fun y W2 w F2 H2 S2 _ V2 _ hP => hP w F2 H2 S2 V2
  | false =>
    rw [if_neg Bool.false_ne_true] at hP ⊢
    exact rd_e R1 S1 (pst_ok hP) fun y W2 w F2 H2 S2 _ V2 _ hP => hP w F2 H2 S2 V2

theorem atI_rep {vs : List V} {xs : List D} {i : Int} {d : D} (r : RepL c F vs xs) (h : atD xs i = some d) : ∃ v, atI vs i = some v ∧ Rep c F v d := by
  unfold atD atI at h
  unfold atI
  rw [r.length]
  cases e : ixN xs.length i with
  | none => rw [e] at h; cases h
  | some j =>
    rw [e] at h
    obtain ⟨v, h1, h2⟩ := r.get (i := j) (by simpa using h)
    exact ⟨v, by simpa using h1, h2⟩
theorem e_ix {a b : Expr} {ea eb : E} {pos : Pos} (hk : X.K = c.K) (ha : PE X a (rdE c Wx ea)) (hb : PE X b (rdE c Wx eb)) (hs : PlainIx b) : PE X (.Subscript a b pos) (rdE c Wx (.ix ea eb)) := by
  refine pe_wk (pe_ix ix_seq ha hb hs) fun σ H Q ⟨F0, H0, ρ, F, W, R, hP⟩ => ?_
  simp only [ev] at hP
  refine rd_e R R.refl hP fun x W1 u F1 H1 S1 _ V1 R1 hP => ?_
  refine rd_e R1 S1 hP fun y W2 w F2 H2 S2 S12 V2 R2 hP => ?_
  obtain ⟨z, hz, hP⟩ := ofO_some hP
  have V1 := V1.step R1 S12
  unfold ixD at hz
  split at hz
  · rename_i xs i e1 e2
    obtain ⟨p, vs, rfl, h1, h2⟩ := V1.lst R2 e1
    obtain ⟨v, h3, h4⟩ := atI_rep h2 hz
    exact .inl ⟨p, vs, i, v, rfl, V2.int R2 e2, .inl (.inl h1), h3, fin_vl R2 S2 V1.t_own hP h4⟩
  · rename_i xs i e1 e2
    obtain ⟨p, vs, rfl, h1, h2⟩ := V1.tup R2 e1
    obtain ⟨v, h3, h4⟩ := atI_rep h2 hz
    exact .inr (.inl ⟨p, vs, i, v, rfl, V2.int R2 e2, hk ▸ Same.sqT (Fz_dn R2.stp.sub) h1, h3, fin_vl R2 S2 V1.t_own hP h4⟩)
  · rename_i z' i e1 e2
    split at hz
    · rename_i hl
      simp only [Option.map_eq_some_iff] at hz
      obtain ⟨cc, h1, rfl⟩ := hz
      exact .inr (.inr ⟨z', i, cc, V1.str R2 e1, V2.int R2 e2, by rw [← cap_eq]; exact hl, h1, fin_vl R2 S2 V1.t_own hP (.str _)⟩)
    · cases hz
  · cases hz
theorem o_none : PO X none (rdO c Wx .no) := po_wk po_none fun σ H Q ⟨F0, H0, ρ, F, W, R, hP⟩ => by
  simp only [evO] at hP
  exact hP none F H R.refl rfl
theorem o_some {a : Expr} {ea : E} (ha : PE X a (rdE c Wx ea)) : PO X (some a) (rdO c Wx (.pt ea)) := po_wk (po_some ha) fun σ H Q ⟨F0, H0, ρ, F, W, R, hP⟩ => by
  simp only [evO] at hP
  refine rd_e R R.refl hP fun x W1 u F1 H1 S1 _ V1 R1 hP => ?_
  split at hP
  · rename_i i e
    exact ⟨i, V1.int R1 e, hP _ F1 H1 S1 rfl⟩
  · exact hP.elim
def rSlD (K : PySem.W.Frag) : V → Option Int → Option Int → Hp → VK → Prop := fun x lo hi H Q => (rSlA K x lo hi H Q ∨ rSlL K x lo hi H Q) ∨ rSlS x lo hi H Q
theorem sl_D : SlR X (rSlD X.K) := (sl_tupA.or sl_list).or sl_str
theorem e_sl {a : Expr} {lo hi : Option Expr} {ea el eh : E} {pos p2 : Pos} (hk : X.K = c.K) (ha : PE X a (rdE c Wx ea)) (hl : PO X lo (rdO c Wx el)) (hh : PO X hi (rdO c Wx eh)) : PE X (.Subscript a (.Slice lo hi none p2) pos) (rdE c Wx (.sl ea el eh)) := by
  refine pe_wk (pe_slice sl_D ha hl hh) fun σ H Q ⟨F0, H0, ρ, F, W, R, hP⟩ => ?_
  simp only [ev] at hP
  refine rd_e R R.refl hP fun x W1 u F1 H1 S1 _ V1 R1 hP => ?_
  refine rd_o R1 S1 hP fun l W2 F2 H2 S2 S12 R2 hP => ?_
  refine rd_o R2 S2 hP fun h W3 F3 H3 S3 S23 R3 hP => ?_
  obtain ⟨z, hz, hP⟩ := ofO_some hP
  have V1 := (V1.step R1 S12).step R2 S23
  unfold slD at hz
  split at hz
  · rename_i xs e1
    cases hz
    obtain ⟨p, vs, rfl, h1, h2⟩ := V1.lst R3 e1
    refine .inl (.inr ⟨p, vs, rfl, .inl (.inl h1), fin_lst R3 S3 V1.t_own hP ?_⟩)
    unfold cutV cutD
    rw [h2.length]
    exact (h2.drop _).take _
  · rename_i xs e1
    cases hz
    obtain ⟨p, vs, rfl, h1, h2⟩ := V1.tupP R3 e1
    have r : RepL c (Fz F3 H3 σ x.t) (cutV vs l h) (cutD xs l h) := by
      unfold cutV cutD
      rw [h2.length]
      exact (h2.drop _).take _
    refine .inl (.inl ⟨p, vs, rfl, hk ▸ Same.sqT (Fz_dn R3.stp.sub) (.inl (.inl h1)), fun hw => ?_, fun _ => fin_tup R3 S3 V1.t_own hP r⟩)
    have e : cutV vs l h = vs := by
      unfold cutV
      rw [hw.1, hw.2, List.drop_zero, Nat.sub_zero, List.take_length]
    rw [e] at r
    exact fin_vl R3 S3 V1.t_own hP (.tup h1 r)
  · rename_i x e1
    split at hz <;> cases hz
    rename_i hl
    exact .inr ⟨_, V1.str R3 e1, by rw [← cap_eq]; exact hl, fin_vl R3 S3 V1.t_own hP (.str _)⟩
  · cases hz
end
end Z

namespace Z
open PySem PySem.Spec PyProof.Rows L2
open Classical
section
variable {c : Pm} {Wx : WX} {X : Cx} {n : Nat} {W W' W1 W2 : Dr} {F0 H0 F H F' H' F1 H1 F2 H2 Hs : Hp} {ρ : En} {σ : L2.St} {u w : V} {x y v : Vl} {Q : VK}

def BiOk (c : Pm) (f : List D → Option (Bool × D)) (r : List V → Hp → VK → Prop) : Prop :=
  ∀ {Wx : WX} {W2 : Dr} {F0 H0 F H F2 H2 : Hp} {ρ : En} {σ : L2.St} {us : List V} {vs : List Vl} {Q : VK} {z : Bool × D}, Rel c F0 H0 ρ σ F2 H2 W2 → Stp c W2 F H F2 H2 → ArgOk c ρ σ H F2 H2 us vs →
    f (ds vs) = some z → Fin_ c Wx ρ σ F H Q (vo z (vs.flatMap (·.t))) W2 → r us H2 Q
theorem bi_end {f : Bi} {r : List V → Hp → VK → Prop} {a : E} {t : TA} (k : BiOk c (biD f) r) {σ : L2.St} {H : Hp} {Q : VK} (h : rdE c Wx (.bi f a) σ H Q) : tCB r (rdL c Wx a) σ H Q := by
  obtain ⟨F0, H0, ρ, F, W, R, hP⟩ := h
  simp only [ev] at hP
  refine rd_l R R.refl hP fun vs W2 us F2 H2 S2 _ A R2 hP => ?_
  obtain ⟨z, hz, hP⟩ := ofO_some hP
  exact k R2 S2 A hz hP
theorem e_biB {f : Bi} {r : List V → Hp → VK → Prop} {a : E} {z : Str} {id : String} {e : Expr} {es : List Expr} {p pos : Pos} (k : BiOk c (biD f) r) (hc : CallR X (.builtin id) r) (hg : Gl X z) (hm : X.mg z = none) (hv : bootBuiltins z = some (.builtin id)) (ha : PA X (e :: es) (rdL c Wx a))
    (hn : z ≠ "__name__") (hdb : (z == ("__debug__" : Str)) = false) (he : starEach (e :: es) X.env = (false, eval e X.env) :: starEach es X.env) (hpl : (backTo pos (starEach es X.env)).any (·.1) = false) : PE X (.Call (.Name z p) (e :: es) [] pos) (rdE c Wx (.bi f a)) :=
  pe_wk (pe_callB hc hg hm hv ha hn hdb he hpl) fun _ _ _ h => bi_end (t := rdL c Wx a) k h
theorem e_biT {f : Bi} {r : List V → Hp → VK → Prop} {a : E} {z : Str} {T : String} {e : Expr} {es : List Expr} {p pos : Pos} (k : BiOk c (biD f) r) (hc : CallR X (.type T) r) (hg : Gl X z) (hm : X.mg z = none) (hv : bootBuiltins z = some (.type T)) (ha : PA X (e :: es) (rdL c Wx a))
    (hn : z ≠ "__name__") (hdb : (z == ("__debug__" : Str)) = false) (he : starEach (e :: es) X.env = (false, eval e X.env) :: starEach es X.env) (hpl : (backTo pos (starEach es X.env)).any (·.1) = false) : PE X (.Call (.Name z p) (e :: es) [] pos) (rdE c Wx (.bi f a)) :=
  pe_wk (pe_callTy hc hg hm hv ha hn hdb he hpl) fun _ _ _ h => bi_end (t := rdL c Wx a) k h

theorem args1 {us : List V} {vs : List Vl} {d : D} (A : ArgOk c ρ σ Hs F H us vs) (e : ds vs = [d]) : ∃ u v, us = [u] ∧ vs = [v] ∧ v.d = d ∧ ValOk c ρ σ Hs F H u v := by
  cases A with
  | nil => simp [ds] at e
  | cons r t =>
    cases t with
    | nil => simp [ds] at e; exact ⟨_, _, rfl, rfl, e, r⟩
    | cons _ _ => simp [ds] at e
theorem args2 {us : List V} {vs : List Vl} {d d' : D} (A : ArgOk c ρ σ Hs F H us vs) (e : ds vs = [d, d']) : ∃ u v u' v', us = [u, u'] ∧ vs = [v, v'] ∧ v.d = d ∧ v'.d = d' ∧ ValOk c ρ σ Hs F H u v ∧ ValOk c ρ σ Hs F H u' v' := by
  cases A with
  | nil => simp [ds] at e
  | cons r t =>
    cases t with
    | nil => simp [ds] at e
    | cons r' t =>
      cases t with
      | nil => simp [ds] at e; exact ⟨_, _, _, _, rfl, rfl, e.1, e.2, r, r'⟩
      | cons _ _ => simp [ds] at e
theorem repL_ints : ∀ {vs : List V} {xs : List D} {ns : List Int}, RepL c F vs xs → D.ints xs = some ns → vs = ns.map V.int
  | _, [], _, r, h => by
    simp only [D.ints, Option.some.injEq] at h
    subst h; cases r; rfl
  | _, x :: xs, _, r, h => by
    cases x <;> simp only [D.ints] at h <;> try (cases h)
    rename_i i
    simp only [Option.map_eq_some_iff] at h
    obtain ⟨ms, h1, rfl⟩ := h
    cases r with
    | cons r1 r2 => rw [r1.intI, repL_ints r2 h1]; rfl
theorem repL_bls : ∀ {vs : List V} {xs : List D} {ns : List Bool}, RepL c F vs xs → D.bls xs = some ns → vs = ns.map V.bl
  | _, [], _, r, h => by
    simp only [D.bls, Option.some.injEq] at h
    subst h; cases r; rfl
  | _, x :: xs, _, r, h => by
    cases x <;> simp only [D.bls] at h <;> try (cases h)
    rename_i i
    simp only [Option.map_eq_some_iff] at h
    obtain ⟨ms, h1, rfl⟩ := h
    cases r with
    | cons r1 r2 => rw [r1.blI, repL_bls r2 h1]; rfl

def rLenD (K : PySem.W.Frag) : List V → Hp → VK → Prop := fun xs H Q => ∃ x n, xs = [x] ∧ LenV K x H n ∧ Q (.int n) H
theorem len_ok : BiOk c lenD (rLenD c.K) := by
  intro Wx W2 F0 H0 F H F2 H2 ρ σ us vs Q z R S A h hq
  unfold lenD at h
  split at h
  · rename_i xs e
    cases h
    obtain ⟨u, v, rfl, rfl, e1, k⟩ := args1 A e
    obtain ⟨a, ws, rfl, h1, h2⟩ := k.lst R e1
    exact ⟨_, xs.length, rfl, .inl ⟨ws, .inl (.inl h1), h2.length.symm⟩, fin_vl R S (by simpa using k.t_own) hq (.int _)⟩
  · rename_i xs e
    cases h
    obtain ⟨u, v, rfl, rfl, e1, k⟩ := args1 A e
    obtain ⟨a, ws, rfl, h1, h2⟩ := k.tup R e1
    exact ⟨_, xs.length, rfl, .inr ⟨ws, Same.sqT (Fz_dn R.stp.sub) h1, h2.length.symm⟩, fin_vl R S (by simpa using k.t_own) hq (.int _)⟩
  · rename_i ns e
    cases h
    obtain ⟨u, v, rfl, rfl, e1, k⟩ := args1 A e
    have a := k.rep R e1 fun _ _ _ h => h
    cases a with
    | scr a => exact ⟨_, ns.length, rfl, .inl ⟨_, a.seq (Fz_dn R.stp.sub), by rw [List.length_map]⟩, fin_vl R S (by simpa using k.t_own) hq (.int _)⟩
  · rename_i x e
    split at h <;> cases h
    rename_i hl
    obtain ⟨u, v, rfl, rfl, e1, k⟩ := args1 A e
    obtain rfl := k.str R e1
    exact ⟨_, x.length, rfl, ⟨by rw [← cap_eq]; exact hl, rfl⟩, fin_vl R S (by simpa using k.t_own) hq (.int _)⟩
  · cases h
def rListD (K : PySem.W.Frag) : List V → Hp → VK → Prop := fun xs H Q => ∃ p ys, xs = [.ref p] ∧ (SqL K H p ys ∨ SqT K H p ys) ∧ ∀ l, H l = none → Q (.ref l) (upd H l (.lst ys))
theorem list_ok : BiOk c listD (rListD c.K) := by
  intro Wx W2 F0 H0 F H F2 H2 ρ σ us vs Q z R S A h hq
  unfold listD at h
  split at h
  · rename_i xs e
    cases h
    obtain ⟨u, v, rfl, rfl, e1, k⟩ := args1 A e
    obtain ⟨a, ws, rfl, h1, h2⟩ := k.lst R e1
    exact ⟨a, ws, rfl, .inl (.inl (.inl h1)), fin_lst R S (by simpa using k.t_own) hq (by simpa using h2)⟩
  · rename_i xs e
    cases h
    obtain ⟨u, v, rfl, rfl, e1, k⟩ := args1 A e
    obtain ⟨a, ws, rfl, h1, h2⟩ := k.tup R e1
    exact ⟨a, ws, rfl, .inr (Same.sqT (Fz_dn R.stp.sub) h1), fin_lst R S (by simpa using k.t_own) hq (by simpa using h2)⟩
  · cases h
def rTupleD (K : PySem.W.Frag) : List V → Hp → VK → Prop := fun xs H Q => ∃ p ys, xs = [.ref p] ∧ ((SqL K H p ys ∧ ∀ l, H l = none → Q (.ref l) (upd H l (.tup ys))) ∨ (SqT K H p ys ∧ Q (.ref p) H))
theorem tuple_ok : BiOk c tupleD (rTupleD c.K) := by
  intro Wx W2 F0 H0 F H F2 H2 ρ σ us vs Q z R S A h hq
  unfold tupleD at h
  split at h
  · rename_i xs e
    cases h
    obtain ⟨u, v, rfl, rfl, e1, k⟩ := args1 A e
    obtain ⟨a, ws, rfl, h1, h2⟩ := k.lst R e1
    exact ⟨a, ws, rfl, .inl ⟨.inl (.inl h1), fin_tup R S (by simpa using k.t_own) hq (by simpa using h2)⟩⟩
  · rename_i xs e
    cases h
    obtain ⟨u, v, rfl, rfl, e1, k⟩ := args1 A e
    obtain ⟨a, ws, rfl, h1, h2⟩ := k.tupP R e1
    exact ⟨a, ws, rfl, .inr ⟨Same.sqT (Fz_dn R.stp.sub) (.inl (.inl h1)), fin_vl R S (by simpa using k.t_own) hq (by simpa using (Rep.tup h1 h2))⟩⟩
  · cases h
theorem min_ok : BiOk c minD2 (fun xs H Q => ∃ i j, xs = [.int i, .int j] ∧ Q (.int (if j < i then j else i)) H) := by
  intro Wx W2 F0 H0 F H F2 H2 ρ σ us vs Q z R S A h hq
  unfold minD2 at h
  split at h
  · rename_i i j e
    cases h
    obtain ⟨u, v, u', v', rfl, rfl, e1, e2, k, k'⟩ := args2 A e
    exact ⟨i, j, by rw [k.int R e1, k'.int R e2], fin_vl R S (by simpa using own_app k.t_own k'.t_own) hq (.int _)⟩
  · cases h
theorem max_ok : BiOk c maxD2 (fun xs H Q => ∃ i j, xs = [.int i, .int j] ∧ Q (.int (if j > i then j else i)) H) := by
  intro Wx W2 F0 H0 F H F2 H2 ρ σ us vs Q z R S A h hq
  unfold maxD2 at h
  split at h
  · rename_i i j e
    cases h
    obtain ⟨u, v, u', v', rfl, rfl, e1, e2, k, k'⟩ := args2 A e
    exact ⟨i, j, by rw [k.int R e1, k'.int R e2], fin_vl R S (by simpa using own_app k.t_own k'.t_own) hq (.int _)⟩
  · cases h
theorem sum_ok : BiOk c sumD (rSum c.K) := by
  intro Wx W2 F0 H0 F H F2 H2 ρ σ us vs Q z R S A h hq
  unfold sumD at h
  split at h
  · rename_i xs e
    simp only [Option.map_eq_some_iff] at h
    obtain ⟨ns, h, rfl⟩ := h
    obtain ⟨u, v, rfl, rfl, e1, k⟩ := args1 A e
    obtain ⟨a, ws, rfl, h1, h2⟩ := k.lst R e1
    rw [repL_ints h2 h] at h1
    exact ⟨a, ns, rfl, .inl (.inl h1), fin_vl R S (by simpa using k.t_own) hq (.int _)⟩
  · cases h
theorem all_ok : BiOk c allD (rAll c.K) := by
  intro Wx W2 F0 H0 F H F2 H2 ρ σ us vs Q z R S A h hq
  unfold allD at h
  split at h
  · rename_i xs e
    simp only [Option.map_eq_some_iff] at h
    obtain ⟨ns, h, rfl⟩ := h
    obtain ⟨u, v, rfl, rfl, e1, k⟩ := args1 A e
    obtain ⟨a, ws, rfl, h1, h2⟩ := k.lst R e1
    rw [repL_bls h2 h] at h1
    exact ⟨a, ns, rfl, .inl (.inl h1), fin_vl R S (by simpa using k.t_own) hq (.bl _)⟩
  · cases h
theorem abs_ok : BiOk c absD (fun xs H Q => ∃ i, xs = [.int i] ∧ Q (.int (if i < 0 then -i else i)) H) := by
  intro Wx W2 F0 H0 F H F2 H2 ρ σ us vs Q z R S A h hq
  unfold absD at h
  split at h
  · rename_i i e
    cases h
    obtain ⟨u, v, rfl, rfl, e1, k⟩ := args1 A e
    exact ⟨i, by rw [k.int R e1], fin_vl R S (by simpa using k.t_own) hq (.int _)⟩
  · cases h
theorem int_ok : BiOk c intD (fun xs H Q => (∃ i, xs = [.int i] ∧ Q (.int i) H) ∨ ∃ k, xs = [.bl k] ∧ Q (.int (if k then 1 else 0)) H) := by
  intro Wx W2 F0 H0 F H F2 H2 ρ σ us vs Q z R S A h hq
  unfold intD at h
  split at h
  · rename_i i e
    cases h
    obtain ⟨u, v, rfl, rfl, e1, k⟩ := args1 A e
    exact .inl ⟨i, by rw [k.int R e1], fin_vl R S (by simpa using k.t_own) hq (.int _)⟩
  · rename_i b e
    cases h
    obtain ⟨u, v, rfl, rfl, e1, k⟩ := args1 A e
    exact .inr ⟨b, by rw [k.bl R e1], fin_vl R S (by simpa using k.t_own) hq (.int _)⟩
  · cases h

end
end Z

namespace Z
open PySem PySem.Spec PyProof.Rows L2
open Classical
section
variable {c : Pm} {Wx : WX} {X : Cx} {n : Nat} {W W' W1 W2 : Dr} {F0 H0 F H F' H' F1 H1 F2 H2 Hs : Hp} {ρ ρ' : En} {σ σ' : L2.St} {u w : V} {x y v : Vl} {Q : VK}

def Item (c : Pm) (B : Hp) (H : Hp) (u : V) (x : D) (H' : Hp) : Prop := (H' = H ∧ Rep c B u x) ∨ ∃ T vs xs, u = .ref T ∧ x = .tup xs ∧ H T = none ∧ H' = upd H T (.tup vs) ∧ RepL c B vs xs
structure WkOk (c : Pm) (B B' : Hp) (xs : List D) (J : It) : Prop where
  go : ∀ i x H, xs[i]? = some x → Same B H → J.go i H ∧ ∀ u H', J.yld i H u H' → Item c B' H u x H'
  stop : ∀ H, Same B H → J.stop xs.length H
def rdI (c : Pm) (Wx : WX) (e : E) : TI := fun σ H R => ∃ F0 H0 ρ F W, Rel c F0 H0 ρ σ F H W ∧
  Pst c Wx σ F H (fun (p : Wk) (J : It) F' H' => (∀ i ∈ p.me, ∃ x, ρ[i]? = some (.own x)) ∧ (∀ i ∈ p.t, ∃ x, ρ[i]? = some (.own x)) ∧ WkOk c (Fz F' H' σ p.me) (Fz F' H' σ p.t) p.xs J) R (evI e ρ W)

theorem Item.step (R : Rel c F0 H0 ρ σ F H W) {B : Hp} {d : D} (k : Item c B H u d H') (s : Same B F) : ∃ F', Stp c W F H F' H' ∧ Rep c F' u d := by
  rcases k with ⟨rfl, r⟩ | ⟨T, vs, xs, rfl, rfl, e1, rfl, r⟩
  · exact ⟨F, R.refl, r.mono s⟩
  · have S := R.refl.makeF (o := .tup vs) e1
    exact ⟨_, S, .tup upd_same ((r.mono s).mono S.f)⟩

theorem wk_list {a : Addr} {vs : List V} {xs : List D} {B B' : Hp} (h : ∀ H, Same B H → SqL c.K H a vs) (r : RepL c B' vs xs) : WkOk c B B' xs (Itl c.K a) := by
  refine ⟨fun i x H e s => ?_, fun H s => ?_⟩
  · obtain ⟨v, h1, h2⟩ := r.get e
    refine ⟨⟨vs, v, h H s, h1⟩, fun u H' ⟨e1, e2⟩ => .inl ⟨e1, ?_⟩⟩
    have q := e2 vs (h H s)
    rw [h1] at q
    exact Option.some.inj q ▸ h2
  · exact ⟨vs, h H s, by rw [r.length]; exact Nat.le_refl _⟩
theorem wk_tup {a : Addr} {vs : List V} {xs : List D} {B B' : Hp} (h : ∀ H, Same B H → SqT c.K H a vs) (r : RepL c B' vs xs) : WkOk c B B' xs (Itt c.K a) := by
  refine ⟨fun i x H e s => ?_, fun H s => ?_⟩
  · obtain ⟨v, h1, h2⟩ := r.get e
    refine ⟨⟨vs, v, h H s, h1⟩, fun u H' ⟨e1, e2⟩ => .inl ⟨e1, ?_⟩⟩
    have q := e2 vs (h H s)
    rw [h1] at q
    exact Option.some.inj q ▸ h2
  · exact ⟨vs, h H s, by rw [r.length]; exact Nat.le_refl _⟩
theorem wk_range {lo : Int} {m : Nat} {B B' : Hp} : WkOk c B B' ((List.range m).map fun k : Nat => .int (lo + k)) (Itr lo m) := by
  refine ⟨fun i x H e s => ?_, fun H s => ?_⟩
  · rw [List.getElem?_map, Option.map_eq_some_iff] at e
    obtain ⟨k, e1, rfl⟩ := e
    have hi : i < m := by
      have := (List.getElem?_eq_some_iff.mp e1).1
      simpa using this
    have hk : k = i := by
      rw [List.getElem?_range hi] at e1
      exact (Option.some.inj e1).symm
    subst hk
    refine ⟨hi, fun u H' ⟨e1, e2⟩ => .inl ⟨e1, ?_⟩⟩
    subst e2
    exact .int _
  · show m ≤ _
    simp

theorem val_walk (R0 : Rel c F0 H0 ρ σ F H W) (R : Rel c F0 H0 ρ σ F2 H2 W2) (S : Stp c W2 F H F2 H2) (k : ValOk c ρ σ H F2 H2 u v) : ∃ F3, Stp c W2 F H F3 H2 ∧ Same F2 F3 ∧ ((∃ a vs xs, u = .ref a ∧ v.d = .lst xs ∧ H2 a = some (.lst vs) ∧ Fz F3 H2 σ v.all a = some (.lst vs) ∧ RepL c (Fz F3 H2 σ v.t) vs xs) ∨
    (∃ a vs xs, u = .ref a ∧ v.d = .tup xs ∧ SqT c.K (Fz F3 H2 σ v.all) a vs ∧ RepL c (Fz F3 H2 σ v.t) vs xs) ∨ ((∀ xs, v.d ≠ .lst xs) ∧ ∀ xs, v.d ≠ .tup xs)) := by
  have A : ArgOk c ρ σ H F2 H2 [u] [v] := .cons k .nil
  have S3 := Ft_stp S A
  have up := Ft_up (us := [u]) (vs := [v]) R.stp.sub
  have mo : ∀ t : List Nat, Same (Fz F2 H2 σ t) (Fz (Ft F2 H2 [u] [v]) H2 σ t) := fun t a o e => by
    by_cases q : AtS σ t a
    · rw [Fz_in q] at e ⊢; exact e
    · rw [Fz_out q] at e ⊢; exact up _ _ e
  have tl : ∀ i ∈ v.t, i ∈ v.all := fun i hi => by
    unfold Vl.all; split
    · exact List.mem_cons_of_mem _ hi
    · exact hi
  refine ⟨_, S3, up, ?_⟩
  cases e : v.d
  case lst xs =>
    obtain ⟨a, vs, rfl, h1, h2⟩ := k.lst R e
    refine .inl ⟨a, vs, xs, rfl, rfl, h1, ?_, h2.mono (mo _)⟩
    by_cases q : AtS σ v.all a
    · rw [Fz_in q]; exact h1
    · rw [Fz_out q]
      have b := k.at_
      have hq := q
      unfold Vl.all at hq
      revert b hq
      cases hk : v.k with
      | pl =>
        intro b hq
        rw [e] at b
        obtain ⟨a', vs', e1, e2, _⟩ := b.lstI
        cases e1
        rw [Fz_out hq] at e2
        exact up _ _ (by rw [e2, ← h1]; exact (R.stp.sub _ _ e2).symm)
      | me i =>
        rintro ⟨_, _, b3⟩ hq
        exact (hq ⟨i, List.mem_cons_self, b3⟩).elim
      | fr =>
        intro _ _
        unfold Ft
        rw [if_pos (show TmpAt [V.ref a] [v] a from .inl ⟨hk, rfl⟩)]
        exact h1
  case tup xs =>
    obtain ⟨a, vs, rfl, h1, h2⟩ := k.tup R e
    exact .inr (.inl ⟨a, vs, xs, rfl, rfl, Same.sqT (fun b o q => Fz_mono S3.sub tl _ _ (mo _ _ _ q)) h1, h2.mono (mo _)⟩)
  all_goals exact .inr (.inr ⟨fun _ h => D.noConfusion h, fun _ h => D.noConfusion h⟩)

theorem i_wk {tg a : Expr} {ea : E} (hk : X.K = c.K) (ha : PE X a (rdE c Wx ea)) (hs : PI X tg a (iStr (rdE c Wx ea)) := by exact pi_str ha) : PI X tg a (rdI c Wx (.wk ea)) := by
  refine ⟨fun pins s σ H RR I ⟨F0, H0, ρ, F, W, R, hP⟩ => ?_⟩
  simp only [evI] at hP
  cases e : ev ea ρ W with
  | stk => rw [e] at hP; exact hP.elim
  | ex x W1 =>
    rw [e] at hP
    refine (pi_list ha).run pins s σ H RR I ⟨F0, H0, ρ, F, W, R, ?_⟩
    rw [e]
    exact hP
  | ok x W1 =>
    rw [e] at hP
    obtain ⟨xs, hx, hP⟩ := ofO_some hP
    cases ed : x.d
    case lst ys =>
      rw [ed] at hx
      cases hx
      refine (pi_list ha).run pins s σ H RR I ⟨F0, H0, ρ, F, W, R, ?_⟩
      rw [e]
      intro u F1 H1 S1 V1
      have R1 := R.step S1
      obtain ⟨F3, S3, up, q⟩ := val_walk R R1 S1 V1
      rcases q with ⟨b, vs, zs, rfl, e1, e2, e3, e4⟩ | ⟨b, vs, zs, rfl, e1, _⟩ | ⟨q, _⟩
      · rw [ed] at e1
        cases e1
        refine ⟨b, rfl, ⟨vs, hk ▸ .inl (.inl e2)⟩, hP _ F3 H1 S3 ⟨V1.own, V1.t_own, ?_⟩⟩
        rw [hk]
        exact wk_list (fun H s => .inl (.inl (s _ _ e3))) e4
      · rw [ed] at e1; cases e1
      · exact (q _ ed).elim
    case scr ns =>
      rw [ed] at hx
      cases hx
      refine (pi_list ha).run pins s σ H RR I ⟨F0, H0, ρ, F, W, R, ?_⟩
      rw [e]
      intro u F1 H1 S1 V1
      have R1 := R.step S1
      have a := V1.rep R1 ed fun _ _ _ h => h
      cases a with
      | scr a =>
        have go : ∀ l : List Int, RepL c (Fz F1 H1 σ x.t) (l.map V.int) (l.map D.int) := fun l => by
          induction l with
          | nil => exact .nil
          | cons y l ih => exact .cons (.int y) ih
        refine ⟨_, rfl, ⟨_, hk ▸ a.seq (Fz_dn R1.stp.sub)⟩, hP _ F1 H1 S1 ⟨V1.own, V1.t_own, ?_⟩⟩
        rw [hk]
        have tl : ∀ i ∈ x.t, i ∈ x.all := fun i hi => by
          unfold Vl.all; split
          · exact List.mem_cons_of_mem _ hi
          · exact hi
        exact wk_list (fun H s => a.seq fun b o q => s _ _ (Fz_mono R1.stp.sub tl _ _ q)) (go _)
    case tup ys =>
      rw [ed] at hx
      cases hx
      refine (pi_tup ha).run pins s σ H RR I ⟨F0, H0, ρ, F, W, R, ?_⟩
      rw [e]
      intro u F1 H1 S1 V1
      have R1 := R.step S1
      obtain ⟨F3, S3, up, q⟩ := val_walk R R1 S1 V1
      rcases q with ⟨b, vs, zs, rfl, e1, _⟩ | ⟨b, vs, zs, rfl, e1, e3, e4⟩ | ⟨_, q⟩
      · rw [ed] at e1; cases e1
      · rw [ed] at e1
        cases e1
        have s3 : Same (Fz F3 H1 σ x.all) H1 := Fz_dn S3.sub
        refine ⟨b, rfl, ⟨vs, hk ▸ Same.sqT s3 e3⟩, hP _ F3 H1 S3 ⟨V1.own, V1.t_own, ?_⟩⟩
        rw [hk]
        exact wk_tup (fun H s => Same.sqT s e3) e4
      · exact (q _ ed).elim
    case str z =>
      rw [ed] at hx
      cases hx
      refine hs.run pins s σ H RR I ⟨F0, H0, ρ, F, W, R, ?_⟩
      rw [e]
      intro u F1 H1 S1 V1
      have R1 := R.step S1
      refine ⟨z, V1.str R1 ed, hP _ F1 H1 S1 ⟨V1.own, V1.t_own, ⟨fun i d H' ei s => ?_, fun H' s => ?_⟩⟩⟩
      · have wz := walk_str (z := z)
        rw [List.getElem?_map, Option.map_eq_some_iff] at ei
        obtain ⟨cc, e1, rfl⟩ := ei
        have hi : i < z.cps.size := by simpa using (List.getElem?_eq_some_iff.mp e1).1
        refine ⟨wz.goes i H' hi trivial, fun u H'' hy => ?_⟩
        obtain ⟨e3, c', e4, e5⟩ := wz.yields i H' u H'' hi trivial hy
        have : c' = cc := by
          rw [Array.getElem?_toList, e4] at e1
          exact Option.some.inj e1
        subst this e5
        exact .inl ⟨e3, .str _⟩
      · have wz := walk_str (z := z)
        have := wz.stops H' trivial
        simpa using this
    all_goals
      rw [ed] at hx
      cases hx
theorem evL_one {a : E} {ys : List Vl} (h : evL (.cons a .nil) ρ W = .ok ys W1) : ∃ y, ys = [y] := by
  simp only [evL] at h
  cases e : ev a ρ W with
  | stk => rw [e] at h; cases h
  | ex x W => rw [e] at h; cases h
  | ok x W =>
    rw [e] at h
    simp only [Out.bind] at h
    cases h
    exact ⟨_, rfl⟩
theorem i_rng1 {tg a : Expr} {ea : E} {p pos : Pos} (hg : Gl X "range") (hm : X.mg "range" = none) (ha : PA X [a] (rdL c Wx (.cons ea .nil))) (hs : starEach [a] X.env = [(false, eval a X.env)]) : PI X tg (.Call (.Name "range" p) [a] [] pos) (rdI c Wx (.rng (.cons ea .nil))) := by
  refine ⟨fun pins s σ H RR I ⟨F0, H0, ρ, F, W, R, hP⟩ => (pi_range1 hg hm ha hs).run pins s σ H RR I ?_⟩
  simp only [evI] at hP
  refine rd_le R R.refl hP fun vs W2 us F2 H2 he S2 _ A R2 hP => ?_
  obtain ⟨y, rfl⟩ := evL_one he
  obtain ⟨xs, hx, hP⟩ := ofO_some hP
  obtain ⟨u, v, rfl, e, e1, V1⟩ := args1 A (d := y.d) rfl
  cases e
  simp only [ds, List.map_cons, List.map_nil] at hx
  unfold rngD at hx
  simp only [big_eq] at hx
  split at hx
  · rename_i k e
    have e' := (List.cons.inj e).1
    split at hx <;> cases hx
    rename_i hb
    refine ⟨k, by rw [V1.int R2 e'], hb.1, hb.2, hP _ F2 H2 S2 ⟨fun i h => by simp at h, fun i h => by simp at h, ?_⟩⟩
    have q := wk_range (c := c) (lo := 0) (m := k.toNat) (B := Fz F2 H2 σ []) (B' := Fz F2 H2 σ [])
    simpa only [Int.zero_add] using q
  · rename_i e
    have := (List.cons.inj e).2
    cases this
  · cases hx
end
end Z

namespace Z
open PySem PySem.Spec PyProof.Rows L2
open Classical
section
variable {c : Pm} {Wx : WX} {X : Cx} {n : Nat} {W W' W1 W2 : Dr} {F0 H0 F H F' H' F1 H1 F2 H2 Hs : Hp} {ρ ρ' : En} {σ σ' : L2.St} {u w : V} {x y v : Vl} {Q : VK}

theorem Rel.setv {i : Nat} {d : D} (R : Rel c F0 H0 ρ σ F H W) (r : Rep c F u d) : Rel c F0 H0 (ρ.set i (.val d)) (σ.set i (some u)) F H W := by
  refine ⟨by rw [List.length_set, List.length_set]; exact R.len, R.stp, fun j s e => ?_, fun j k d1 d2 p e1 e2 e3 e4 => ?_⟩
  · by_cases h : i = j
    · subst h
      have hl : i < ρ.length := by
        have := (List.getElem?_eq_some_iff.mp e).1
        simpa using this
      rw [List.getElem?_set_self hl] at e
      cases e
      exact ⟨u, by rw [List.getElem?_set_self (R.len ▸ hl)], r⟩
    · rw [List.getElem?_set_ne h] at e
      rw [List.getElem?_set_ne h]
      exact R.slot j s e
  · have a : ∀ {j : Nat} {d' : D}, (ρ.set i (.val d))[j]? = some (.own d') → i ≠ j ∧ ρ[j]? = some (.own d') := fun {j d'} e => by
      by_cases h : i = j
      · subst h
        have hl : i < ρ.length := by
          have := (List.getElem?_eq_some_iff.mp e).1
          simpa using this
        rw [List.getElem?_set_self hl] at e
        cases e
      · rw [List.getElem?_set_ne h] at e
        exact ⟨h, e⟩
    obtain ⟨n1, o1⟩ := a e1
    obtain ⟨n2, o2⟩ := a e2
    rw [List.getElem?_set_ne n1] at e3
    rw [List.getElem?_set_ne n2] at e4
    exact R.dist j k d1 d2 p o1 o2 e3 e4
theorem Rel.wip (R : Rel c F0 H0 ρ σ F H W) : ∀ own : List Nat, Rel c F0 H0 (Z.wip ρ own) (wipe σ own) F H W
  | [] => R
  | i :: own => by
    have q := Rel.wip R own
    unfold Z.wip wipe
    refine ⟨by rw [List.length_set, List.length_set]; exact q.len, q.stp, fun j s e => ?_, fun j k d1 d2 p e1 e2 e3 e4 => ?_⟩
    · by_cases h : i = j
      · subst h
        have hl : i < (Z.wip ρ own).length := by
          have := (List.getElem?_eq_some_iff.mp e).1
          simpa using this
        rw [List.getElem?_set_self hl] at e
        cases e
        rw [List.getElem?_set_self (q.len ▸ hl)]
        exact fun z => nomatch z
      · rw [List.getElem?_set_ne h] at e
        rw [List.getElem?_set_ne h]
        exact q.slot j s e
    · have a : ∀ {j : Nat} {d' : D}, ((Z.wip ρ own).set i .un)[j]? = some (.own d') → i ≠ j ∧ (Z.wip ρ own)[j]? = some (.own d') := fun {j d'} e => by
        by_cases h : i = j
        · subst h
          have hl : i < (Z.wip ρ own).length := by
            have := (List.getElem?_eq_some_iff.mp e).1
            simpa using this
          rw [List.getElem?_set_self hl] at e
          cases e
        · rw [List.getElem?_set_ne h] at e
          exact ⟨h, e⟩
      obtain ⟨n1, o1⟩ := a e1
      obtain ⟨n2, o2⟩ := a e2
      rw [List.getElem?_set_ne n1] at e3
      rw [List.getElem?_set_ne n2] at e4
      exact q.dist j k d1 d2 p o1 o2 e3 e4
theorem wip_get {own : List Nat} {i : Nat} {s : Sl} (h : (Z.wip ρ own)[i]? = some s) : (i ∈ own ∧ s = .un) ∨ (i ∉ own ∧ ρ[i]? = some s) := by
  induction own with
  | nil => exact .inr ⟨by simp, h⟩
  | cons j own ih =>
    unfold Z.wip at h
    by_cases e : j = i
    · subst e
      have hl : j < (Z.wip ρ own).length := by
        have := (List.getElem?_eq_some_iff.mp h).1
        simpa using this
      rw [List.getElem?_set_self hl] at h
      cases h
      exact .inl ⟨List.mem_cons_self, rfl⟩
    · rw [List.getElem?_set_ne e] at h
      rcases ih h with ⟨a, b⟩ | ⟨a, b⟩
      · exact .inl ⟨List.mem_cons_of_mem _ a, b⟩
      · exact .inr ⟨fun z => (List.mem_cons.mp z).elim (fun q => e q.symm) a, b⟩
theorem wipe_off {σ : L2.St} {i : Nat} : ∀ {own : List Nat}, i ∉ own → (wipe σ own)[i]? = σ[i]?
  | [], _ => rfl
  | j :: own, h => by
    unfold wipe
    rw [List.getElem?_set_ne fun e => h (by rw [e]; exact List.mem_cons_self)]
    exact wipe_off fun z => h (List.mem_cons_of_mem _ z)
theorem wipe_on {σ : L2.St} {i : Nat} : ∀ {own : List Nat}, i ∈ own → i < σ.length → (wipe σ own)[i]? = some none
  | j :: own, h, hl => by
    unfold wipe
    by_cases e : j = i
    · subst e; rw [List.getElem?_set_self (by rw [wipe_length]; exact hl)]
    · rw [List.getElem?_set_ne e]
      exact wipe_on ((List.mem_cons.mp h).elim (fun q => absurd q.symm e) id) hl
theorem wipe_eq {σ σ' : L2.St} {own : List Nat} (hl : σ'.length = σ.length) (h : ∀ i, i ∉ own → σ'[i]? = σ[i]?) : wipe σ' own = wipe σ own := by
  refine List.ext_getElem? fun i => ?_
  by_cases hi : i ∈ own
  · by_cases hlt : i < σ.length
    · rw [wipe_on hi hlt, wipe_on hi (hl ▸ hlt)]
    · rw [List.getElem?_eq_none (by rw [wipe_length]; omega), List.getElem?_eq_none (by rw [wipe_length]; omega)]
  · rw [wipe_off hi, wipe_off hi]; exact h i hi
theorem wipe_wipe {σ : L2.St} {own : List Nat} : wipe (wipe σ own) own = wipe σ own := wipe_eq (wipe_length _ _) fun i hi => wipe_off hi

def GOk (c : Pm) (pt : Pat) (own : List Nat) (g : TG) : Prop := ∀ {F0 H0 : Hp} {ρ ρ' : En} {σ : L2.St} {F H : Hp} {W : Dr} {u : V} {x : D} {Q : L2.St → Hp → Prop}, Rel c F0 H0 ρ σ F H W → Rep c F u x → bindP pt x ρ = some ρ' →
  (∀ σ', Rel c F0 H0 ρ' σ' F H W → σ'.length = σ.length → (∀ i, i ∉ own → σ'[i]? = σ[i]?) → (∀ (i : Nat) (d : D), ρ'[i]? = some (.own d) → ρ[i]? = some (.own d)) → Q σ' H) → g u σ H Q
theorem set_own {i : Nat} {x : D} {j : Nat} {d : D} (h : (ρ.set i (.val x))[j]? = some (.own d)) : ρ[j]? = some (.own d) := by
  by_cases e : i = j
  · subst e
    have hl : i < ρ.length := by
      have := (List.getElem?_eq_some_iff.mp h).1
      simpa using this
    rw [List.getElem?_set_self hl] at h; cases h
  · rw [List.getElem?_set_ne e] at h; exact h
theorem g_nm {i : Nat} {own : List Nat} (hi : i ∈ own) : GOk c (.nm i) own (gName i) := by
  intro F0 H0 ρ ρ' σ F H W u x Q R r hb k
  cases hb
  refine k _ (R.setv r) (List.length_set) (fun j hj => ?_) (fun j d e => set_own e)
  refine List.getElem?_set_ne fun e => hj ?_
  rw [← e]; exact hi
def gNames : List Nat → TGs
  | [] => gNil
  | i :: is => gCons (gName i) (gNames is)
theorem g_names {own : List Nat} : ∀ (is : List Nat), (∀ i ∈ is, i ∈ own) → ∀ {F0 H0 : Hp} {ρ : En} {σ : L2.St} {F H : Hp} {W : Dr} {us : List V} {xs : List D} {Q : L2.St → Hp → Prop}, Rel c F0 H0 ρ σ F H W → RepL c F us xs → xs.length = is.length →
    (∀ σ', Rel c F0 H0 (sets ρ is xs) σ' F H W → σ'.length = σ.length → (∀ i, i ∉ own → σ'[i]? = σ[i]?) → (∀ (i : Nat) (d : D), (sets ρ is xs)[i]? = some (.own d) → ρ[i]? = some (.own d)) → Q σ' H) → gNames is us σ H Q
  | [], _, F0, H0, ρ, σ, F, H, W, us, xs, Q, R, r, hl, k => by
    cases r with
    | nil => exact ⟨rfl, k σ R rfl (fun _ _ => rfl) fun _ _ h => h⟩
    | cons _ _ => simp at hl
  | i :: is, hi, F0, H0, ρ, σ, F, H, W, us, xs, Q, R, r, hl, k => by
    cases r with
    | nil => simp at hl
    | cons r1 r2 =>
      refine ⟨_, _, rfl, g_names is (fun j hj => hi j (List.mem_cons_of_mem _ hj)) (R.setv r1) r2 (by simpa using hl) fun σ' R' e1 e2 e3 => ?_⟩
      refine k σ' R' (by rw [e1, List.length_set]) (fun j hj => ?_) fun j d h => set_own (e3 j d h)
      rw [e2 j hj]
      refine List.getElem?_set_ne fun e => hj ?_
      rw [← e]; exact hi i List.mem_cons_self
theorem g_tp {is own : List Nat} {m : Nat} (hi : ∀ i ∈ is, i ∈ own) (hm : m = is.length) : GOk c (.tp is) own (gTup c.K m (gNames is)) := by
  intro F0 H0 ρ ρ' σ F H W u x Q R r hb k
  unfold bindP at hb
  cases x <;> try (cases hb; done)
  rename_i xs
  simp only at hb
  split at hb <;> cases hb
  rename_i hl
  obtain ⟨a, vs, rfl, h1, h2⟩ := r.tupI
  refine ⟨a, vs, rfl, Same.sqT R.stp.sub h1, by rw [h2.length, hl, hm], g_names is hi R h2 hl fun σ' R' e1 e2 e3 => ?_⟩
  exact k σ' R' e1 e2 e3

abbrev WXF : WX := fun _ _ _ _ => False
theorem tabs_set {T : List (Addr × Str)} {H : Hp} {D : Addr} {o : HO} (t : LamX.Tabs T H) (h : D ∉ T.map (·.1)) (hc : ∀ q, H D ≠ some (LamX.CodeO D q)) : LamX.Tabs T (upd H D o) := fun p hp => by
  obtain ⟨ps, e1, e2, e3⟩ := t p hp
  refine ⟨ps, by rw [upd_ne fun z => h (List.mem_map.mpr ⟨p, hp, z⟩)]; exact e1, e2, fun pos cv hv => ?_⟩
  obtain ⟨cc, k1, k2⟩ := e3 pos cv hv
  exact ⟨cc, k1, by rw [upd_ne fun z => hc p.2 (by rw [← z]; exact k2)]; exact k2⟩
theorem mv_tb {D : Addr} (h : D ∉ c.mv) : D ∉ c.tb.map (·.1) := fun z => h (List.mem_append_right _ z)
theorem mv_dl {D : Addr} (h : D ∉ c.mv) : D ∉ c.dl := fun z => h (List.mem_append_left _ z)
theorem Stp.no {D : Addr} {o : HO} (S : Stp c W F H F1 H1) (h2 : Nil H D) (h3 : D ∉ c.mv) (h5 : ∀ q, H1 D ≠ some (.tup q)) (e : H D = some o) (n : Nt o) : False :=
  h2.no e ⟨n, fun q z => h5 q (z ▸ S.h _ _ e h3 n)⟩
theorem Stp.setD {D : Addr} {o : HO} (S : Stp c W F H F1 H1) (h1 : F1 D = none) (h2 : Nil H D) (h3 : D ∉ c.mv) (h4 : ∀ q, H1 D ≠ some (LamX.CodeO D q)) (h5 : ∀ q, H1 D ≠ some (.tup q)) : Stp c W F H F1 (upd H1 D o) := by
  refine ⟨S.f, fun a o' e => ?_, fun a o' e n k => ?_, S.new, S.nt, S.av, ?_, S.cl, tabs_set S.tabs (mv_tb h3) h4⟩
  · rw [upd_ne fun z => by rw [z, h1] at e; cases e]; exact S.sub _ _ e
  · rw [upd_ne fun z => by rw [z] at e; exact S.no h2 h3 h5 e k]; exact S.h _ _ e n k
  · rcases S.dr with h | ⟨a0, a1, h, n, e0, e1⟩
    · exact .inl h
    · have ne : ∀ a, a ∈ c.dl → a ≠ D := fun a ha z => mv_dl h3 (z ▸ ha)
      rw [h] at ne
      exact .inr ⟨a0, a1, h, n, by rw [upd_ne (ne a0 (by simp))]; exact e0, by rw [upd_ne (ne a1 (by simp))]; exact e1⟩
theorem OwnAt.at {F H H' : Hp} {p : Addr} {x : D} (h : OwnAt c F H p x) (e : H' p = H p) : OwnAt c F H' p x := h.mono (Same.refl _) fun o q => by rw [e]; exact q
theorem Rel.setD {D : Addr} {o : HO} (R0 : Rel c F0 H0 ρ σ F H W) (R : Rel c F0 H0 ρ σ F1 H1 W1) (h1 : F1 D = none) (h2 : Nil H D) (h3 : D ∉ c.mv) (h4 : ∀ q, H1 D ≠ some (LamX.CodeO D q)) (h5 : ∀ q, H1 D ≠ some (.tup q)) : Rel c F0 H0 ρ σ F1 (upd H1 D o) W1 := by
  have h0 : Nil H0 D := R0.stp.keepN h3 h2
  refine ⟨R.len, R.stp.setD h1 h0 h3 h4 h5, fun i x e => ?_, R.dist⟩
  have k := R.slot i x e
  cases x with
  | un => exact k
  | val d => exact k
  | own d =>
    obtain ⟨p, e1, e2, e3, e4, e5⟩ := k
    obtain ⟨p', f1, f2, f3, f4, f5⟩ := R0.own e
    have q : p = p' := by
      rw [e1] at f1
      exact V.ref.inj (Option.some.inj (Option.some.inj f1))
    subst q
    exact ⟨p, e1, e2, e3, e4, e5.at (upd_ne fun z => h2 (by rw [← z]; exact f5.thr))⟩
  | slf p n fs =>
    obtain ⟨e1, e2, e3, e4, C, dx, gs, e5, e6, e7⟩ := k
    obtain ⟨f1, f2, f3, f4, C', dx', gs', f5, _⟩ := R0.slot i _ e
    exact ⟨e1, e2, e3, e4, C, dx, gs, by rw [upd_ne fun z => h2 (by rw [← z]; exact .ins f5)]; exact e5, e6, e7⟩
theorem lc_ok {tg it : Expr} {scope : Scope} {own : List (Str × Nat)} {pt : Pat} {g : TG} {src tst el : E} (hc : X.calm = true) (hN : X.N.Nodup) (hi : PI X tg it (rdI c Wx src)) (ok : BlkOk X.N X.env.scope scope own)
    (gk : GOk c pt (own.map (·.2)) g)
    {σ : L2.St} {H : Hp} {Q : VK} (h : rdE c Wx (.lc el pt src tst (own.map (·.2))) σ H Q) : tLc (rdI c Wx src) g (rdA c WXF tst) (rdE c WXF el) (own.map (·.2)) σ H Q := by
  obtain ⟨F0, H0, ρ, F, W, R, hP⟩ := h
  simp only [ev] at hP
  generalize hO : own.map (·.2) = ow at hP gk ⊢
  refine ⟨F0, H0, ρ, F, W, R, ?_⟩
  refine rd_gen (ok1 := fun _ (p : Wk) (J : It) F' H' => (∀ i ∈ p.me, ∃ x, ρ[i]? = some (.own x)) ∧ (∀ i ∈ p.t, ∃ x, ρ[i]? = some (.own x)) ∧ WkOk c (Fz F' H' σ p.me) (Fz F' H' σ p.t) p.xs J) R R.refl hP fun p W1 J F1 H1 S1 _ ⟨hme, ht, hw⟩ R1 hP => ?_
  intro Dd hD
  obtain ⟨xs, me, t⟩ := p
  cases t with
  | cons _ _ => exact hP.elim
  | nil =>
    simp only at hP hw hme
    rw [Fz_nil] at hw
    have hDF : F1 Dd = none := by
      cases q : F1 Dd with
      | none => rfl
      | some o => rw [R1.stp.sub _ _ q] at hD; cases hD
    have hDdl : Dd ∉ c.mv := fun z => R1.stp.sm z hD
    have hDs : Nil H Dd := S1.keepN hDdl (.of hD)
    -- what stands at each turn
    refine ⟨fun i m Hi => m = xs.length - i ∧ i ≤ xs.length ∧ ∃ Fi Wi acc accD ti, Rel c F0 H0 ρ σ Fi Hi Wi ∧ Stp c Wi F H Fi Hi ∧ Same F1 Fi ∧ Same (Fz F1 H1 σ me) Hi ∧ Fi Dd = none ∧ Hi Dd = some (.lst acc) ∧ RepL c (Fz Fi Hi σ ti) acc accD ∧
      (∀ j ∈ ti, ∃ x, ρ[j]? = some (.own x)) ∧ Pst c Wx σ F H (fun v u F' H' => ValOk c ρ σ H F' H' u v) Q (lcGo (fun x W => ofO (bindP pt x (Z.wip ρ ow)) fun ρ' => (evA tst ρ' W).bind fun b W => if b = true then (ev el ρ' W).bind fun v W => .ok (some v) W else .ok none W) (xs.drop i) accD ti Wi),
      ⟨xs.length, by simp, Nat.zero_le _, F1, W1, [], [], [], ?_, ?_, Same.refl _, ?_, hDF, upd_same, .nil, fun _ z => by simp at z, hP⟩, ?_⟩
    · exact R1.step (R1.refl.make hD)
    · exact S1.trans (R1.refl.make hD)
    · intro a o e
      have e' := Fz_dn R1.stp.sub _ _ e
      rw [upd_ne fun z => by rw [z, hD] at e'; cases e']
      exact e'
    · rintro i m Hi ⟨rfl, hil, Fi, Wi, acc, accD, ti, Ri, Si, sF, sB, hDi, hDo, hacc, hti, hP⟩
      by_cases hlt : i < xs.length
      · -- a turn
        obtain ⟨x, hx⟩ : ∃ x, xs[i]? = some x := ⟨xs[i], List.getElem?_eq_getElem hlt⟩
        obtain ⟨hgo, hy⟩ := hw.go i x Hi hx sB
        have hdrop : xs.drop i = x :: xs.drop (i + 1) := by
          rw [List.drop_eq_getElem_cons hlt]
          congr 1
          exact Option.some.inj ((List.getElem?_eq_getElem hlt).symm.trans hx)
        rw [hdrop] at hP
        simp only [lcGo] at hP
        refine .inr ⟨hgo, fun H' => ∃ m', m' = xs.length - (i + 1) ∧ i + 1 ≤ xs.length ∧ ∃ Fi Wi acc accD ti, Rel c F0 H0 ρ σ Fi H' Wi ∧ Stp c Wi F H Fi H' ∧ Same F1 Fi ∧ Same (Fz F1 H1 σ me) H' ∧ Fi Dd = none ∧ H' Dd = some (.lst acc) ∧ RepL c (Fz Fi H' σ ti) acc accD ∧
          (∀ j ∈ ti, ∃ x, ρ[j]? = some (.own x)) ∧ Pst c Wx σ F H (fun v u F' H' => ValOk c ρ σ H F' H' u v) Q (lcGo (fun x W => ofO (bindP pt x (Z.wip ρ ow)) fun ρ' => (evA tst ρ' W).bind fun b W => if b = true then (ev el ρ' W).bind fun v W => .ok (some v) W else .ok none W) (xs.drop (i + 1)) accD ti Wi),
          fun H' ⟨m', e, q⟩ => ⟨m', by omega, e, q⟩, fun u H2 hyu => ?_⟩
        obtain ⟨F2, S2, r2⟩ := Item.step Ri (hy u H2 hyu) sF
        have R2 := Ri.step S2
        have Rw := R2.wip ow
        cases hb : bindP pt x (Z.wip ρ ow) with
        | none => rw [hb] at hP; exact hP.elim
        | some ρ' =>
          rw [hb] at hP
          simp only [ofO] at hP
          refine gk Rw r2 hb fun σ2 R3 hl3 off own1 => ⟨?_, ?_⟩
          · rw [wipe_eq hl3 off, wipe_wipe]
          · have ownR : ∀ {j : Nat} {d : D}, ρ'[j]? = some (.own d) → ρ[j]? = some (.own d) ∧ σ2[j]? = σ[j]? := fun {j d} e => by
              rcases wip_get (own1 j d e) with ⟨_, z⟩ | ⟨hj, z⟩
              · cases z
              · exact ⟨z, by rw [off j hj, wipe_off hj]⟩
            -- the rest of the turn
            have stay : ∀ {F4 H4 : Hp} {W4 : Dr}, Stp c W4 F2 H2 F4 H4 → Rel c F0 H0 ρ σ F4 H4 W4 ∧ Stp c W4 F H F4 H4 ∧ Same F1 F4 ∧ Same (Fz F1 H1 σ me) H4 ∧ F4 Dd = none ∧ H4 Dd = some (.lst acc) ∧ RepL c (Fz F4 H4 σ ti) acc accD := fun {F4 H4 W4} S4 => by
              have S24 := S2.trans S4
              refine ⟨Ri.step S24, Si.trans S24, fun a o e => S24.f _ _ (sF _ _ e), fun a o e => ?_, S24.new _ hDi (.lst hDo), S24.h _ _ hDo hDdl nt_lst, hacc.mono (Fz_step Ri hti S24)⟩
              have e' := sB _ _ e
              refine S24.h _ _ e' (fun z => ?_) (by
                by_cases qa : AtS σ me a
                · rw [Fz_in qa] at e; exact (R1.at_ hme qa).2.2.1.nt e
                · rw [Fz_out qa] at e; exact R1.stp.nt _ _ e)
              have q : Fz F1 H1 σ me a = none := by
                by_cases qa : AtS σ me a
                · exact absurd z (R1.at_ hme qa).2.1
                · rw [Fz_out qa]; exact R1.stp.av a z
              rw [q] at e; cases e
            refine ⟨F0, H0, ρ', F2, _, R3, ?_⟩
            cases hA : evA tst ρ' Wi with
            | stk => rw [hA] at hP; exact hP.elim
            | ex _ _ => rw [hA] at hP; exact hP.elim
            | ok b W3 =>
              rw [hA] at hP
              simp only [Out.bind] at hP
              rintro b' F3 H3 S3 rfl
              have R33 := R3.step S3
              cases b' with
              | false =>
                simp only [Bool.false_eq_true, if_false] at hP ⊢
                obtain ⟨q1, q2, q3, q4, q5, q6, q7⟩ := stay S3
                exact ⟨_, rfl, hlt, F3, W3, acc, accD, ti, q1, q2, q3, q4, q5, q6, q7, hti, hP⟩
              | true =>
                simp only [if_true] at hP ⊢
                refine ⟨F0, H0, ρ', F3, W3, R33, ?_⟩
                cases hE : ev el ρ' W3 with
                | stk => rw [hE] at hP; exact hP.elim
                | ex _ _ => rw [hE] at hP; exact hP.elim
                | ok vv W4 =>
                  rw [hE] at hP
                  simp only [Out.bind] at hP
                  by_cases hcap : accD.length < cap
                  · rw [if_pos hcap] at hP
                    intro uu F4 H4 S4 V4
                    obtain ⟨q1, q2, q3, q4, q5, q6, q7⟩ := stay (S3.trans S4)
                    -- the element, told by the names around
                    have hall : ∀ j ∈ vv.all, ∃ x, ρ[j]? = some (.own x) := fun j hj => by
                      obtain ⟨d, e⟩ := V4.own j hj
                      exact ⟨d, (ownR e).1⟩
                    have hat : ∀ {t : List Nat} {a : Addr}, (∀ j ∈ t, j ∈ vv.all) → (AtS σ2 t a ↔ AtS σ t a) := fun {t a} htt => by
                      constructor
                      · rintro ⟨j, h1, h2⟩
                        obtain ⟨d, e⟩ := V4.own j (htt j h1)
                        exact ⟨j, h1, by rw [← (ownR e).2]; exact h2⟩
                      · rintro ⟨j, h1, h2⟩
                        obtain ⟨d, e⟩ := V4.own j (htt j h1)
                        exact ⟨j, h1, by rw [(ownR e).2]; exact h2⟩
                    have tl : ∀ j ∈ vv.t, j ∈ vv.all := fun i hi => by
                      unfold Vl.all; split
                      · exact List.mem_cons_of_mem _ hi
                      · exact hi
                    have hfz : Fz F4 H4 σ2 vv.t = Fz F4 H4 σ vv.t := by
                      funext a
                      by_cases qa : AtS σ2 vv.t a
                      · rw [Fz_in qa, Fz_in ((hat tl).mp qa)]
                      · rw [Fz_out qa, Fz_out fun z => qa ((hat tl).mpr z)]
                    have V5 : ValOk c ρ' σ2 H F4 H4 uu vv := V4.start fun a m z => (stay S3).2.1.keepN m z
                    have V : ValOk c ρ σ H F4 H4 uu vv := by
                      refine ⟨hall, ?_⟩
                      have a := V5.at_
                      rw [hfz] at a
                      revert a
                      cases vv.k with
                      | pl => exact fun a => a
                      | me j =>
                        rintro ⟨a1, a2, a3⟩
                        obtain ⟨b1, b2⟩ := ownR a2
                        exact ⟨a1, b1, by rw [← b2]; exact a3⟩
                      | fr => exact fun a => a
                    have A : ArgOk c ρ σ H F4 H4 [uu] [vv] := .cons V .nil
                    have SF := Ft_stp q2 A
                    have RF := R.step SF
                    have A3 : ArgOk c ρ' σ2 H3 F4 H4 [uu] [vv] := .cons V4 .nil
                    have hD5 : Ft F4 H4 [uu] [vv] Dd = none := by
                      unfold Ft
                      rw [if_neg fun z => by
                        exact (tmp_at A3 z).2.2.1 (.lst (stay S3).2.2.2.2.2.1)]
                      exact q5
                    have up := Ft_up (us := [uu]) (vs := [vv]) q1.stp.sub
                    have hne : ∀ {t : List Nat} {a : Addr}, (∀ j ∈ t, ∃ x, ρ[j]? = some (.own x)) → AtS σ t a → a ≠ Dd := fun h z e => by
                      obtain ⟨_, _, h3, h4⟩ := R.at_ h z
                      exact hDs (by rw [← e]; exact h3.thr h4)
                    have hown := own_app hti V.own
                    refine ⟨acc, q6, by rw [hacc.length, ← cap_eq]; exact hcap, _, rfl, hlt, _, W4, acc ++ [uu], accD ++ [vv.d], ti ++ vv.all, R.setD RF hD5 hDs hDdl (fun q z => by rw [q6] at z; cases z) (fun q z => by rw [q6] at z; cases z), SF.setD hD5 hDs hDdl (fun q z => by rw [q6] at z; cases z) (fun q z => by rw [q6] at z; cases z), fun a o e => up _ _ (q3 _ _ e), fun a o e => ?_, hD5, upd_same, ?_, hown, hP⟩
                    · rw [upd_ne fun z => by
                        subst z
                        by_cases qa : AtS σ me a
                        · exact hne hme qa rfl
                        · rw [Fz_out qa, hDF] at e; cases e]
                      exact q4 _ _ e
                    · have eqF : ∀ {t : List Nat} {a : Addr}, (∀ j ∈ t, ∃ x, ρ[j]? = some (.own x)) → AtS σ t a → Fz (Ft F4 H4 [uu] [vv]) (upd H4 Dd (.lst (acc ++ [uu]))) σ t a = H4 a := fun h z => by
                        rw [Fz_in z, upd_ne (hne h z)]
                      refine (q7.mono fun a o e => ?_).append (.cons (val_rep q1 V (t := ti ++ vv.all) (fun a o e => ?_) (fun a z => eqF hown z) (fun i h => List.mem_append_right _ h) fun hk a ha => ?_) .nil)
                      · by_cases qa : AtS σ (ti ++ vv.all) a
                        · rw [eqF hown qa]
                          exact Fz_dn q1.stp.sub _ _ e
                        · have qb : ¬ AtS σ ti a := fun ⟨j, h1, h2⟩ => qa ⟨j, List.mem_append_left _ h1, h2⟩
                          rw [Fz_out qb] at e
                          rw [Fz_out qa]
                          exact up _ _ e
                      · by_cases qa : AtS σ (ti ++ vv.all) a
                        · rw [eqF hown qa]
                          exact q1.stp.sub _ _ e
                        · rw [Fz_out qa]
                          exact up _ _ e
                      · by_cases qa : AtS σ (ti ++ vv.all) a
                        · exact eqF hown qa
                        · rw [Fz_out qa]
                          unfold Ft
                          rw [if_pos (show TmpAt [uu] [vv] a from .inl ⟨hk, ha⟩)]
                  · rw [if_neg hcap] at hP; exact hP.elim
      · have e : i = xs.length := by omega
        subst e
        rw [List.drop_length] at hP
        simp only [lcGo] at hP
        refine .inl ⟨hw.stop Hi sB, hP _ Fi Hi Si ?_⟩
        unfold vf
        by_cases m : (D.lst accD).kids = true
        · rw [if_pos m]
          obtain ⟨a1, a2⟩ := Fz_soft Ri hti
          refine ⟨fun i hi => by simp [Vl.all] at hi, Dd, rfl, hDi, hDdl, hDs, acc, hDo, ?_⟩
          rw [Fz_nil]
          exact RepL.soft a1 a2 hacc (by simpa only [D.kids] using m)
        · rw [if_neg m]
          exact ⟨fun i hi => hti i hi, Dd, rfl, hDi, hDdl, hDs, acc, hDo, hacc⟩
theorem e_lc {tg it elt : Expr} {ifs : List Expr} {scope : Scope} {own : List (Str × Nat)} {pos : Pos} {pt : Pat} {g : TG} {src tst el : E} (hc : X.calm = true) (hN : X.N.Nodup) (hi : PI X tg it (rdI c Wx src)) (ok : BlkOk X.N X.env.scope scope own)
    (gk : GOk c pt (own.map (·.2)) g)
    (hg : ∀ (s : Shared) (H : Hp) (C : Addr) (cl : List (Str × Addr)) (fp : List Addr), PG (X.blk s H scope (compEnvC scope cl C X.env) fp) tg g) (ht : ∀ (s : Shared) (H : Hp) (C : Addr) (cl : List (Str × Addr)) (fp : List Addr), PTs (X.blk s H scope (compEnvC scope cl C X.env) fp) ifs (rdA c WXF tst))
    (he : ∀ (s : Shared) (H : Hp) (C : Addr) (cl : List (Str × Addr)) (fp : List Addr), PE (X.blk s H scope (compEnvC scope cl C X.env) fp) elt (rdE c WXF el)) (hs : ∀ x, foldedSetIterable it X.env x = pure x) :
    PE X (.ListComp elt [⟨tg, it, ifs, 0⟩] scope pos) (rdE c Wx (.lc el pt src tst (own.map (·.2)))) :=
  pe_wk (pe_lc hc hN hi ok hg ht he hs) fun σ H Q h => lc_ok hc hN hi ok gk h
theorem pts_wk {X : Cx} {e : List Expr} {t t' : TT} (h : PTs X e t) (k : ∀ σ H Q, t' σ H Q → t σ H Q) : PTs X e t' := ⟨fun pins s σ H Q I q => h.run pins s σ H Q I (k _ _ _ q)⟩
theorem a_oneT {e : Expr} {a : E} (h : PT X e (rdT c Wx a)) : PTs X [e] (rdA c Wx (.cons a .nil)) := pts_wk (pts_one h) fun σ H Q ⟨F0, H0, ρ, F, W, R, hP⟩ => by
  simp only [evA] at hP
  refine rd_t R R.refl hP fun b W1 F1 H1 S1 _ R1 hP => ?_
  cases b with
  | true => exact hP true F1 H1 S1 rfl
  | false => exact hP false F1 H1 S1 rfl
theorem a_nilT : PTs X [] (rdA c Wx .nil) := pts_wk pts_nil fun σ H Q ⟨F0, H0, ρ, F, W, R, hP⟩ => by
  simp only [evA] at hP
  exact hP true F H R.refl rfl
end
end Z

namespace Z
open PySem PySem.Spec PyProof.Rows L2
open Classical
section
variable {c : Pm} {Wx : WX} {X : Cx} {fu n : Nat} {W W' W1 W2 W3 : Dr} {F0 H0 F H F' H' F1 H1 F2 H2 F3 H3 Hs : Hp} {ρ ρ' : En} {σ σ' : L2.St} {u w : V} {x y v : Vl} {Q : VK} {us : List V} {vs : List Vl}

def Nw (ρ : En) (σ : L2.St) (u : V) (v : Vl) : Prop := v.k = .fr → ∀ p, u = .ref p → ∀ (j : Nat) (x : Z.D), ρ[j]? = some (.own x) → σ[j]? ≠ some (some (.ref p))
theorem Nw.of (R : Rel c F0 H0 ρ σ F H W) (k : ValOk c ρ σ H F2 H2 u v) : Nw ρ σ u v := fun hk p hu j x h1 h2 => by
  have a := k.at_
  rw [hk] at a
  obtain ⟨p', e1, _, _, e4, _⟩ := a
  rw [hu] at e1
  cases e1
  obtain ⟨q, q1, _, _, _, q5⟩ := R.own h1
  rw [h2] at q1
  cases q1
  exact e4 q5.thr
def PstS (c : Pm) (Wx : WX) (F0 H0 F : Hp) (D : Ends) : SOut → Prop
  | .nx ρ W => ∀ σ' F' H', Rel c F0 H0 ρ σ' F' H' W → Same F F' → D.nx σ' H'
  | .bk ρ W => ∀ σ' F' H', Rel c F0 H0 ρ σ' F' H' W → Same F F' → D.bk σ' H'
  | .ct ρ W => ∀ σ' F' H', Rel c F0 H0 ρ σ' F' H' W → Same F F' → D.ct σ' H'
  | .rt v ρ W => ∀ u σ' F' H', Rel c F0 H0 ρ σ' F' H' W → ValOk c ρ σ' H0 F' H' u v → Nw ρ σ' u v → D.rt u H'
  | .ex x ρ W => ∀ cls dd σ' F' H', Rel c F0 H0 ρ σ' F' H' W → ExOk c F' x cls dd → Wx cls dd σ' H'
  | .stk => False
def rdS (c : Pm) (Wx : WX) (fu : Nat) (s : S) : TS := fun D σ H => ∃ F0 H0 ρ F W, Rel c F0 H0 ρ σ F H W ∧ PstS c Wx F0 H0 F D (evS fu s ρ W)
theorem PstS.up {D : Ends} {o : SOut} (h : PstS c Wx F0 H0 F D o) (s : Same F F') : PstS c Wx F0 H0 F' D o := by
  cases o with
  | nx ρ W => exact fun σ' F' H' R e => h σ' F' H' R fun a o q => e _ _ (s _ _ q)
  | bk ρ W => exact fun σ' F' H' R e => h σ' F' H' R fun a o q => e _ _ (s _ _ q)
  | ct ρ W => exact fun σ' F' H' R e => h σ' F' H' R fun a o q => e _ _ (s _ _ q)
  | rt v ρ W => exact h
  | ex x ρ W => exact h
  | stk => exact h
theorem ps_wk {st : Stmt} {t t' : TS} (h : PS X st t) (k : ∀ D σ H, t' D σ H → t D σ H) : PS X st t' := ⟨fun pins s σ H D I q => h.run pins s σ H D I (k _ _ _ q)⟩
theorem pss_wk {st : List Stmt} {t t' : TS} (h : PSs X st t) (k : ∀ D σ H, t' D σ H → t D σ H) : PSs X st t' := ⟨fun pins s σ H D I q => h.run pins s σ H D I (k _ _ _ q)⟩

section
variable {α β : Type} {D : Ends}
theorem st_gen {ok1 : Hp → α → β → Hp → Hp → Prop} {o : Out α} {g : α → Dr → SOut} {Q2 : β → Hp → Prop} (R : Rel c F0 H0 ρ σ F H W) (hP : PstS c Wx F0 H0 F D (o.st ρ g))
    (k : ∀ y W2 u F2 H2, Stp c W2 F H F2 H2 → ok1 H y u F2 H2 → Rel c F0 H0 ρ σ F2 H2 W2 → PstS c Wx F0 H0 F D (g y W2) → Q2 u H2) : Pst c Wx σ F H (ok1 H) Q2 o := by
  cases o with
  | stk => exact hP
  | ex x W2 => exact fun cls dd F2 H2 S2 x => hP cls dd σ F2 H2 (R.step S2) x
  | ok y W2 => exact fun u F2 H2 S2 V => k y W2 u F2 H2 S2 V (R.step S2) hP
theorem st_e {e : E} {g : Vl → Dr → SOut} {Q2 : V → Hp → Prop} (R : Rel c F0 H0 ρ σ F H W) (hP : PstS c Wx F0 H0 F D ((ev e ρ W).st ρ g))
    (k : ∀ y W2 u F2 H2, Stp c W2 F H F2 H2 → ValOk c ρ σ H F2 H2 u y → Rel c F0 H0 ρ σ F2 H2 W2 → PstS c Wx F0 H0 F D (g y W2) → Q2 u H2) : rdE c Wx e σ H Q2 :=
  ⟨F0, H0, ρ, F, W, R, st_gen (ok1 := fun H1 v u F' H' => ValOk c ρ σ H1 F' H' u v) R hP k⟩
theorem st_t {e : E} {g : Bool → Dr → SOut} {Q2 : Bool → Hp → Prop} (R : Rel c F0 H0 ρ σ F H W) (hP : PstS c Wx F0 H0 F D ((evT e ρ W).st ρ g))
    (k : ∀ b W2 F2 H2, Stp c W2 F H F2 H2 → Rel c F0 H0 ρ σ F2 H2 W2 → PstS c Wx F0 H0 F D (g b W2) → Q2 b H2) : rdT c Wx e σ H Q2 :=
  ⟨F0, H0, ρ, F, W, R, st_gen (ok1 := fun _ b u _ _ => u = b) R hP fun y W2 u F2 H2 S V R2 hP => by subst V; exact k _ W2 F2 H2 S R2 hP⟩
theorem st_l {e : E} {g : List Vl → Dr → SOut} {Q2 : List V → Hp → Prop} (R : Rel c F0 H0 ρ σ F H W) (hP : PstS c Wx F0 H0 F D ((evL e ρ W).st ρ g))
    (k : ∀ ys W2 us F2 H2, Stp c W2 F H F2 H2 → ArgOk c ρ σ H F2 H2 us ys → Apart us ys → Rel c F0 H0 ρ σ F2 H2 W2 → PstS c Wx F0 H0 F D (g ys W2) → Q2 us H2) : rdL c Wx e σ H Q2 :=
  ⟨F0, H0, ρ, F, W, R, st_gen (ok1 := fun H1 vs us F' H' => Paired (fun u v => ValOk c ρ σ H1 F' H' u v) us vs ∧ Apart us vs) R hP fun y W2 u F2 H2 S V R2 hP => k y W2 u F2 H2 S V.1 V.2 R2 hP⟩
end

theorem frz_get {t : List Nat} {i : Nat} {s : Sl} (h : (frz ρ t)[i]? = some s) : (ρ[i]? = some s ∧ ∀ d, s = .own d → i ∉ t) ∨ (∃ d, ρ[i]? = some (.own d) ∧ s = .val d ∧ i ∈ t) := by
  unfold frz at h
  rw [List.getElem?_mapIdx, Option.map_eq_some_iff] at h
  obtain ⟨s0, h1, h2⟩ := h
  cases s0 with
  | un =>
    refine .inl ⟨by rw [h1, ← h2], fun d e => ?_⟩
    rw [e] at h2; cases h2
  | val d =>
    refine .inl ⟨by rw [h1, ← h2], fun d e => ?_⟩
    rw [e] at h2; cases h2
  | slf p n fs =>
    refine .inl ⟨by rw [h1, ← h2], fun d e => ?_⟩
    rw [e] at h2; cases h2
  | own d =>
    simp only at h2
    by_cases m : t.contains i = true
    · rw [if_pos m] at h2
      exact .inr ⟨d, h1, h2.symm, by simpa using m⟩
    · rw [if_neg m] at h2
      exact .inl ⟨by rw [h1, h2], fun _ _ z => m (by simpa using z)⟩
theorem Rel.frz {t : List Nat} (R : Rel c F0 H0 ρ σ F H W) (ht : ∀ i ∈ t, ∃ x, ρ[i]? = some (.own x)) : Rel c F0 H0 (Z.frz ρ t) σ (Fz F H σ t) H W := by
  have up : Same F (Fz F H σ t) := Fz_up R.stp.sub
  refine ⟨by unfold Z.frz; rw [List.length_mapIdx]; exact R.len, ⟨fun a o e => up _ _ (R.stp.f _ _ e), Fz_dn R.stp.sub, R.stp.h, fun a e nn => ?_, fun a o e => ?_, fun a ha => ?_, R.stp.dr, fun hd => up _ _ (R.stp.cl hd), R.stp.tabs⟩, fun i s e => ?_, fun i j d1 d2 p e1 e2 e3 e4 => ?_⟩
  · rw [Fz_out]
    · exact R.stp.new a e nn
    · rintro ⟨i, h1, h2⟩
      obtain ⟨d, hd⟩ := ht i h1
      obtain ⟨p, q1, _, _, q4, _⟩ := R.own hd
      rw [h2] at q1
      have q := L2.V.ref.inj (Option.some.inj (Option.some.inj q1))
      subst q
      exact q4 nn
  · by_cases h : AtS σ t a
    · rw [Fz_in h] at e; exact (R.at_ ht h).2.2.1.nt e
    · rw [Fz_out h] at e; exact R.stp.nt a o e
  · rw [Fz_out]
    · exact R.stp.av a ha
    · exact fun z => (R.at_ ht z).2.1 ha
  · rcases frz_get e with ⟨h1, h2⟩ | ⟨d, h1, rfl, h3⟩
    · have k := R.slot i s h1
      cases s with
      | un => exact k
      | val d =>
        obtain ⟨v, k1, k2⟩ := k
        exact ⟨v, k1, k2.mono up⟩
      | slf p n fs =>
        obtain ⟨k1, k2, k3, k4, C, dx, gs, k5, k6, k7⟩ := k
        refine ⟨k1, ?_, k3, k4, C, dx, gs, k5, k6, k7.mono up⟩
        rw [Fz_out]
        · exact k2
        · intro z
          rcases (R.at_ ht z).2.2.1 with q | ⟨xs, q⟩ | ⟨xs, q⟩ | ⟨xs, q⟩ <;> rw [k5] at q <;> cases q
      | own d =>
        obtain ⟨p, k1, k2, k3, k4, k5⟩ := k
        refine ⟨p, k1, ?_, k3, k4, k5.mono up fun _ h => h⟩
        rw [Fz_out]
        · exact k2
        · rintro ⟨j, z1, z2⟩
          obtain ⟨d', hd'⟩ := ht j z1
          have := R.dist i j d d' p h1 hd' k1 z2
          exact h2 d rfl (this ▸ z1)
    · obtain ⟨p, k1, k2, k3, k4, k5⟩ := R.own h1
      exact ⟨_, k1, k5.rep up (Fz_in ⟨i, h3, k1⟩)⟩
  · have a : ∀ {j : Nat} {d : D}, (Z.frz ρ t)[j]? = some (.own d) → ρ[j]? = some (.own d) := fun {j d} e => by
      rcases frz_get e with ⟨h, _⟩ | ⟨_, _, h, _⟩
      · exact h
      · cases h
    exact R.dist i j d1 d2 p (a e1) (a e2) e3 e4
theorem Rel.seto {i p : Nat} {d : D} (R : Rel c F0 H0 ρ σ F H W) (h1 : F p = none) (h2 : p ∉ c.mv) (h3 : Nil H0 p) (h4 : OwnAt c F H p d) (h5 : ∀ (j : Nat) (x : D), ρ[j]? = some (.own x) → σ[j]? = some (some (.ref p)) → j = i) : Rel c F0 H0 (ρ.set i (.own d)) (σ.set i (some (.ref p))) F H W := by
  have a : ∀ {j : Nat} {s : Sl}, (ρ.set i (.own d))[j]? = some s → (i = j ∧ s = .own d ∧ i < ρ.length) ∨ (i ≠ j ∧ ρ[j]? = some s) := fun {j s} e => by
    by_cases h : i = j
    · subst h
      have hl : i < ρ.length := by
        have := (List.getElem?_eq_some_iff.mp e).1
        simpa using this
      rw [List.getElem?_set_self hl] at e
      exact .inl ⟨rfl, (Option.some.inj e).symm, hl⟩
    · rw [List.getElem?_set_ne h] at e
      exact .inr ⟨h, e⟩
  refine ⟨by rw [List.length_set, List.length_set]; exact R.len, R.stp, fun j s e => ?_, fun j k d1 d2 p' e1 e2 e3 e4 => ?_⟩
  · rcases a e with ⟨rfl, rfl, hl⟩ | ⟨h, e⟩
    · exact ⟨p, by rw [List.getElem?_set_self (R.len ▸ hl)], h1, h2, h3, h4⟩
    · rw [List.getElem?_set_ne h]
      exact R.slot j s e
  · rcases a e1 with ⟨rfl, z1, hl⟩ | ⟨n1, o1⟩ <;> rcases a e2 with ⟨z2, z3, hl2⟩ | ⟨n2, o2⟩
    · exact z2
    · rw [List.getElem?_set_self (R.len ▸ hl)] at e3
      rw [List.getElem?_set_ne n2] at e4
      cases e3
      exact (h5 k _ o2 e4).symm
    · subst z2
      rw [List.getElem?_set_self (R.len ▸ hl2)] at e4
      rw [List.getElem?_set_ne n1] at e3
      cases e4
      exact h5 j _ o1 e3
    · rw [List.getElem?_set_ne n1] at e3
      rw [List.getElem?_set_ne n2] at e4
      exact R.dist j k d1 d2 p' o1 o2 e3 e4
theorem tl_all {v : Vl} : ∀ i ∈ v.t, i ∈ v.all := fun i hi => by
  unfold Vl.all; split
  · exact List.mem_cons_of_mem _ hi
  · exact hi
theorem Rel.put {i : Nat} (R0 : Rel c F0 H0 ρ σ F H W) (R : Rel c F0 H0 ρ σ F2 H2 W2) (V : ValOk c ρ σ H F2 H2 u v) : Rel c F0 H0 (Z.put ρ i v) (σ.set i (some u)) (Fz F2 H2 σ v.all) H2 W2 := by
  have RF := R.frz V.own
  unfold Z.put
  cases hk : v.k with
  | fr =>
    have hf : v.isFr = true := by unfold Vl.isFr; rw [hk]
    rw [if_pos hf]
    have a := V.at_
    rw [hk] at a
    obtain ⟨p, rfl, e2, e3, e4, e5⟩ := a
    have hall : v.all = v.t := by unfold Vl.all; rw [hk]
    have ne : ∀ (j : Nat) (x : D), ρ[j]? = some (.own x) → σ[j]? ≠ some (some (.ref p)) := fun j x h1 h2 => by
      obtain ⟨p', q1, _, _, _, q5⟩ := R0.own h1
      rw [h2] at q1
      have q := L2.V.ref.inj (Option.some.inj (Option.some.inj q1))
      subst q
      exact e4 q5.thr
    refine RF.seto ?_ e3 (R0.stp.keepN e3 e4) (by rw [hall]; exact e5) fun j x h1 h2 => ?_
    · rw [Fz_out]
      · exact e2
      · rintro ⟨j, z1, z2⟩
        obtain ⟨d, hd⟩ := V.own j z1
        exact ne j d hd z2
    · rcases frz_get h1 with ⟨h, _⟩ | ⟨_, _, h, _⟩
      · exact (ne j x h h2).elim
      · cases h
  | pl =>
    have hf : v.isFr = false := by unfold Vl.isFr; rw [hk]
    rw [if_neg (by rw [hf]; exact Bool.false_ne_true)]
    refine RF.setv ?_
    have a := V.at_
    rw [hk] at a
    have hall : v.all = v.t := by unfold Vl.all; rw [hk]
    rw [hall]; exact a
  | me j =>
    have hf : v.isFr = false := by unfold Vl.isFr; rw [hk]
    rw [if_neg (by rw [hf]; exact Bool.false_ne_true)]
    refine RF.setv ?_
    exact val_rep R V (Fz_up R.stp.sub) (fun a h => Fz_in h) (fun _ h => h) fun z => by rw [hk] at z; cases z
theorem Rel.mut {i : Nat} {p : Addr} {o o' : D} {ob : HO} (R : Rel c F0 H0 ρ σ F H W) (h1 : ρ[i]? = some (.own o)) (h2 : σ[i]? = some (some (.ref p))) (h3 : OwnAt c F (upd H p ob) p o') : Rel c F0 H0 (ρ.set i (.own o')) σ F (upd H p ob) W := by
  obtain ⟨p', q1, q2, q3, q4, q5⟩ := R.own h1
  rw [h2] at q1
  have q := L2.V.ref.inj (Option.some.inj (Option.some.inj q1))
  subst q
  have a : ∀ {j : Nat} {s : Sl}, (ρ.set i (.own o'))[j]? = some s → (i = j ∧ s = .own o') ∨ (i ≠ j ∧ ρ[j]? = some s) := fun {j s} e => by
    by_cases h : i = j
    · subst h
      have hl : i < ρ.length := by
        have := (List.getElem?_eq_some_iff.mp e).1
        simpa using this
      rw [List.getElem?_set_self hl] at e
      exact .inl ⟨rfl, (Option.some.inj e).symm⟩
    · rw [List.getElem?_set_ne h] at e
      exact .inr ⟨h, e⟩
  have b : ∀ {j : Nat} {d : D}, (ρ.set i (.own o'))[j]? = some (.own d) → ∃ d', ρ[j]? = some (.own d') := fun {j d} e => by
    rcases a e with ⟨rfl, _⟩ | ⟨_, e⟩
    · exact ⟨_, h1⟩
    · exact ⟨_, e⟩
  refine ⟨by rw [List.length_set]; exact R.len, R.stp.setD q2 q4 q3 (fun q z => by rcases q5.softH with k | ⟨xs, k⟩ | ⟨xs, k⟩ | ⟨xs, k⟩ <;> rw [z] at k <;> cases k) (fun q z => by rcases q5.softH with k | ⟨xs, k⟩ | ⟨xs, k⟩ | ⟨xs, k⟩ <;> rw [z] at k <;> cases k), fun j s e => ?_, fun j k d1 d2 p' e1 e2 e3 e4 => ?_⟩
  · rcases a e with ⟨rfl, rfl⟩ | ⟨n, e⟩
    · exact ⟨p, h2, q2, q3, q4, h3⟩
    · have k := R.slot j s e
      cases s with
      | un => exact k
      | val d => exact k
      | slf p' n' fs =>
        obtain ⟨k1, k2, k3, k4, C, dx, gs, k5, k6, k7⟩ := k
        refine ⟨k1, k2, k3, k4, C, dx, gs, ?_, k6, k7⟩
        rw [upd_ne fun z => ?_]
        · exact k5
        · rcases q5.softH with q | ⟨xs, q⟩ | ⟨xs, q⟩ | ⟨xs, q⟩ <;> rw [← z, k5] at q <;> cases q
      | own d =>
        obtain ⟨p', k1, k2, k3, k4, k5⟩ := k
        refine ⟨p', k1, k2, k3, k4, k5.at (upd_ne fun z => n ?_)⟩
        subst z
        exact R.dist i j _ _ _ h1 e h2 k1
  · obtain ⟨d1', o1⟩ := b e1
    obtain ⟨d2', o2⟩ := b e2
    exact R.dist j k _ _ _ o1 o2 e3 e4
theorem keep_all (R0 : Rel c F0 H0 ρ σ F H W) (R : Rel c F0 H0 ρ σ F2 H2 W2) (S : Stp c W2 F H F2 H2) (A : ArgOk c ρ σ H F2 H2 us vs) : Rel c F0 H0 (Z.frz ρ (ts vs)) σ (Fz (Ft F2 H2 us vs) H2 σ (ts vs)) H2 W2 ∧ RepL c (Fz (Ft F2 H2 us vs) H2 σ (ts vs)) us (ds vs) ∧ Same F2 (Fz (Ft F2 H2 us vs) H2 σ (ts vs)) := by
  refine ⟨(Ft_rel R0 R S A).frz (ts_own A), args_all R0 R S A, fun a o e => ?_⟩
  exact Fz_up (Ft_rel R0 R S A).stp.sub _ _ (Ft_up R.stp.sub _ _ e)
end
end Z

namespace Z
open PySem PySem.Spec PyProof.Rows L2
open Classical
section
variable {c : Pm} {Wx : WX} {X : Cx} {fu n : Nat} {W W' W1 W2 W3 : Dr} {F0 H0 F H F' H' F1 H1 F2 H2 F3 H3 Hs : Hp} {ρ ρ' : En} {σ σ' : L2.St} {u w : V} {x y v : Vl} {Q : VK} {us : List V} {vs : List Vl} {pos : Pos}

theorem s_nil : PSs X [] (rdS c Wx fu .skip) := pss_wk pss_nil fun D σ H ⟨F0, H0, ρ, F, W, R, hP⟩ => by
  simp only [evS] at hP
  exact hP σ F H R (Same.refl _)
theorem s_cons {st : Stmt} {rest : List Stmt} {a b : S} (h1 : PS X st (rdS c Wx fu a)) (h2 : PSs X rest (rdS c Wx fu b)) : PSs X (st :: rest) (rdS c Wx fu (.seq a b)) := by
  refine pss_wk (pss_cons h1 h2) fun D σ H ⟨F0, H0, ρ, F, W, R, hP⟩ => ⟨F0, H0, ρ, F, W, R, ?_⟩
  simp only [evS] at hP
  cases e : evS fu a ρ W with
  | nx ρ1 W1 =>
    rw [e] at hP
    exact fun σ' F' H' R' s => ⟨F0, H0, ρ1, F', W1, R', hP.up s⟩
  | bk ρ1 W1 => rw [e] at hP; exact hP
  | ct ρ1 W1 => rw [e] at hP; exact hP
  | rt v ρ1 W1 => rw [e] at hP; exact hP
  | ex x ρ1 W1 => rw [e] at hP; exact hP
  | stk => rw [e] at hP; exact hP
theorem s_if {c0 : Expr} {p q : List Stmt} {ec : E} {a b : S} (hc : PT X c0 (rdT c Wx ec)) (h1 : PSs X p (rdS c Wx fu a)) (h2 : PSs X q (rdS c Wx fu b)) : PS X (.If c0 p q pos) (rdS c Wx fu (.iff ec a b)) := by
  refine ps_wk (ps_if hc h1 h2) fun D σ H ⟨F0, H0, ρ, F, W, R, hP⟩ => ?_
  simp only [evS] at hP
  refine st_t R hP fun k W1 F1 H1 S1 R1 hP => ?_
  cases k with
  | true => exact ⟨F0, H0, ρ, F1, W1, R1, PstS.up hP S1.f⟩
  | false => exact ⟨F0, H0, ρ, F1, W1, R1, PstS.up hP S1.f⟩
theorem s_set {i : Nat} {z : Str} {e : Expr} {ee : E} {pos' : Pos} (hN : X.N.Nodup) (hi : X.N[i]? = some z) (hx : Loc X.env.scope z) (he : PE X e (rdE c Wx ee)) (hs : swapsWith e (some (.Name z pos')) pos.line X.env = pure false) (hf : X.fn z = true ∨ X.env.scope.names.lookup z = some .local) :
    PS X (.Assign [.Name z pos'] e pos) (rdS c Wx fu (.asg i ee)) := by
  refine ps_wk (ps_set hN hi hx he hs hf) fun D σ H ⟨F0, H0, ρ, F, W, R, hP⟩ => ?_
  simp only [evS] at hP
  exact st_e R hP fun v W1 u F1 H1 S1 V1 R1 hP => hP _ _ _ (R.put R1 V1) fun a o q => Fz_up R1.stp.sub _ _ (S1.f _ _ q)
theorem s_ret {e : Expr} {ee : E} (he : PE X e (rdE c Wx ee)) : PS X (.Return (some e) pos) (rdS c Wx fu (.ret ee)) := by
  refine ps_wk (ps_ret he) fun D σ H ⟨F0, H0, ρ, F, W, R, hP⟩ => ?_
  simp only [evS] at hP
  exact st_e R hP fun v W1 u F1 H1 S1 V1 R1 hP => hP _ _ _ _ R1 (V1.start fun a m z => R.stp.keepN m z) (Nw.of R V1)
theorem s_unp {tg e : Expr} {ee : E} {is : List Nat} {m : Nat} (hk : X.K = c.K) (hm : m = is.length) (he : PE X e (rdE c Wx ee)) (hg : PG X tg (gTup X.K m (gNames is))) (hs : swapsWithSole [tg] e pos.line X.env = pure false) (hw : swappedStores [tg] e X.env = pure none)
    (h1 : (assignEach [tg] X.env).map (·.2) = [assign tg X.env]) : PS X (.Assign [tg] e pos) (rdS c Wx fu (.unp is ee)) := by
  refine ps_wk (ps_asg he hg hs hw h1) fun D σ H ⟨F0, H0, ρ, F, W, R, hP⟩ => ?_
  simp only [evS] at hP
  refine st_e R hP fun v W1 u F1 H1 S1 V1 R1 hP => ?_
  cases e1 : v.d <;> rw [e1] at hP <;> try (exact hP.elim)
  rename_i xs
  simp only at hP
  by_cases hl : xs.length = is.length
  · rw [if_pos hl] at hP
    have RF := R1.frz V1.own
    have up : Same F1 (Fz F1 H1 σ v.all) := Fz_up R1.stp.sub
    have r := V1.rep R1 e1 fun _ _ _ h => h
    have r := r.mono (Fz_mono (t' := v.all) R1.stp.sub tl_all)
    rw [hk]
    refine g_tp (c := c) (own := is) (ρ := Z.frz ρ v.all) (fun _ h => h) hm RF r (by unfold bindP; simp only; rw [if_pos hl]) fun σ' R' _ _ _ => hP σ' _ H1 R' fun a o q => up _ _ (S1.f _ _ q)
  · rw [if_neg hl] at hP; exact hP.elim
theorem put_own {i : Nat} {r : Sl} {j : Nat} {d : D} (h : (ρ.set i r)[j]? = some (.own d)) : (i = j ∧ r = .own d) ∨ (i ≠ j ∧ ρ[j]? = some (.own d)) := by
  by_cases e : i = j
  · subst e
    have hl : i < ρ.length := by
      have := (List.getElem?_eq_some_iff.mp h).1
      simpa using this
    rw [List.getElem?_set_self hl] at h
    exact .inl ⟨rfl, Option.some.inj h⟩
  · rw [List.getElem?_set_ne e] at h
    exact .inr ⟨e, h⟩
def setAll (σ : L2.St) : List Nat → List V → L2.St
  | i :: is, v :: vs => setAll (σ.set i (some v)) is vs
  | _, _ => σ
theorem put_many {σ0 : L2.St} (R0 : Rel c F0 H0 ρ σ0 F H W) {FF : Hp} {t : List Nat} {W2 : Dr} (R2 : Rel c F0 H0 ρ σ0 F2 H2 W2) (hup : Same F2 FF) (hsub : Same FF H2)
    (hF : ∀ a, AtS σ0 t a → FF a = H2 a) : ∀ {us : List V} {vs : List Vl} {is : List Nat} {ρ' : En} {σ' : L2.St}, ArgOk c ρ σ0 H F2 H2 us vs → Apart us vs → vs.length = is.length → is.Nodup → (∀ i ∈ ts vs, i ∈ t) →
    (∀ a, TmpAt us vs a → FF a = none) → Rel c F0 H0 ρ' σ' FF H2 W2 → (∀ a, TmpAt us vs a → ∀ (j : Nat) (x : D), ρ'[j]? = some (.own x) → σ'[j]? ≠ some (some (.ref a))) →
    Rel c F0 H0 (putAll ρ' is vs) (setAll σ' is us) FF H2 W2
  | _, _, is, ρ', σ', .nil, _, hl, _, _, _, R', _ => by
    cases is with
    | nil => exact R'
    | cons _ _ => simp at hl
  | _, _, is, ρ', σ', .cons (a := u) (b := v) (l₁ := us) (l₂ := vs) V A, ap, hl, nd, ht, hT, R', hfr => by
    cases is with
    | nil => simp at hl
    | cons i is =>
      have hts : ∀ j ∈ v.all, j ∈ t := fun j hj => ht j (by unfold ts; rw [List.flatMap_cons]; exact List.mem_append_left _ hj)
      have ht' : ∀ j ∈ ts vs, j ∈ t := fun j hj => ht j (by unfold ts; rw [List.flatMap_cons]; exact List.mem_append_right _ hj)
      unfold putAll setAll
      refine put_many R0 R2 hup hsub hF A ap.2 (by simpa using hl) (List.nodup_cons.mp nd).2 ht' (fun a z => hT a (.inr z)) ?_ fun a z j x h1 h2 => ?_
      · cases hk : v.k with
        | fr =>
          have hf : v.isFr = true := by unfold Vl.isFr; rw [hk]
          rw [if_pos hf]
          have a := V.at_
          rw [hk] at a
          obtain ⟨p, rfl, e2, e3, e4, e5⟩ := a
          refine R'.seto (hT p (.inl ⟨hk, rfl⟩)) e3 (R0.stp.keepN e3 e4) (e5.mono (fun b o q => ?_) fun _ h => h) fun j x h1 h2 => (hfr p (.inl ⟨hk, rfl⟩) j x h1 h2).elim
          by_cases qa : AtS σ0 v.t b
          · rw [Fz_in qa] at q
            obtain ⟨j, z1, z2⟩ := qa
            rw [hF b ⟨j, hts j (tl_all j z1), z2⟩]
            exact q
          · rw [Fz_out qa] at q
            exact hup _ _ q
        | pl =>
          have hf : v.isFr = false := by unfold Vl.isFr; rw [hk]
          rw [if_neg (by rw [hf]; exact Bool.false_ne_true)]
          exact R'.setv (val_rep R2 V hup hF hts fun z => by rw [hk] at z; cases z)
        | me j =>
          have hf : v.isFr = false := by unfold Vl.isFr; rw [hk]
          rw [if_neg (by rw [hf]; exact Bool.false_ne_true)]
          exact R'.setv (val_rep R2 V hup hF hts fun z => by rw [hk] at z; cases z)
      · rcases put_own h1 with ⟨rfl, e⟩ | ⟨n, e⟩
        · by_cases hf : v.isFr = true
          · have hk : v.k = .fr := by
              unfold Vl.isFr at hf
              revert hf
              cases v.k <;> simp
            have hlt : i < σ'.length := by
              have := (List.getElem?_eq_some_iff.mp h2).1
              simpa using this
            rw [List.getElem?_set_self hlt] at h2
            cases h2
            exact ap.1 a hk rfl z
          · rw [if_neg hf] at e; cases e
        · rw [List.getElem?_set_ne n] at h2
          exact hfr a (.inr z) j x e h2
end
end Z

namespace Z
open PySem PySem.Spec PyProof.Rows L2
open Classical
section
variable {c : Pm} {Wx : WX} {X : Cx} {fu n : Nat} {W W' W1 W2 W3 : Dr} {F0 H0 F H F' H' F1 H1 F2 H2 F3 H3 Hs : Hp} {ρ ρ' : En} {σ σ' : L2.St} {u w : V} {x y v : Vl} {Q : VK} {us : List V} {vs : List Vl} {pos : Pos}

theorem par_ok {is : List Nat} {D : Ends} (R : Rel c F0 H0 ρ σ F H W) (R1 : Rel c F0 H0 ρ σ F1 H1 W1) (S1 : Stp c W1 F H F1 H1) (A : ArgOk c ρ σ H F1 H1 us vs) (ap : Apart us vs)
    (hP : PstS c Wx F0 H0 F D (if vs.length = is.length ∧ is.Nodup then .nx (putAll (Z.frz ρ (ts vs)) is vs) W1 else .stk)) : D.nx (setAll σ is us) H1 := by
  by_cases h : vs.length = is.length ∧ is.Nodup
  · rw [if_pos h] at hP
    have RF := R1.frz (ts_own A)
    have up : Same F1 (Fz F1 H1 σ (ts vs)) := Fz_up R1.stp.sub
    have ne : ∀ (a : Addr), TmpAt us vs a → ∀ (j : Nat) (x : Z.D), ρ[j]? = some (.own x) → σ[j]? ≠ some (some (.ref a)) := fun a z j x h1 h2 => by
      obtain ⟨p, q1, _, _, _, q5⟩ := R.own h1
      rw [h2] at q1
      have q := L2.V.ref.inj (Option.some.inj (Option.some.inj q1))
      subst q
      exact (tmp_at A z).2.2.1 q5.thr
    refine hP _ _ _ (put_many R R1 up RF.stp.sub (fun a z => Fz_in z) A ap h.1 h.2 (fun _ h => h) (fun a z => ?_) RF fun a z j x h1 h2 => ?_) fun a o q => up _ _ (S1.f _ _ q)
    · rw [Fz_out]
      · exact (tmp_at A z).1
      · rintro ⟨j, h1, h2⟩
        obtain ⟨d, hd⟩ := ts_own A j h1
        exact ne a z j d hd h2
    · rcases frz_get h1 with ⟨h, _⟩ | ⟨_, _, h, _⟩
      · exact ne a z j x h h2
      · cases h
  · rw [if_neg h] at hP; exact hP.elim
theorem s_par {i j : Nat} {z1 z2 : Str} {a b : Expr} {ea : E} {px py pt : Pos} {kt k2 pt2} (hc : X.calm = true) (hN : X.N.Nodup) (hi : X.N[i]? = some z1) (hj : X.N[j]? = some z2) (hij : i ≠ j)
    (hx : X.env.scope.names.lookup z1 = some .local) (hy : X.env.scope.names.lookup z2 = some .local) (ha : PA X [a, b] (rdL c Wx ea))
    (hw : swappedStores [.Tuple [.Name z1 px, .Name z2 py] kt pt] (.Tuple [a, b] k2 pt2) X.env = pure (some [z1, z2]))
    (hs : swapsWithSole [.Tuple [.Name z1 px, .Name z2 py] kt pt] (.Tuple [a, b] k2 pt2) pos.line X.env = pure false) :
    PS X (.Assign [.Tuple [.Name z1 px, .Name z2 py] kt pt] (.Tuple [a, b] k2 pt2) pos) (rdS c Wx fu (.par [i, j] ea)) := by
  refine ps_wk (ps_par hc hN hi hj hij hx hy ha hw hs) fun D σ H ⟨F0, H0, ρ, F, W, R, hP⟩ => ?_
  simp only [evS] at hP
  refine st_l R hP fun vs W1 us F1 H1 S1 A ap R1 hP => ?_
  have q := par_ok R R1 S1 A ap hP
  have hl : vs.length = 2 := by
    by_cases h : vs.length = [i, j].length ∧ [i, j].Nodup
    · exact h.1
    · rw [if_neg h] at hP; exact hP.elim
  rw [← Paired.len A] at hl
  match us, hl with
  | [u, w], _ => exact ⟨u, w, rfl, q⟩

theorem own_lst {i : Nat} {xs : List D} (R : Rel c F0 H0 ρ σ F H W) (h : ρ[i]? = some (.own (.lst xs))) : ∃ p ws, σ[i]? = some (some (.ref p)) ∧ H p = some (.lst ws) ∧ RepL c F ws xs := by
  obtain ⟨p, h1, _, _, _, ws, h2, h3⟩ := R.own h
  exact ⟨p, ws, h1, h2, h3⟩
theorem ts_one {v : Vl} : ts [v] = v.all := by simp [ts]
theorem s_app {i : Nat} {z : Str} {e : Expr} {ee : E} {p2 apos cpos : Pos} (hN : X.N[i]? = some z) (hv : Vis X.env.scope z) (hd : (z == ("__debug__" : Str)) = false) (hcd : (z == ("__classdict__" : Str)) = false) (he : PE X e (rdE c Wx ee))
    (hbase : attributeBase (.Name z p2) "append" X.env (eval (.Name z p2) X.env) = eval (.Name z p2) X.env)
    (hfew : ((backTo cpos (starEach [e] X.env)).all (fun x => !x.1) && (backToKw cpos (keywordEach [] X.env)).all (fun x => x.1.isSome)
      && decide (([e] : List Expr).length + ([] : List Keyword).length + (if ([] : List Keyword).isEmpty then 0 else 1) < 30)) = true)
    (hline : (apos.endLine == cpos.line) = true) (hs : starEach [e] X.env = [(false, eval e X.env)]) (hsw : swapsWith (.Call (.Attribute (.Name z p2) "append" apos) [e] [] cpos) none pos.line X.env = pure false) :
    PS X (.Expr (.Call (.Attribute (.Name z p2) "append" apos) [e] [] cpos) pos) (rdS c Wx fu (.app i ee)) := by
  refine ps_wk (ps_expr (pe_bm F.plainAttrs_list F.slot_list_append (by rfl) mt_append (pe_var hN hv hd hcd) (pa_cons he pa_nil hs) hbase hfew hline hs (by rfl)) hsw) fun D σ H ⟨F0, H0, ρ, F, W, R, hP⟩ => ?_
  simp only [evS] at hP
  cases e0 : ρ[i]? with
  | none => rw [e0] at hP; exact hP.elim
  | some s =>
    rw [e0] at hP
    cases s with
    | un => exact hP.elim
    | slf _ _ _ => exact hP.elim
    | val d => exact hP.elim
    | own d =>
      cases d <;> try (exact hP.elim)
      rename_i xs0
      simp only at hP
      obtain ⟨p, ws0, h1, h2, h3⟩ := own_lst R e0
      refine ⟨.ref p, h1, .inl ⟨rfl, ws0, .inl (.inl h2)⟩, st_e R hP fun v W1 u F1 H1 S1 V1 R1 hP => ?_⟩
      have A : ArgOk c ρ σ H F1 H1 [u] [v] := .cons V1 .nil
      obtain ⟨RF, RA, up⟩ := keep_all R R1 S1 A
      rw [ts_one] at RF RA up
      cases e2 : (Z.frz ρ v.all)[i]? with
      | none => rw [e2] at hP; exact hP.elim
      | some s =>
        rw [e2] at hP
        cases s with
        | un => exact hP.elim
        | slf _ _ _ => exact hP.elim
        | val d => exact hP.elim
        | own d =>
          cases d <;> try (exact hP.elim)
          rename_i xs
          simp only at hP
          by_cases hl : xs.length < cap
          · rw [if_pos hl] at hP
            obtain ⟨p', ws, h4, h5, h6⟩ := own_lst RF e2
            rw [h1] at h4
            have q := L2.V.ref.inj (Option.some.inj (Option.some.inj h4))
            subst q
            refine ⟨p, ws, u, rfl, rfl, h5, by rw [h6.length, ← cap_eq]; exact hl, ?_⟩
            refine hP _ _ _ (RF.mut e2 h1 ⟨_, upd_same, h6.append ?_⟩) fun a o q => up _ _ (S1.f _ _ q)
            cases RA with
            | cons r _ => exact .cons r .nil
          · rw [if_neg hl] at hP; exact hP.elim
theorem RepL.dropLast {vs : List V} {xs : List D} (h : RepL c F vs xs) : RepL c F vs.dropLast xs.dropLast := by
  rw [List.dropLast_eq_take, List.dropLast_eq_take, h.length]
  exact h.take _
theorem RepL.erase : ∀ {vs : List V} {xs : List Z.D} (i : Nat), RepL c F vs xs → RepL c F (vs.eraseIdx i) (xs.eraseIdx i)
  | _, _, _, .nil => .nil
  | _, _, 0, .cons _ r => r
  | _, _, i + 1, .cons k r => .cons k (RepL.erase i r)
theorem s_setix {i : Nat} {z : Str} {k e : Expr} {ek ee : E} {p2 tpos : Pos} (hN : X.N[i]? = some z) (hv : Vis X.env.scope z) (hd : (z == ("__debug__" : Str)) = false) (hcd : (z == ("__classdict__" : Str)) = false) (hk : PE X k (rdE c Wx ek)) (he : PE X e (rdE c Wx ee))
    (ha : ∀ v, assign (.Subscript (.Name z p2) k tpos) X.env v = (do
      let ov ← holding [v] (eval (.Name z p2) X.env)
      let iv ← holding [v, ov] (eval k X.env)
      standAt tpos
      holding [v, ov, iv] (setItem ov iv v)
      release [v, ov, iv] []))
    (hs : swapsWithSole [.Subscript (.Name z p2) k tpos] e pos.line X.env = pure false) (hw : swappedStores [.Subscript (.Name z p2) k tpos] e X.env = pure none)
    (h1 : (assignEach [.Subscript (.Name z p2) k tpos] X.env).map (·.2) = [assign (.Subscript (.Name z p2) k tpos) X.env]) :
    PS X (.Assign [.Subscript (.Name z p2) k tpos] e pos) (rdS c Wx fu (.setix i ek ee)) := by
  refine ps_wk (ps_asg he (pg_sub (pe_var hN hv hd hcd) hk set_list ha) hs hw h1) fun D σ H ⟨F0, H0, ρ, F, W, R, hP⟩ => ?_
  simp only [evS] at hP
  cases e0 : ρ[i]? with
  | none => rw [e0] at hP; exact hP.elim
  | some s =>
    rw [e0] at hP
    cases s with
    | un => exact hP.elim
    | slf _ _ _ => exact hP.elim
    | val d => exact hP.elim
    | own d =>
      cases d <;> try (exact hP.elim)
      rename_i xs0
      simp only at hP
      obtain ⟨p, ws0, h1, h2, h3⟩ := own_lst R e0
      refine st_e R hP fun v W1 u F1 H1 S1 V1 R1 hP => ?_
      refine ⟨.ref p, h1, st_e R1 (hP.up S1.f) fun y W2 w F2 H2 S2 V2 R2 hP => ?_⟩
      have S12 := S1.trans S2
      have A : ArgOk c ρ σ H F2 H2 [u, w] [v, y] := .cons (V1.step R1 S2) (.cons (V2.start fun a m z => S1.keepN m z) .nil)
      obtain ⟨RF, RA, up⟩ := keep_all R R2 S12 A
      have hts : ts [v, y] = v.all ++ y.all := by simp [ts]
      rw [hts] at RF RA up
      cases e2 : (Z.frz ρ (v.all ++ y.all))[i]? with
      | none => rw [e2] at hP; exact hP.elim
      | some s =>
        rw [e2] at hP
        cases s with
        | un => exact hP.elim
        | slf _ _ _ => exact hP.elim
        | val d => exact hP.elim
        | own d =>
          cases d <;> try (exact hP.elim)
          rename_i xs
          cases e3 : y.d <;> rw [e3] at hP <;> try (exact hP.elim)
          rename_i m
          simp only at hP
          cases e4 : ixOf xs.length m with
          | none => rw [e4] at hP; exact hP.elim
          | some j =>
            rw [e4] at hP
            obtain ⟨p', ws, h4, h5, h6⟩ := own_lst RF e2
            rw [h1] at h4
            have q := L2.V.ref.inj (Option.some.inj (Option.some.inj h4))
            subst q
            refine ⟨p, ws, m, j, rfl, V2.int R2 e3, h5, by rw [h6.length]; exact e4, ?_⟩
            refine hP _ _ _ (RF.mut e2 h1 ⟨_, upd_same, RepL.set ?_ j h6⟩) fun a o q => up _ _ (S2.f _ _ q)
            cases RA with
            | cons r _ => exact r
theorem popD_ok {ws : List V} {xs : List Z.D} {p : Z.D × List Z.D} {us : List V} {vs : List Z.D} {l : Addr} {H : Hp} {Q : VK} (r : RepL c F ws xs) (ra : RepL c F' us vs) (hl : H l = some (.lst ws)) (h : popD xs vs = some p)
    (k : ∀ y ws', Rep c F y p.1 → RepL c F ws' p.2 → Q y (upd H l (.lst ws'))) : (vs = [] → rPop (.ref l) us H Q) ∧ (vs ≠ [] → rPopAt (.ref l) us H Q) := by
  refine ⟨fun e => ?_, fun e => ?_⟩
  · subst e
    cases ra
    simp only [popD] at h
    cases e : xs[xs.length - 1]? with
    | none => rw [e] at h; cases h
    | some y =>
      rw [e] at h
      cases h
      obtain ⟨w, h1, h2⟩ := r.get e
      exact ⟨l, ws, w, rfl, rfl, hl, by rw [r.length]; exact h1, k _ _ h2 r.dropLast⟩
  · unfold popD at h
    simp only [big_eq] at h
    split at h
    · exact absurd rfl e
    · rename_i i
      split at h
      · rename_i hb
        cases ej : ixOf xs.length i with
        | none => rw [ej] at h; cases h
        | some j =>
          rw [ej] at h
          simp only at h
          rw [Option.map_eq_some_iff] at h
          obtain ⟨y, e1, rfl⟩ := h
          obtain ⟨w, h1, h2⟩ := r.get e1
          cases ra with
          | cons r1 r2 =>
            cases r1
            cases r2
            obtain ⟨s1, s2, s3, s4⟩ := ixN_seq ej
            exact ⟨l, ws, i, j, w, rfl, rfl, hl, hb.1, hb.2, by rw [r.length]; exact s1, h1, k _ _ h2 (r.erase j)⟩
      · cases h
    · cases h
def rPopE : V → List V → Hp → VK → Prop := fun x vs H Q => (vs = [] → rPop x vs H Q) ∧ (vs ≠ [] → rPopAt x vs H Q)
theorem mt_popE : MtM X "list.pop" rPopE := by
  intro pins s σ H x xs v us Q I rx rv h
  by_cases e : xs = []
  · exact mt_pop pins s σ H x xs v us Q I rx rv (h.1 e)
  · exact mt_popAt pins s σ H x xs v us Q I rx rv (h.2 e)
theorem s_popp {i j : Nat} {z zj : Str} {a : Expr} {as : List Expr} {ea : E} {p2 pj apos cpos apos2 cpos2 : Pos} (hk : X.K = c.K) (hNj : X.N[j]? = some zj) (hvj : Vis X.env.scope zj) (hdj : (zj == ("__debug__" : Str)) = false) (hcdj : (zj == ("__classdict__" : Str)) = false) (hN : X.N[i]? = some z) (hv : Vis X.env.scope z) (hd : (z == ("__debug__" : Str)) = false) (hcd : (z == ("__classdict__" : Str)) = false)
    (ha : PA X (a :: as) (rdL c Wx ea)) (hbase : attributeBase (.Name z p2) "pop" X.env (eval (.Name z p2) X.env) = eval (.Name z p2) X.env)
    (hfew : ((backTo cpos (starEach (a :: as) X.env)).all (fun x => !x.1) && (backToKw cpos (keywordEach [] X.env)).all (fun x => x.1.isSome)
      && decide ((a :: as).length + ([] : List Keyword).length + (if ([] : List Keyword).isEmpty then 0 else 1) < 30)) = true)
    (hline : (apos.endLine == cpos.line) = true) (hs : starEach (a :: as) X.env = (false, eval a X.env) :: starEach as X.env) (hpl : (backTo cpos (starEach as X.env)).any (·.1) = false)
    (hbase2 : attributeBase (.Name zj pj) "append" X.env (eval (.Name zj pj) X.env) = eval (.Name zj pj) X.env)
    (hfew2 : ((backTo cpos2 (starEach [.Call (.Attribute (.Name z p2) "pop" apos) (a :: as) [] cpos] X.env)).all (fun x => !x.1) && (backToKw cpos2 (keywordEach [] X.env)).all (fun x => x.1.isSome)
      && decide (([.Call (.Attribute (.Name z p2) "pop" apos) (a :: as) [] cpos] : List Expr).length + ([] : List Keyword).length + (if ([] : List Keyword).isEmpty then 0 else 1) < 30)) = true)
    (hline2 : (apos2.endLine == cpos2.line) = true) (hs2 : starEach [.Call (.Attribute (.Name z p2) "pop" apos) (a :: as) [] cpos] X.env = [(false, eval (.Call (.Attribute (.Name z p2) "pop" apos) (a :: as) [] cpos) X.env)])
    (hsw : swapsWith (.Call (.Attribute (.Name zj pj) "append" apos2) [.Call (.Attribute (.Name z p2) "pop" apos) (a :: as) [] cpos] [] cpos2) none pos.line X.env = pure false) :
    PS X (.Expr (.Call (.Attribute (.Name zj pj) "append" apos2) [.Call (.Attribute (.Name z p2) "pop" apos) (a :: as) [] cpos] [] cpos2) pos) (rdS c Wx fu (.popp j i ea)) := by
  refine ps_wk (ps_expr (pe_bm F.plainAttrs_list F.slot_list_append (by rfl) mt_append (pe_var hNj hvj hdj hcdj) (pa_cons (pe_bm F.plainAttrs_list F.slot_list_pop (by rfl) mt_popE (pe_var hN hv hd hcd) ha hbase hfew hline hs hpl) pa_nil hs2) hbase2 hfew2 hline2 hs2 (by rfl)) hsw) fun D σ H ⟨F0, H0, ρ, F, W, R, hP⟩ => ?_
  simp only [evS] at hP
  cases e0 : ρ[i]? with
  | none => rw [e0] at hP; exact hP.elim
  | some s =>
    rw [e0] at hP
    cases s with
    | un => exact hP.elim
    | slf _ _ _ => exact hP.elim
    | val d => exact hP.elim
    | own d =>
      cases d <;> try (exact hP.elim)
      rename_i xs0
      cases e9 : ρ[j]? with
      | none => rw [e9] at hP; exact hP.elim
      | some s =>
        rw [e9] at hP
        cases s with
        | un => exact hP.elim
        | slf _ _ _ => exact hP.elim
        | val d => exact hP.elim
        | own d =>
          cases d <;> try (exact hP.elim)
          rename_i ys0
          simp only at hP
          obtain ⟨p, ws0, h1, h2, h3⟩ := own_lst R e0
          obtain ⟨pj, wj0, j1, j2, j3⟩ := own_lst R e9
          refine ⟨.ref pj, j1, .inl ⟨rfl, wj0, .inl (.inl j2)⟩, .ref p, h1, .inl ⟨rfl, ws0, .inl (.inl h2)⟩, st_l R hP fun vs W1 us F1 H1 S1 A ap R1 hP => ?_⟩
          by_cases hij : i = j
          · rw [if_pos hij] at hP; exact hP.elim
          · rw [if_neg hij] at hP
            cases e4 : popD xs0 (ds vs) with
            | none => rw [e4] at hP; exact hP.elim
            | some q =>
              rw [e4] at hP
              simp only [ofS] at hP
              obtain ⟨p', ws, h4, h5, h6⟩ := own_lst R1 e0
              rw [h1] at h4
              have qq := L2.V.ref.inj (Option.some.inj (Option.some.inj h4))
              subst qq
              have ra := args_all R R1 S1 A
              have hn : ds vs = [] ↔ us = [] := by
                have := Paired.len A
                unfold ds
                rw [List.map_eq_nil_iff]
                constructor
                · intro z; rw [z] at this; exact List.length_eq_zero_iff.mp this
                · intro z; rw [z] at this; exact List.length_eq_zero_iff.mp this.symm
              by_cases hl : ys0.length < cap
              · rw [if_pos hl] at hP
                have g : ∀ y ws', Rep c F1 y q.1 → RepL c F1 ws' q.2 → rAppend (.ref pj) [y] (upd H1 p (.lst ws')) fun _ H' => D.nx σ H' := fun y ws' r1 r2 => by
                  have M := R1.mut (o' := .lst q.2) e0 h1 ⟨_, upd_same, r2⟩
                  have ej : (ρ.set i (.own (.lst q.2)))[j]? = some (.own (.lst ys0)) := by rw [List.getElem?_set_ne hij]; exact e9
                  obtain ⟨p3, w3, k1, k2, k3⟩ := own_lst M ej
                  rw [j1] at k1
                  have qq := L2.V.ref.inj (Option.some.inj (Option.some.inj k1))
                  subst qq
                  exact ⟨pj, w3, y, rfl, rfl, k2, by rw [k3.length, ← cap_eq]; exact hl, hP _ _ _ (M.mut ej j1 ⟨_, upd_same, k3.append (.cons r1 .nil)⟩) S1.f⟩
                obtain ⟨g1, g2⟩ := popD_ok h6 ra h5 e4 (Q := fun y H' => rAppend (.ref pj) [y] H' fun _ H' => D.nx σ H') g
                exact ⟨fun z => g1 (hn.mpr z), fun z => g2 fun zz => z (hn.mp zz)⟩
              · rw [if_neg hl] at hP; exact hP.elim
end
end Z

namespace Z
open PySem PySem.Spec PyProof.Rows L2
open Classical
section
variable {c : Pm} {Wx : WX} {X : Cx} {fu n : Nat} {W W' W1 W2 W3 : Dr} {F0 H0 F H F' H' F1 H1 F2 H2 F3 H3 Hs : Hp} {ρ ρ' : En} {σ σ' : L2.St} {u w : V} {x y v : Vl} {Q : VK} {us : List V} {vs : List Vl} {pos : Pos}

theorem s_while {c0 : Expr} {body : List Stmt} {ec : E} {b : S} (hp : PassesOwn (model X.prog X.w) X.A X.env X.xe) (hc : PT X c0 (rdT c Wx ec)) (hb : PSs X body (rdS c Wx fu b)) : PS X (.While c0 body [] pos) (rdS c Wx fu (.whl ec b)) := by
  refine ps_wk (ps_while hp hc hb) fun D σ H ⟨F0, H0, ρ, F, W, R, hP⟩ => ?_
  simp only [evS] at hP
  refine ⟨fun m σ H => ∃ F0 H0 ρ F W, Rel c F0 H0 ρ σ F H W ∧ PstS c Wx F0 H0 F D (whlGo (evT ec) (evS fu b) m ρ W), ⟨fu, F0, H0, ρ, F, W, R, hP⟩, ?_⟩
  clear hP R
  rintro m σ H ⟨F0, H0, ρ, F, W, R, hP⟩
  cases m with
  | zero => exact hP.elim
  | succ m =>
    simp only [whlGo] at hP
    refine st_t R hP fun k W1 F1 H1 S1 R1 hP => ?_
    cases k with
    | false =>
      simp only [Bool.false_eq_true, if_false] at hP ⊢
      exact hP _ _ _ R1 S1.f
    | true =>
      simp only [if_true] at hP ⊢
      refine ⟨fun σ' H' => ∃ F0 H0 ρ F W, Rel c F0 H0 ρ σ' F H' W ∧ PstS c Wx F0 H0 F D (whlGo (evT ec) (evS fu b) m ρ W), fun σ' H' h => ⟨m, Nat.lt_succ_self m, h⟩, F0, H0, ρ, F1, W1, R1, ?_⟩
      have hP := PstS.up hP S1.f
      cases e : evS fu b ρ W1 with
      | nx ρ1 W1 =>
        rw [e] at hP
        exact fun σ' F' H' R' s => ⟨F0, H0, ρ1, F', W1, R', PstS.up hP s⟩
      | ct ρ1 W1 =>
        rw [e] at hP
        exact fun σ' F' H' R' s => ⟨F0, H0, ρ1, F', W1, R', PstS.up hP s⟩
      | bk ρ1 W1 => rw [e] at hP; exact hP
      | rt v ρ1 W1 => rw [e] at hP; exact hP
      | ex x ρ1 W1 => rw [e] at hP; exact hP
      | stk => rw [e] at hP; exact hP
theorem s_for {tg iter : Expr} {body : List Stmt} {pt : Pat} {src : E} {g : TG} {b : S} {own : List Nat} (hp : PassesOwn (model X.prog X.w) X.A X.env X.xe) (hc : X.calm = true) (hi : PI X tg iter (rdI c Wx src)) (hg : PG X tg g) (gk : GOk c pt own g) (hb : PSs X body (rdS c Wx fu b))
    (hs : ∀ x, foldedSetIterable iter X.env x = pure x) : PS X (.For tg iter body [] pos) (rdS c Wx fu (.for pt src b)) := by
  refine ps_wk (ps_for hp hc hi hg hb hs) fun D σ H ⟨F0, H0, ρ, F, W, R, hP⟩ => ?_
  simp only [evS] at hP
  refine ⟨F0, H0, ρ, F, W, R, st_gen (ok1 := fun _ (p : Wk) (J : It) F' H' => (∀ i ∈ p.me, ∃ x, ρ[i]? = some (.own x)) ∧ (∀ i ∈ p.t, ∃ x, ρ[i]? = some (.own x)) ∧ WkOk c (Fz F' H' σ p.me) (Fz F' H' σ p.t) p.xs J) R hP fun p W1 J F1 H1 S1 ⟨hme, ht, hw⟩ R1 hP => ?_⟩
  obtain ⟨xs, me, t⟩ := p
  simp only at hme ht hw hP
  have hall := own_app hme ht
  have RF := R1.frz hall
  have up : Same F1 (Fz F1 H1 σ (me ++ t)) := Fz_up R1.stp.sub
  have hP := PstS.up hP fun a o q => up _ _ (S1.f _ _ q)
  generalize hFF : Fz F1 H1 σ (me ++ t) = FF at *
  have sB : Same (Fz F1 H1 σ me) FF := hFF ▸ Fz_l R1.stp.sub
  have sB' : Same (Fz F1 H1 σ t) FF := hFF ▸ Fz_r R1.stp.sub
  refine ⟨fun i m σ' H' => m = xs.length - i ∧ i ≤ xs.length ∧ ∃ ρ' F' W', Rel c F0 H0 ρ' σ' F' H' W' ∧ Same FF F' ∧ PstS c Wx F0 H0 F' D (forGo (fun x ρ W => ofS (bindP pt x ρ) fun ρ' => evS fu b ρ' W) (xs.drop i) ρ' W'), ⟨xs.length, by simp, Nat.zero_le _, _, FF, W1, RF, Same.refl _, hP⟩, ?_⟩
  clear hP
  rintro i m σ' H' ⟨rfl, hil, ρ', F', W', R', sF, hP⟩
  have sBH : Same (Fz F1 H1 σ me) H' := fun a o q => R'.stp.sub _ _ (sF _ _ (sB _ _ q))
  by_cases hlt : i < xs.length
  · obtain ⟨x, hx⟩ : ∃ x, xs[i]? = some x := ⟨xs[i], List.getElem?_eq_getElem hlt⟩
    obtain ⟨hgo, hy⟩ := hw.go i x H' hx sBH
    have hdrop : xs.drop i = x :: xs.drop (i + 1) := by
      rw [List.drop_eq_getElem_cons hlt]
      congr 1
      exact Option.some.inj ((List.getElem?_eq_getElem hlt).symm.trans hx)
    rw [hdrop] at hP
    simp only [forGo] at hP
    refine .inr ⟨hgo, fun σ2 H2 => ∃ ρ' F' W', Rel c F0 H0 ρ' σ2 F' H2 W' ∧ Same FF F' ∧ PstS c Wx F0 H0 F' D (forGo (fun x ρ W => ofS (bindP pt x ρ) fun ρ' => evS fu b ρ' W) (xs.drop (i + 1)) ρ' W'), fun σ2 H2 h => ⟨xs.length - (i + 1), by omega, rfl, hlt, h⟩, fun u H2 hyu => ?_⟩
    obtain ⟨F2, S2, r2⟩ := Item.step R' (hy u H2 hyu) fun a o q => sF _ _ (sB' _ _ q)
    have R2 := R'.step S2
    cases hb : bindP pt x ρ' with
    | none => rw [hb] at hP; exact hP.elim
    | some ρ2 =>
      rw [hb] at hP
      simp only [ofS] at hP
      refine gk R2 r2 hb fun σ2 R3 _ _ _ => ⟨F0, H0, ρ2, F2, W', R3, ?_⟩
      have sF2 : Same FF F2 := fun a o q => S2.f _ _ (sF _ _ q)
      cases e : evS fu b ρ2 W' with
      | nx ρ1 W1 =>
        rw [e] at hP
        exact fun σ3 F3 H3 R3 s => ⟨ρ1, F3, W1, R3, fun a o q => s _ _ (sF2 _ _ q), PstS.up hP fun a o q => s _ _ (S2.f _ _ q)⟩
      | ct ρ1 W1 =>
        rw [e] at hP
        exact fun σ3 F3 H3 R3 s => ⟨ρ1, F3, W1, R3, fun a o q => s _ _ (sF2 _ _ q), PstS.up hP fun a o q => s _ _ (S2.f _ _ q)⟩
      | bk ρ1 W1 =>
        rw [e] at hP
        exact fun σ3 F3 H3 R3 s => hP _ _ _ R3 fun a o q => s _ _ (S2.f _ _ q)
      | rt v ρ1 W1 => rw [e] at hP; exact hP
      | ex x ρ1 W1 => rw [e] at hP; exact hP
      | stk => rw [e] at hP; exact hP
  · have e : i = xs.length := by omega
    subst e
    rw [List.drop_length] at hP
    simp only [forGo] at hP
    exact .inl ⟨hw.stop H' sBH, hP _ _ _ R' (Same.refl _)⟩
theorem s_raise {C : Addr} {nm : Str} {bmB : List Value} {B newId initId : String} {x m : Str} {j : Nat} {p p2 pos2 : Pos} (hc : X.calm = true) (tk : Takes X Wx) (F : ExcBaseFacts B newId initId bmB) (q : PySem.W.excIn X.K C bmB newId = true) (gC : X.mg x = some (.ref C)) (kC : PySem.W.keepIn X.K (.ref C) = true) (r : Raises X (.ref C)) (hg : Gl X x)
    (hdb : (x == ("__debug__" : Str)) = false) (hn : c.cx nm = some C) : PS X (.Raise (some (.Call (.Name x p) [.Constant (.str m) j p2] [] pos2)) none pos) (rdS c Wx fu (.raise nm [] .nil)) := by
  refine ps_wk (ps_raise hc tk (pmk_own F q gC kC r hg hdb)) fun D σ H ⟨F0, H0, ρ, F, W, R, hP⟩ => ?_
  simp only [evS, evL] at hP
  exact hP _ _ σ F H R ⟨C, hn, rfl, rfl⟩
end
end Z

namespace Z
open PySem PySem.Spec PyProof.Rows L2
open Classical
section
variable {c : Pm} {Wx : WX} {X : Cx} {fu n k : Nat} {W W' W1 W2 W3 : Dr} {F0 H0 F H F' H' F1 H1 F2 H2 F3 H3 Hs : Hp} {ρ ρ' : En} {σ σ' : L2.St} {u w : V} {x y v : Vl} {Q : VK} {us : List V} {vs : List Vl} {pos : Pos}

theorem RepL.at : ∀ {vs : List V} {xs : List D} {i : Nat} {s : Sl} {m : Nat}, RepL c F vs xs → (xs.map Sl.val ++ List.replicate m .un)[i]? = some s → SlotOk c H0 F H s (vs.map some ++ List.replicate m none)[i]?
  | _, _, i, s, m, .nil, e => by
    simp only [List.map_nil, List.nil_append] at e ⊢
    rw [List.getElem?_replicate] at e ⊢
    split at e
    · cases e
      rename_i h
      rw [if_pos h]
      exact fun z => nomatch z
    · cases e
  | _, _, 0, s, m, .cons (v := v) h r, e => by
    simp at e
    subst e
    exact ⟨v, rfl, h⟩
  | _, _, i + 1, s, m, .cons h r, e => by
    simp only [List.map_cons, List.cons_append, List.getElem?_cons_succ] at e ⊢
    exact RepL.at r e
theorem rel_start {N : List Str} {xs : List D} (r : RepL c F us xs) (S : Stp c W F H F H) : Rel c F H (xs.map Sl.val ++ List.replicate (N.length - xs.length) .un) (L2.start N us) F H W := by
  unfold L2.start
  rw [r.length]
  refine ⟨by simp [r.length], S, fun i s e => RepL.at r e, fun i j d1 d2 p e1 e2 _ _ => ?_⟩
  have := RepL.at (H := H) (H0 := H) r e1
  obtain ⟨q, q1, _⟩ := this
  rw [List.getElem?_append] at e1
  split at e1
  · rw [List.getElem?_map, Option.map_eq_some_iff] at e1
    obtain ⟨_, _, z⟩ := e1
    cases z
  · rw [List.getElem?_replicate] at e1
    split at e1 <;> cases e1
theorem body_ok {N : List Str} {b : S} {ps : Nat} {E : XK} (h : spG c (run fu N.length ps b) us H Q E) : us.length = ps ∧ rdS c (fun cls dd _ H' => E cls dd H') fu b { nx := fun _ H' => Q .non H', rt := Q } (L2.start N us) H := by
  obtain ⟨F, xs, W, r, S, hP⟩ := h
  unfold run at hP
  by_cases hl : xs.length = ps
  · rw [if_pos hl] at hP
    refine ⟨by rw [r.length, hl], F, H, _, F, W, rel_start r S, ?_⟩
    rw [hl]
    cases e : evS fu b (xs.map Sl.val ++ List.replicate (N.length - ps) .un) W with
    | nx ρ' W' =>
      rw [e] at hP
      exact fun σ' F' H' R' s => hP .non F' H' R'.stp .non
    | bk ρ' W' => rw [e] at hP; exact hP.elim
    | ct ρ' W' => rw [e] at hP; exact hP.elim
    | stk => rw [e] at hP; exact hP.elim
    | ex x ρ' W' =>
      rw [e] at hP
      exact fun cls dd σ' F' H' R' hx => hP cls dd F' H' R'.stp hx
    | rt v ρ' W' =>
      rw [e] at hP
      simp only at hP
      intro u σ' F' H' R' V N
      have RF := R'.frz V.t_own
      have a := V.at_
      cases hk : v.k with
      | pl =>
        rw [hk] at hP a
        exact hP u _ H' RF.stp a
      | me i =>
        rw [hk] at hP a
        obtain ⟨a1, a2, a3⟩ := a
        obtain ⟨p, q1, q2, q3, q4, q5⟩ := R'.own a2
        rw [a3] at q1
        cases q1
        exact hP _ F' H' R'.stp ⟨p, rfl, q2, q3, q4, q5⟩
      | fr =>
        rw [hk] at hP a
        obtain ⟨p, rfl, e2, e3, e4, e5⟩ := a
        refine hP _ _ H' RF.stp ⟨p, rfl, ?_, e3, e4, e5⟩
        rw [Fz_out]
        · exact e2
        · rintro ⟨j, z1, z2⟩
          obtain ⟨d, hd⟩ := V.t_own j z1
          exact N hk p rfl j d hd z2
  · rw [if_neg hl] at hP; exact hP.elim
theorem spG_len {N : Nat} {b : S} {ps : Nat} {E : XK} (h : spG c (run fu N ps b) us H Q E) : us.length = ps := by
  obtain ⟨F, xs, W, r, S, hP⟩ := h
  unfold run at hP
  by_cases hl : xs.length = ps
  · rw [r.length, hl]
  · rw [if_neg hl] at hP; exact hP.elim
theorem fn_ok {P : Program} {w : World} {K : PySem.W.Frag} {mg : Str → Option Value} {base : Heap} {x qual : Str} {st : Stmt} {f : Addr} {fd : FuncData} {N ps : List Str} {b : S} (F : Fun K x qual st f fd) (S : FnScope N ps (defScope st))
    (hb : ∀ (cdv : Value) (A : Around) (outer : List Env) (s : Shared) (H : Hp) (E : XK), Room k (A.deeper (envOfC qual (defScope st) s.heap.objs.size f cdv)) →
      Takes (cxOf (L2.CX P w) P w K mg base N qual (defScope st) f cdv A outer s H E) (fun cls dd _ H' => E cls dd H') →
      PSs (cxOf (L2.CX P w) P w K mg base N qual (defScope st) f cdv A outer s H E) (defBody st) (rdS c (fun cls dd _ H' => E cls dd H') fu b)) :
    FnOk P w K mg base (L2.CX P w) (k + 1) f fd ps (spG c (run fu N.length ps.length b)) :=
  F.okX S (fun vs H Q E h => spG_len h) fun cdv A outer s H vs Q E hr h => ⟨_, hb cdv A outer s H E hr (takes_of rfl rfl rfl rfl), (body_ok h).2⟩

structure Cal (c : Pm) (P : Program) (w : World) (K : PySem.W.Frag) (mg : Str → Option Value) (base : Heap) (k : Nat) (x : Str) (ps : List Str) (g : G) : Prop where
  ex : ∃ (f : Addr) (fd : FuncData), mg x = some (.ref f) ∧ PySem.W.keepIn K (.ref f) = true ∧ Binds K fd ps [] ∧ FnOk P w K mg base (L2.CX P w) k f fd ps (spG c g)
theorem Cal.mono {P : Program} {w : World} {K : PySem.W.Frag} {mg : Str → Option Value} {base : Heap} {j : Nat} {x : Str} {ps : List Str} {g : G} (h : Cal c P w K mg base j x ps g) (hk : j ≤ k) : Cal c P w K mg base k x ps g := by
  obtain ⟨f, fd, h1, h2, h3, h4⟩ := h.ex
  exact ⟨f, fd, h1, h2, h3, h4.mono hk⟩
theorem call_ok {g : G} {ea : E} (h : rdE c Wx (.call g ea) σ H Q) : tCallS (spG c g) (WE Wx) (rdL c Wx ea) σ H Q := by
  obtain ⟨F0, H0, ρ, F, W, R, hP⟩ := h
  simp only [ev] at hP
  refine rd_l R R.refl hP fun vs W1 us F1 H1 S1 _ A R1 hP => ?_
  have RF := (Ft_rel R R1 S1 A).frz (ts_own A)
  exact ⟨_, ds vs, W1, args_all R R1 S1 A, RF.stp.refl, call_end (g := g) R S1 A (ts_own A) hP⟩
theorem e_call {x : Str} {ps : List Str} {g : G} {e : Expr} {es : List Expr} {ea : E} {p : Pos} (h : Cal c X.prog X.w X.K X.mg X.base k x ps g) (hr : Room k X.A) (tk : Takes X Wx) (hg : Gl X x) (ha : PA X (e :: es) (rdL c Wx ea)) (hdb : (x == ("__debug__" : Str)) = false)
    (he : starEach (e :: es) X.env = (false, eval e X.env) :: starEach es X.env) (hpl : (backTo pos (starEach es X.env)).any (·.1) = false) : PE X (.Call (.Name x p) (e :: es) [] pos) (rdE c Wx (.call g ea)) := by
  obtain ⟨f, fd, h1, h2, h3, h4⟩ := h.ex
  exact pe_wk (pe_callS h4 hr hg h1 h2 h3 (fun σ => passAt tk σ) ha hdb he hpl) fun σ H Q h => call_ok h
end
end Z

namespace Z
open PySem PySem.Spec PyProof.Rows L2
open Classical
section
variable {c : Pm} {Wx : WX} {X : Cx} {fu n k : Nat} {W W' W1 W2 W3 : Dr} {F0 H0 F H F' H' F1 H1 F2 H2 F3 H3 Hs : Hp} {ρ ρ' : En} {σ σ' : L2.St} {u w : V} {x y v : Vl} {Q : VK} {us : List V} {vs : List Vl} {pos : Pos}

structure InsT (K : PySem.W.Frag) (C : Addr) : Prop where
  cl : Cls K C
  ha : PySem.W.findIn K (.ref C) "__class__" = some (some (.builtin "object.__class__"))
  hn : PySem.W.specialIn K (.builtin "object.__class__") "__get__" = some (some (.builtin "getset_descriptor.__get__"))
  ht : PySem.W.takesIn K (.builtin "object.__class__") = some true
  hm : PySem.W.mroIn K C (.type "object") = some true
theorem ValOk.ins {nm : Str} {fs : List (Str × D)} (R : Rel c F0 H0 ρ σ F H W) (k : ValOk c ρ σ Hs F H u v) (e : v.d = .ins nm fs) : ∃ a C dx gs, u = .ref a ∧ Fz F H σ v.t a = some (.ins C dx gs) ∧ c.ca nm = some C ∧ RepF c (Fz F H σ v.t) gs fs := (k.rep R e fun _ _ _ h => h).insI
theorem e_attr {f : Str} {a : Expr} {ea : E} (hk : X.K = c.K) (ha : PE X a (rdE c Wx ea)) (hb : attributeBase a f X.env (eval a X.env) = eval a X.env) (hc : ∀ n C, c.ca n = some C → Cls c.K C ∧ NoAttr c.K C f) : PE X (.Attribute a f pos) (rdE c Wx (.attr ea f)) := by
  refine pe_wk (pe_fld ha hb) fun σ H Q ⟨F0, H0, ρ, F, W, R, hP⟩ => ?_
  simp only [ev] at hP
  refine rd_e R R.refl hP fun x W1 u F1 H1 S1 _ V1 R1 hP => ?_
  obtain ⟨d, hd, hP⟩ := ofO_some hP
  cases e : x.d <;> rw [e] at hd <;> try (cases hd; done)
  · rename_i nm fs
    obtain ⟨p, C, dx, gs, rfl, h1, h2, h3⟩ := V1.ins R1 e
    obtain ⟨w, q1, q2⟩ := h3.look hd
    obtain ⟨c1, c2⟩ := hc _ _ h2
    exact ⟨p, C, dx, gs, w, rfl, Fz_dn R1.stp.sub _ _ h1, hk ▸ c1, hk ▸ c2, q1, fin_vl R1 S1 V1.t_own hP q2⟩

structure Mth (c : Pm) (P : Program) (w : World) (mg : Str → Option Value) (base : Heap) (k : Nat) (nm m : Str) (ps : List Str) (g : G) : Prop where
  ex : ∃ (C f : Addr) (fd : FuncData), c.ca nm = some C ∧ Cls c.K C ∧ Meth c.K C m f ∧ Binds c.K fd ps [] ∧ FnOk P w c.K mg base (L2.CX P w) k f fd ps (spG c g)
theorem Mth.mono {P : Program} {w : World} {mg : Str → Option Value} {base : Heap} {j : Nat} {nm m : Str} {ps : List Str} {g : G} (h : Mth c P w mg base j nm m ps g) (hk : j ≤ k) : Mth c P w mg base k nm m ps g := by
  obtain ⟨C, f, fd, h1, h2, h3, h4, h5⟩ := h.ex
  exact ⟨C, f, fd, h1, h2, h3, h4, h5.mono hk⟩
def tMth (C : Addr) (m : Str) (sp : Sp) (E : L2.St → XK) (ta : TE) (t : TA) : TE := fun σ H Q => ta σ H fun x H1 => ∃ a dx fs, x = .ref a ∧ H1 a = some (.ins C dx fs) ∧ fs.lookup m = none ∧ t σ H1 fun vs H2 => sp (x :: vs) H2 Q (E σ)
theorem mth_ok {C : Addr} {nm m : Str} {g : G} {ea es : E} (hC : c.ca nm = some C) (h : rdE c Wx (.mth m nm g ea es) σ H Q) : tMth C m (spG c g) (WE Wx) (rdE c Wx ea) (rdL c Wx es) σ H Q := by
  obtain ⟨F0, H0, ρ, F, W, R, hP⟩ := h
  simp only [ev] at hP
  refine rd_e R R.refl hP fun x W1 u F1 H1 S1 _ V1 R1 hQ => ?_
  cases e : x.d <;> rw [e] at hQ <;> try (exact hQ.elim)
  rename_i n' fs
  simp only at hQ
  by_cases hc : n' = nm ∧ fs.lookup m = none
  · rw [if_pos hc] at hQ
    obtain ⟨rfl, hl⟩ := hc
    obtain ⟨p, C', dx, gs, rfl, h1, h2, h3⟩ := V1.ins R1 e
    rw [hC] at h2
    cases h2
    refine ⟨p, dx, gs, rfl, Fz_dn R1.stp.sub _ _ h1, h3.lookN hl, ?_⟩
    refine rd_l R1 S1 hQ fun vs W2 us F2 H2 S2 S12 A R2 hQ => ?_
    have AA : ArgOk c ρ σ H F2 H2 (.ref p :: us) (x :: vs) := .cons (V1.step R1 S12) A
    have RF := (Ft_rel R R2 S2 AA).frz (ts_own AA)
    refine ⟨_, ds (x :: vs), W2, args_all R R2 S2 AA, RF.stp.refl, call_end (g := g) R S2 AA (ts_own AA) ?_⟩
    have : ds (x :: vs) = .ins n' fs :: ds vs := by unfold ds; rw [List.map_cons, e]
    rw [this]
    exact hQ
  · rw [if_neg hc] at hQ; exact hQ.elim
theorem e_mth0 {nm m : Str} {ps : List Str} {g : G} {o : Expr} {ea : E} {apos : Pos} {pl : Sem Bool} (h : Mth c X.prog X.w X.mg X.base k nm m ps g) (hk : X.K = c.K) (hr : Room k X.A) (tk : Takes X Wx) (ho : PE X o (rdE c Wx ea))
    (ht : eval (.Call (.Attribute o m apos) [] [] pos) X.env = (do
      let ov ← eval o X.env
      standAt apos.atName
      let (f, first) ← holding [ov] (getMethod ov m pl)
      callWith pos f first (backTo pos (starEach [] X.env)) (backToKw pos (keywordEach [] X.env)))) : PE X (.Call (.Attribute o m apos) [] [] pos) (rdE c Wx (.mth m nm g ea .nil)) := by
  obtain ⟨C, f, fd, h1, h2, h3, h4, h5⟩ := h.ex
  rw [← hk] at h2 h3 h4 h5
  refine ⟨fun pins s σ H Q I q => ?_⟩
  have q := mth_ok h1 q
  refine PySem.W.methodCall_KW (pl := pl) (thn (ho.run pins s σ H _ I q) fun u s1 ⟨xx, H1, I1, rx, p, dx, fs, ex, ea, l, q⟩ => ?_) ht
  subst ex
  obtain rfl : u = Value.ref p := rx
  refine getmeth_ok I1 ea h2 h3 l ?_
  have q : spG c g [V.ref p] H1 Q (WE Wx σ) := by
    obtain ⟨F0, H0, ρ, F, W, R, hP⟩ := q
    simp only [evL] at hP
    exact hP [] F H1 R.refl ⟨.nil, trivial⟩
  exact PySem.W.callWith_K0 (first := [.ref p]) I1.kIn h3.kp (run_fnS (us := [.ref p]) (vs := [.ref p]) h5 hr h4 (passAt tk σ) I1 (.cons rfl .nil) q)
end
end Z

namespace Z
open PySem PySem.Spec PyProof.Rows L2
open Classical
section
open PySem.W
variable {prog : Program} {w : World} {A : Around} {E : Value → Shared → Prop} {s : Shared} {K : Frag} {D x : Addr} {ox : Obj} {od : Option Obj} {Q : Option Value → Shared → Prop}
theorem find_cls (e : ExcC K D) : findObj K D od "__class__" = some (.bind (.builtin "getset_descriptor.__get__") (.builtin "object.__class__")) := by
  have hc : (clsIn K D).isSome = true := by
    obtain ⟨cd, hc, _⟩ := any_some e.hd
    rw [hc] <;> rfl
  cases od with
  | none => exact findObj_dataN hc e.ha e.hn e.ht
  | some o => exact findObj_data hc e.ha e.hn e.ht
theorem exc_cls (e : ExcC K D) (X : K.In s.heap) (I : InstAt s.heap x ox D od) (h : Q (some (.ref D)) { s with toks := s.toks + 1 }) : wpAny (model prog w) A (getAttr? (.ref x) "__class__") Q E s := by
  obtain ⟨hp, g, d, t, os⟩ := s
  have T0 := I.type (M := model prog w)
  have base : Looks (model prog w) hp (isInstance (.ref x) (.type "BaseException")) true := T0.andThen (looks_subIn X e.hs)
  have no : (Value.builtin "BaseException.__getattribute__" == Value.builtin "object.__getattribute__") = false := by decide +kernel
  unfold getAttr? getAttrBy? getAttrBy
  refine wpAny_bind (wpAny_mkText (wpAny_bind (wpAny_attempt (wpAny_holding (wpAny_bind (T0.at (wpAny_bind ((looks_findIn (M := model prog w) X e.hg).at ?_))))))))
  show wpAny _ _ (if (onTheHeap (Value.ref D) && Value.builtin "BaseException.__getattribute__" == Value.builtin "object.__getattribute__") = true then _ else _) _ _ _
  rw [show (onTheHeap (Value.ref D) && Value.builtin "BaseException.__getattribute__" == Value.builtin "object.__getattribute__") = false by rw [no]; rfl, if_neg Bool.false_ne_true]
  unfold getAttrByItsOwn hookBefore
  refine wpAny_bind ?_
  rw [if_pos (show onTheHeap (Value.ref D) = true from rfl)]
  refine (looks_findIn (M := model prog w) X e.hk).at (wpAny_bind (wpAny_attempt (wpAny_holding ?_)))
  unfold callGetattribute
  rw [show (false && onTheHeap (Value.builtin "BaseException.__getattribute__")) = false from rfl, if_neg Bool.false_ne_true]
  unfold boundAndCalled
  rw [PySem.F.excAttr_ValueError.ga.bind (.ref x)]
  refine wpAny_bind (wpAny_pure ?_)
  show wpAny _ _ (call (.builtin "BaseException.__getattribute__") [.ref x, .str "__class__" t]) _ _ _
  refine wpAny_call (codeAny_call_builtin PySem.F.excAttr_ValueError.ga.plain PySem.F.entry_bexc_ga ?_)
  refine @check_slot (model prog w) _ _ ⟨hp, g, d, t + 1, os⟩ "BaseException.__getattribute__" "BaseException" "__getattribute__" (.ref x) [.str "__class__" t] [] _ (by decide +kernel) (by decide +kernel) base (PySem.F.args_bexc_ga (.ref x) (.str "__class__" t)) ?_
  unfold Builtin.«object.__getattribute__»
  refine wpAny_bind (wpAny_of_eq (a := ((Value.ref x : Value), [Value.str "__class__" t])) (by first | rfl | (simp only [slotArgs]; rfl)) ?_)
  refine wpAny_bind (wpAny_pure (wpAny_bind (T0.at (wpAny_bind ((looks_find (M := model prog w) X I (find_cls e)).at ?_)))))
  show wpAny _ _ (holding [Value.builtin "object.__class__"] (call (.builtin "getset_descriptor.__get__") [.builtin "object.__class__", .ref x, .ref D]) >>= ret) _ _ _
  refine wpAny_bind (wpAny_holding (wpAny_call (class_get (s := ⟨hp, g, d, t + 1, os⟩) (ox := ox) (od := od) X I e.hm (wpAny_pure ?_))))
  show wpAny _ _ (handedOut (.ref D)) _ _ _
  rw [handedOut_of (v := .ref D) rfl]
  first
    | exact wpAny_pure (wpAny_pure h)
    | exact wpAny_pure h
    | exact wpAny_pure (wpAny_bind (wpAny_pure (wpAny_pure h)))
theorem kit_exc1 (e : ExcC K D) : KitX K (.ref x) (.ref D) (fun h => ∃ o, InstAt h x ox D (some o)) where
  ty := fun _ _ _ ⟨_, I⟩ => I.type
  it := fun _ _ X _ => by
    obtain ⟨cd, hc, _⟩ := any_some e.hd
    unfold clsIn at hc
    split at hc
    · rename_i ho
      intro A' Q' E' s' k q
      unfold isType loadHead
      exact wpAny_bind (wpAny_loadPart (k _ _ (X _ _ ho)) (wpAny_pure q))
    · cases hc
  ne := fun h tp dd its n sl X ht => by
    obtain ⟨cd, hc, _⟩ := any_some e.hd
    refine Bool.eq_false_iff.mpr fun q => ?_
    obtain rfl : D = tp := Value.ref.inj (beq_iff_eq.mp q)
    unfold clsIn at hc
    split at hc
    · rename_i ho
      cases (X _ _ ho).symm.trans ht
    · cases hc
  ca := fun X ⟨_, I⟩ k => exc_cls e X I k
end
section
variable {c : Pm} {Wx : WX} {X : Cx} {fu n k : Nat} {W W' W1 W2 W3 : Dr} {F0 H0 F H F' H' F1 H1 F2 H2 F3 H3 Hs : Hp} {ρ ρ' : En} {σ σ' : L2.St} {u w : V} {x y v : Vl} {Q : VK} {us : List V} {vs : List Vl} {pos : Pos}

inductive TyZ (K : PySem.W.Frag) (H : Hp) : V → Value → Prop where
  | base {x : V} {t : Value} (h : TyX K H x t) : TyZ K H x t
  | exc {a C : Addr} (h : H a = some (XO (.ref C) none a)) (e : ExcC K C) : TyZ K H (.ref a) (.ref C)
  | exc1 {a C dd : Addr} {gs : List (Str × V)} (h : H a = some (XO (.ref C) (some dd) a)) (h2 : H dd = some (.xd gs)) (e : ExcC K C) : TyZ K H (.ref a) (.ref C)
theorem kit_z {pins : List (Addr × Obj)} {s : Shared} {x : V} {u t : Value} (I : Inv X pins σ H s) (rx : RelV x u) (ty : TyZ X.K H x t) : ∃ P : Heap → Prop, PySem.W.KitX X.K u t P ∧ P s.heap ∧ u ≠ .builtin "__main__.__loader__#opaque" := by
  cases ty with
  | base h => exact kit_of I rx h
  | @exc a C h e =>
    cases (show u = Value.ref a from rx)
    obtain ⟨⟨oe, vs, e1, ⟨h1, h2⟩, h3⟩, _, _⟩ := I.hok a _ h
    obtain ⟨oc, od, oda, osl⟩ := oe
    dsimp only at h1 h2 h3
    subst h1 h2 h3
    exact ⟨_, PySem.W.handS_kitx_exc e.hg e.hk e.hs e.hd e.ha e.hn e.ht e.hm, ⟨e1, rfl, rfl, trivial⟩, fun z => nomatch z⟩
  | @exc1 a C dd gs h hd e =>
    cases (show u = Value.ref a from rx)
    obtain ⟨⟨oe, vs, e1, ⟨h1, h2⟩, h3⟩, _, _⟩ := I.hok a _ h
    obtain ⟨oc, od, oda, osl⟩ := oe
    dsimp only at h1 h2 h3
    subst h1 h2 h3
    obtain ⟨mA, hns, _⟩ := (show ObjOk X.prog X.w H s.heap dd (.xd gs) from I.hok dd _ hd)
    obtain ⟨o, ho, _⟩ := lookIn_ns hns
    exact ⟨_, kit_exc1 e, ⟨o, e1, rfl, rfl, ho⟩, fun z => nomatch z⟩
def rIsZ (K : PySem.W.Frag) : List V → Hp → VK → Prop := fun xs H Q => ∃ (x d : V) (t u : Value) (b : Bool), xs = [x, d] ∧ ClsV d u ∧ TyZ K H x t ∧ PySem.W.kitOne K t u = some b ∧ Q (.bl b) H
def rIsZT (K : PySem.W.Frag) : List V → Hp → VK → Prop := fun xs H Q => ∃ (x : V) (tp : Addr) (cs : List V) (t : Value) (us : List Value) (b : Bool), xs = [x, .ref tp] ∧ H tp = some (.tup cs) ∧ Paired ClsV cs us ∧ TyZ K H x t ∧ PySem.W.kitAny K t us = some b ∧ Q (.bl b) H
theorem call_isZ : CallR X (.builtin "isinstance") (rIsZ X.K) := by
  intro pins s σ H xs us Q I r ⟨x, d, t, u, b, e1, k, ty, e, q⟩
  subst e1
  obtain ⟨u1, u2, rfl, r1, r2⟩ := vals2 r
  cases k.eq r2
  obtain ⟨P, Zk, p, hx⟩ := kit_z I r1 ty
  exact PySem.W.kia_one Zk I.kIn p e hx fun tk => ⟨.bl b, H, I.tok tk, rfl, q⟩
theorem call_isZT : CallR X (.builtin "isinstance") (rIsZT X.K) := by
  intro pins s σ H xs us Q I r ⟨x, tp, cs, t, ws, b, e1, hT, k, ty, e, q⟩
  subst e1
  obtain ⟨u1, u2, rfl, r1, r2⟩ := vals2 r
  cases (show u2 = Value.ref tp from r2)
  obtain ⟨P, Zk, p, hx⟩ := kit_z I r1 ty
  obtain ⟨_, its, rv, o, h1, h2, n, h3⟩ := (show ObjOk X.prog X.w H s.heap tp (.tup cs) from I.hok tp _ hT)
  cases ClsV.all k rv
  obtain ⟨oc, od, dt, sl⟩ := o
  simp only at h2 h3
  subst h2 h3
  exact PySem.W.kia_tup Zk I.kIn p h1 e hx fun tk => ⟨.bl b, H, I.tok tk, rfl, q⟩

def tyD (c : Pm) : D → Option Value
  | .non => some (.type "NoneType")
  | .bl _ => some (.type "bool")
  | .int _ => some (.type "int")
  | .str _ => some (.type "str")
  | .tup _ => some (.type "tuple")
  | .lst _ => some (.type "list")
  | .dic _ _ => some (.type "dict")
  | .ins n _ => (c.ca n).map .ref
  | .exc n _ => (c.cx n).map .ref
  | _ => none
structure Kls (c : Pm) : Prop where
  ins : ∀ n C, c.ca n = some C → InsT c.K C
  exc : ∀ n C, c.cx n = some C → ExcC c.K C
structure IsF (c : Pm) (tt : Ty) (u : Value) : Prop where
  non : PySem.W.kitOne c.K (.type "NoneType") u = some (isD1 .non tt)
  bl : PySem.W.kitOne c.K (.type "bool") u = some (isD1 (.bl true) tt)
  int : PySem.W.kitOne c.K (.type "int") u = some (isD1 (.int 0) tt)
  str : PySem.W.kitOne c.K (.type "str") u = some (isD1 (.str default) tt)
  tup : PySem.W.kitOne c.K (.type "tuple") u = some (isD1 (.tup []) tt)
  lst : PySem.W.kitOne c.K (.type "list") u = some (isD1 (.lst []) tt)
  dic : PySem.W.kitOne c.K (.type "dict") u = some (isD1 (.dic false []) tt)
  ins : ∀ n C, c.ca n = some C → PySem.W.kitOne c.K (.ref C) u = some (isD1 (.ins n []) tt)
  exc : ∀ n C, c.cx n = some C → PySem.W.kitOne c.K (.ref C) u = some (isD1 (.exc n []) tt)
theorem isD1_eq {c : Pm} {tt : Ty} {u t : Value} {d : D} (f : IsF c tt u) (h : tyD c d = some t) : PySem.W.kitOne c.K t u = some (isD1 d tt) := by
  cases d <;> simp only [tyD] at h
  case non => cases h; exact f.non
  case bl b => cases h; rw [f.bl]; cases tt <;> rfl
  case int i => cases h; rw [f.int]; cases tt <;> rfl
  case str i => cases h; rw [f.str]; cases tt <;> rfl
  case tup i => cases h; rw [f.tup]; cases tt <;> rfl
  case lst i => cases h; rw [f.lst]; cases tt <;> rfl
  case dic t i => cases h; rw [f.dic]; cases tt <;> rfl
  case ins n fs =>
    rw [Option.map_eq_some_iff] at h
    obtain ⟨C, h1, rfl⟩ := h
    rw [f.ins n C h1]; cases tt <;> rfl
  case exc n fs =>
    rw [Option.map_eq_some_iff] at h
    obtain ⟨C, h1, rfl⟩ := h
    rw [f.exc n C h1]; cases tt <;> rfl
  all_goals cases h
theorem val_ty (kl : Kls c) (R : Rel c F0 H0 ρ σ F H W) (V1 : ValOk c ρ σ Hs F H u v) (ht : v.d.typed = true) : ∃ t, tyD c v.d = some t ∧ TyZ c.K H u t := by
  cases e : v.d
  case lst xs =>
    obtain ⟨a, ws, rfl, h1, _⟩ := V1.lst R e
    exact ⟨_, rfl, .base (.base (.lst h1))⟩
  case tup xs =>
    obtain ⟨a, ws, rfl, h1, _⟩ := V1.tup R e
    rcases Same.sqT (Fz_dn R.stp.sub) h1 with (h1 | ⟨o, h1⟩) | ⟨o, its, m, k1, k2, _⟩
    · exact ⟨_, rfl, .base (.base (.tup h1))⟩
    · exact ⟨_, rfl, .base (.fTuple h1)⟩
    · exact ⟨_, rfl, .base (.kTuple k1 k2)⟩
  case non => cases V1.non R e; exact ⟨_, rfl, .base (.base .non)⟩
  case bl b => cases V1.bl R e; exact ⟨_, rfl, .base (.base (.bl b))⟩
  case int b => cases V1.int R e; exact ⟨_, rfl, .base (.base (.int b))⟩
  case str b => cases V1.str R e; exact ⟨_, rfl, .base (.base (.str b))⟩
  case dic t kvs =>
    cases t
    · obtain ⟨a, ws, rfl, h1, _⟩ := V1.dicK R e
      rcases h1 with h1 | ⟨o, h1⟩
      · exact ⟨_, rfl, .base (.base (.dK h1))⟩
      · exact ⟨_, rfl, .base (.fDict h1)⟩
    · rw [e] at ht; cases ht
  case ins nm fs =>
    obtain ⟨p, C, dx, gs, rfl, h1, h2, h3⟩ := V1.ins R e
    have i := kl.ins _ _ h2
    exact ⟨.ref C, by simp [tyD, h2], .base (.base (.ins (Fz_dn R.stp.sub _ _ h1) i.cl i.ha i.hn i.ht i.hm))⟩
  case exc nm fs =>
    have a := V1.rep R e fun _ _ _ h => h
    cases a with
    | exc0 h1 h2 => exact ⟨_, by simp [tyD, h2], .exc (Fz_dn R.stp.sub _ _ h1) (kl.exc _ _ h2)⟩
    | exc1 h1 h2 h3 _ _ => exact ⟨_, by simp [tyD, h2], .exc1 (Fz_dn R.stp.sub _ _ h1) (Fz_dn R.stp.sub _ _ h3) (kl.exc _ _ h2)⟩
  all_goals (rw [e] at ht; cases ht)
theorem e_isi {a T : Expr} {ea : E} {tt : Ty} {d : V} {uu : Value} {p : Pos} (kl : Kls c) (hk : X.K = c.K) (f : IsF c tt uu) (hd : ClsV d uu) (ha : PE X a (rdE c Wx ea)) (hT : PE X T (tC d)) (hg : Gl X "isinstance") (hm : X.mg "isinstance" = none)
    (h1 : starEach [a, T] X.env = (false, eval a X.env) :: starEach [T] X.env) (h2 : starEach [T] X.env = (false, eval T X.env) :: starEach [] X.env) (hpl : (backTo pos (starEach [T] X.env)).any (·.1) = false) :
    PE X (.Call (.Name "isinstance" p) [a, T] [] pos) (rdE c Wx (.isi ea [tt])) := by
  refine pe_wk (pe_callB call_isZ hg hm boot_isinstance (pa_cons ha (pa_cons hT pa_nil h2) h1) (by decide) (by decide) h1 hpl) fun σ H Q ⟨F0, H0, ρ, F, W, R, hP⟩ => ?_
  simp only [ev] at hP
  refine rd_e R R.refl hP fun x W1 u F1 H1 S1 _ V1 R1 hP => ?_
  by_cases ht : x.d.typed = true
  · rw [if_pos ht] at hP
    obtain ⟨t, e1, e2⟩ := val_ty kl R1 V1 ht
    refine ⟨u, d, t, uu, isD1 x.d tt, rfl, hd, hk ▸ e2, hk ▸ isD1_eq f e1, ?_⟩
    have q := fin_sc (u := V.bl (isD1 x.d tt)) (d := .bl ([tt].any (isD1 x.d))) R1 S1 hP
    simp only [List.any_cons, List.any_nil, Bool.or_false] at q
    exact q (.bl _)
  · rw [if_neg ht] at hP; exact hP.elim
theorem e_isi2 {a T1 T2 : Expr} {ea : E} {t1 t2 : Ty} {d1 d2 : V} {u1 u2 : Value} {p tp : Pos} {kk} (kl : Kls c) (hk : X.K = c.K) (f1 : IsF c t1 u1) (hd1 : ClsV d1 u1) (f2 : IsF c t2 u2) (hd2 : ClsV d2 u2) (ha : PE X a (rdE c Wx ea)) (hT1 : PE X T1 (tC d1)) (hT2 : PE X T2 (tC d2)) (hg : Gl X "isinstance") (hm : X.mg "isinstance" = none)
    (h1 : starEach [a, .Tuple [T1, T2] kk tp] X.env = (false, eval a X.env) :: starEach [.Tuple [T1, T2] kk tp] X.env) (h2 : starEach [.Tuple [T1, T2] kk tp] X.env = (false, eval (.Tuple [T1, T2] kk tp) X.env) :: starEach [] X.env) (hpl : (backTo pos (starEach [.Tuple [T1, T2] kk tp] X.env)).any (·.1) = false)
    (h3 : starEach [T1, T2] X.env = (false, eval T1 X.env) :: starEach [T2] X.env) (h4 : starEach [T2] X.env = (false, eval T2 X.env) :: starEach [] X.env) :
    PE X (.Call (.Name "isinstance" p) [a, .Tuple [T1, T2] kk tp] [] pos) (rdE c Wx (.isi ea [t1, t2])) := by
  refine pe_wk (pe_callB call_isZT hg hm boot_isinstance (pa_cons ha (pa_cons (pe_tup (pa_cons hT1 (pa_cons hT2 pa_nil h4) h3)) pa_nil h2) h1) (by decide) (by decide) h1 hpl) fun σ H Q ⟨F0, H0, ρ, F, W, R, hP⟩ => ?_
  simp only [ev] at hP
  refine rd_e R R.refl hP fun x W1 u F1 H1 S1 _ V1 R1 hP => ?_
  by_cases ht : x.d.typed = true
  · rw [if_pos ht] at hP
    refine ⟨by show 2 ≤ sizeLine; rw [sizeLine_eq]; omega, fun q hq => ?_⟩
    have S2 := R1.refl.makeF (o := .tup [d1, d2]) hq
    have R2 := R1.step S2
    obtain ⟨t, e1, e2⟩ := val_ty kl R2 (V1.step R1 S2) ht
    refine ⟨u, q, [d1, d2], t, [u1, u2], [t1, t2].any (isD1 x.d), rfl, upd_same, .cons hd1 (.cons hd2 .nil), hk ▸ e2, ?_, fin_sc R2 (S1.trans S2) hP (.bl _)⟩
    refine kitAny_cons (hk ▸ isD1_eq f1 e1) (fun z => kitAny_cons (hk ▸ isD1_eq f2 e1) (fun z' => ?_) fun z' => ?_) fun z => ?_
    · simp [z, z', PySem.W.kitAny]
    · simp [z']
    · simp [z]
  · rw [if_neg ht] at hP; exact hP.elim
end
end Z

namespace Z
open PySem PySem.Spec PyProof.Rows L2
open Classical
section
variable {c : Pm} {Wx : WX} {X : Cx} {fu n k : Nat} {W W' W1 W2 W3 : Dr} {F0 H0 F H F' H' F1 H1 F2 H2 F3 H3 Hs : Hp} {ρ ρ' : En} {σ σ' : L2.St} {u w : V} {x y v : Vl} {Q : VK} {us : List V} {vs : List Vl} {pos : Pos}

theorem RepF.putF {f : Str} {d : D} (r : Rep c F u d) : ∀ {gs : List (Str × V)} {fs : List (Str × D)}, RepF c F gs fs → RepF c F (putF f u gs) (putFD f d fs)
  | _, _, .nil => .cons r .nil
  | _, _, .cons (f := g) h t => by
    unfold L2.putF putFD
    by_cases e : g = f
    · rw [if_pos e, if_pos e]; exact .cons r t
    · rw [if_neg e, if_neg e]; exact .cons h (RepF.putF r t)
theorem RepF.length : ∀ {gs : List (Str × V)} {fs : List (Str × D)}, RepF c F gs fs → gs.length = fs.length
  | _, _, .nil => rfl
  | _, _, .cons _ t => by rw [List.length_cons, List.length_cons, RepF.length t]
theorem Rel.mutS {i : Nat} {p C dx : Addr} {nm : Str} {fs fs' : List (Str × D)} {gs gs' : List (Str × V)} (R : Rel c F0 H0 ρ σ F H W) (h1 : ρ[i]? = some (.slf p nm fs)) (h3 : H p = some (.ins C dx gs)) (r : RepF c F gs' fs') (un : ((ρ.set i .un).all Sl.noSlf) = true) : Rel c F0 H0 (ρ.set i (.slf p nm fs')) σ F (upd H p (.ins C dx gs')) W := by
  obtain ⟨q1, q2, q3, q4, C', dx', gs0, q5, q6, q7⟩ := R.slot i _ h1
  rw [h3] at q5
  cases q5
  have a : ∀ {j : Nat} {s : Sl}, (ρ.set i (.slf p nm fs'))[j]? = some s → (i = j ∧ s = .slf p nm fs') ∨ (i ≠ j ∧ ρ[j]? = some s) := fun {j s} e => by
    by_cases h : i = j
    · subst h
      have hl : i < ρ.length := by
        have := (List.getElem?_eq_some_iff.mp e).1
        simpa using this
      rw [List.getElem?_set_self hl] at e
      exact .inl ⟨rfl, (Option.some.inj e).symm⟩
    · rw [List.getElem?_set_ne h] at e
      exact .inr ⟨h, e⟩
  have b : ∀ {j : Nat} {d : D}, (ρ.set i (.slf p nm fs'))[j]? = some (.own d) → ρ[j]? = some (.own d) := fun {j d} e => by
    rcases a e with ⟨_, z⟩ | ⟨_, e⟩
    · cases z
    · exact e
  refine ⟨by rw [List.length_set]; exact R.len, R.stp.setD q2 q4 q3 (fun q z => by rw [h3] at z; cases z) (fun q z => by rw [h3] at z; cases z), fun j s e => ?_, fun j k d1 d2 p' e1 e2 e3 e4 => R.dist j k d1 d2 p' (b e1) (b e2) e3 e4⟩
  rcases a e with ⟨rfl, rfl⟩ | ⟨n, e⟩
  · exact ⟨q1, q2, q3, q4, C, dx, gs', upd_same, q6, r⟩
  · have k := R.slot j s e
    cases s with
    | un => exact k
    | val d => exact k
    | own d =>
      obtain ⟨p', k1, k2, k3, k4, k5⟩ := k
      refine ⟨p', k1, k2, k3, k4, k5.at (upd_ne fun z => ?_)⟩
      rcases k5.softH with q | ⟨xs, q⟩ | ⟨xs, q⟩ | ⟨xs, q⟩ <;> rw [z, h3] at q <;> cases q
    | slf p' n' gg =>
      have hm : Sl.slf p' n' gg ∈ ρ.set i .un := List.mem_of_getElem? (i := j) (by rw [List.getElem?_set_ne n]; exact e)
      have := List.all_eq_true.mp un _ hm
      cases this
theorem s_fld {i : Nat} {z f : Str} {e : Expr} {ee : E} {p2 p3 : Pos} (hk : X.K = c.K) (hN : X.N[i]? = some z) (hv : Vis X.env.scope z) (hd : (z == ("__debug__" : Str)) = false) (hcd : (z == ("__classdict__" : Str)) = false) (he : PE X e (rdE c Wx ee)) (hc : ∀ n C, c.ca n = some C → Cls c.K C ∧ NoAttr c.K C f)
    (hs : swapsWith e (some (.Attribute (.Name z p2) f p3)) pos.line X.env = pure false) : PS X (.Assign [.Attribute (.Name z p2) f p3] e pos) (rdS c Wx fu (.fld i f ee)) := by
  refine ps_wk (ps_fld (pe_var hN hv hd hcd) he hs) fun D σ H ⟨F0, H0, ρ, F, W, R, hP⟩ => ?_
  simp only [evS] at hP
  cases e0 : ρ[i]? with
  | none => rw [e0] at hP; exact hP.elim
  | some s =>
    rw [e0] at hP
    cases s with
    | un => exact hP.elim
    | val d => exact hP.elim
    | own d => exact hP.elim
    | slf p0 n0 fs0 =>
      refine st_e R hP fun v W1 u F1 H1 S1 V1 R1 hP => ?_
      have A : ArgOk c ρ σ H F1 H1 [u] [v] := .cons V1 .nil
      obtain ⟨RF, RA, up⟩ := keep_all R R1 S1 A
      rw [ts_one] at RF RA up
      cases e2 : (Z.frz ρ v.all)[i]? with
      | none => rw [e2] at hP; exact hP.elim
      | some s =>
        rw [e2] at hP
        cases s with
        | un => exact hP.elim
        | val d => exact hP.elim
        | own d => exact hP.elim
        | slf p n fs =>
          simp only at hP
          by_cases hl : fs.length < 1000 ∧ (((Z.frz ρ v.all).set i .un).all Sl.noSlf) = true
          · rw [if_pos hl] at hP
            obtain ⟨q1, q2, q3, q4, C, dx, gs, q5, q6, q7⟩ := RF.slot i _ e2
            obtain ⟨c1, c2⟩ := hc _ _ q6
            refine ⟨.ref p, q1, p, C, dx, gs, rfl, q5, hk ▸ c1, hk ▸ c2, by rw [q7.length]; exact hl.1, ?_⟩
            cases RA with
            | cons ra _ => exact hP _ _ _ (RF.mutS e2 q5 (RepF.putF ra q7) hl.2) fun a o q => up _ _ (S1.f _ _ q)
          · rw [if_neg hl] at hP; exact hP.elim

def spI (c : Pm) (nm : Str) (C : Addr) (g : Nat → G) : Sp := fun vs H Q E => ∃ x dx us F Hb xs W, vs = .ref x :: us ∧ Hb x = none ∧ Hb dx = none ∧ dx ≠ x ∧ H = upd (upd Hb dx (.own x)) x (.ins C dx []) ∧ c.ca nm = some C ∧ RepL c F us xs ∧ Stp c W F Hb F Hb ∧
  match g x xs W with
  | .ok r W' => ∀ F' H', Stp c W' F Hb F' H' → ResOk c Hb F' H' (.ref x) r → Q .non H'
  | .ex e W' => ∀ cls dd F' H', Stp c W' F Hb F' H' → ExOk c F' e cls dd → E cls dd H'
  | .stk => False
theorem make_len {fu N ps : Nat} {nm : Str} {b : S} {C : Addr} {E : XK} (h : spI c nm C (fun p => runC fu N ps p nm b) us H Q E) : us.length = ps := by
  obtain ⟨x, dx, ws, F, Hb, xs, W, rfl, _, _, _, _, _, r, _, hP⟩ := h
  simp only [runC] at hP
  by_cases hl : xs.length + 1 = ps
  · rw [List.length_cons, r.length, hl]
  · rw [if_neg hl] at hP; exact hP.elim
theorem make_ok {N : List Str} {ps : Nat} {nm : Str} {b : S} {C : Addr} {E : XK} (h : spI c nm C (fun p => runC fu N.length ps p nm b) us H Q E) : rdS c (fun cls dd _ H' => E cls dd H') fu b { nx := fun _ H' => Q .non H', rt := Q } (L2.start N us) H := by
  obtain ⟨x, dx, ws, F, Hb, xs, W, rfl, hx, hdx, hne, rfl, hC, r, S, hP⟩ := h
  simp only [runC] at hP
  by_cases hl : xs.length + 1 = ps
  · rw [if_pos hl] at hP
    have xd : x ∉ c.mv := fun z => S.sm z hx
    have dd : dx ∉ c.mv := fun z => S.sm z hdx
    have fn : ∀ a, Hb a = none → F a = none := fun a z => by
      cases q : F a with
      | none => rfl
      | some o => rw [S.sub _ _ q] at z; cases z
    have S1 := S.setD (o := .own x) (fn _ hdx) (.of hdx) dd (fun q z => by rw [hdx] at z; cases z) (fun q z => by rw [hdx] at z; cases z)
    have S2 : Stp c W F Hb F (upd (upd Hb dx (.own x)) x (.ins C dx [])) := S1.setD (fn _ hx) (.of hx) xd (fun q z => by rw [upd_ne hne.symm, hx] at z; cases z) (fun q z => by rw [upd_ne hne.symm, hx] at z; cases z)
    have R : Rel c F Hb (.slf x nm [] :: (xs.map Sl.val ++ List.replicate (N.length - ps) .un)) (L2.start N (.ref x :: ws)) F (upd (upd Hb dx (.own x)) x (.ins C dx [])) W := by
      unfold L2.start
      refine ⟨by simp [r.length]; omega, S2, fun i s e => ?_, fun i j d1 d2 p e1 e2 _ _ => ?_⟩
      · cases i with
        | zero =>
          simp only [List.getElem?_cons_zero] at e
          cases e
          exact ⟨rfl, fn _ hx, xd, .of hx, C, dx, [], upd_same, hC, .nil⟩
        | succ i =>
          simp only [List.getElem?_cons_succ] at e
          have := RepL.at (H0 := Hb) (H := upd (upd Hb dx (.own x)) x (.ins C dx [])) r e
          rw [List.length_cons, r.length, List.map_cons, List.cons_append, List.getElem?_cons_succ, hl]
          exact this
      · exfalso
        have no : ∀ {i : Nat} {d : D}, (Sl.slf x nm [] :: (xs.map Sl.val ++ List.replicate (N.length - ps) .un))[i]? = some (.own d) → False := fun {i d} e => by
          have hm := List.mem_of_getElem? e
          simp at hm
        exact no e1
    refine ⟨F, Hb, _, F, W, R, ?_⟩
    cases e : evS fu b (.slf x nm [] :: (xs.map Sl.val ++ List.replicate (N.length - ps) .un)) W with
    | nx ρ' W' =>
      rw [e] at hP
      intro σ' F' H' R' s
      simp only at hP
      cases e0 : (ρ'[(0 : Nat)]? : Option Sl) with
      | none => rw [e0] at hP; exact hP.elim
      | some sl =>
        rw [e0] at hP
        cases sl with
        | un => exact hP.elim
        | val d => exact hP.elim
        | own d => exact hP.elim
        | slf p n fs =>
          simp only at hP
          by_cases hq : p = x
          · rw [if_pos hq] at hP
            subst hq
            obtain ⟨k1, k2, k3, k4, C', dx', gs, k5, k6, k7⟩ := R'.slot 0 _ e0
            have ne : ∀ a o, F' a = some o → a ≠ p := fun a o q z => by rw [z, k2] at q; cases q
            have up : Same F' (upd F' p (.ins C' dx' gs)) := fun a o q => by rw [upd_ne (ne a o q)]; exact q
            refine hP _ H' ⟨fun a o q => up _ _ (R'.stp.f _ _ q), fun a o q => ?_, R'.stp.h, fun a e1 e2 => ?_, fun a o e => ?_, fun a ha => ?_, R'.stp.dr, fun hd => up _ _ (R'.stp.cl hd), R'.stp.tabs⟩ (.ins upd_same k6 (k7.mono up))
            · by_cases z : a = p
              · subst z
                rw [upd_same] at q
                rw [← q]; exact k5
              · rw [upd_ne z] at q
                exact R'.stp.sub _ _ q
            · rw [upd_ne fun z => Nil.of hx (by rw [← z]; exact e2)]
              exact R'.stp.new a e1 e2
            · by_cases z : a = p
              · subst z
                rw [upd_same] at e; cases e; exact nt_ins
              · rw [upd_ne z] at e; exact R'.stp.nt a o e
            · rw [upd_ne fun z => k3 (by rw [← z]; exact ha)]
              exact R'.stp.av a ha
          · rw [if_neg hq] at hP; exact hP.elim
    | bk ρ' W' => rw [e] at hP; exact hP.elim
    | ct ρ' W' => rw [e] at hP; exact hP.elim
    | stk => rw [e] at hP; exact hP.elim
    | ex x ρ' W' =>
      rw [e] at hP
      exact fun cls dd σ' F' H' R' hx => hP cls dd F' H' R'.stp hx
    | rt v ρ' W' => rw [e] at hP; exact hP.elim
  · rw [if_neg hl] at hP; exact hP.elim
theorem init_ok {P : Program} {w : World} {K : PySem.W.Frag} {mg : Str → Option Value} {base : Heap} {x qual : Str} {st : Stmt} {f C : Addr} {fd : FuncData} {N ps : List Str} {b : S} {nm : Str} (F : Fun K x qual st f fd) (S : FnScope N ps (defScope st))
    (hb : ∀ (cdv : Value) (A : Around) (outer : List Env) (s : Shared) (H : Hp) (E : XK), Room k (A.deeper (envOfC qual (defScope st) s.heap.objs.size f cdv)) →
      Takes (cxOf (L2.CX P w) P w K mg base N qual (defScope st) f cdv A outer s H E) (fun cls dd _ H' => E cls dd H') →
      PSs (cxOf (L2.CX P w) P w K mg base N qual (defScope st) f cdv A outer s H E) (defBody st) (rdS c (fun cls dd _ H' => E cls dd H') fu b)) :
    FnOk P w K mg base (L2.CX P w) (k + 1) f fd ps (spI c nm C fun p => runC fu N.length ps.length p nm b) :=
  F.okX S (fun vs H Q E h => make_len h) fun cdv A outer s H vs Q E hr h => ⟨_, hb cdv A outer s H E hr (takes_of rfl rfl rfl rfl), make_ok h⟩
structure Mak (c : Pm) (P : Program) (w : World) (mg : Str → Option Value) (base : Heap) (k : Nat) (x : Str) (ps : List Str) (g : G) : Prop where
  ex : ∃ (C f : Addr) (fd : FuncData) (gi : Nat → G), mg x = some (.ref C) ∧ c.ca x = some C ∧ L2.Mk c.K C f ∧ Binds c.K fd ps [] ∧ FnOk P w c.K mg base (L2.CX P w) k f fd ps (spI c x C gi) ∧ ∀ p xs W, gi p xs W = g xs W
theorem Mak.mono {P : Program} {w : World} {mg : Str → Option Value} {base : Heap} {j : Nat} {x : Str} {ps : List Str} {g : G} (h : Mak c P w mg base j x ps g) (hk : j ≤ k) : Mak c P w mg base k x ps g := by
  obtain ⟨C, f, fd, gi, h1, h2, h3, h4, h5, h6⟩ := h.ex
  exact ⟨C, f, fd, gi, h1, h2, h3, h4, h5.mono hk, h6⟩
theorem run_makeZ {pins : List (Addr × Obj)} {s : Shared} {ws : List Value} {zs : List V} {C f : Addr} {fd : FuncData} {ps : List Str} {sp : Sp} {CX : CXT} {E : XK} (M : L2.Mk X.K C f) (Fn : FnOk X.prog X.w X.K X.mg X.base CX k f fd ps sp) (hr : Room (k + 1) X.A) (hb : Binds X.K fd ps [])
    (hx : ∀ (pins : List (Addr × Obj)) (H : Hp) (s : Shared) (e : Value) (s' : Shared), Inv X pins σ H s → CX X.stack H s E e s' → X.xe e s') (I : Inv X pins σ H s) (r : Vals zs ws)
    (h : ∀ x dx, H x = none → H dx = none → dx ≠ x → sp (.ref x :: zs) (upd (upd H dx (.own x)) x (.ins C dx [])) (fun v H2 => v = .non ∧ Q (.ref x) H2) E) : wpAny (model X.prog X.w) X.A (call (.ref C) ws) (EP X pins σ Q) X.xe s := by
  have q0 := h (s.heap.objs.size + 1) s.heap.objs.size (I.hok.fresh (Nat.le_succ _)) (I.hok.fresh (Nat.le_refl _)) (Nat.ne_of_lt (Nat.lt_succ_self _))
  have J := Inv.made (C := C) I
  have rr : Vals (V.ref (s.heap.objs.size + 1) :: zs) (Value.ref (s.heap.objs.size + 1) :: ws) := .cons rfl r
  have hl : (Value.ref (s.heap.objs.size + 1) :: ws).length = ps.length := rr.length.symm.trans (Fn.len _ _ _ _ q0)
  have b := hb _ (Value.ref (s.heap.objs.size + 1) :: ws) J.kIn (by rw [List.append_nil]; exact hl)
  rw [List.append_nil] at b
  refine wpAny_call (make_map (f := f) I.kIn M.makes M.init (beq_iff_eq.mp M.fn) (codeAny_mono (Fn.run _ X.stack _ _ _ _ _ _ E (hr.make C ws []) (J.env0.make C ws []) b rr q0) fun res s2 hq => ?_))
  match res, hq with
  | .error e, hq => exact hx pins _ _ e s2 J hq
  | .ok (.ret u), hq =>
    obtain ⟨v, H2, J2, rv, ev, q2⟩ := J.after hq
    cases ev
    exact ⟨rv, V.ref (s.heap.objs.size + 1), H2, J2, rfl, q2⟩
def tMakZ (C : Addr) (sp : Sp) (E : L2.St → XK) (t : TA) : TE := fun σ H Q => t σ H fun vs H1 => ∀ x dx, H1 x = none → H1 dx = none → dx ≠ x → sp (.ref x :: vs) (upd (upd H1 dx (.own x)) x (.ins C dx [])) (fun v H2 => v = .non ∧ Q (.ref x) H2) (E σ)
theorem mak_ok {C : Addr} {nm : Str} {g : G} {gi : Nat → G} {ea : E} (hC : c.ca nm = some C) (hg : ∀ p xs W, gi p xs W = g xs W) (h : rdE c Wx (.call g ea) σ H Q) : tMakZ C (spI c nm C gi) (WE Wx) (rdL c Wx ea) σ H Q := by
  obtain ⟨F0, H0, ρ, F, W, R, hP⟩ := h
  simp only [ev] at hP
  refine rd_l R R.refl hP fun vs W1 us F1 H1 S1 _ A R1 hP => ?_
  have RF := (Ft_rel R R1 S1 A).frz (ts_own A)
  intro x dx hx hdx hne
  refine ⟨x, dx, us, Fz (Ft F1 H1 us vs) H1 σ (ts vs), H1, ds vs, W1, rfl, hx, hdx, hne, rfl, hC, args_all R R1 S1 A, RF.stp.refl, ?_⟩
  rw [hg]
  have q := call_end (g := g) R S1 A (ts_own A) hP
  cases e : g (ds vs) W1 with
  | ok r W' => rw [e] at q; exact fun F' H' S' r' => ⟨rfl, q _ F' H' S' r'⟩
  | ex x W' => rw [e] at q; exact q
  | stk => rw [e] at q; exact q
theorem e_make {x : Str} {ps : List Str} {g : G} {e : Expr} {es : List Expr} {ea : E} {p : Pos} (hk : X.K = c.K) (h : Mak c X.prog X.w X.mg X.base k x ps g) (hr : Room (k + 1) X.A) (tk : Takes X Wx) (hgl : Gl X x) (ha : PA X (e :: es) (rdL c Wx ea)) (hdb : (x == ("__debug__" : Str)) = false)
    (he : starEach (e :: es) X.env = (false, eval e X.env) :: starEach es X.env) (hpl : (backTo pos (starEach es X.env)).any (·.1) = false) : PE X (.Call (.Name x p) (e :: es) [] pos) (rdE c Wx (.call g ea)) := by
  obtain ⟨C, f, fd, gi, h1, h2, h3, h4, h5, h6⟩ := h.ex
  rw [← hk] at h3 h4 h5
  refine ⟨fun pins s σ H Q I q => ?_⟩
  have q := mak_ok h2 h6 q
  refine wpAny_Call_Name_kw (ld_glob I hgl h1 ?_ hdb)
  refine PySem.W.callWith_K (h₀ := X.base) I.ok.mod.kin h3.kp (thn (ha.run pos pins s σ H _ I q) fun ws s1 ⟨zs, H1, I1, r, q1⟩ => ⟨I1.kIn, ?_⟩) he hpl
  exact run_makeZ h3 h5 hr h4 (passAt tk σ) I1 r q1
end
end Z

namespace Z
open PySem PySem.Spec PyProof.Rows L2
open Classical
section
variable {c : Pm} {Wx : WX} {X : Cx} {fu n k : Nat} {W W' W1 W2 W3 : Dr} {F0 H0 F H F' H' F1 H1 F2 H2 F3 H3 Hs : Hp} {ρ ρ' : En} {σ σ' : L2.St} {u w : V} {x y v : Vl} {Q : VK} {us : List V} {vs : List Vl} {pos : Pos}

def BinAll (c : Pm) (X : Cx) (op : Operator) : Prop := ∃ r, OpR X (binaryOp op) r ∧ BinOk c (binD op) r
def rMulD (K : PySem.W.Frag) : R2 := fun x y H Q => rI CMul (fun i j => .int (i * j)) x y H Q ∨ rRep x y H Q ∨ rRepT K x y H Q
theorem RepL.times {vs : List V} {xs : List D} (r : RepL c F vs xs) : ∀ k : Nat, RepL c F (List.replicate k vs).flatten (List.replicate k xs).flatten
  | 0 => .nil
  | k + 1 => by
    rw [List.replicate_succ, List.replicate_succ, List.flatten_cons, List.flatten_cons]
    exact r.append (RepL.times r k)
theorem mul_okD : BinOk c (binD .Mult) (rMulD c.K) := by
  intro Wx W2 F0 H0 F H F2 H2 ρ σ u w x y Q z R S V1 V2 h hq
  have ht := own_app V1.t_own V2.t_own
  cases e1 : x.d <;> cases e2 : y.d <;> rw [e1, e2] at h <;> simp only [binD, big_eq] at h <;> try (cases h)
  case int.int i j =>
    split at h <;> cases h
    rename_i hz
    exact .inl ⟨i, j, V1.int R e1, V2.int R e2, hz, fin_vl R S ht hq (.int _)⟩
  case tup.int xs j =>
    split at h <;> cases h
    rename_i hz
    obtain ⟨a, vs, rfl, h1, r1⟩ := V1.tup R e1
    refine .inr (.inr ⟨a, j, vs, rfl, V2.int R e2, Same.sqT (Fz_dn R.stp.sub) h1, ?_, hz.2.1, hz.2.2.1, by rw [r1.length]; exact hz.2.2.2, fin_tup R S ht hq ((r1.mono (Fz_l R.stp.sub)).times _)⟩)
    intro e
    subst e
    cases r1
    exact hz.1 rfl
  case lst.int xs j =>
    split at h <;> cases h
    rename_i hz
    obtain ⟨a, vs, rfl, h1, r1⟩ := V1.lst R e1
    exact .inr (.inl ⟨a, j, vs, rfl, V2.int R e2, h1, hz.1, hz.2.1, by rw [r1.length, ← cap_num]; exact hz.2.2, fin_lst R S ht hq ((r1.mono (Fz_l R.stp.sub)).times _)⟩)
theorem bin_add (hk : X.K = c.K) : BinAll c X .Add := ⟨_, op_addD, hk ▸ add_ok⟩
theorem bin_sub : BinAll c X .Sub := ⟨_, op_sub, sub_ok⟩
theorem bin_mul (hk : X.K = c.K) : BinAll c X .Mult := ⟨rMulD X.K, op_mul.or (op_rep.or op_repT), hk ▸ mul_okD⟩
theorem bin_div : BinAll c X .FloorDiv := ⟨_, op_fdiv, div_ok⟩
theorem bin_mod : BinAll c X .Mod := ⟨_, op_mod, mod_ok⟩
theorem bin_pow : BinAll c X .Pow := ⟨_, op_pow, pow_ok⟩
theorem Cn.hu (n : Cn c Wx k X) : X.A.units + 64 < cLine := n.room.units

theorem x_var (i : Nat) {z : Str} (n : Cn c Wx k X) (hv : Vis X.env.scope z) (hN : X.N[i]? = some z := by rfl) (hd : (z == ("__debug__" : Str)) = false := by decide) (hcd : (z == ("__classdict__" : Str)) = false := by decide) : PE X (.Name z pos) (rdE c Wx (.var i)) := e_var hN hv hd hcd
theorem x_gl {z : Str} {d : D} {v : V} (n : Cn c Wx k X) (h : ∃ uu, X.mg z = some uu ∧ RelV v uu) (hr : ∀ F, Rep c F v d) (hg : Gl X z := by rfl) (hd : (z == ("__debug__" : Str)) = false := by decide) : PE X (.Name z pos) (rdE c Wx (.gl d)) := by
  obtain ⟨uu, h1, h2⟩ := h
  exact e_gl hg h1 h2 hr hd
theorem x_bin {op : Operator} {a b : Expr} {ea eb : E} (h : BinAll c X op) (ha : PE X a (rdE c Wx ea)) (hb : PE X b (rdE c Wx eb)) : PE X (.BinOp a op b pos) (rdE c Wx (.bin op ea eb)) := by
  obtain ⟨r, h1, h2⟩ := h
  exact e_bin h1 h2 ha hb
theorem x_cmp {op : CmpOp} {a b : Expr} {ea eb : E} (n : Cn c Wx k X) (ha : PE X a (rdE c Wx ea)) (hb : PE X b (rdE c Wx eb)) (hm : behindInMarks op b = false := by first | exact nobehind _ (by decide) (by decide) | rfl) : PE X (.Compare a [op] [b] pos) (rdE c Wx (.cmp op ea eb)) := by
  obtain ⟨r, h1, h2⟩ := cmp_all op n.hk n.hu
  exact e_cmp h1 h2 ha hb hm
theorem x_one {op : BoolOp} {a : Expr} {ea : E} (ha : PE X a (rdE c Wx ea)) : PE X (.BoolOp op [a] pos) (rdE c Wx ea) := pe_one ha
theorem x_cons {e : Expr} {es : List Expr} {a b : E} (ha : PE X e (rdE c Wx a)) (hb : PA X es (rdL c Wx b)) (hs : starEach (e :: es) X.env = (false, eval e X.env) :: starEach es X.env := by rfl) : PA X (e :: es) (rdL c Wx (.cons a b)) := l_cons ha hb hs
theorem x_ix {a b : Expr} {ea eb : E} (n : Cn c Wx k X) (ha : PE X a (rdE c Wx ea)) (hb : PE X b (rdE c Wx eb)) (hs : PlainIx b := by exact fun _ _ => rfl) : PE X (.Subscript a b pos) (rdE c Wx (.ix ea eb)) := e_ix n.hk ha hb hs
theorem x_sl {a : Expr} {lo hi : Option Expr} {ea el eh : E} {p2 : Pos} (n : Cn c Wx k X) (ha : PE X a (rdE c Wx ea)) (hl : PO X lo (rdO c Wx el)) (hh : PO X hi (rdO c Wx eh)) : PE X (.Subscript a (.Slice lo hi none p2) pos) (rdE c Wx (.sl ea el eh)) := e_sl n.hk ha hl hh
theorem x_call {j : Nat} {x : Str} {ps : List Str} {g : G} {e : Expr} {es : List Expr} {ea : E} {p : Pos} (n : Cn c Wx k X) (h : Cal c X.prog X.w X.K X.mg X.base j x ps g) (ha : PA X (e :: es) (rdL c Wx ea)) (hj : j ≤ k := by decide) (hg : Gl X x := by rfl) (hdb : (x == ("__debug__" : Str)) = false := by decide)
    (he : starEach (e :: es) X.env = (false, eval e X.env) :: starEach es X.env := by rfl) (hpl : (backTo pos (starEach es X.env)).any (·.1) = false := by rfl) : PE X (.Call (.Name x p) (e :: es) [] pos) (rdE c Wx (.call g ea)) := e_call h (n.room.mono hj) n.tk hg ha hdb he hpl
theorem x_make {j : Nat} {x : Str} {ps : List Str} {g : G} {e : Expr} {es : List Expr} {ea : E} {p : Pos} (n : Cn c Wx k X) (h : Mak c X.prog X.w X.mg X.base j x ps g) (ha : PA X (e :: es) (rdL c Wx ea)) (hj : j + 1 ≤ k := by decide) (hg : Gl X x := by rfl) (hdb : (x == ("__debug__" : Str)) = false := by decide)
    (he : starEach (e :: es) X.env = (false, eval e X.env) :: starEach es X.env := by rfl) (hpl : (backTo pos (starEach es X.env)).any (·.1) = false := by rfl) : PE X (.Call (.Name x p) (e :: es) [] pos) (rdE c Wx (.call g ea)) := e_make n.hk h (n.room.mono hj) n.tk hg ha hdb he hpl
theorem x_mth0 {j : Nat} {nm m : Str} {ps : List Str} {g : G} {o : Expr} {ea : E} {apos : Pos} {pl : Sem Bool} (n : Cn c Wx k X) (h : Mth c X.prog X.w X.mg X.base j nm m ps g) (ho : PE X o (rdE c Wx ea)) (hj : j ≤ k := by decide)
    (ht : eval (.Call (.Attribute o m apos) [] [] pos) X.env = (do
      let ov ← eval o X.env
      standAt apos.atName
      let (f, first) ← holding [ov] (getMethod ov m pl)
      callWith pos f first (backTo pos (starEach [] X.env)) (backToKw pos (keywordEach [] X.env))) := by rfl) : PE X (.Call (.Attribute o m apos) [] [] pos) (rdE c Wx (.mth m nm g ea .nil)) := e_mth0 (pl := pl) h n.hk (n.room.mono hj) n.tk ho ht
theorem x_attr {f : Str} {a : Expr} {ea : E} (n : Cn c Wx k X) (hc : ∀ n C, c.ca n = some C → Cls c.K C ∧ NoAttr c.K C f) (ha : PE X a (rdE c Wx ea)) (hb : attributeBase a f X.env (eval a X.env) = eval a X.env := by rfl) : PE X (.Attribute a f pos) (rdE c Wx (.attr ea f)) := e_attr n.hk ha hb hc
theorem x_isi {a T : Expr} {ea : E} {tt : Ty} {d : V} {uu : Value} {p : Pos} (n : Cn c Wx k X) (kl : Kls c) (f : IsF c tt uu) (hd : ClsV d uu) (ha : PE X a (rdE c Wx ea)) (hT : PE X T (tC d)) (hm : X.mg "isinstance" = none) (hg : Gl X "isinstance" := by rfl)
    (h1 : starEach [a, T] X.env = (false, eval a X.env) :: starEach [T] X.env := by rfl) (h2 : starEach [T] X.env = (false, eval T X.env) :: starEach [] X.env := by rfl) (hpl : (backTo pos (starEach [T] X.env)).any (·.1) = false := by rfl) :
    PE X (.Call (.Name "isinstance" p) [a, T] [] pos) (rdE c Wx (.isi ea [tt])) := e_isi kl n.hk f hd ha hT hg hm h1 h2 hpl
theorem x_isi2 {a T1 T2 : Expr} {ea : E} {t1 t2 : Ty} {d1 d2 : V} {u1 u2 : Value} {p tp : Pos} {kk} (n : Cn c Wx k X) (kl : Kls c) (f1 : IsF c t1 u1) (hd1 : ClsV d1 u1) (f2 : IsF c t2 u2) (hd2 : ClsV d2 u2) (ha : PE X a (rdE c Wx ea)) (hT1 : PE X T1 (tC d1)) (hT2 : PE X T2 (tC d2)) (hm : X.mg "isinstance" = none) (hg : Gl X "isinstance" := by rfl)
    (h1 : starEach [a, .Tuple [T1, T2] kk tp] X.env = (false, eval a X.env) :: starEach [.Tuple [T1, T2] kk tp] X.env := by rfl) (h2 : starEach [.Tuple [T1, T2] kk tp] X.env = (false, eval (.Tuple [T1, T2] kk tp) X.env) :: starEach [] X.env := by rfl) (hpl : (backTo pos (starEach [.Tuple [T1, T2] kk tp] X.env)).any (·.1) = false := by rfl)
    (h3 : starEach [T1, T2] X.env = (false, eval T1 X.env) :: starEach [T2] X.env := by rfl) (h4 : starEach [T2] X.env = (false, eval T2 X.env) :: starEach [] X.env := by rfl) :
    PE X (.Call (.Name "isinstance" p) [a, .Tuple [T1, T2] kk tp] [] pos) (rdE c Wx (.isi ea [t1, t2])) := e_isi2 kl n.hk f1 hd1 f2 hd2 ha hT1 hT2 hg hm h1 h2 hpl h3 h4
theorem x_ty {z : Str} {T : String} (n : Cn c Wx k X) (hm : X.mg z = none) (hv : bootBuiltins z = some (.type T)) (hg : Gl X z := by rfl) (hn : z ≠ "__name__" := by decide) (hd : (z == ("__debug__" : Str)) = false := by decide) : PE X (.Name z pos) (tC (.ty T)) := pe_bltn hg hm hv rfl hn hd
theorem x_cls {z : Str} {C : Addr} (n : Cn c Wx k X) (hm : X.mg z = some (.ref C)) (hg : Gl X z := by rfl) (hd : (z == ("__debug__" : Str)) = false := by decide) : PE X (.Name z pos) (tC (.ref C)) := pe_glob hg hm rfl hd
theorem x_biB {f : Bi} {r : List V → Hp → VK → Prop} {a : E} {z : Str} {id : String} {e : Expr} {es : List Expr} {p : Pos} (n : Cn c Wx k X) (kk : BiOk c (biD f) r) (hc : CallR X (.builtin id) r) (hv : bootBuiltins z = some (.builtin id)) (hm : X.mg z = none) (ha : PA X (e :: es) (rdL c Wx a)) (hg : Gl X z := by rfl)
    (hn : z ≠ "__name__" := by decide) (hdb : (z == ("__debug__" : Str)) = false := by decide) (he : starEach (e :: es) X.env = (false, eval e X.env) :: starEach es X.env := by rfl) (hpl : (backTo pos (starEach es X.env)).any (·.1) = false := by rfl) : PE X (.Call (.Name z p) (e :: es) [] pos) (rdE c Wx (.bi f a)) :=
  e_biB kk hc hg hm hv ha hn hdb he hpl
theorem x_biT {f : Bi} {r : List V → Hp → VK → Prop} {a : E} {z : Str} {T : String} {e : Expr} {es : List Expr} {p : Pos} (n : Cn c Wx k X) (kk : BiOk c (biD f) r) (hc : CallR X (.type T) r) (hv : bootBuiltins z = some (.type T)) (hm : X.mg z = none) (ha : PA X (e :: es) (rdL c Wx a)) (hg : Gl X z := by rfl)
    (hn : z ≠ "__name__" := by decide) (hdb : (z == ("__debug__" : Str)) = false := by decide) (he : starEach (e :: es) X.env = (false, eval e X.env) :: starEach es X.env := by rfl) (hpl : (backTo pos (starEach es X.env)).any (·.1) = false := by rfl) : PE X (.Call (.Name z p) (e :: es) [] pos) (rdE c Wx (.bi f a)) :=
  e_biT kk hc hg hm hv ha hn hdb he hpl
theorem y_cmp {op : CmpOp} {a b : Expr} {ea eb : E} (n : Cn c Wx k X) (ha : PE X a (rdE c Wx ea)) (hb : PE X b (rdE c Wx eb)) (hm : behindInMarks op b = false := by first | exact nobehind _ (by decide) (by decide) | rfl) : PT X (.Compare a [op] [b] pos) (rdT c Wx (.tv (.cmp op ea eb))) := by
  obtain ⟨r, h1, h2⟩ := cmp_all op n.hk n.hu
  exact t_cmp h1 h2 ha hb hm
theorem y_chn {o1 o2 : CmpOp} {a b d : Expr} {ea eb ed : E} (n : Cn c Wx k X) (ha : PE X a (rdE c Wx ea)) (hb : PE X b (rdE c Wx eb)) (hd : PE X d (rdE c Wx ed)) (hm : lastMarks [o1, o2] [b, d] = false := by rfl) : PT X (.Compare a [o1, o2] [b, d] pos) (rdT c Wx (.tv (.chn o1 o2 ea eb ed))) := by
  obtain ⟨r, h1, h2⟩ := cmp_all o1 n.hk n.hu
  obtain ⟨r', h1', h2'⟩ := cmp_all o2 n.hk n.hu
  exact t_chn h1 h2 h1' h2' ha hb hd hm
theorem y_val {a : Expr} {ea : E} (ha : PE X a (rdE c Wx ea)) (he : ∀ whole, isTrue a X.env whole = (do let v ← whole; standAt a.pos; holding [v] (truthy v)) := by intro _; rfl) : PT X a (rdT c Wx (.tv ea)) := t_val ha he
theorem Cn.blk (n : Cn c Wx k X) {s : Shared} {H : Hp} {scope : Scope} {cenv : Env} {fp : List Addr} : Cn c WXF k (X.blk s H scope cenv fp) := ⟨n.hk, n.calm, n.nd, takes0, n.room⟩
theorem Cn.fn {P : Program} {w : World} {K : PySem.W.Frag} {mg : Str → Option Value} {base : Heap} {N ps : List Str} {qual : Str} {scope : Scope} {f : Addr} {cdv : Value} {A : Around} {outer : List Env} {s : Shared} {H : Hp} {E : XK} (hk : K = c.K) (S : FnScope N ps scope) (hr : Room k (A.deeper (envOfC qual scope s.heap.objs.size f cdv)))
    (tk : Takes (cxOf (L2.CX P w) P w K mg base N qual scope f cdv A outer s H E) Wx) : Cn c Wx k (cxOf (L2.CX P w) P w K mg base N qual scope f cdv A outer s H E) := ⟨hk, rfl, S.nd, tk, hr⟩
theorem x_lc {tg it elt : Expr} {ifs : List Expr} {scope : Scope} {own : List (Str × Nat)} {pt : Pat} {g : TG} {src tst el : E} (n : Cn c Wx k X) (hi : PI X tg it (rdI c Wx src)) (gk : GOk c pt (own.map (·.2)) g) (ok : blkC X.N X.env.scope scope own = true)
    (hg : ∀ (s : Shared) (H : Hp) (C : Addr) (cl : List (Str × Addr)) (fp : List Addr), PG (X.blk s H scope (compEnvC scope cl C X.env) fp) tg g) (ht : ∀ (s : Shared) (H : Hp) (C : Addr) (cl : List (Str × Addr)) (fp : List Addr), PTs (X.blk s H scope (compEnvC scope cl C X.env) fp) ifs (rdA c WXF tst))
    (he : ∀ (s : Shared) (H : Hp) (C : Addr) (cl : List (Str × Addr)) (fp : List Addr), PE (X.blk s H scope (compEnvC scope cl C X.env) fp) elt (rdE c WXF el)) (hs : ∀ x, foldedSetIterable it X.env x = pure x := by intro _; rfl) :
    PE X (.ListComp elt [⟨tg, it, ifs, 0⟩] scope pos) (rdE c Wx (.lc el pt src tst (own.map (·.2)))) := e_lc n.calm n.nd hi (blkOk_by ok) gk hg ht he hs
theorem x_wk {tg a : Expr} {ea : E} (n : Cn c Wx k X) (ha : PE X a (rdE c Wx ea)) (hs : PI X tg a (iStr (rdE c Wx ea)) := by exact pi_str (by assumption)) : PI X tg a (rdI c Wx (.wk ea)) := i_wk n.hk ha hs
theorem x_rng1 {tg a : Expr} {ea : E} {p : Pos} (n : Cn c Wx k X) (hm : X.mg "range" = none) (ha : PA X [a] (rdL c Wx (.cons ea .nil))) (hg : Gl X "range" := by rfl) (hs : starEach [a] X.env = [(false, eval a X.env)] := by rfl) : PI X tg (.Call (.Name "range" p) [a] [] pos) (rdI c Wx (.rng (.cons ea .nil))) := i_rng1 hg hm ha hs
theorem z_set (i : Nat) {z : Str} {e : Expr} {ee : E} {pos' : Pos} (n : Cn c Wx k X) (he : PE X e (rdE c Wx ee)) (hx : Loc X.env.scope z) (hi : X.N[i]? = some z := by rfl) (hs : swapsWith e (some (.Name z pos')) pos.line X.env = pure false := by rfl) (hf : X.fn z = true ∨ X.env.scope.names.lookup z = some .local := by exact .inl rfl) :
    PS X (.Assign [.Name z pos'] e pos) (rdS c Wx fu (.asg i ee)) := s_set n.nd hi hx he hs hf
theorem z_unp {tg e : Expr} {ee : E} {is : List Nat} {m : Nat} (n : Cn c Wx k X) (he : PE X e (rdE c Wx ee)) (hg : PG X tg (gTup X.K m (gNames is))) (hm : m = is.length := by rfl) (hs : swapsWithSole [tg] e pos.line X.env = pure false := by rfl) (hw : swappedStores [tg] e X.env = pure none := by rfl)
    (h1 : (assignEach [tg] X.env).map (·.2) = [assign tg X.env] := by rfl) : PS X (.Assign [tg] e pos) (rdS c Wx fu (.unp is ee)) := s_unp n.hk hm he hg hs hw h1
theorem z_par (i j : Nat) {z1 z2 : Str} {a b : Expr} {ea : E} {px py pt : Pos} {kt k2 pt2} (n : Cn c Wx k X) (ha : PA X [a, b] (rdL c Wx ea)) (hij : i ≠ j := by decide) (hi : X.N[i]? = some z1 := by rfl) (hj : X.N[j]? = some z2 := by rfl)
    (hx : X.env.scope.names.lookup z1 = some .local := by rfl) (hy : X.env.scope.names.lookup z2 = some .local := by rfl)
    (hw : swappedStores [.Tuple [.Name z1 px, .Name z2 py] kt pt] (.Tuple [a, b] k2 pt2) X.env = pure (some [z1, z2]) := by rfl)
    (hs : swapsWithSole [.Tuple [.Name z1 px, .Name z2 py] kt pt] (.Tuple [a, b] k2 pt2) pos.line X.env = pure false := by rfl) :
    PS X (.Assign [.Tuple [.Name z1 px, .Name z2 py] kt pt] (.Tuple [a, b] k2 pt2) pos) (rdS c Wx fu (.par [i, j] ea)) := s_par n.calm n.nd hi hj hij hx hy ha hw hs
theorem z_app (i : Nat) {z : Str} {e : Expr} {ee : E} {p2 apos cpos : Pos} (n : Cn c Wx k X) (he : PE X e (rdE c Wx ee)) (hv : Vis X.env.scope z) (hN : X.N[i]? = some z := by rfl) (hd : (z == ("__debug__" : Str)) = false := by decide) (hcd : (z == ("__classdict__" : Str)) = false := by decide)
    (hbase : attributeBase (.Name z p2) "append" X.env (eval (.Name z p2) X.env) = eval (.Name z p2) X.env := by rfl)
    (hfew : ((backTo cpos (starEach [e] X.env)).all (fun x => !x.1) && (backToKw cpos (keywordEach [] X.env)).all (fun x => x.1.isSome)
      && decide (([e] : List Expr).length + ([] : List Keyword).length + (if ([] : List Keyword).isEmpty then 0 else 1) < 30)) = true := by rfl)
    (hline : (apos.endLine == cpos.line) = true := by rfl) (hs : starEach [e] X.env = [(false, eval e X.env)] := by rfl) (hsw : swapsWith (.Call (.Attribute (.Name z p2) "append" apos) [e] [] cpos) none pos.line X.env = pure false := by rfl) :
    PS X (.Expr (.Call (.Attribute (.Name z p2) "append" apos) [e] [] cpos) pos) (rdS c Wx fu (.app i ee)) := s_app hN hv hd hcd he hbase hfew hline hs hsw
theorem z_setix (i : Nat) {z : Str} {kx e : Expr} {ek ee : E} {p2 tpos : Pos} (n : Cn c Wx k X) (hk : PE X kx (rdE c Wx ek)) (he : PE X e (rdE c Wx ee)) (hv : Vis X.env.scope z) (hN : X.N[i]? = some z := by rfl) (hd : (z == ("__debug__" : Str)) = false := by decide) (hcd : (z == ("__classdict__" : Str)) = false := by decide)
    (ha : ∀ v, assign (.Subscript (.Name z p2) kx tpos) X.env v = (do
      let ov ← holding [v] (eval (.Name z p2) X.env)
      let iv ← holding [v, ov] (eval kx X.env)
      standAt tpos
      holding [v, ov, iv] (setItem ov iv v)
      release [v, ov, iv] []) := by intro _; rfl)
    (hs : swapsWithSole [.Subscript (.Name z p2) kx tpos] e pos.line X.env = pure false := by rfl) (hw : swappedStores [.Subscript (.Name z p2) kx tpos] e X.env = pure none := by rfl)
    (h1 : (assignEach [.Subscript (.Name z p2) kx tpos] X.env).map (·.2) = [assign (.Subscript (.Name z p2) kx tpos) X.env] := by rfl) :
    PS X (.Assign [.Subscript (.Name z p2) kx tpos] e pos) (rdS c Wx fu (.setix i ek ee)) := s_setix hN hv hd hcd hk he ha hs hw h1
theorem z_fld (i : Nat) {z f : Str} {e : Expr} {ee : E} {p2 p3 : Pos} (n : Cn c Wx k X) (hc : ∀ n C, c.ca n = some C → Cls c.K C ∧ NoAttr c.K C f) (he : PE X e (rdE c Wx ee)) (hv : Vis X.env.scope z) (hN : X.N[i]? = some z := by rfl) (hd : (z == ("__debug__" : Str)) = false := by decide) (hcd : (z == ("__classdict__" : Str)) = false := by decide)
    (hs : swapsWith e (some (.Attribute (.Name z p2) f p3)) pos.line X.env = pure false := by rfl) : PS X (.Assign [.Attribute (.Name z p2) f p3] e pos) (rdS c Wx fu (.fld i f ee)) := s_fld n.hk hN hv hd hcd he hc hs
theorem z_for {tg iter : Expr} {body : List Stmt} {pt : Pat} {src : E} {g : TG} {b : S} {own : List Nat} (n : Cn c Wx k X) (hp : PassesOwn (model X.prog X.w) X.A X.env X.xe) (hi : PI X tg iter (rdI c Wx src)) (hg : PG X tg g) (gk : GOk c pt own g) (hb : PSs X body (rdS c Wx fu b))
    (hs : ∀ x, foldedSetIterable iter X.env x = pure x := by intro _; rfl) : PS X (.For tg iter body [] pos) (rdS c Wx fu (.for pt src b)) := s_for hp n.calm hi hg gk hb hs
end
end Z

namespace Z
open PySem PySem.Spec PyProof.Rows L2
open Classical
section
variable {c : Pm} {Wx : WX} {X : Cx} {fu n k : Nat} {pos : Pos} {a : E} {e : Expr} {es : List Expr} {p : Pos}
theorem x_len (n : Cn c Wx k X) (hm : X.mg "len" = none) (ha : PA X (e :: es) (rdL c Wx a)) (hg : Gl X "len" := by rfl) (he : starEach (e :: es) X.env = (false, eval e X.env) :: starEach es X.env := by rfl) (hpl : (backTo pos (starEach es X.env)).any (·.1) = false := by rfl) :
    PE X (.Call (.Name "len" p) (e :: es) [] pos) (rdE c Wx (.bi .len a)) := x_biB n len_ok (n.hk ▸ call_len) boot_len hm ha hg (by decide) (by decide) he hpl
theorem x_list (n : Cn c Wx k X) (hm : X.mg "list" = none) (ha : PA X (e :: es) (rdL c Wx a)) (hg : Gl X "list" := by rfl) (he : starEach (e :: es) X.env = (false, eval e X.env) :: starEach es X.env := by rfl) (hpl : (backTo pos (starEach es X.env)).any (·.1) = false := by rfl) :
    PE X (.Call (.Name "list" p) (e :: es) [] pos) (rdE c Wx (.bi .list a)) := x_biT n list_ok (n.hk ▸ call_list_of) boot_list hm ha hg (by decide) (by decide) he hpl
theorem x_tuple (n : Cn c Wx k X) (hm : X.mg "tuple" = none) (ha : PA X (e :: es) (rdL c Wx a)) (hg : Gl X "tuple" := by rfl) (he : starEach (e :: es) X.env = (false, eval e X.env) :: starEach es X.env := by rfl) (hpl : (backTo pos (starEach es X.env)).any (·.1) = false := by rfl) :
    PE X (.Call (.Name "tuple" p) (e :: es) [] pos) (rdE c Wx (.bi .tuple a)) := x_biT n tuple_ok (n.hk ▸ call_tuple_of) boot_tuple hm ha hg (by decide) (by decide) he hpl
theorem x_int (n : Cn c Wx k X) (hm : X.mg "int" = none) (ha : PA X (e :: es) (rdL c Wx a)) (hg : Gl X "int" := by rfl) (he : starEach (e :: es) X.env = (false, eval e X.env) :: starEach es X.env := by rfl) (hpl : (backTo pos (starEach es X.env)).any (·.1) = false := by rfl) :
    PE X (.Call (.Name "int" p) (e :: es) [] pos) (rdE c Wx (.bi .int a)) := x_biT n int_ok call_int1 boot_int hm ha hg (by decide) (by decide) he hpl
theorem x_abs (n : Cn c Wx k X) (hm : X.mg "abs" = none) (ha : PA X (e :: es) (rdL c Wx a)) (hg : Gl X "abs" := by rfl) (he : starEach (e :: es) X.env = (false, eval e X.env) :: starEach es X.env := by rfl) (hpl : (backTo pos (starEach es X.env)).any (·.1) = false := by rfl) :
    PE X (.Call (.Name "abs" p) (e :: es) [] pos) (rdE c Wx (.bi .abs a)) := x_biB n abs_ok call_abs boot_abs hm ha hg (by decide) (by decide) he hpl
theorem x_min (n : Cn c Wx k X) (hm : X.mg "min" = none) (ha : PA X (e :: es) (rdL c Wx a)) (hg : Gl X "min" := by rfl) (he : starEach (e :: es) X.env = (false, eval e X.env) :: starEach es X.env := by rfl) (hpl : (backTo pos (starEach es X.env)).any (·.1) = false := by rfl) :
    PE X (.Call (.Name "min" p) (e :: es) [] pos) (rdE c Wx (.bi .min a)) := x_biB n min_ok (call_min2 n.calm) boot_min hm ha hg (by decide) (by decide) he hpl
theorem x_max (n : Cn c Wx k X) (hm : X.mg "max" = none) (ha : PA X (e :: es) (rdL c Wx a)) (hg : Gl X "max" := by rfl) (he : starEach (e :: es) X.env = (false, eval e X.env) :: starEach es X.env := by rfl) (hpl : (backTo pos (starEach es X.env)).any (·.1) = false := by rfl) :
    PE X (.Call (.Name "max" p) (e :: es) [] pos) (rdE c Wx (.bi .max a)) := x_biB n max_ok (call_max2 n.calm) boot_max hm ha hg (by decide) (by decide) he hpl
theorem x_all (n : Cn c Wx k X) (hm : X.mg "all" = none) (ha : PA X (e :: es) (rdL c Wx a)) (hg : Gl X "all" := by rfl) (he : starEach (e :: es) X.env = (false, eval e X.env) :: starEach es X.env := by rfl) (hpl : (backTo pos (starEach es X.env)).any (·.1) = false := by rfl) :
    PE X (.Call (.Name "all" p) (e :: es) [] pos) (rdE c Wx (.bi .all a)) := x_biB n all_ok (n.hk ▸ cr_all n.calm) boot_all hm ha hg (by decide) (by decide) he hpl
theorem x_sum (n : Cn c Wx k X) (hm : X.mg "sum" = none) (ha : PA X (e :: es) (rdL c Wx a)) (hg : Gl X "sum" := by rfl) (he : starEach (e :: es) X.env = (false, eval e X.env) :: starEach es X.env := by rfl) (hpl : (backTo pos (starEach es X.env)).any (·.1) = false := by rfl) :
    PE X (.Call (.Name "sum" p) (e :: es) [] pos) (rdE c Wx (.bi .sum a)) := x_biB n sum_ok (n.hk ▸ cr_sum n.calm) boot_sum hm ha hg (by decide) (by decide) he hpl
structure RaiseF (c : Pm) (mg : Str → Option Value) (nm : Str) : Prop where
  ex : ∃ (C : Addr) (B newId initId : String) (bmB : List Value), ExcBaseFacts B newId initId bmB ∧ PySem.W.excIn c.K C bmB newId = true ∧ mg nm = some (.ref C) ∧ PySem.W.keepIn c.K (.ref C) = true ∧ PySem.W.subIn c.K (.ref C) (.type "BaseException") = some true ∧ PySem.W.typeIn c.K (.ref C) = some (.type "type") ∧ c.cx nm = some C
theorem z_raise {x m : Str} {j : Nat} {p p2 pos2 : Pos} (n : Cn c Wx k X) (h : RaiseF c X.mg x) (hg : Gl X x := by rfl) (hdb : (x == ("__debug__" : Str)) = false := by decide) : PS X (.Raise (some (.Call (.Name x p) [.Constant (.str m) j p2] [] pos2)) none pos) (rdS c Wx fu (.raise x [] .nil)) := by
  obtain ⟨C, B, ni, ii, bm, h1, h2, h3, h4, h5, h6, h7⟩ := h.ex
  rw [← n.hk] at h2 h4 h5 h6
  exact s_raise n.calm n.tk h1 h2 h3 h4 (raises_own h5 h6) hg hdb h7
theorem z_popp (i j : Nat) {z zj : Str} {b : Expr} {bs : List Expr} {p2 pj apos cpos apos2 cpos2 : Pos} (n : Cn c Wx k X) (ha : PA X (b :: bs) (rdL c Wx a)) (hvj : Vis X.env.scope zj) (hv : Vis X.env.scope z) (hNj : X.N[i]? = some zj := by rfl) (hN : X.N[j]? = some z := by rfl)
    (hdj : (zj == ("__debug__" : Str)) = false := by decide) (hcdj : (zj == ("__classdict__" : Str)) = false := by decide) (hd : (z == ("__debug__" : Str)) = false := by decide) (hcd : (z == ("__classdict__" : Str)) = false := by decide)
    (hbase : attributeBase (.Name z p2) "pop" X.env (eval (.Name z p2) X.env) = eval (.Name z p2) X.env := by rfl)
    (hfew : ((backTo cpos (starEach (b :: bs) X.env)).all (fun x => !x.1) && (backToKw cpos (keywordEach [] X.env)).all (fun x => x.1.isSome)
      && decide ((b :: bs).length + ([] : List Keyword).length + (if ([] : List Keyword).isEmpty then 0 else 1) < 30)) = true := by rfl)
    (hline : (apos.endLine == cpos.line) = true := by rfl) (hs : starEach (b :: bs) X.env = (false, eval b X.env) :: starEach bs X.env := by rfl) (hpl : (backTo cpos (starEach bs X.env)).any (·.1) = false := by rfl)
    (hbase2 : attributeBase (.Name zj pj) "append" X.env (eval (.Name zj pj) X.env) = eval (.Name zj pj) X.env := by rfl)
    (hfew2 : ((backTo cpos2 (starEach [.Call (.Attribute (.Name z p2) "pop" apos) (b :: bs) [] cpos] X.env)).all (fun x => !x.1) && (backToKw cpos2 (keywordEach [] X.env)).all (fun x => x.1.isSome)
      && decide (([.Call (.Attribute (.Name z p2) "pop" apos) (b :: bs) [] cpos] : List Expr).length + ([] : List Keyword).length + (if ([] : List Keyword).isEmpty then 0 else 1) < 30)) = true := by rfl)
    (hline2 : (apos2.endLine == cpos2.line) = true := by rfl) (hs2 : starEach [.Call (.Attribute (.Name z p2) "pop" apos) (b :: bs) [] cpos] X.env = [(false, eval (.Call (.Attribute (.Name z p2) "pop" apos) (b :: bs) [] cpos) X.env)] := by rfl)
    (hsw : swapsWith (.Call (.Attribute (.Name zj pj) "append" apos2) [.Call (.Attribute (.Name z p2) "pop" apos) (b :: bs) [] cpos] [] cpos2) none pos.line X.env = pure false := by rfl) :
    PS X (.Expr (.Call (.Attribute (.Name zj pj) "append" apos2) [.Call (.Attribute (.Name z p2) "pop" apos) (b :: bs) [] cpos] [] cpos2) pos) (rdS c Wx fu (.popp i j a)) :=
  s_popp n.hk hNj hvj hdj hcdj hN hv hd hcd ha hbase hfew hline hs hpl hbase2 hfew2 hline2 hs2 hsw
theorem z_setLc (i : Nat) {y : Str} {py : Pos} {tg it elt : Expr} {ifs : List Expr} {scope : Scope} {own : List (Str × Nat)} {pt : Pat} {g : TG} {src tst el : E} {cpos : Pos} (n : Cn c Wx k X) (hi : PI X tg it (rdI c Wx src)) (gk : GOk c pt (own.map (·.2)) g) (ok : blkC X.N X.env.scope scope own = true)
    (hg : ∀ (s : Shared) (H : Hp) (C : Addr) (cl : List (Str × Addr)) (fp : List Addr), PG (X.blk s H scope (compEnvC scope cl C X.env) fp) tg g) (ht : ∀ (s : Shared) (H : Hp) (C : Addr) (cl : List (Str × Addr)) (fp : List Addr), PTs (X.blk s H scope (compEnvC scope cl C X.env) fp) ifs (rdA c WXF tst))
    (he : ∀ (s : Shared) (H : Hp) (C : Addr) (cl : List (Str × Addr)) (fp : List Addr), PE (X.blk s H scope (compEnvC scope cl C X.env) fp) elt (rdE c WXF el)) (hy : X.N[i]? = some y := by rfl) (hyl : X.env.scope.names.lookup y = some .local := by rfl)
    (hsw : swapsWith (.ListComp elt [⟨tg, it, ifs, 0⟩] scope cpos) (some (.Name y py)) pos.line X.env = pure true := by rfl) (hs : ∀ x, foldedSetIterable it X.env x = pure x := by intro _; rfl) :
    PS X (.Assign [.Name y py] (.ListComp elt [⟨tg, it, ifs, 0⟩] scope cpos) pos) (rdS c Wx fu (.asg i (.lc el pt src tst (own.map (·.2))))) := by
  refine ps_wk (ps_setLc n.calm n.nd hy hyl hsw hi (blkOk_by ok) hg ht he hs) fun D σ H ⟨F0, H0, ρ, F, W, R, hP⟩ => ?_
  simp only [evS] at hP
  exact lc_ok n.calm n.nd hi (blkOk_by ok) gk (st_e R hP fun v W1 u F1 H1 S1 V1 R1 hP => hP _ _ _ (R.put R1 V1) fun a o q => Fz_up R1.stp.sub _ _ (S1.f _ _ q))
end
end Z

namespace Z
open PySem PySem.Spec PyProof.Rows L2
open Classical
section
variable {c : Pm} {Wx : WX} {X : Cx} {fu n k : Nat} {W W' W1 W2 W3 : Dr} {F0 H0 F H F' H' F1 H1 F2 H2 F3 H3 Hs : Hp} {ρ ρ' : En} {σ σ' : L2.St} {u w : V} {x y v : Vl} {Q : VK} {us : List V} {vs : List Vl} {pos : Pos}
theorem dl_kind {a : Addr} (d : DrawAt c W H) (h : a ∈ c.dl) : (∃ kvs, H a = some (.dK kvs)) ∨ ∃ xs, H a = some (.lst xs) := by
  rcases d with q | ⟨a0, a1, q, _, e0, e1⟩
  · rw [q] at h; cases h
  · rw [q] at h
    simp only [List.mem_cons, List.not_mem_nil, or_false] at h
    rcases h with rfl | rfl
    · exact .inl ⟨_, e0⟩
    · exact .inr ⟨_, e1⟩
theorem Stp.drw (S : Stp c W F H F H) (hH : ∀ a, a ∉ c.dl → H' a = H a) (d : DrawAt c W' H') (hc : W'.cells = W.cells) : Stp c W' F H F H' := by
  refine ⟨Same.refl _, fun a o e => ?_, fun a o e m _ => (hH a (mv_dl m)).trans e, fun _ e _ => e, S.nt, S.av, d, fun hd => by rw [hc]; exact S.cl hd, fun p hp => ?_⟩
  · have m : a ∉ c.dl := fun z => by rw [S.av a (List.mem_append_left _ z)] at e; cases e
    exact (hH a m).trans (S.sub _ _ e)
  · obtain ⟨ps, e1, e2, e3⟩ := S.tabs p hp
    refine ⟨ps, ?_, e2, fun pos cv hv => ?_⟩
    · rw [hH _ fun z => ?_]; exact e1
      rcases dl_kind S.dr z with ⟨_, k⟩ | ⟨_, k⟩ <;> rw [e1] at k <;> cases k
    · obtain ⟨cc, k1, k2⟩ := e3 pos cv hv
      refine ⟨cc, k1, ?_⟩
      rw [hH _ fun z => ?_]; exact k2
      rcases dl_kind S.dr z with ⟨_, k⟩ | ⟨_, k⟩ <;> rw [k2] at k <;> cases k
theorem val_drw (R : Rel c F0 H0 ρ σ F H W) (k : ValOk c ρ σ Hs F H u v) (e : v.d = .drw) : ∃ a0 a1, u = .ref a0 ∧ c.dl = [a0, a1] ∧ a0 ≠ a1 ∧ H a0 = some (.dK (drK W a1 c.d2)) ∧ H a1 = some (.lst (W.wide.map .int)) ∧ F c.d2 = some (.lst (W.cells.map .int)) := by
  have a := k.rep R e fun _ _ _ h => h
  cases a with
  | drw h =>
    rcases R.stp.dr with q | ⟨a0, a1, q, n, e0, e1⟩
    · rw [q] at h; cases h
    · rw [q] at h
      cases h
      exact ⟨_, a1, rfl, q, n, e0, e1, R.stp.cl (by rw [q]; simp)⟩
theorem ne_wide_cells : ¬ Str.ofString "wide" = Str.ofString "cells" := by decide
theorem ne_wide_rest : ¬ Str.ofString "wide" = Str.ofString "rest" := by decide
theorem ne_wide_turn : ¬ Str.ofString "wide" = Str.ofString "turn" := by decide
theorem ne_cells_wide : ¬ Str.ofString "cells" = Str.ofString "wide" := by decide
theorem ne_cells_rest : ¬ Str.ofString "cells" = Str.ofString "rest" := by decide
theorem ne_cells_turn : ¬ Str.ofString "cells" = Str.ofString "turn" := by decide
theorem ne_rest_wide : ¬ Str.ofString "rest" = Str.ofString "wide" := by decide
theorem ne_rest_cells : ¬ Str.ofString "rest" = Str.ofString "cells" := by decide
theorem ne_rest_turn : ¬ Str.ofString "rest" = Str.ofString "turn" := by decide
theorem ne_turn_wide : ¬ Str.ofString "turn" = Str.ofString "wide" := by decide
theorem ne_turn_cells : ¬ Str.ofString "turn" = Str.ofString "cells" := by decide
theorem ne_turn_rest : ¬ Str.ofString "turn" = Str.ofString "rest" := by decide
def kRest : Key := Sum.inr "rest"
def kTurn : Key := Sum.inr "turn"
def kWide : Key := Sum.inr "wide"
def kCells : Key := Sum.inr "cells"
theorem dr_rest {a1 a2 : Addr} : valV (drK W a1 a2) kRest = some (.int W.rest) := by simp [valV, drK, kRest, ne_wide_cells, ne_wide_rest, ne_wide_turn, ne_cells_wide, ne_cells_rest, ne_cells_turn, ne_rest_wide, ne_rest_cells, ne_rest_turn, ne_turn_wide, ne_turn_cells, ne_turn_rest]
theorem dr_turn {a1 a2 : Addr} : valV (drK W a1 a2) kTurn = some (.int W.turn) := by simp [valV, drK, kTurn, ne_wide_cells, ne_wide_rest, ne_wide_turn, ne_cells_wide, ne_cells_rest, ne_cells_turn, ne_rest_wide, ne_rest_cells, ne_rest_turn, ne_turn_wide, ne_turn_cells, ne_turn_rest]
theorem dr_wide {a1 a2 : Addr} : valV (drK W a1 a2) kWide = some (.ref a1) := by simp [valV, drK, kWide, ne_wide_cells, ne_wide_rest, ne_wide_turn, ne_cells_wide, ne_cells_rest, ne_cells_turn, ne_rest_wide, ne_rest_cells, ne_rest_turn, ne_turn_wide, ne_turn_cells, ne_turn_rest]
theorem dr_cells {a1 a2 : Addr} : valV (drK W a1 a2) kCells = some (.ref a2) := by simp [valV, drK, kCells, ne_wide_cells, ne_wide_rest, ne_wide_turn, ne_cells_wide, ne_cells_rest, ne_cells_turn, ne_rest_wide, ne_rest_cells, ne_rest_turn, ne_turn_wide, ne_turn_cells, ne_turn_rest]
theorem dr_prest {a1 a2 : Addr} {j : Int} : putK (drK W a1 a2) kRest (.int j) = drK { W with rest := j } a1 a2 := by simp [putK, drK, kRest, ne_wide_cells, ne_wide_rest, ne_wide_turn, ne_cells_wide, ne_cells_rest, ne_cells_turn, ne_rest_wide, ne_rest_cells, ne_rest_turn, ne_turn_wide, ne_turn_cells, ne_turn_rest]
theorem dr_pturn {a1 a2 : Addr} {j : Int} : putK (drK W a1 a2) kTurn (.int j) = drK { W with turn := j } a1 a2 := by simp [putK, drK, kTurn, ne_wide_cells, ne_wide_rest, ne_wide_turn, ne_cells_wide, ne_cells_rest, ne_cells_turn, ne_rest_wide, ne_rest_cells, ne_rest_turn, ne_turn_wide, ne_turn_cells, ne_turn_rest]
theorem x_drg (kk : Bool) {a : Expr} {ea : E} {j : Nat} {p2 : Pos} (n : Cn c Wx k X) (ha : PE X a (rdE c Wx ea)) (hs : NoSl (.Constant (.str (if kk then "turn" else "rest")) j p2) := by exact fun _ _ => rfl) :
    PE X (.Subscript a (.Constant (.str (if kk then "turn" else "rest")) j p2) pos) (rdE c Wx (.drg kk ea)) := by
  refine pe_wk (pe_dget (by have := n.hu; omega) ha pe_str hs) fun σ H Q ⟨F0, H0, ρ, F, W, R, hP⟩ => ?_
  simp only [ev] at hP
  refine rd_e R R.refl hP fun x W1 u F1 H1 S1 _ V1 R1 hP => ?_
  cases e : x.d <;> rw [e] at hP <;> try (exact hP.elim)
  obtain ⟨a0, a1, rfl, e1, e2, e3, e4, e5⟩ := val_drw R1 V1 e
  cases kk with
  | true => exact ⟨a0, _, rfl, dr_turn (W := W1) ▸ DGet.k (k := kTurn) e3, fin_sc R1 S1 hP (.int _)⟩
  | false => exact ⟨a0, _, rfl, dr_rest (W := W1) ▸ DGet.k (k := kRest) e3, fin_sc R1 S1 hP (.int _)⟩
theorem x_drc {a : Expr} {ea : E} {j : Nat} {p2 : Pos} (n : Cn c Wx k X) (ha : PE X a (rdE c Wx ea)) (hs : NoSl (.Constant (.str "cells") j p2) := by exact fun _ _ => rfl) :
    PE X (.Subscript a (.Constant (.str "cells") j p2) pos) (rdE c Wx (.drc ea)) := by
  refine pe_wk (pe_dget (by have := n.hu; omega) ha pe_str hs) fun σ H Q ⟨F0, H0, ρ, F, W, R, hP⟩ => ?_
  simp only [ev] at hP
  refine rd_e R R.refl hP fun x W1 u F1 H1 S1 _ V1 R1 hP => ?_
  cases e : x.d <;> rw [e] at hP <;> try (exact hP.elim)
  obtain ⟨a0, a1, rfl, e1, e2, e3, e4, e5⟩ := val_drw R1 V1 e
  refine ⟨a0, _, rfl, dr_cells (W := W1) ▸ DGet.k (k := kCells) e3, fin_sc R1 S1 hP (.lst e5 ?_)⟩
  have go : ∀ l : List Int, RepL c F1 (l.map V.int) (l.map D.int) := fun l => by
    induction l with
    | nil => exact .nil
    | cons y l ih => exact .cons (.int y) ih
  exact go _
theorem ints_dp {K : PySem.W.Frag} : ∀ l : List Int, DpAll K H (l.map V.int) (l.map PyData.int)
  | [] => .nil
  | _ :: l => .cons (.int _) (ints_dp l)
theorem pyN_ints : ∀ (m : Nat) (l : List Int), D.pyNL m (l.map D.int) = some (l.map PyData.int)
  | m, [] => by simp [D.pyNL]
  | m, y :: l => by simp [D.pyNL, D.pyN, pyN_ints m l]
theorem drn_ok {ea : E} {Wx : WX} (hk : X.K = c.K) (h : rdE c Wx (.drn ea) σ H Q) : tOp (rEqP X.K true) (tDGet (rdE c Wx ea) (tC (.str "wide"))) (tLst tNil) σ H Q := by
  obtain ⟨F0, H0, ρ, F, W, R, hP⟩ := h
  simp only [ev] at hP
  refine rd_e R R.refl hP fun x W1 u F1 H1 S1 _ V1 R1 hP => ?_
  cases e : x.d <;> rw [e] at hP <;> try (exact hP.elim)
  obtain ⟨a0, a1, rfl, e1, e2, e3, e4, e5⟩ := val_drw R1 V1 e
  refine ⟨a0, _, rfl, dr_wide (W := W1) ▸ DGet.k (k := kWide) e3, Nat.zero_le _, fun p hp => ?_⟩
  have S2 := R1.refl.make (o := .lst []) hp
  have ne : a1 ≠ p := fun z => by rw [z, hp] at e4; cases e4
  have h4 : (upd H1 p (.lst [])) a1 = some (.lst (W1.wide.map .int)) := by rw [upd_ne ne]; exact e4
  obtain ⟨p1, p2⟩ := pyN_ok 12 (.lst (W1.wide.map .int)) (.list (W1.wide.map .int)) (by simp [D.pyN, pyN_ints])
  refine ⟨.list (W1.wide.map .int), .list [], .lst (.inl (.inl h4)) (ints_dp _), .lst (.inl (.inl upd_same)) .nil, p1, rfl, by omega, ?_⟩
  rw [if_pos rfl]
  have q := fin_sc (u := .bl (!W1.wide.isEmpty)) (R1.step S2) (S1.trans S2) hP (.bl _)
  have eq : PyData.eqv (.list (W1.wide.map .int)) (.list []) = W1.wide.isEmpty := by
    cases W1.wide with
    | nil => rfl
    | cons y l => rfl
  rw [eq]
  exact q
theorem y_drn {a : Expr} {ea : E} {j : Nat} {p2 p3 p4 : Pos} (n : Cn c Wx k X) (ha : PE X a (rdE c Wx ea)) (hs : NoSl (.Constant (.str "wide") j p2) := by exact fun _ _ => rfl) (hm : behindInMarks .NotEq (.List [] p3) = false := by first | exact nobehind _ (by decide) (by decide) | rfl) :
    PT X (.Compare (.Subscript a (.Constant (.str "wide") j p2) p4) [.NotEq] [.List [] p3] pos) (rdT c Wx (.tv (.drn ea))) := by
  refine pt_wk (pt_cmpR (op_neP n.hu) (pe_dget (by have := n.hu; omega) ha pe_str hs) (pe_lst pa_nil) hm) fun σ H Q ⟨F0, H0, ρ, F, W, R, hP⟩ => ?_
  simp only [evT] at hP
  refine drn_ok (c := c) (Wx := Wx) n.hk ⟨F0, H0, ρ, F, W, R, ?_⟩
  cases e : ev (.drn ea) ρ W with
  | stk => rw [e] at hP; exact hP.elim
  | ex x W1 => rw [e] at hP; exact hP
  | ok x W1 =>
    rw [e] at hP
    intro u F1 H1 S1 V1
    cases ed : x.d <;> (simp only [Out.bind, ed, D.isBl, ofO] at hP) <;> try (exact hP.elim)
    rename_i b
    exact ⟨b, V1.bl (R.step S1) ed, hP b F1 H1 S1 rfl⟩
theorem x_drp {a : Expr} {ea : E} {j j2 : Nat} {p2 p3 p4 apos cpos : Pos} (n : Cn c Wx k X) (ha : PE X a (rdE c Wx ea)) (hs : NoSl (.Constant (.str "wide") j p2) := by exact fun _ _ => rfl)
    (hbase : attributeBase (.Subscript a (.Constant (.str "wide") j p2) p4) "pop" X.env (eval (.Subscript a (.Constant (.str "wide") j p2) p4) X.env) = eval (.Subscript a (.Constant (.str "wide") j p2) p4) X.env := by rfl)
    (hfew : ((backTo cpos (starEach [.Constant (.int 0) j2 p3] X.env)).all (fun x => !x.1) && (backToKw cpos (keywordEach [] X.env)).all (fun x => x.1.isSome)
      && decide (([.Constant (.int 0) j2 p3] : List Expr).length + ([] : List Keyword).length + (if ([] : List Keyword).isEmpty then 0 else 1) < 30)) = true := by rfl)
    (hline : (apos.endLine == cpos.line) = true := by rfl) (hst : starEach [.Constant (.int 0) j2 p3] X.env = (false, eval (.Constant (.int 0) j2 p3) X.env) :: starEach [] X.env := by rfl) :
    PE X (.Call (.Attribute (.Subscript a (.Constant (.str "wide") j p2) p4) "pop" apos) [.Constant (.int 0) j2 p3] [] cpos) (rdE c Wx (.drp ea)) := by
  refine pe_wk (pe_bm F.plainAttrs_list F.slot_list_pop (by rfl) mt_popAt (pe_dget (by have := n.hu; omega) ha pe_str hs) (pa_cons pe_int pa_nil hst) hbase hfew hline hst (by rfl)) fun σ H Q ⟨F0, H0, ρ, F, W, R, hP⟩ => ?_
  simp only [ev] at hP
  refine rd_e R R.refl hP fun x W1 u F1 H1 S1 _ V1 R1 hP => ?_
  cases e : x.d <;> rw [e] at hP <;> try (exact hP.elim)
  obtain ⟨a0, a1, rfl, e1, e2, e3, e4, e5⟩ := val_drw R1 V1 e
  cases ew : W1.wide with
  | nil => rw [ew] at hP; exact hP.elim
  | cons w ws =>
    rw [ew] at hP e4
    simp only at hP
    refine ⟨a0, .ref a1, rfl, dr_wide (W := W1) ▸ DGet.k (k := kWide) e3, (.inl ⟨rfl, _, .inl (.inl e4)⟩ : (_ ∧ _) ∨ _), a1, _, 0, 0, .int w, rfl, rfl, e4, by decide, by decide, by simp [seqIndex?], rfl, ?_⟩
    have S2 : Stp c { W1 with wide := ws } F1 H1 F1 (upd H1 a1 (.lst (ws.map .int))) := by
      refine Stp.drw R1.refl (fun a m => upd_ne fun z => m (by rw [e1, z]; simp)) (.inr ⟨a0, a1, e1, e2, ?_, upd_same⟩) rfl
      rw [upd_ne e2]
      exact e3
    exact fin_sc (R1.step S2) (S1.trans S2) hP (.int w)
theorem z_drs (kk : Bool) (i : Nat) {z : Str} {e : Expr} {ee : E} {j : Nat} {p2 p3 tpos : Pos} (n : Cn c Wx k X) (he : PE X e (rdE c Wx ee)) (hv : Vis X.env.scope z) (hN : X.N[i]? = some z := by rfl) (hd : (z == ("__debug__" : Str)) = false := by decide) (hcd : (z == ("__classdict__" : Str)) = false := by decide)
    (ha : ∀ v, assign (.Subscript (.Name z p2) (.Constant (.str (if kk then "turn" else "rest")) j p3) tpos) X.env v = (do
      let ov ← holding [v] (eval (.Name z p2) X.env)
      let iv ← holding [v, ov] (eval (.Constant (.str (if kk then "turn" else "rest")) j p3) X.env)
      standAt tpos
      holding [v, ov, iv] (setItem ov iv v)
      release [v, ov, iv] []) := by intro _; rfl)
    (hs : swapsWithSole [.Subscript (.Name z p2) (.Constant (.str (if kk then "turn" else "rest")) j p3) tpos] e pos.line X.env = pure false := by rfl) (hw : swappedStores [.Subscript (.Name z p2) (.Constant (.str (if kk then "turn" else "rest")) j p3) tpos] e X.env = pure none := by rfl)
    (h1 : (assignEach [.Subscript (.Name z p2) (.Constant (.str (if kk then "turn" else "rest")) j p3) tpos] X.env).map (·.2) = [assign (.Subscript (.Name z p2) (.Constant (.str (if kk then "turn" else "rest")) j p3) tpos) X.env] := by rfl) :
    PS X (.Assign [.Subscript (.Name z p2) (.Constant (.str (if kk then "turn" else "rest")) j p3) tpos] e pos) (rdS c Wx fu (.drs kk i ee)) := by
  refine ps_wk (ps_asg he (pg_sub (pe_var hN hv hd hcd) pe_str (set_dict (by have := n.hu; omega)) ha) hs hw h1) fun D σ H ⟨F0, H0, ρ, F, W, R, hP⟩ => ?_
  simp only [evS] at hP
  refine st_e R hP fun v W1 u F1 H1 S1 V1 R1 hP => ?_
  cases e0 : ρ[i]? with
  | none => rw [e0] at hP; exact hP.elim
  | some s =>
    rw [e0] at hP
    cases s with
    | un => exact hP.elim
    | own d => exact hP.elim
    | slf _ _ _ => exact hP.elim
    | val d =>
      cases d <;> try (exact hP.elim)
      cases e3 : v.d <;> rw [e3] at hP <;> try (exact hP.elim)
      rename_i m
      simp only at hP
      cases V1.int R1 e3
      obtain ⟨w, q1, q2⟩ := R1.slot i _ e0
      cases q2 with
      | drw hh =>
        rename_i b
        rcases R1.stp.dr with q | ⟨a0, a1, q, nn, f0, f1⟩
        · rw [q] at hh; cases hh
        · rw [q] at hh
          cases hh
          have sz : (drK W1 a1 c.d2).length < sizeLine := by rw [sizeLine_eq]; show 4 < 16777216; decide
          cases kk with
          | true =>
            have S2 : Stp c { W1 with turn := m } F1 H1 F1 (upd H1 b (.dK (drK { W1 with turn := m } a1 c.d2))) := by
              refine Stp.drw R1.refl (fun a m => upd_ne fun z => m (by rw [q, z]; simp)) (.inr ⟨b, a1, q, nn, upd_same, ?_⟩) rfl
              rw [upd_ne nn.symm]
              exact f1
            exact ⟨_, q1, b, _, rfl, DPut.k (k := kTurn) f0 sz, by rw [dr_pturn]; exact hP _ _ _ (R1.step S2) S1.f⟩
          | false =>
            have S2 : Stp c { W1 with rest := m } F1 H1 F1 (upd H1 b (.dK (drK { W1 with rest := m } a1 c.d2))) := by
              refine Stp.drw R1.refl (fun a m => upd_ne fun z => m (by rw [q, z]; simp)) (.inr ⟨b, a1, q, nn, upd_same, ?_⟩) rfl
              rw [upd_ne nn.symm]
              exact f1
            exact ⟨_, q1, b, _, rfl, DPut.k (k := kRest) f0 sz, by rw [dr_prest]; exact hP _ _ _ (R1.step S2) S1.f⟩
end
end Z

namespace Z
open PySem PySem.Spec PyProof.Rows L2
open Classical
def lcWide : E := (.lc (.bin .Sub (.bi .abs (.cons (.var 2) .nil)) (.bin .Pow (.cst (.int 10)) (.cst (.int 18)))) (.nm 2) (.wk (.var 0)) (.cons (.tv (.cmp .GtE (.bi .abs (.cons (.var 2) .nil)) (.bin .Pow (.cst (.int 10)) (.cst (.int 18))))) .nil) [2])
def lcCells : E := (.lc (.bin .Mod (.bi .int (.cons (.bi .abs (.cons (.var 2) .nil)) .nil)) (.cst (.int 2147483629))) (.nm 2) (.wk (.var 0)) .nil [2])
def absI (i : Int) : Int := if i < 0 then -i else i
def wideOf (ns : List Int) : List Int := ns.filterMap fun i => if (10 : Int) ^ 18 ≤ absI i then some (absI i - 10 ^ 18) else none
def cellsOf (ns : List Int) : List Int := ns.map fun i => absI i % 2147483629
theorem lcGo_fm {f : D → Dr → Out (Option Vl)} {g : Int → Option Int} {W : Dr} (hf : ∀ i, f (.int i) W = .ok ((g i).map fun j => ⟨.int j, .pl, []⟩) W) : ∀ (ns : List Int) (acc : List D), acc.length + ns.length ≤ cap →
    lcGo f (ns.map .int) acc [] W = .ok (vf (.lst (acc ++ (ns.filterMap g).map .int)) []) W
  | [], acc, _ => by simp [lcGo]
  | i :: ns, acc, h => by
    simp only [List.map_cons, lcGo, hf]
    rw [List.length_cons] at h
    cases e : g i with
    | none =>
      simp only [Option.map_none, List.filterMap_cons, e]
      exact lcGo_fm hf ns acc (by omega)
    | some j =>
      simp only [Option.map_some, List.filterMap_cons, e]
      rw [if_pos (by omega)]
      have q := lcGo_fm hf ns (acc ++ [.int j]) (by simp; omega)
      simp only [Vl.all, List.append_nil] at q ⊢
      rw [q]
      simp
theorem lc_eq {el src tst : E} {pt : Pat} {own : List Nat} {ρ : En} {W W1 : Dr} {xs : List D} {me : List Nat} (h : evI src ρ W = .ok ⟨xs, me, []⟩ W1) : ev (.lc el pt src tst own) ρ W = lcGo (fun x W => ofO (bindP pt x (wip ρ own)) fun ρ' => (evA tst ρ' W).bind fun b W => if b then (ev el ρ' W).bind fun v W => .ok (some v) W else .ok none W) xs [] [] W1 := by
  simp only [ev, h, Out.bind]
theorem abs_eq {i : Int} : absD [.int i] = some (false, .int (absI i)) := rfl
theorem ev_wide {ns : List Int} {W : Dr} (h : ns.length ≤ cap) : ev lcWide [.val (.scr ns), .un, .un] W = .ok (vf (.lst ((wideOf ns).map .int)) []) W := by
  unfold lcWide
  rw [lc_eq (xs := ns.map .int) (me := []) (W1 := W) (by simp [evI, ev, Out.bind, D.items, ofO, Vl.all])]
  refine lcGo_fm (g := fun i => if (10 : Int) ^ 18 ≤ absI i then some (absI i - 10 ^ 18) else none) (fun i => ?_) ns [] (by simpa using h)
  by_cases hi : (10 : Int) ^ 18 ≤ absI i
  · rw [if_pos hi]
    simp [bindP, ofO, wip, evA, evT, ev, evL, Out.bind, biD, abs_eq, ds, binD, big_eq, cmpD, D.isBl, vo, vl, D.imm] at hi ⊢
    simp [hi]
  · rw [if_neg hi]
    simp [bindP, ofO, wip, evA, evT, ev, evL, Out.bind, biD, abs_eq, ds, binD, big_eq, cmpD, D.isBl, vo, vl, D.imm] at hi ⊢
    simp [show ¬ ((1000000000000000000 : Int) ≤ absI i) by omega]
theorem ev_cells {ns : List Int} {W : Dr} {s : Sl} (h : ns.length ≤ cap) : ev lcCells [.val (.scr ns), s, .un] W = .ok (vf (.lst ((cellsOf ns).map .int)) []) W := by
  unfold lcCells
  rw [lc_eq (xs := ns.map .int) (me := []) (W1 := W) (by simp [evI, ev, Out.bind, D.items, ofO, Vl.all])]
  rw [lcGo_fm (g := fun i => some (absI i % 2147483629)) (fun i => ?_) ns [] (by simpa using h)]
  · simp [cellsOf, List.filterMap_eq_map']
  · simp [bindP, ofO, wip, evA, evT, ev, evL, Out.bind, biD, abs_eq, intD, ds, binD, big_eq, cmpD, D.isBl, vo, vl, D.imm]
section
variable {c : Pm} {Wx : WX} {X : Cx} {fu n k : Nat} {W W' W1 W2 W3 : Dr} {F0 H0 F H F' H' F1 H1 F2 H2 F3 H3 Hs : Hp} {ρ ρ' : En} {σ σ' : L2.St} {u w : V} {x y v : Vl} {Q : VK} {us : List V} {vs : List Vl} {pos : Pos}
abbrev Pm.bare (c : Pm) : Pm := { c with dl := [] }
abbrev Pm.at (c : Pm) (a0 a1 a2 : Addr) : Pm := { c with dl := [a0, a1], d2 := a2 }
def dr0 (ns : List Int) : Dr := ⟨false, wideOf ns, cellsOf ns, 0, 0⟩
noncomputable def noTb (H : Hp) : Hp := fun a => if ∃ ps, H a = some (.tbl ps) then none else H a
theorem noTb_dn {H : Hp} : Same (noTb H) H := fun a o e => by
  unfold noTb at e
  by_cases h : ∃ ps, H a = some (.tbl ps)
  · rw [if_pos h] at e; cases e
  · rw [if_neg h] at e; exact e
theorem noTb_in {H : Hp} {a : Addr} {ps : Array Value} (h : H a = some (.tbl ps)) : noTb H a = none := if_pos ⟨_, h⟩
theorem noTb_out {H : Hp} {a : Addr} {o : HO} (h : H a = some o) (n : Nt o) : noTb H a = some o := by
  unfold noTb
  rw [if_neg]
  · exact h
  · rintro ⟨ps, e⟩
    rw [h] at e
    exact n ps (Option.some.inj e)
theorem noTb_nt {H : Hp} {a : Addr} {o : HO} (h : noTb H a = some o) : Nt o := fun ps z => by
  subst z
  have := noTb_dn _ _ h
  rw [noTb_in this] at h
  cases h
theorem noTb_nil {H : Hp} {a : Addr} (h : ∀ o, H a = some o → ¬ Nt o) : noTb H a = none := by
  cases q : noTb H a with
  | none => rfl
  | some o => exact (h o (noTb_dn _ _ q) (noTb_nt q)).elim
theorem tb_kind {T : List (Addr × Str)} {H : Hp} {a : Addr} (t : LamX.Tabs T H) (h : a ∈ T.map (·.1)) : ∃ ps, H a = some (.tbl ps) := by
  obtain ⟨p, hp, rfl⟩ := List.mem_map.mp h
  obtain ⟨ps, e, _⟩ := t p hp
  exact ⟨ps, e⟩
theorem noTb_sqS {K : PySem.W.Frag} {H : Hp} {a : Addr} {vs : List V} (h : SqS K H a vs) : SqS K (noTb H) a vs := by
  rcases h with ⟨o, h⟩ | h | h
  · exact .inl ⟨o, noTb_out h fun _ z => by cases z⟩
  · exact .inr (.inl (noTb_out h nt_lst))
  · exact .inr (.inr h)
theorem bare_mv {a : Addr} (h : a ∈ c.bare.mv) : a ∈ c.tb.map (·.1) := by
  unfold Pm.mv at h
  exact (List.mem_append.mp h).elim (fun z => by cases z) id
theorem bare_stp {H : Hp} (t : LamX.Tabs c.tb H) : Stp c.bare W (noTb H) H (noTb H) H := ⟨Same.refl _, noTb_dn, fun _ _ e _ _ => e, fun _ e _ => e, fun _ _ h => noTb_nt h, fun a ha => by obtain ⟨ps, e⟩ := tb_kind t (bare_mv ha); exact noTb_in e, .inl rfl, fun z => absurd rfl z, t⟩
def SameB (c : Pm) (H H' : Hp) : Prop := ∀ a o, H a = some o → Nt o → a ∉ c.tb.map (·.1) → H' a = some o
def spBegun (c : Pm) : Sp := fun vs H Q _ => ∃ (s : Addr) (ns : List Int), vs = [.ref s] ∧ SqS c.K H s (ns.map V.int) ∧ ns.length ≤ 1000 ∧ LamX.Tabs c.tb H ∧ ∀ H' a0 a1 a2, SameB c H H' → LamX.Tabs c.tb H' → Nil H a0 → Nil H a1 → Nil H a2 → a0 ≠ a1 → a0 ≠ a2 → a1 ≠ a2 →
  H' a0 = some (.dK (drK (dr0 ns) a1 a2)) → H' a1 = some (.lst ((wideOf ns).map V.int)) → H' a2 = some (.lst ((cellsOf ns).map V.int)) → Q (.ref a0) H'
theorem repl_ints {c : Pm} {F : Hp} : ∀ {vs : List V} {l : List Int}, RepL c F vs (l.map D.int) → vs = l.map V.int
  | [], [], _ => rfl
  | v :: vs, y :: l, .cons h t => by rw [List.map_cons, h.intI, repl_ints t]
  | [], _ :: _, h => by cases h
  | _ :: _, [], h => by cases h
theorem begun_ok {E : XK} (h : spBegun c us H Q E) : tSeq (rdS c.bare WXF fu (.asg 1 lcWide)) (tRet (tDisp [(tC (.str "wide"), rdE c.bare WXF (.var 1)), (tC (.str "cells"), rdE c.bare WXF lcCells), (tC (.str "rest"), tC (.int 0)), (tC (.str "turn"), tC (.int 0))])) { nx := fun _ H' => Q .non H', rt := Q } (L2.start ["_law_script", "_law_wide", "_law_cell"] us) H := by
  obtain ⟨s, ns, rfl, hs, hl, ht, q⟩ := h
  have hcap : ns.length ≤ cap := by unfold cap; omega
  have R0 : Rel c.bare (noTb H) H [.val (.scr ns), .un, .un] (L2.start ["_law_script", "_law_wide", "_law_cell"] [.ref s]) (noTb H) H (dr0 ns) := by
    have r : RepL c.bare (noTb H) [.ref s] [.scr ns] := .cons (.scr (noTb_sqS hs)) .nil
    exact rel_start (N := ["_law_script", "_law_wide", "_law_cell"]) r (bare_stp ht)
  refine ⟨noTb H, H, _, noTb H, dr0 ns, R0, ?_⟩
  simp only [evS, ev_wide hcap, Out.st]
  have hput : put [.val (.scr ns), .un, .un] 1 (vf (.lst ((wideOf ns).map .int)) []) = [.val (.scr ns), .own (.lst ((wideOf ns).map .int)), .un] := by
    simp [put, frz, vf, Vl.isFr]
  rw [hput]
  intro σ1 F1 H1 R1 sF1
  obtain ⟨a1, j1, j2, j3, j4, ws, j5, j6⟩ := R1.own (i := 1) rfl
  cases repl_ints j6
  -- the dict
  intro p hp
  have S1 := R1.refl.make (o := .dK []) hp
  have R2 := R1.step S1
  have n1 : a1 ≠ p := fun z => by rw [z, hp] at j5; cases j5
  show rdE c.bare WXF (.var 1) σ1 _ _
  refine ⟨noTb H, H, _, F1, dr0 ns, R2, ?_⟩
  simp only [ev]
  intro u2 F2 H2 S2 V2
  have eu : u2 = .ref a1 := by
    obtain ⟨_, _, b3⟩ := V2.at_
    rw [j1] at b3
    exact (Option.some.inj (Option.some.inj b3)).symm
  subst eu
  have R3 := R2.step S2
  show rdE c.bare WXF lcCells σ1 H2 _
  refine ⟨noTb H, H, _, F2, dr0 ns, R3, ?_⟩
  rw [ev_cells hcap]
  intro u3 F3 H3 S3 V3
  have hv : ((vf (.lst ((cellsOf ns).map .int)) [] : Vl)) = ⟨.lst ((cellsOf ns).map .int), .fr, []⟩ := by simp [vf]
  rw [hv] at V3
  obtain ⟨a2, rfl, k2, k3, k4, ws, k5, k6⟩ := V3.at_
  cases repl_ints k6
  have R4 := R3.step S3
  have pmv : p ∉ c.bare.mv := fun z => R1.stp.sm z hp
  have hp2 : H2 p = some (.dK []) := S2.h _ _ upd_same pmv nt_dK
  have hp3 : H3 p = some (.dK []) := S3.h _ _ hp2 pmv nt_dK
  have ha2 : H2 a1 = some (.lst ((wideOf ns).map V.int)) := S2.h _ _ (by rw [upd_ne n1]; exact j5) j3 nt_lst
  have ha3 : H3 a1 = some (.lst ((wideOf ns).map V.int)) := S3.h _ _ ha2 j3 nt_lst
  have n2 : a2 ≠ p := fun z => k4 (by rw [z]; exact .dK hp2)
  have n3 : a1 ≠ a2 := fun z => k4 (by rw [← z]; exact .lst ha2)
  refine ⟨hp3, [(kWide, .ref a1), (kCells, .ref a2), (kRest, .int 0), (kTurn, .int 0)], rfl, (by show 4 ≤ 15; decide), ?_⟩
  have hm : mergeK [] [(kWide, .ref a1), (kCells, .ref a2), (kRest, .int 0), (kTurn, .int 0)] = drK (dr0 ns) a1 a2 := by
    simp [mergeK, putK, drK, dr0, kWide, kCells, kRest, kTurn, ne_wide_cells, ne_wide_rest, ne_wide_turn, ne_cells_wide, ne_cells_rest, ne_cells_turn, ne_rest_wide, ne_rest_cells, ne_rest_turn, ne_turn_wide, ne_turn_cells, ne_turn_rest]
  rw [hm]
  have sf : SameB c H H3 := fun b o e n nb => R4.stp.h _ _ e (fun z => nb (bare_mv z)) n
  refine q _ p a1 a2 (fun b o e n nb => ?_) (tabs_set R4.stp.tabs (fun z => pmv (List.mem_append_right _ z)) fun q z => by rw [hp3] at z; cases z) (R1.stp.keepN pmv (.of hp)) j4 (R3.stp.keepN k3 k4) n1.symm n2.symm n3 upd_same (by rw [upd_ne n1]; exact ha3) (by rw [upd_ne n2]; exact k5)
  rw [upd_ne fun z => by
    have q := R1.stp.h b o e (by rw [z]; exact pmv) n
    rw [z, hp] at q
    cases q]
  exact sf _ _ e n nb
def spLaw (c : Pm) : Sp := fun vs H Q _ => ∃ (s : Addr) (ns : List Int), vs = [.ref s] ∧ SqS c.K H s (ns.map V.int) ∧ (ns.length ≤ 63) ∧ LamX.Tabs c.tb H ∧ ∀ H', Q (.bl true) H'
theorem sqS_of {K : PySem.W.Frag} {H : Hp} {s : Addr} {vs : List V} (h : SqL K H s vs) : SqS K H s vs := by
  rcases h with (h | h) | h
  · exact .inr (.inl h)
  · exact .inl h
  · exact .inr (.inr fun _ => .inr h)
def law0 (m i : Nat) (ns : List Int) : En := (.val (.scr ns) :: List.replicate m .un).set i (.val .drw)
theorem frame_ok {N : List Str} {m i : Nat} {b : S} {E : XK} {Wx : WX} (hN : N.length = m + 1) (hi : 0 < i) (hi2 : i ≤ m) (h : spLaw c us H Q E)
    (run : ∀ ns : List Int, ns.length ≤ 63 → ∃ ρ' W', evS fu b (law0 m i ns) (dr0 ns) = .rt ⟨.bl true, .pl, []⟩ ρ' W') :
    tSeq (tAsg (tCallS (spBegun c) (WE Wx) (tCons (tVar 0) tNil)) (gName i)) (fun D σ H => ∃ a0 a1 a2, rdS (c.at a0 a1 a2) Wx fu b D σ H) { nx := fun _ H' => Q .non H', rt := Q } (L2.start N us) H := by
  obtain ⟨s, ns, rfl, hs, hl, ht, q⟩ := h
  refine ⟨.ref s, rfl, s, ns, rfl, hs, by omega, ht, fun H' a0 a1 a2 sH ht' h0 h1 h2 n01 n02 n12 e0 e1 e2 => ?_⟩
  obtain ⟨ρ', W', hr⟩ := run ns hl
  have strong : ∀ a o', Nil H a → H' a = some o' → Ob o' → ∀ o, H a = some o → ¬ Nt o := fun a o' hn e' ob o e n => by
    have hb : a ∉ c.tb.map (·.1) := fun z => by
      obtain ⟨ps, y⟩ := tb_kind ht' z
      rw [e'] at y
      cases y
      exact ob.1 ps rfl
    have q := sH a o e n hb
    rw [e'] at q
    cases q
    exact hn.no e ob
  have s0 := strong a0 _ h0 e0 ob_dK
  have s1 := strong a1 _ h1 e1 ob_lst
  have s2 := strong a2 _ h2 e2 ob_lst
  let F : Hp := fun a => if a = a2 then H' a2 else noTb H a
  have F2 : F a2 = some (.lst ((cellsOf ns).map V.int)) := by show (if a2 = a2 then _ else _) = _; rw [if_pos rfl]; exact e2
  have Fo : ∀ a, a ≠ a2 → F a = noTb H a := fun a z => if_neg z
  have sF : Same F H' := fun a o e => by
    by_cases z : a = a2
    · subst z; rw [F2] at e; rw [e2]; exact e
    · rw [Fo a z] at e
      by_cases y : a ∈ c.tb.map (·.1)
      · obtain ⟨ps, y⟩ := tb_kind ht y
        rw [noTb_in y] at e; cases e
      · exact sH _ _ (noTb_dn _ _ e) (noTb_nt e) y
  have sHF : Same (noTb H) F := fun a o e => by rw [Fo a fun z => by rw [z] at e; exact s2 _ (noTb_dn _ _ e) (noTb_nt e)]; exact e
  have S0 : Stp (c.at a0 a1 a2) (dr0 ns) F H' F H' := by
    refine ⟨Same.refl _, sF, fun _ _ e _ _ => e, fun _ e _ => e, fun a o e => ?_, fun a ha => ?_, .inr ⟨a0, a1, rfl, n01, e0, e1⟩, fun _ => F2, ht'⟩
    · by_cases z : a = a2
      · subst z; rw [F2] at e; cases e; exact nt_lst
      · rw [Fo a z] at e; exact noTb_nt e
    unfold Pm.mv at ha
    rcases List.mem_append.mp ha with ha | ha
    · simp only [List.mem_cons, List.not_mem_nil, or_false] at ha
      rcases ha with rfl | rfl
      · rw [Fo _ n02]; exact noTb_nil s0
      · rw [Fo _ n12]; exact noTb_nil s1
    · rw [Fo _ fun z => ?_]
      · obtain ⟨ps, e⟩ := tb_kind ht ha
        exact noTb_in e
      · obtain ⟨ps, e⟩ := tb_kind ht' ha
        rw [z, e2] at e; cases e
  have R0 : Rel (c.at a0 a1 a2) F H' (.val (.scr ns) :: List.replicate m .un) (L2.start N [.ref s]) F H' (dr0 ns) := by
    have r : RepL (c.at a0 a1 a2) F [.ref s] [.scr ns] := .cons (.scr ((noTb_sqS hs).mono sHF)) .nil
    have := rel_start (N := N) r S0
    rw [hN] at this
    exact this
  have R1 : Rel (c.at a0 a1 a2) F H' (law0 m i ns) ((L2.start N [.ref s]).set i (some (.ref a0))) F H' (dr0 ns) := R0.setv (.drw rfl)
  refine ⟨a0, a1, a2, F, H', _, F, dr0 ns, R1, ?_⟩
  rw [hr]
  intro u σ' F' H'' R' V' _
  have a := V'.at_
  simp only at a
  rw [Fz_nil] at a
  rw [a.blI]
  exact q _
theorem pss_ex3 {sts : List Stmt} {t : Addr → Addr → Addr → TS} (h : ∀ a0 a1 a2, PSs X sts (t a0 a1 a2)) : PSs X sts (fun D σ H => ∃ a0 a1 a2, t a0 a1 a2 D σ H) := ⟨fun pins s σ H D I ⟨a0, a1, a2, q⟩ => (h a0 a1 a2).run pins s σ H D I q⟩
end
end Z

namespace Z
open PySem PySem.Spec PyProof.Rows L2
open Classical
section
variable {c : Pm} {Wx : WX} {X : Cx} {fu n k : Nat} {W W' W1 W2 W3 : Dr} {F0 H0 F H F' H' F1 H1 F2 H2 F3 H3 Hs : Hp} {ρ ρ' : En} {σ σ' : L2.St} {u w : V} {x y v : Vl} {Q : VK} {us : List V} {vs : List Vl} {pos : Pos}
theorem e_dic0 : PE X (.Dict [] [] pos) (rdE c Wx (.cst (.dic false []))) := pe_wk pe_dnewK fun σ H Q ⟨F0, H0, ρ, F, W, R, hP⟩ => by
  simp only [ev] at hP
  intro p hp
  have S := R.refl.makeF (o := .dK []) hp
  exact hP _ _ _ S (.of_rep (.dicK (.inl upd_same) rfl .nil) rfl rfl)
theorem pk_wk {kws : List Keyword} {t t' : TA} (h : PK X kws t) (q : ∀ σ H Q, t' σ H Q → t σ H Q) : PK X kws t' := ⟨fun pos pins s σ H Q I z => h.run pos pins s σ H Q I (q _ _ _ z)⟩
theorem k_nil : PK X [] (rdL c Wx .nil) := pk_wk pk_nil fun σ H Q ⟨F0, H0, ρ, F, W, R, hP⟩ => by
  simp only [evL] at hP
  exact hP [] F H R.refl ⟨.nil, trivial⟩
theorem k_cons {e : Expr} {kws : List Keyword} {nm : Option Str} {kpos : Pos} {a b : E} (ha : PE X e (rdE c Wx a)) (hb : PK X kws (rdL c Wx b)) : PK X (⟨nm, e, kpos⟩ :: kws) (rdL c Wx (.cons a b)) := by
  refine pk_wk (pk_cons ha hb) fun σ H Q ⟨F0, H0, ρ, F, W, R, hP⟩ => ?_
  simp only [evL] at hP
  refine rd_e R R.refl hP fun x W1 u F1 H1 S1 _ V1 R1 hP => ?_
  refine rd_lx R1 S1 hP fun ys W2 us F2 H2 S2 S12 V2 A2 R2 hP => ?_
  refine hP _ _ _ S2 ⟨.cons (V1.step R1 S12) (Paired.mapP V2 fun _ _ z => z.start fun a m z => S1.keepN m z), fun a hk hu z => ?_, A2⟩
  have q := V1.at_
  rw [hk] at q
  obtain ⟨p, e1, _, _, _, e5⟩ := q
  rw [hu] at e1
  cases e1
  exact (tmp_at V2 z).2.2.1 e5.thr
theorem pick_rep {xs : List D} (r : RepL c F us xs) : ∀ {is : List Nat} , (∀ i ∈ is, i < xs.length) → RepL c F (pick is us) (pick is xs)
  | [], _ => .nil
  | i :: is, h => by
    have hi := h i List.mem_cons_self
    obtain ⟨v, e1, e2⟩ := r.get (List.getElem?_eq_getElem hi)
    unfold pick
    rw [List.filterMap_cons, List.filterMap_cons, e1, List.getElem?_eq_getElem hi]
    exact .cons e2 (pick_rep r fun j hj => h j (List.mem_cons_of_mem _ hj))
theorem pick_vals {vs : List V} {ws : List Value} (r : Vals vs ws) : ∀ {is : List Nat}, (∀ i ∈ is, i < vs.length) → Vals (pick is vs) (pick is ws)
  | [], _ => .nil
  | i :: is, h => by
    have hi := h i List.mem_cons_self
    obtain ⟨w, e1, e2⟩ := r.get (List.getElem?_eq_getElem hi)
    unfold pick
    rw [List.filterMap_cons, List.filterMap_cons, e1, List.getElem?_eq_getElem hi]
    exact .cons e2 (pick_vals r fun j hj => h j (List.mem_cons_of_mem _ hj))
def KPick (K : PySem.W.Frag) (fd : FuncData) (ps ks : List Str) (is : List Nat) : Prop := ∀ (s : Shared) (ws : List Value), K.In s.heap → ws.length = ks.length → BindsTo s fd ⟨[], ks.zip ws⟩ (ps.zip (pick is ws))
structure CalK (c : Pm) (P : Program) (w : World) (K : PySem.W.Frag) (mg : Str → Option Value) (base : Heap) (k : Nat) (x : Str) (ps ks : List Str) (is : List Nat) (g : G) : Prop where
  ex : ∃ (f : Addr) (fd : FuncData), mg x = some (.ref f) ∧ PySem.W.keepIn K (.ref f) = true ∧ KPick K fd ps ks is ∧ FnOk P w K mg base (L2.CX P w) k f fd ps (spG c g)
theorem CalK.mono {P : Program} {w : World} {K : PySem.W.Frag} {mg : Str → Option Value} {base : Heap} {j : Nat} {x : Str} {ps ks : List Str} {is : List Nat} {g : G} (h : CalK c P w K mg base j x ps ks is g) (hk : j ≤ k) : CalK c P w K mg base k x ps ks is g := by
  obtain ⟨f, fd, h1, h2, h3, h4⟩ := h.ex
  exact ⟨f, fd, h1, h2, h3, h4.mono hk⟩
theorem run_pick {pins : List (Addr × Obj)} {s : Shared} {ws : List Value} {zs : List V} {f : Addr} {fd : FuncData} {ps ks : List Str} {is : List Nat} {sp : Sp} {CX : CXT} {E : L2.St → XK} (Fn : FnOk X.prog X.w X.K X.mg X.base CX k f fd ps sp) (hr : Room k X.A) (hb : KPick X.K fd ps ks is) (hx : PassesAt CX X σ (E σ))
    (I : Inv X pins σ H s) (r : Vals zs ws) (hl : zs.length = ks.length) (hi : ∀ i ∈ is, i < zs.length) (h : sp (pick is zs) H Q (E σ)) : wpAny (model X.prog X.w) X.A (call (.ref f) [] (ks.zip ws)) (EP X pins σ Q) X.xe s := by
  have b := hb s ws I.kIn (r.length.symm.trans hl)
  refine wpAny_call (codeAny_mono (Fn.run X.A X.stack s H _ (pick is ws) (pick is zs) Q (E σ) hr I.env0 b (pick_vals r hi) h) fun res s2 hq => ?_)
  match res, hq with
  | .error e, hq => exact hx pins H s e s2 I hq
  | .ok (.ret u), hq => exact I.after hq
theorem x_callk {j : Nat} {x : Str} {ps ks : List Str} {is : List Nat} {g : G} {kws : List Keyword} {ea : E} {p : Pos} (n : Cn c Wx k X) (h : CalK c X.prog X.w X.K X.mg X.base j x ps ks is g) (hkw : PK X kws (rdL c Wx ea)) (hj : j ≤ k := by decide) (hg : Gl X x := by rfl) (hdb : (x == ("__debug__" : Str)) = false := by decide)
    (hall : (backToKw pos (keywordEach kws X.env)).all (·.1.isSome) = true := by rfl) (hks : (backToKw pos (keywordEach kws X.env)).filterMap (·.1) = ks := by rfl)
    (hpl : ((backTo pos (starEach [] X.env)).any (·.1) || (backToKw pos (keywordEach kws X.env)).any (·.1.isNone)) = false := by rfl) (hm : is.all (· < ks.length) = true := by decide) : PE X (.Call (.Name x p) [] kws pos) (rdE c Wx (.callk g ks.length is ea)) := by
  obtain ⟨f, fd, h1, h2, h3, h4⟩ := h.ex
  refine ⟨fun pins s σ H Q I ⟨F0, H0, ρ, F, W, R, hP⟩ => ?_⟩
  simp only [ev] at hP
  have q : rdL c Wx ea σ H fun zs H2 => zs.length = ks.length ∧ (∀ i ∈ is, i < zs.length) ∧ spG c g (pick is zs) H2 Q (WE Wx σ) := by
    refine rd_l R R.refl hP fun vs W1 us F1 H1 S1 _ A R1 hP => ?_
    by_cases hl : vs.length = ks.length
    · rw [if_pos hl] at hP
      have RF := (Ft_rel R R1 S1 A).frz (ts_own A)
      have hlu : us.length = ks.length := (Paired.len A).trans hl
      have hi : ∀ i ∈ is, i < ks.length := fun i z => by simpa using List.all_eq_true.mp hm i z
      refine ⟨hlu, fun i z => by rw [hlu]; exact hi i z, _, pick is (ds vs), W1, pick_rep (args_all R R1 S1 A) fun i z => ?_, RF.stp.refl, call_end (g := g) R S1 A (ts_own A) hP⟩
      unfold ds
      rw [List.length_map, hl]
      exact hi i z
    · rw [if_neg hl] at hP; exact hP.elim
  refine wpAny_Call_Name_kw (ld_glob I hg h1 ?_ hdb)
  refine PySem.W.callWith_KW0 (h₀ := X.base) I.ok.mod.kin h2 hall (thn (hkw.run pos pins s σ H _ I q) fun ws s2 ⟨zs, H2, I2, rz, l1, l2, q2⟩ => ⟨I2.kIn, ?_⟩) hpl
  rw [hks]
  exact run_pick h4 (n.room.mono hj) h3 (passAt n.tk σ) I2 rz l1 l2 q2
end
end Z

namespace Z
open PySem PySem.Spec PyProof.Rows L2
open Classical
section
variable {X : Cx}
variable {c : Pm} {Wx : WX} {k : Nat} {pos : Pos}
end
end Z

namespace Z
open PySem PySem.Spec PyProof.Rows L2
open Classical
section
variable {X : Cx} {c : Pm} {Wx : WX} {k : Nat} {pos : Pos}
end
end Z

namespace Z
open PySem PySem.Spec PyProof.Rows L2
theorem track {X : Cx} {pins : List (Addr × Obj)} {σ : L2.St} {H : Hp} {s : Shared} {a : Addr} {oe : Obj} {vs : Array Value} {cls : Value} {d : Option Addr} (I : Inv X pins σ H s) (e : s.heap.get? a = some oe) (z : Zc cls d oe) (hd : oe.data = .fields vs) (na : H a = none)
    (n0 : X.s_0.heap.get? a = none) (nl : a ≠ X.env.locals) (np : ∀ p ∈ X.pn ++ pins, p.1 ≠ a) : Inv X pins σ (upd H a (XO cls d a)) s := by
  have ne0 : ∀ b o, X.s_0.heap.get? b = some o → b ≠ a := fun b o q y => by rw [y, n0] at q; cases q
  have neH : ∀ b o, H b = some o → b ≠ a := fun b o q y => by rw [y, na] at q; cases q
  refine ⟨I.ok, I.os, I.bare, ⟨fun b o q n hb hx => I.base.keep b o q n hb hx, fun b o q n hb hx => I.base.slot b o q n hb hx, fun b o q n hx => ?_, I.base.there, fun b xs q => ?_, fun b o u q => ?_, fun b ps q => ?_⟩, I.loc, I.cell, ?_, fun x c q => ?_, fun p hp => ?_, fun b o q => ?_, I.len⟩
  · rw [upd_ne (ne0 b o q)]; exact I.base.free b o q n hx
  · have y := I.base.tups b xs q
    rw [upd_ne (neH _ _ y)]; exact y
  · have y := I.base.frzs b o u q
    rw [upd_ne (neH _ _ y)]; exact y
  · obtain ⟨m, y⟩ := I.base.tbls b ps q
    exact ⟨m, by rw [upd_ne (neH _ _ y)]; exact y⟩
  · rw [upd_ne nl.symm]; exact I.free
  · obtain ⟨v, o, ho, hv⟩ := I.cell x c q
    rw [upd_ne fun y => ?_]
    · exact I.freeC x c q
    · rw [y, e] at ho
      cases ho
      rw [hd] at hv
      cases hv
  · obtain ⟨q1, q2, q3, q4, q5⟩ := I.pin p hp
    exact ⟨q1, by rw [upd_ne (np p hp)]; exact q2, q3, q4, q5⟩
  · by_cases y : b = a
    · subst y
      rw [upd_same] at q
      cases q
      exact ⟨⟨oe, vs, e, z, hd⟩, ⟨oe, e⟩, fun _ _ ⟨o, v, q, r⟩ k => ⟨o, v, k o q, r⟩⟩
    · rw [upd_ne y] at q
      exact (I.hok b o q).stay (fun _ _ _ q => q) (fun c q => by rw [upd_ne (neH _ _ q)]; exact q) fun c xs q => by rw [upd_ne (neH _ _ q)]; exact q
def wCatch (K : PySem.W.Frag) (c : Value) (i j m : Nat) (D : Ends) : WX := fun cls d σ H => PySem.W.exmOne K cls c = some true ∧ (σ.length = m → ∀ a, H a = none → D.nx ((σ.set j (some (.ref a))).set i none) (upd H a (XO cls d a)))
theorem ps_catch {X : Cx} {x n m : Str} {c : Value} {i j : Nat} {body : List Stmt} {np pos pos' p1 p2 p3 : Pos} {tb : WX → TS} (hs : X.stack = X.env :: X.outer) (hf : X.env.frame = some X.env.locals) (hN : X.N.Nodup) (hi : X.N[i]? = some n) (hln : X.env.kindOf n = some .local) (hj : X.N[j]? = some m) (hlm : X.env.kindOf m = some .local)
    (hex : X.ex = []) (hd1 : (n == ("__debug__" : Str)) = false) (hd2 : (n == ("__classdict__" : Str)) = false) (hc : Names X x c)
    (hb : ∀ (W : WX) (pn : List (Addr × Obj)) (xe : Value → Shared → Prop), Takes (X.tr pn xe) W → PassesOwn (model X.prog X.w) X.A X.env xe → PSs (X.tr pn xe) body (tb W))
    (hsw : ∀ (a : Addr) (pn : List (Addr × Obj)), swapsWith (.Name n p2) (some (.Name m p1)) p3.line (X.suite a pn).env = pure false) :
    PS X (.Try body [.ExceptHandler (some (.Name x np)) (some n) [.Assign [.Name m p1] (.Name n p2) p3] pos'] [] [] pos) (fun D σ H => tb (wCatch X.K c i j X.N.length D) D σ H) := by
  refine ⟨fun pins s σ H D I h0 => wpAny_Try_except ?_⟩
  have OK := I.ok
  have FR : X.A.frames = some (X.env :: X.outer) := OK.frames.trans (by rw [hs])
  refine wpAny_mono ((hb (wCatch X.K c i j X.N.length D) (X.pn ++ pins) (fun e s₁ => wpAny (model X.prog X.w) X.A (noteFrame e X.env) (fun _ s₂ => wpAny (model X.prog X.w) X.A (setFlight e none) (fun _ s₃ =>
    wpAny (model X.prog X.w) X.A (handleBy e X.env [.ExceptHandler (some (.Name x np)) (some n) [.Assign [.Name m p1] (.Name n p2) p3] pos']) (SP X pins D) X.xe s₃) X.xe s₂) X.xe s₁) (fun u s' xx => ?_) PassesOwn.looking).run [] s σ H D (I.toTry _) h0) (fun fl s1 hsp => ?_) (fun e s1 he => he)
  · obtain ⟨a, B, sI, pins', σ', H', cls, d, rfl, J', nb, up, sky, na, os, ag, hb1, hyes⟩ := xx
    have J : Inv X pins σ' H' sI := J'.ofTry OK
    rw [show (X.tr (X.pn ++ pins) _).stack = X.env :: X.outer from hs] at sky
    refine Sky.land Zc.steady FR hf sky fun h3 fl3 up3 => ?_
    have J3 : Inv X pins σ' H' { s' with heap := h3 } := J.landed nb fl3.1 (up.trans up3) os ag
    obtain ⟨o3, v3, e3, z3, d3⟩ := fl3.there
    have offF : ∀ {h : Heap} {o : Obj} {w : Array Value}, h.FunFrames B (X.env :: X.outer) → h.get? a = some o → o.data = .fields w → a ∉ frs (X.env :: X.outer) := fun {h o w} ff q dd hm => by
      obtain ⟨_, o', q', hnf⟩ := ff.mem hm
      cases q.symm.trans q'
      exact hnf _ dd
    have aF := offF fl3.2.2.1 e3 d3
    have aL : a ≠ X.env.locals := fun y => aF (List.mem_filterMap.mpr ⟨X.env, List.mem_cons_self, by rw [hf, y]⟩)
    have aFs : a ∉ X.fs := fun hm => by
      obtain ⟨e, he, q⟩ := List.mem_filterMap.mp hm
      exact aF (List.mem_filterMap.mpr ⟨e, List.mem_cons_of_mem _ he, q⟩)
    have newI : sI.heap.get? a = none := by
      cases q : sI.heap.get? a with
      | none => rfl
      | some o =>
        have := nb a o q (by show a ∉ frs X.stack; rw [hs]; exact aF)
        rw [fl3.2.1] at this
        cases this
    have new0 : X.s_0.heap.get? a = none := by
      cases q : X.s_0.heap.get? a with
      | none => rfl
      | some o =>
        obtain ⟨o', q'⟩ := J.base.there a o q (by rw [hex]; exact fun z => nomatch z)
        rw [newI] at q'
        cases q'
    have npin : ∀ p ∈ X.pn ++ pins, p.1 ≠ a := fun p hp y => by
      have := (J'.pin p (List.mem_append_left _ hp)).1
      rw [y, newI] at this
      cases this
    have S3 := J3.suite e3 d3 na aL aFs
    refine wpAny_handleBy_cons (codeAny_handlers_test ?_) (by intro q; cases q)
    have LT : PySem.W.Looks (model X.prog X.w) h3 (typeOf (.ref a)) cls := fun A Q E t k q => wpAny_typeOf_ref (k _ _ e3) (by rw [z3.1]; exact q)
    have LM := PySem.W.exm_one (M := model X.prog X.w) (J3.kIn) LT hb1
    have look : ∀ {Q : Value → Shared → Prop} {E : Value → Shared → Prop}, Q c { s' with heap := h3 } → wpAny (model X.prog X.w) (X.A.mark (some (.ref a))) (eval (.Name x np) X.env) Q E { s' with heap := h3 } := fun {Q E} q => by
      obtain ⟨hg, hdbg, hm | ⟨hm, hv, hnn⟩⟩ := hc
      · exact ld_glob (X := X.suite a ((a, o3) :: (X.pn ++ pins))) S3 hg hm q hdbg
      · exact ld_blt (X := X.suite a ((a, o3) :: (X.pn ++ pins))) S3 hg hm hv q hnn hdbg
    refine look (LM.here ?_)
    refine codeAny_handlers_suite_as ?_
    refine HandSPX.lands_againZ fl3 fun h4 fl4 up4 => ?_
    have J4 : Inv X pins σ' H' { s' with heap := h4 } := J.landed nb fl4.1 ((up.trans up3).trans up4) os ag
    obtain ⟨o4, v4, e4, z4, d4⟩ := fl4.there
    have S4 := J4.suite e4 d4 na aL aFs
    refine store_ok (X := X.suite a ((a, o4) :: (X.pn ++ pins))) (v := .ref a) S4 hN hi (.inl hln) rfl (fun s5 S5 => ?_) (.inr hln)
    have st : PSs (X.suite a ((a, o4) :: (X.pn ++ pins))) [.Assign [.Name m p1] (.Name n p2) p3] (tAsg (tVar i) (gName j)) := pss_one (ps_set (X := X.suite a ((a, o4) :: (X.pn ++ pins))) hN hj (.inl hlm) (pe_var hi (.inl hln) hd1 hd2) (hsw a _) (.inr hlm))
    have il : i < σ'.length := by rw [J.len]; exact (List.getElem?_eq_some_iff.mp hi).1
    refine wpAny_mono (st.run [] s5 _ H' { nx := fun σ6 H6 => σ6 = (σ'.set i (some (.ref a))).set j (some (.ref a)) ∧ H6 = H', rt := fun _ _ => False } S5 ⟨.ref a, List.getElem?_set_self il, rfl, rfl⟩) (fun f s6 hsp => ?_) (fun _ _ y => y.elim)
    cases f with
    | next =>
      obtain ⟨σ6, H6, S6, r1, r2⟩ := hsp
      subst r1
      rw [r2] at S6
      have pa := (S6.pin (a, o4) (List.mem_append_left _ List.mem_cons_self)).1
      have J6 : Inv X pins _ H' s6 := S6.unsuite OK
      have J7 := track J6 pa z4 d4 na new0 aL npin
      refine gone_ok J7 hN hi hln fun s7 J8 => ⟨_, _, J8, ?_⟩
      have q := hyes J.len a na
      rwa [show ((σ'.set i (some (V.ref a))).set j (some (V.ref a))).set i none = (σ'.set j (some (V.ref a))).set i none from by
        by_cases ij : i = j
        · subst ij; simp
        · rw [show (σ'.set i (some (V.ref a))).set j (some (V.ref a)) = (σ'.set j (some (V.ref a))).set i (some (V.ref a)) from List.set_comm _ _ ij, List.set_set]]
    | brk => obtain ⟨_, _, _, y⟩ := hsp; exact y.elim
    | cont => obtain ⟨_, _, _, y⟩ := hsp; exact y.elim
    | ret u => obtain ⟨_, _, _, _, _, y⟩ := hsp; exact y.elim
  · cases fl with
    | next =>
      obtain ⟨σ2, H2, J2, q2⟩ := hsp
      exact wpAny_execs_nil ⟨σ2, H2, J2.ofTry OK, q2⟩
    | brk => obtain ⟨σ2, H2, J2, q2⟩ := hsp; exact ⟨σ2, H2, J2.ofTry OK, q2⟩
    | cont => obtain ⟨σ2, H2, J2, q2⟩ := hsp; exact ⟨σ2, H2, J2.ofTry OK, q2⟩
    | ret u => obtain ⟨v2, σ2, H2, J2, r2, q2⟩ := hsp; exact ⟨v2, σ2, H2, J2.ofTry OK, r2, q2⟩
end Z

namespace Z
open PySem PySem.Spec PyProof.Rows L2
open Classical
section
variable {c : Pm} {Wx : WX} {X : Cx} {fu n k : Nat} {W W' W1 W2 W3 : Dr} {F0 H0 F H F' H' F1 H1 F2 H2 F3 H3 Hs : Hp} {ρ ρ' : En} {σ σ' : L2.St} {u w : V} {x y v : Vl} {Q : VK} {us : List V} {vs : List Vl} {pos : Pos}
def TCaught (K : PySem.W.Frag) (CS : Addr) : (XK → Hp → VK → Prop) → Hp → VK → Prop := fun tl H Q =>
  tl (fun cls d H' => PySem.W.exmOne K cls (.ref CS) = some true ∧ ∀ a, H' a = none → Q (.ref a) (upd H' a (XO cls d a))) H fun _ H' => ∃ v, some (some V.non) = some (some v) ∧ Q v H'
theorem caught_gives {x a m n e q : Str} {sg : Scope} {g CS : Addr} {cdg : Value} {j : Nat} {p1 p2 p3 p4 p5 p6 p7 p8 p9 p10 p11 p12 p13 p14 : Pos} (hnd : [a, m, n].Nodup) (hm : sg.names.lookup m = some .local) (hn : sg.names.lookup n = some .local) (hge : sg.names.lookup e = some .globalImplicit) (hme : X.mg e = some (.ref CS)) (hde : (e == ("__debug__" : Str)) = false)
    (hd1 : (n == ("__debug__" : Str)) = false) (hd2 : (n == ("__classdict__" : Str)) = false) (hd3 : (m == ("__debug__" : Str)) = false) (hd4 : (m == ("__classdict__" : Str)) = false) (hln : p8.line = p8.line)
    (hsw1 : ∀ E, swapsWith (.Constant .none j p2) (some (.Name m p1)) p3.line E = pure false) (hsw2 : ∀ E, swapsWith (.Name n p9) (some (.Name m p8)) p10.line E = pure false) (hsw3 : ∀ E, swapsWith (.Call (.Name a p4) [] [] p5) none p6.line E = pure false) :
    LamX.GivesTo X [a, m, n] x sg g cdg [.Assign [.Name m p1] (.Constant .none j p2) p3, .Try [.Expr (.Call (.Name a p4) [] [] p5) p6] [.ExceptHandler (some (.Name e p7)) (some n) [.Assign [.Name m p8] (.Name n p9) p10] p11] [] [] p12, .Return (some (.Name m p13)) p14] a q (TCaught X.K CS) := by
  intro f c' s H Q tl act hc h
  have hgl : Gl (cxOf C8.CX0 X.prog X.w X.K X.mg X.base [a, m, n] x sg g cdg X.A X.stack s H C8.E0).nox e := hge
  refine ⟨_, pss_cons (ps_set (i := 1) hnd rfl (.inl hm) pe_non (hsw1 _) (.inl rfl)) (pss_cons (ps_catch (X := (cxOf C8.CX0 X.prog X.w X.K X.mg X.base [a, m, n] x sg g cdg X.A X.stack s H C8.E0).nox) (c := .ref CS) (i := 2) (j := 1)
      (tb := fun W D σ H => ∃ Ech : XK, (∀ cls d σ' H', Ech cls d H' → W cls d σ' H') ∧ σ[0]? = some (some (.ref f)) ∧ H c' = some (LamX.CodeO c' q) ∧ tl Ech H fun _ H' => D.nx σ H')
      rfl rfl hnd rfl hn rfl hm rfl hd1 hd2 ⟨hgl, hde, .inl hme⟩ (fun W pn xe tk _ => ?_) (fun _ _ => hsw2 _)) (pss_one (ps_ret (pe_var (i := 1) rfl (.inl hm) hd3 hd4)))), ?_⟩
  · refine ⟨fun pins s' σ H' D I h' => ?_⟩
    obtain ⟨Ech, hW, h1, h2, h3⟩ := h'
    have hp := act W pn xe Ech p4 p5 tk hW
    exact (pss_one (ps_expr hp (hsw3 _))).run pins s' σ H' D I ⟨h1, h2, h3⟩
  · refine ⟨fun cls d H' => PySem.W.exmOne X.K cls (.ref CS) = some true ∧ ∀ a, H' a = none → Q (.ref a) (upd H' a (XO cls d a)), fun cls d σ' H' ⟨e1, e2⟩ => ⟨e1, fun hl b hb => ?_⟩, rfl, hc, ?_⟩
    · have hl : σ'.length = 3 := hl
      refine ⟨.ref b, ?_, e2 b hb⟩
      rw [List.getElem?_set_ne (by decide), List.getElem?_set_self (by omega)]
    · exact h
structure LamAt (c : Pm) (X : Cx) : Prop where
  ex : ∃ cc P, LamX.TabB X.base X.mg cc P ∧ X.env.code = .ref cc ∧ (P, X.env.qual ++ "<lambda>") ∈ c.tb ∧ ∀ p ∈ c.tb, p.1 = P → p.2 = X.env.qual ++ "<lambda>"
structure CauF (c : Pm) (mg : Str → Option Value) (x a : Str) (Ng : List Str) (st : Stmt) (CS : Addr) : Prop where
  ex : ∃ (g : Addr) (fd : FuncData), Fun c.K x x st g fd ∧ mg x = some (.ref g) ∧ L2.Binds c.K fd [a] []
  sc : FnScope Ng [a] (defScope st)
  na : Ng[0]? = some a
  va : Vis (defScope st) a
  give : ∀ (X : Cx) (g : Addr) (cdg : Value) (q : Str), X.K = c.K → X.mg = mg → LamX.GivesTo X Ng x (defScope st) g cdg (defBody st) a q (TCaught X.K CS)
  up : ∀ n C, c.cx n = some C → PySem.W.exmOne c.K (.ref C) (.ref CS) = some true
theorem Cn.lam (n : Cn c Wx k X) {A : Around} {outer : List Env} {s : Shared} {H : Hp} {E : XK} {scope : Scope} {f c' : Addr} {j : Nat} (hr : Room j (A.deeper (LamX.lamEnv X scope s.heap.objs.size f c'))) :
    Cn c (fun cls dd _ H' => E cls dd H') j (LamX.lamCx X A outer s H E scope f c') := ⟨n.hk, rfl, n.nd, takes_of rfl rfl rfl rfl, hr⟩
theorem ext_stp {T : Prop} (R : Rel c F0 H0 ρ σ F H W) (e : LamX.ExtN H H1) (t : LamX.Tabs c.tb H1) : Stp c W F H F H1 := by
  have S := R.refl
  refine ⟨Same.refl _, fun a o h => e _ _ (S.sub _ _ h) (S.nt _ _ h), fun a o h _ n => e _ _ h n, fun _ h _ => h, S.nt, S.av, ?_, S.cl, t⟩
  rcases S.dr with h | ⟨a0, a1, h, n, e0, e1⟩
  · exact .inl h
  · exact .inr ⟨a0, a1, h, n, e _ _ e0 nt_dK, e _ _ e1 nt_lst⟩
theorem x_caught {x a : Str} {Ng : List Str} {st : Stmt} {CS : Addr} {params : Arguments} {body : Expr} {scope : Scope} {ea : E} {j : Nat} {p lpos : Pos} (n : Cn c Wx k X) (LA : LamAt c X) (CF : CauF c X.mg x a Ng st CS)
    (hb : ∀ (A : Around) (outer : List Env) (s : Shared) (H : Hp) (E : XK) (f c' : Addr), Cn c (fun cls dd _ H' => E cls dd H') j (LamX.lamCx X A outer s H E scope f c') → PE (LamX.lamCx X A outer s H E scope f c') body (rdE c (fun cls dd _ H' => E cls dd H') ea))
    (hj : j + 2 ≤ k := by decide) (L : LamX.lamSB X.env.scope scope = true := by rfl) (hdef : defaultsOf params X.env = ([], []) := by rfl)
    (hbind : ∀ (q : Str) (cl : List (Str × Addr)) (pm cv ctv : Value), bindArgs (PySem.W.kla_fn "<lambda>" q params body scope cl pm cv ctv) ⟨[], []⟩ = pure [] := by intros; rfl)
    (hg : Gl X x := by rfl) (hdb : (x == ("__debug__" : Str)) = false := by decide) (hd : (a == ("__debug__" : Str)) = false := by decide) (hcd : (a == ("__classdict__" : Str)) = false := by decide) :
    PE X (.Call (.Name x p) [.Lambda params body scope lpos] [] pos) (rdE c Wx (.caught ea)) := by
  obtain ⟨g, fd, ⟨⟨oc, od, kV, doc, pm, an, cdv, ct, osl, rfl, lk, hcd2⟩, kp⟩, hm, hbd⟩ := CF.ex
  obtain ⟨cc, P, TB, hcode, hmT, hu⟩ := LA.ex
  rw [← n.hk] at lk hcd2 kp hbd
  refine pe_wk (LamX.pe_lamcall (T := c.tb) (k := j) (t := fun E => rdE c (fun cls dd _ H' => E cls dd H') ea) hg hm kp lk hcd2 hbd CF.sc CF.na CF.va (CF.give X g cdv _ n.hk rfl) TB hcode hmT hu (n.room.mono hj) (LamX.lamS_by L) hdef hbind
    (fun A outer s H E f c' hr => hb A outer s H E f c' (n.lam hr)) hdb hd hcd) fun σ H Q ⟨F0, H0, ρ, F, W, R, hP⟩ => ⟨R.stp.tabs, fun H1 eN T1 => ?_⟩
  have S1 := ext_stp (T := True) R eN T1
  refine ⟨F0, H0, ρ, F, W, R.step S1, ?_⟩
  simp only [ev] at hP
  cases e : ev ea ρ W with
  | stk => rw [e] at hP; exact hP.elim
  | ok v W2 =>
    rw [e] at hP
    exact fun u F2 H2 S2 V2 => ⟨_, rfl, hP .non F2 H2 (S1.trans S2) (.of_rep .non rfl rfl)⟩
  | ex x W2 =>
    rw [e] at hP
    intro cls dd F2 H2 S2 hx
    cases x <;> try (exact hP.elim)
    rename_i nm fs
    simp only at hP
    obtain ⟨C, h1, rfl, h2⟩ := hx
    refine ⟨n.hk ▸ CF.up _ _ h1, fun b hb => ?_⟩
    have S3 := (S1.trans S2).trans ((R.step (S1.trans S2)).refl.makeF (o := XO (.ref C) dd b) hb)
    refine hP (.ref b) _ _ S3 (.of_rep ?_ rfl rfl)
    have ne : ∀ q o, F2 q = some o → q ≠ b := fun q o e z => by
      have := S2.sub _ _ e
      rw [z, hb] at this; cases this
    have up : Same F2 (upd F2 b (XO (.ref C) dd b)) := fun q o e => by rw [upd_ne (ne q o e)]; exact e
    cases fs with
    | nil =>
      simp only at h2
      subst h2
      exact .exc0 upd_same h1
    | cons q fs =>
      simp only at h2
      obtain ⟨m, d, gs, rfl, k1, k2⟩ := h2
      exact .exc1 upd_same h1 (up _ _ k1) (k2.mono up) (by simp)
end
end Z

namespace Z
open PySem PySem.Spec PyProof.Rows L2 He
def pmOf (K : PySem.W.Frag) (cas cxs : List Str) (tf : List Defn) (dl : List Addr) (d2 : Addr) : Pm where
  K := K
  ca := fun n => if n ∈ cas then some (ga K n) else none
  cx := fun n => if n ∈ cxs then some (ga K n) else none
  dl := dl
  d2 := d2
  tb := tf.map fun p => ((cT K p).2, p.1 ++ ".<locals>." ++ "<lambda>")
def insB (K : PySem.W.Frag) (n : Str) : Bool := (Fa.cls n).ok K && (eqO (PySem.W.findIn K (.ref (ga K n)) "__class__") (some (some (.builtin "object.__class__"))) && (eqO (PySem.W.specialIn K (.builtin "object.__class__") "__get__") (some (some (.builtin "getset_descriptor.__get__"))) &&
  (decide (PySem.W.takesIn K (.builtin "object.__class__") = some true) && decide (PySem.W.mroIn K (ga K n) (.type "object") = some true))))
theorem insB_ok {K : PySem.W.Frag} {n : Str} (h : insB K n = true) : InsT K (ga K n) := by
  obtain ⟨h1, h⟩ := ba h
  obtain ⟨h2, h⟩ := ba h
  obtain ⟨h3, h⟩ := ba h
  obtain ⟨h4, h5⟩ := ba h
  exact ⟨cls_ok h1, eqO_ok h2, eqO_ok h3, of_decide_eq_true h4, of_decide_eq_true h5⟩
def excB (K : PySem.W.Frag) (n : Str) : Bool := eqO (PySem.W.findIn K (.ref (ga K n)) "__getattribute__") (some (some (.builtin "BaseException.__getattribute__"))) && (eqO (PySem.W.findIn K (.ref (ga K n)) "__getattr__") (some none) && (decide (PySem.W.subIn K (.ref (ga K n)) (.type "BaseException") = some true) &&
  (PySem.W.hasDictIn K (ga K n) && (eqO (PySem.W.findIn K (.ref (ga K n)) "__class__") (some (some (.builtin "object.__class__"))) && (eqO (PySem.W.specialIn K (.builtin "object.__class__") "__get__") (some (some (.builtin "getset_descriptor.__get__"))) &&
  (decide (PySem.W.takesIn K (.builtin "object.__class__") = some true) && decide (PySem.W.mroIn K (ga K n) (.type "object") = some true)))))))
theorem excB_ok {K : PySem.W.Frag} {n : Str} (h : excB K n = true) : ExcC K (ga K n) := by
  obtain ⟨h1, h⟩ := ba h
  obtain ⟨h2, h⟩ := ba h
  obtain ⟨h3, h⟩ := ba h
  obtain ⟨h4, h⟩ := ba h
  obtain ⟨h5, h⟩ := ba h
  obtain ⟨h6, h⟩ := ba h
  obtain ⟨h7, h8⟩ := ba h
  exact ⟨eqO_ok h1, eqO_ok h2, of_decide_eq_true h3, h4, eqO_ok h5, eqO_ok h6, of_decide_eq_true h7, of_decide_eq_true h8⟩
def isU (K : PySem.W.Frag) : Ty → Value
  | .int => .type "int"
  | .bool => .type "bool"
  | .str => .type "str"
  | .list => .type "list"
  | .tuple => .type "tuple"
  | .dict => .type "dict"
  | .cls n _ => bif n == "ValueError" then .type "ValueError" else .ref (ga K n)
def isB (K : PySem.W.Frag) (cas cxs : List Str) (t : Ty) : Bool :=
  decide (PySem.W.kitOne K (.type "NoneType") (isU K t) = some (isD1 .non t)) && (decide (PySem.W.kitOne K (.type "bool") (isU K t) = some (isD1 (.bl true) t)) && (decide (PySem.W.kitOne K (.type "int") (isU K t) = some (isD1 (.int 0) t)) &&
  (decide (PySem.W.kitOne K (.type "str") (isU K t) = some (isD1 (.str default) t)) && (decide (PySem.W.kitOne K (.type "tuple") (isU K t) = some (isD1 (.tup []) t)) && (decide (PySem.W.kitOne K (.type "list") (isU K t) = some (isD1 (.lst []) t)) &&
  (decide (PySem.W.kitOne K (.type "dict") (isU K t) = some (isD1 (.dic false []) t)) && (cas.all (fun n => decide (PySem.W.kitOne K (.ref (ga K n)) (isU K t) = some (isD1 (.ins n []) t))) &&
  cxs.all (fun n => decide (PySem.W.kitOne K (.ref (ga K n)) (isU K t) = some (isD1 (.exc n []) t))))))))))
section
variable {K : PySem.W.Frag} {cas cxs : List Str} {tf : List Defn} {dl : List Addr} {d2 : Addr}
theorem pm_ca {n : Str} {C : Addr} (h : (pmOf K cas cxs tf dl d2).ca n = some C) : n ∈ cas ∧ C = ga K n := by
  have h : (if n ∈ cas then some (ga K n) else none) = some C := h
  by_cases m : n ∈ cas
  · rw [if_pos m] at h; exact ⟨m, (Option.some.inj h).symm⟩
  · rw [if_neg m] at h; cases h
theorem pm_cx {n : Str} {C : Addr} (h : (pmOf K cas cxs tf dl d2).cx n = some C) : n ∈ cxs ∧ C = ga K n := by
  have h : (if n ∈ cxs then some (ga K n) else none) = some C := h
  by_cases m : n ∈ cxs
  · rw [if_pos m] at h; exact ⟨m, (Option.some.inj h).symm⟩
  · rw [if_neg m] at h; cases h
theorem pm_ca_mk {n : Str} (h : n ∈ cas) : (pmOf K cas cxs tf dl d2).ca n = some (ga K n) := if_pos h
theorem pm_cx_mk {n : Str} (h : n ∈ cxs) : (pmOf K cas cxs tf dl d2).cx n = some (ga K n) := if_pos h
theorem isB_ok {t : Ty} (h : isB K cas cxs t = true) : IsF (pmOf K cas cxs tf dl d2) t (isU K t) := by
  obtain ⟨h1, h⟩ := ba h
  obtain ⟨h2, h⟩ := ba h
  obtain ⟨h3, h⟩ := ba h
  obtain ⟨h4, h⟩ := ba h
  obtain ⟨h5, h⟩ := ba h
  obtain ⟨h6, h⟩ := ba h
  obtain ⟨h7, h⟩ := ba h
  obtain ⟨h8, h9⟩ := ba h
  refine ⟨of_decide_eq_true h1, of_decide_eq_true h2, of_decide_eq_true h3, of_decide_eq_true h4, of_decide_eq_true h5, of_decide_eq_true h6, of_decide_eq_true h7, fun n C e => ?_, fun n C e => ?_⟩
  · obtain ⟨m, rfl⟩ := pm_ca e
    exact of_decide_eq_true (List.all_eq_true.mp h8 n m)
  · obtain ⟨m, rfl⟩ := pm_cx e
    exact of_decide_eq_true (List.all_eq_true.mp h9 n m)
def exB (cas cxs ats : List Str) (tys : List Ty) (top : Str) (tf : List Defn) (K : PySem.W.Frag) : Bool :=
  cas.all (insB K) && (cxs.all (excB K) && (cas.all (fun n => ats.all fun f => (Fa.noat n f).ok K) && (tys.all (isB K cas cxs) && (cxs.all (fun n => (Fa.exm n top true).ok K) &&
  (tf.all (fun p => tf.all fun q => (cT K p).2 != (cT K q).2 || p == q) && cas.all (fun n => eqO (PySem.W.findIn K (.ref (ga K n)) "__ne__") (some (some (.builtin "object.__ne__")))))))))
variable {ats : List Str} {tys : List Ty} {top : Str}
theorem ex_kls (h : exB cas cxs ats tys top tf K = true) : Kls (pmOf K cas cxs tf dl d2) := by
  obtain ⟨h1, h⟩ := ba h
  obtain ⟨h2, h⟩ := ba h
  refine ⟨fun n C e => ?_, fun n C e => ?_⟩
  · obtain ⟨m, rfl⟩ := pm_ca e
    exact insB_ok (List.all_eq_true.mp h1 n m)
  · obtain ⟨m, rfl⟩ := pm_cx e
    exact excB_ok (List.all_eq_true.mp h2 n m)
theorem ex_at (h : exB cas cxs ats tys top tf K = true) {f : Str} (hf : f ∈ ats) : ∀ n C, (pmOf K cas cxs tf dl d2).ca n = some C → Cls K C ∧ NoAttr K C f := fun n C e => by
  obtain ⟨h1, h⟩ := ba h
  obtain ⟨h2, h⟩ := ba h
  obtain ⟨h3, h⟩ := ba h
  obtain ⟨m, rfl⟩ := pm_ca e
  exact ⟨(insB_ok (List.all_eq_true.mp h1 n m)).cl, noat_ok (List.all_eq_true.mp (List.all_eq_true.mp h3 n m) f hf)⟩
theorem ex_is (h : exB cas cxs ats tys top tf K = true) {t : Ty} (ht : t ∈ tys) : IsF (pmOf K cas cxs tf dl d2) t (isU K t) := by
  obtain ⟨h1, h⟩ := ba h
  obtain ⟨h2, h⟩ := ba h
  obtain ⟨h3, h⟩ := ba h
  obtain ⟨h4, h⟩ := ba h
  exact isB_ok (List.all_eq_true.mp h4 t ht)
theorem ex_up (h : exB cas cxs ats tys top tf K = true) : ∀ n C, (pmOf K cas cxs tf dl d2).cx n = some C → PySem.W.exmOne K (.ref C) (.ref (ga K top)) = some true := fun n C e => by
  obtain ⟨h1, h⟩ := ba h
  obtain ⟨h2, h⟩ := ba h
  obtain ⟨h3, h⟩ := ba h
  obtain ⟨h4, h⟩ := ba h
  obtain ⟨h5, h6⟩ := ba h
  obtain ⟨m, rfl⟩ := pm_cx e
  exact exm_ok (List.all_eq_true.mp h5 n m)
theorem ex_tb (h : exB cas cxs ats tys top tf K = true) {p : Defn} (hp : p ∈ tf) : ∀ q ∈ (pmOf K cas cxs tf dl d2).tb, q.1 = (cT K p).2 → q.2 = p.1 ++ ".<locals>." ++ "<lambda>" := fun q hq e => by
  obtain ⟨h1, h⟩ := ba h
  obtain ⟨h2, h⟩ := ba h
  obtain ⟨h3, h⟩ := ba h
  obtain ⟨h4, h⟩ := ba h
  obtain ⟨h5, h⟩ := ba h
  obtain ⟨h6, h7⟩ := ba h
  obtain ⟨r, hr, rfl⟩ := List.mem_map.mp hq
  have z := List.all_eq_true.mp (List.all_eq_true.mp h6 r hr) p hp
  simp only [Bool.or_eq_true, bne_iff_ne, ne_eq, beq_iff_eq] at z
  rcases z with z | z
  · exact absurd e z
  · rw [z]
theorem ex_ne (h : exB cas cxs ats tys top tf K = true) : ∀ C : Addr, ∀ {n : Str}, (pmOf K cas cxs tf dl d2).ca n = some C → PySem.W.findIn K (.ref C) "__ne__" = some (some (.builtin "object.__ne__")) := fun C n e => by
  obtain ⟨h1, h⟩ := ba h
  obtain ⟨h2, h⟩ := ba h
  obtain ⟨h3, h⟩ := ba h
  obtain ⟨h4, h⟩ := ba h
  obtain ⟨h5, h⟩ := ba h
  obtain ⟨h6, h7⟩ := ba h
  obtain ⟨m, rfl⟩ := pm_ca e
  exact eqO_ok (List.all_eq_true.mp h7 n m)
end
theorem fun_of {K : PySem.W.Frag} {x qual : Str} {st : Stmt} {f : Addr} {fd : FuncData} (F : FunD K x qual (defArgs st) (defBody st) (defScope st) [] [] f fd) : Fun K x qual st f fd := by
  obtain ⟨⟨oc, od, dV, kV, doc, pm, an, cdv, ct, osl, e, lk, hc, hd, _⟩, kp⟩ := F
  rcases hd with ⟨_, rfl⟩ | ⟨z, _⟩
  · exact ⟨⟨oc, od, kV, doc, pm, an, cdv, ct, osl, e, lk, hc⟩, kp⟩
  · exact absurd rfl z
section
variable {c : Pm} {Wx : WX} {X : Cx} {fu n k : Nat}
structure TbF (c : Pm) (mg : Str → Option Value) (base : Heap) (qual : Str) (fd : FuncData) : Prop where
  ex : ∃ cc P, LamX.TabB base mg cc P ∧ fd.code = .ref cc ∧ (P, qual ++ ".<locals>." ++ "<lambda>") ∈ c.tb ∧ ∀ p ∈ c.tb, p.1 = P → p.2 = qual ++ ".<locals>." ++ "<lambda>"
theorem TbF.at {mg : Str → Option Value} {base : Heap} {qual : Str} {fd : FuncData} (t : TbF c mg base qual fd) {CX : CXT} {P : Program} {w : World} {K : PySem.W.Frag} {N : List Str} {scope : Scope} {f : Addr} {cd : Value} {A : Around} {outer : List Env} {s : Shared} {H : Hp} {E : XK} (h : fd.code = cd) :
    LamAt c (cxOf CX P w K mg base N qual scope f cd A outer s H E) := by
  obtain ⟨cc, P, h1, h2, h3, h4⟩ := t.ex
  exact ⟨cc, P, h1, h.symm.trans h2, h3, h4⟩
end
theorem tbF_of {K : PySem.W.Frag} {tf : List Defn} {cas cxs ats : List Str} {tys : List Ty} {top : Str} {dl : List Addr} {d2 : Addr} {base : Heap} {mg : Str → Option Value} {x : Str} {fd : FuncData} {oc : Value} {od : Option Addr} {osl : Array (Option Value)}
    (hex : exB cas cxs ats tys top tf K = true) (hp : (x, none) ∈ tf) (TB : ∀ p ∈ tf.map (cT K), LamX.TabB base mg p.1 p.2) (lk : K.lookup (fAd K (x, none)) = some ⟨oc, od, .func fd, osl⟩) (hc : PySem.W.codeIn K fd.code x = true) :
    TbF (pmOf K cas cxs tf dl d2) mg base x fd := by
  obtain ⟨cc, e⟩ := codeIn_ref hc
  have ec : codeOf K (x, none) = cc := codeOf_eq lk e
  refine ⟨cc, (cT K (x, none)).2, ?_, e, List.mem_map.mpr ⟨_, hp, rfl⟩, fun q hq e => ex_tb hex hp q hq e⟩
  have := TB _ (List.mem_map.mpr ⟨_, hp, rfl⟩)
  rw [show (cT K (x, none)).1 = cc from ec] at this
  exact this
theorem Fun.lk {K : PySem.W.Frag} {x qual : Str} {st : Stmt} {f : Addr} {fd : FuncData} (F : Fun K x qual st f fd) : (∃ oc od osl, K.lookup f = some ⟨oc, od, .func fd, osl⟩) ∧ PySem.W.codeIn K fd.code qual = true := by
  obtain ⟨⟨oc, od, kV, doc, pm, an, cdv, ct, osl, rfl, lk, hcd⟩, kp⟩ := F
  exact ⟨⟨oc, od, osl, lk⟩, hcd⟩
theorem Fun.kpick {K : PySem.W.Frag} {x qual : Str} {st : Stmt} {f : Addr} {fd : FuncData} {ps ks : List Str} {is : List Nat} (F : Fun K x qual st f fd)
    (h : ∀ (kV doc pm : Value) (an : Option Addr) (cdv ct : Value) (us : List Value), us.length = ks.length → bindArgs (PySem.W.fnOf x qual (defArgs st) (defBody st) (defScope st) .none kV doc pm an cdv ct) ⟨[], ks.zip us⟩ = pure (ps.zip (pick is us))) : KPick K fd ps ks is := by
  obtain ⟨⟨oc, od, kV, doc, pm, an, cdv, ct, osl, rfl, lk, hcd⟩, kp⟩ := F
  exact fun s us _ hl => .of_eq (h kV doc pm an cdv ct us hl)
theorem raiseF_of {K : PySem.W.Frag} {cas cxs : List Str} {tf : List Defn} {dl : List Addr} {d2 : Addr} {mg : Str → Option Value} {n : Str} (h : (Fa.exc n).ok K = true) (hm : mg n = some (.ref (ga K n))) (hn : n ∈ cxs) (F : ExcBaseFacts "ValueError" "ValueError.__new__" "ValueError.__init__" veBase) :
    RaiseF (pmOf K cas cxs tf dl d2) mg n := by
  obtain ⟨h1, h2, h3, h4⟩ := exc_ok h
  exact ⟨_, _, _, _, _, F, h1, hm, h2, h3, h4, pm_cx_mk hn⟩
end Z

namespace Z
open PySem PySem.Spec PyProof.Rows L2
open Classical
section
variable {c : Pm} {Wx : WX} {X : Cx} {fu n k : Nat} {W W' W1 W2 W3 : Dr} {F0 H0 F H F' H' F1 H1 F2 H2 F3 H3 Hs : Hp} {ρ ρ' : En} {σ σ' : L2.St} {u w : V} {x y v : Vl} {Q : VK} {us : List V} {vs : List Vl} {pos : Pos}

def pureG (f : List D → Option (Bool × D)) : G := fun xs W => ofO (f xs) fun r => .ok r W
theorem pureG_some {f : List D → Option (Bool × D)} {xs : List D} {r : Bool × D} {W : Dr} (h : f xs = some r) : pureG f xs W = .ok r W := by unfold pureG; rw [h]; rfl
theorem spG_pure {f : List D → Option (Bool × D)} {E : XK} (h : spG c (pureG f) us H Q E) : ∃ F xs W r, RepL c F us xs ∧ Stp c W F H F H ∧ f xs = some r ∧ ∀ u F' H', Stp c W F H F' H' → ResOk c H F' H' u r → Q u H' := by
  obtain ⟨F, xs, W, r, S, hP⟩ := h
  unfold pureG at hP
  cases e : f xs with
  | none => rw [e] at hP; exact hP.elim
  | some z => rw [e] at hP; exact ⟨F, xs, W, z, r, S, e, hP⟩
theorem fin_newL {us : List V} {xs : List D} (S : Stp c W F H F H) (r : RepL c F us xs) (hQ : ∀ u F' H', Stp c W F H F' H' → ResOk c H F' H' u (true, .lst xs) → Q u H') : ∀ p, H p = none → Q (.ref p) (upd H p (.lst us)) := fun p hp => by
  have hF : F p = none := by
    cases q : F p with
    | none => rfl
    | some o => rw [S.sub _ _ q] at hp; cases hp
  refine hQ _ F _ (S.make hp) ?_
  exact ⟨p, rfl, hF, fun h => S.sm h hp, .of hp, us, upd_same, r⟩
theorem rdE_mono {e : E} {Q Q' : V → Hp → Prop} (h : rdE c Wx e σ H Q) (k : ∀ x H', Q x H' → Q' x H') : rdE c Wx e σ H Q' := by
  obtain ⟨F0, H0, ρ, F, W, R, hP⟩ := h
  refine ⟨F0, H0, ρ, F, W, R, ?_⟩
  revert hP
  cases ev e ρ W with
  | stk => exact fun h => h
  | ex x W' => exact fun h => h
  | ok a W' => exact fun h b F' H' S V => k b H' (h b F' H' S V)

theorem call2_ok {g : G} {ea eb : E} (h : rdE c Wx (.call g (.cons ea (.cons eb .nil))) σ H Q) : rdE c Wx ea σ H (fun x H1 => rdE c Wx eb σ H1 fun y H2 => spG c g [x, y] H2 Q (WE Wx σ)) := by
  obtain ⟨F0, H0, ρ, F, W, R, hP⟩ := h
  simp only [ev, evL, Out.bind_bind, Out.ok_bind] at hP
  refine rd_e R R.refl hP fun x W1 u F1 H1 S1 _ V1 R1 hQ => ?_
  refine rd_e R1 S1 hQ fun y W2 w F2 H2 S2 S12 V2 R2 hQ => ?_
  have AA : ArgOk c ρ σ H F2 H2 [u, w] [x, y] := .cons (V1.step R1 S12) (.cons V2 .nil)
  have RF := (Ft_rel R R2 S2 AA).frz (ts_own AA)
  exact ⟨_, ds [x, y], W2, args_all R R2 S2 AA, RF.stp.refl, call_end (g := g) R S2 AA (ts_own AA) hQ⟩
theorem call1_ok {g : G} {ea : E} (h : rdE c Wx (.call g (.cons ea .nil)) σ H Q) : rdE c Wx ea σ H (fun x H1 => spG c g [x] H1 Q (WE Wx σ)) := by
  obtain ⟨F0, H0, ρ, F, W, R, hP⟩ := h
  simp only [ev, evL, Out.bind_bind, Out.ok_bind] at hP
  refine rd_e R R.refl hP fun x W1 u F1 H1 S1 _ V1 R1 hQ => ?_
  have AA : ArgOk c ρ σ H F1 H1 [u] [x] := .cons V1 .nil
  have RF := (Ft_rel R R1 S1 AA).frz (ts_own AA)
  exact ⟨_, ds [x], W1, args_all R R1 S1 AA, RF.stp.refl, call_end (g := g) R S1 AA (ts_own AA) hQ⟩

def strsD : List D → Option (List Str)
  | [] => some []
  | .str x :: r => (strsD r).map (x :: ·)
  | _ => none
theorem strsD_map : ∀ ys : List Str, strsD (ys.map .str) = some ys
  | [] => rfl
  | y :: ys => by rw [List.map_cons]; simp only [strsD, strsD_map ys, Option.map_some]
theorem rep_strs : ∀ ys : List Str, RepL c F (ys.map V.str) (ys.map D.str)
  | [] => .nil
  | y :: ys => .cons (.str y) (rep_strs ys)
def insD (nm : Str) : D → Bool
  | .ins n _ => n == nm
  | _ => false
def eqG (neg : Bool) (nm : Str) (g : G) : G := fun xs W => match xs with
  | [x, y] => if (insD nm x && insD nm y) = true then match g [x, y] W with
    | .ok (false, .bl b) W' => .ok (false, .bl (b != neg)) W'
    | _ => .stk
    else .stk
  | _ => .stk
theorem ins_of {nm : Str} {d : D} {F : Hp} {x : V} (r : Rep c F x d) (e : insD nm d = true) : ∃ a C dx fs, x = .ref a ∧ F a = some (.ins C dx fs) ∧ c.ca nm = some C := by
  cases d <;> simp only [insD] at e <;> try (cases e; done)
  obtain ⟨a, C, dx, gs, h1, h2, h3, _⟩ := r.insI
  rw [← beq_iff_eq.mp e]
  exact ⟨a, C, dx, gs, h1, h2, h3⟩
def rOEq (C : Addr) (sp : Sp) (neg : Bool) : R2 := fun x y H Q => (∃ a b dx dy fs gs, x = .ref a ∧ y = .ref b ∧ H a = some (.ins C dx fs) ∧ H b = some (.ins C dy gs)) ∧ ∀ E, sp [x, y] H (fun v H' => ∃ r : Bool, v = .bl r ∧ Q (.bl (r != neg)) H') E
theorem spG_eq {neg : Bool} {nm : Str} {g : G} {x y : V} {E : XK} {C : Addr} (hC : c.ca nm = some C) (h : spG c (eqG neg nm g) [x, y] H Q E) : rOEq C (spG c g) neg x y H Q := by
  obtain ⟨F, xs, W, r, S, hP⟩ := h
  cases r with
  | cons r1 r =>
    cases r with
    | cons r2 r =>
      cases r
      rename_i d1 d2
      simp only [eqG] at hP
      split at hP
      · rename_i hd
        rw [Bool.and_eq_true] at hd
        obtain ⟨b, C', dy, gs, rfl, h2, h3⟩ := ins_of r2 hd.2
        rw [hC] at h3
        cases h3
        obtain ⟨a, C', dx, fs, rfl, h1, h3⟩ := ins_of r1 hd.1
        rw [hC] at h3
        cases h3
        refine ⟨⟨a, b, dx, dy, fs, gs, rfl, rfl, S.sub _ _ h1, S.sub _ _ h2⟩, fun E => ⟨F, [d1, d2], W, .cons r1 (.cons r2 .nil), S, ?_⟩⟩
        cases e : g [d1, d2] W with
        | stk => rw [e] at hP; exact hP.elim
        | ex z W' => rw [e] at hP; exact hP.elim
        | ok rr W' =>
          rw [e] at hP
          obtain ⟨nw, d⟩ := rr
          cases nw <;> cases d <;> try (exact hP.elim)
          rename_i b
          intro u F' H' S' hr
          cases hr
          exact ⟨b, rfl, hP _ F' H' S' (.bl _)⟩
      · exact hP.elim
end
section
variable {prog : Program} {w : World} {A A₀ : Around} {E : Value → Shared → Prop} {s : Shared} {K : PySem.W.Frag} {x y C L f : Addr} {h₀ : Heap} {m : Str → Option Value} {ox : Obj} {od : Option Obj}
theorem ne_own {Q : Fin → Shared → Prop} (X : K.In s.heap) (I : PySem.W.InstAt s.heap x ox C od) (hs : PySem.W.findIn K (.ref C) "__eq__" = some (some (.ref f))) (hf : PySem.W.isFn K (.ref f) = true) (hu : A.units < cLine)
    (hcall : wpAny (model prog w) A (call (.ref f) [.ref x, .ref y]) (fun v s' => ∃ b, v = .bool b ∧ Q (.done (.ret (.bool (!b)))) s') E s) :
    wpAny (model prog w) A (Builtin.«object.__ne__» ⟨[.ref x, .ref y], []⟩) Q E s := by
  obtain ⟨hh, gg, dd, tt, oo⟩ := s
  unfold Builtin.«object.__ne__»
  repeat (first
    | with_reducible refine wpAny_cRoomFor hu ?_
    | (refine wpAny_bind (m := callSpecialIfBound? (.ref x) (Str.ofString "__eq__") [.ref y])
        (PySem.W.ifBound_K X I hs hf (wpAny_mono hcall (fun r s' hr => by
          obtain ⟨b, rfl, hq⟩ := hr
          repeat (first | exact hq | exact wpAny_pure hq | exact wpAny_truthy_bool hq | (refine wpAny_bind (m := truthy (.bool _)) (wpAny_truthy_bool ?_)) | wp_step)) fun _ _ e => e)))
    | wp_step)
theorem ifBound_ne {M : Model} {args : List Value} {Q : Option Value → Shared → Prop} (X : K.In s.heap) (I : PySem.W.InstAt s.heap x ox C od) (hs : PySem.W.findIn K (.ref C) "__ne__" = some (some (.builtin "object.__ne__")))
    (h : wpAny M A (call (.builtin "object.__ne__") (.ref x :: args)) (fun v => Q (some v)) E s) : wpAny M A (callSpecialIfBound? (.ref x) "__ne__" args) Q E s := by
  simp only [callSpecialIfBound?, bindSpecialIfBound?]
  refine wpAny_holding (wpAny_bind (wpAny_bind (wpAny_bind (I.type.here ((PySem.W.looks_findIn X hs).here ?_)))))
  simp only [PySem.F.cmp_object.ne.bind]
  refine wpAny_bind (wpAny_askSetting (wpAny_ite ?_))
  have fin : wpAny M A (call (.builtin "object.__ne__") ([.ref x] ++ args) >>= fun v => pure (some v)) Q E s := wpAny_bind (wpAny_mono h (fun v s' h' => wpAny_pure h') fun _ _ h' => h')
  split
  · exact wpAny_bind (wpAny_pure (wpAny_pure fin))
  · exact wpAny_tryCatch (wpAny_bind (wpAny_pure (wpAny_pure fin)))
theorem cmp_ne_K {Q : Value → Shared → Prop} {oy : Obj} {od' : Option Obj} (hu : A.units + 1 < cLine) (F : Fr h₀ L s.heap m) (X₀ : K.In h₀) (I : PySem.W.InstAt s.heap x ox C od) (J : PySem.W.InstAt s.heap y oy C od')
    (hs : PySem.W.findIn K (.ref C) "__eq__" = some (some (.ref f))) (hf : PySem.W.isFn K (.ref f) = true) (hn : PySem.W.findIn K (.ref C) "__ne__" = some (some (.builtin "object.__ne__"))) (ho : PySem.W.mroIn K C (.type "object") = some true)
    (h : wpAny (model prog w) A.in1 (call (.ref f) [.ref x, .ref y]) (fun v s' => ∃ b, v = .bool b ∧ Q (.bool (!b)) s') E s) : wpAny (model prog w) A (richCompare .NotEq (.ref x) (.ref y)) Q E s := by
  have X := X₀.keeps F.keep
  have sub : PySem.W.Looks (model prog w) s.heap (isInstance (.ref x) (.type "object")) true := I.type.andThen (PySem.W.looks_mroIn X ho)
  have one : wpAny (model prog w) A (tryCompare (.ref x) "__ne__" (.ref y)) (fun r s' => ∃ v, r = some v ∧ Q v s') E s := by
    unfold tryCompare
    refine wpAny_bind (ifBound_ne X I hn (wpAny_call (codeAny_call_builtin PySem.F.cmp_object.ne.plain PySem.F.cmpEntry_ne
      (PySem.W.check_slot PySem.F.cmpKind_ne PySem.F.cmpSplit_ne sub (PySem.F.cmpArgs_ne _ _) (ne_own (A := A.in1) X I hs hf hu (wpAny_mono h (fun v s' hv => ?_) fun _ _ e => e))))))
    obtain ⟨b, rfl, hq⟩ := hv
    first | exact ⟨b, rfl, wpAny_pure ⟨_, rfl, hq⟩⟩ | exact ⟨b, rfl, wpAny_pure (wpAny_pure ⟨_, rfl, hq⟩)⟩ | exact ⟨b, rfl, ⟨_, rfl, hq⟩⟩
  unfold richCompare
  simp only [oneThing_ref]
  refine wpAny_holding (wpAny_bind (wpAny_cRoomFor (Nat.lt_of_succ_lt hu) ?_))
  refine wpAny_bind (I.type.here (wpAny_bind (J.type.here ?_)))
  rw [show (Value.ref C != Value.ref C) = false from by simp]
  simp only [Bool.false_eq_true, if_false]
  refine wpAny_bind (wpAny_pure ?_)
  simp only [Bool.false_eq_true, if_false]
  refine wpAny_bind (wpAny_mono one (fun r s' z => ?_) fun _ _ e => e)
  obtain ⟨v, rfl, hq⟩ := z
  exact wpAny_pure hq
end
section
variable {c : Pm} {Wx : WX} {X : Cx} {k : Nat} {H : Hp} {σ : L2.St} {pos : Pos}
theorem run_own {A : Around} {CX : CXT} {f : Addr} {fd : FuncData} {ps : List Str} {sp : Sp} {E : L2.St → XK} {pins : List (Addr × Obj)} {s : Shared} {Q : VK} {us : List Value} {vs : List V} (F : FnOk X.prog X.w X.K X.mg X.base CX k f fd ps sp) (hr : Room k A) (hfr : A.frames = X.A.frames) (hb : Binds X.K fd ps []) (hx : PassesAt CX X σ (E σ))
    (I : Inv X pins σ H s) (r : Vals vs us) (h : sp vs H Q (E σ)) : wpAny (model X.prog X.w) A (call (.ref f) us) (EP X pins σ Q) X.xe s := by
  have hl : us.length = ps.length := by rw [← r.length]; exact F.len _ _ _ _ h
  have b := hb s us I.kIn (by rw [List.append_nil]; exact hl)
  rw [List.append_nil] at b
  have e0 : Env0 X.prog X.w X.K X.mg X.base A X.stack s H := by
    have e := I.env0
    exact ⟨by rw [hfr]; exact e.frames, e.mod, e.bs, e.bsz, e.funs, e.frf, e.hok, e.bare⟩
  refine wpAny_call (codeAny_mono (F.run A X.stack s H ⟨us, []⟩ us vs Q (E σ) hr e0 b r h) fun r s' hq => ?_)
  cases r with
  | error e => exact hx pins H s e s' I hq
  | ok fl =>
    cases fl with
    | ret u => exact I.after hq
    | next => exact False.elim hq
    | brk => exact False.elim hq
    | cont => exact False.elim hq
structure OwnEq (c : Pm) (P : Program) (w : World) (mg : Str → Option Value) (base : Heap) (k : Nat) (nm : Str) (ps : List Str) (g : G) : Prop where
  mth : Mth c P w mg base k nm "__eq__" ps g
  ne : ∀ C, c.ca nm = some C → PySem.W.findIn c.K (.ref C) "__ne__" = some (some (.builtin "object.__ne__")) ∧ PySem.W.mroIn c.K C (.type "object") = some true
theorem op_own {j : Nat} {nm : Str} {ps : List Str} {g : G} {C : Addr} (n : Cn c Wx k X) (M : OwnEq c X.prog X.w X.mg X.base j nm ps g) (hj : j + 1 ≤ k) (hC : c.ca nm = some C) :
    OpR X (compareOp .Eq) (rOEq C (spG c g) false) ∧ OpR X (compareOp .NotEq) (rOEq C (spG c g) true) := by
  obtain ⟨C', f, fd, h1, h2, h3, h4, h5⟩ := M.mth.ex
  rw [hC] at h1
  cases h1
  obtain ⟨m1, m2⟩ := M.ne C hC
  rw [← n.hk] at h2 h3 h4 h5 m1 m2
  refine ⟨fun pins s σ H x y v u Q I rx ry hq => ?_, fun pins s σ H x y v u Q I rx ry hq => ?_⟩
  · obtain ⟨⟨a, b, dx, dy, fs, gs, rfl, rfl, ha, hb'⟩, q⟩ := hq
    cases rx
    cases ry
    obtain ⟨mA, J, _⟩ := ins_get I.hok ha
    obtain ⟨mB, J', _⟩ := ins_get I.hok hb'
    obtain ⟨od, J, _⟩ := J.look
    obtain ⟨od', J', _⟩ := J'.look
    obtain ⟨m, hF⟩ := I.fr
    show wpAny (model X.prog X.w) X.A (richCompare .Eq _ _) (EP X pins σ Q) X.xe s
    refine PySem.W.cmp_K (op := .Eq) (tb := .ref C) n.room.units0 hF I.ok.mod.kin J J'.type (by simp [PySem.W.notFirst]) h3.at_ h3.fn (wpAny_mono (run_own (us := [.ref a, .ref b]) (vs := [.ref a, .ref b]) h5 (n.room.mono (Nat.le_of_succ_le hj)) rfl h4 (passAt n.tk σ) I (.cons rfl (.cons rfl .nil)) (q _)) (fun v s' z => ?_) fun _ _ e => e)
    obtain ⟨vv, H', I', rv, r, rfl, hQ⟩ := z
    obtain rfl : v = .bool r := rv
    exact ⟨.bl (r != false), H', I', by rw [Bool.bne_false]; rfl, hQ⟩
  · obtain ⟨⟨a, b, dx, dy, fs, gs, rfl, rfl, ha, hb'⟩, q⟩ := hq
    cases rx
    cases ry
    obtain ⟨mA, J, _⟩ := ins_get I.hok ha
    obtain ⟨mB, J', _⟩ := ins_get I.hok hb'
    obtain ⟨od, J, _⟩ := J.look
    obtain ⟨od', J', _⟩ := J'.look
    obtain ⟨m, hF⟩ := I.fr
    show wpAny (model X.prog X.w) X.A (richCompare .NotEq _ _) (EP X pins σ Q) X.xe s
    refine cmp_ne_K (by have := n.hu; omega) hF I.ok.mod.kin J J' h3.at_ h3.fn m1 m2 (wpAny_mono (run_own (A := X.A.in1) (us := [.ref a, .ref b]) (vs := [.ref a, .ref b]) h5 ((n.room.mono hj).in1) rfl h4 (passAt n.tk σ) I (.cons rfl (.cons rfl .nil)) (q _)) (fun v s' z => ?_) fun _ _ e => e)
    obtain ⟨vv, H', I', rv, r, rfl, hQ⟩ := z
    obtain rfl : v = .bool r := rv
    exact ⟨r, rfl, .bl (r != true), H', I', by cases r <;> rfl, hQ⟩
theorem own_lift {neg : Bool} {nm : Str} {g : G} {ea eb : E} {C : Addr} {Q : VK} (hC : c.ca nm = some C) (h : rdE c Wx (.call (eqG neg nm g) (.cons ea (.cons eb .nil))) σ H Q) : tOp (rOEq C (spG c g) neg) (rdE c Wx ea) (rdE c Wx eb) σ H Q :=
  rdE_mono (call2_ok h) fun x H1 h2 => rdE_mono h2 fun y H2 h3 => spG_eq hC h3
theorem x_own {neg : Bool} {op : CmpOp} {j : Nat} {nm : Str} {ps : List Str} {g : G} {a b : Expr} {ea eb : E} (n : Cn c Wx k X) (M : OwnEq c X.prog X.w X.mg X.base j nm ps g) (ha : PE X a (rdE c Wx ea)) (hb : PE X b (rdE c Wx eb)) (hj : j + 1 ≤ k := by decide) (ho : op = (if neg then .NotEq else .Eq) := by rfl) (hm : behindInMarks op b = false := by first | exact nobehind _ (by decide) (by decide) | rfl) :
    PE X (.Compare a [op] [b] pos) (rdE c Wx (.call (eqG neg nm g) (.cons ea (.cons eb .nil)))) := by
  obtain ⟨C, _, _, hC, _⟩ := M.mth.ex
  obtain ⟨h1, h2⟩ := op_own n M hj hC
  subst ho
  cases neg
  · exact pe_wk (pe_cmpR h1 ha hb hm) fun σ H Q h => own_lift hC h
  · exact pe_wk (pe_cmpR h2 ha hb hm) fun σ H Q h => own_lift hC h
theorem y_own {neg : Bool} {op : CmpOp} {j : Nat} {nm : Str} {ps : List Str} {g : G} {a b : Expr} {ea eb : E} (n : Cn c Wx k X) (M : OwnEq c X.prog X.w X.mg X.base j nm ps g) (ha : PE X a (rdE c Wx ea)) (hb : PE X b (rdE c Wx eb)) (hj : j + 1 ≤ k := by decide) (ho : op = (if neg then .NotEq else .Eq) := by rfl) (hm : behindInMarks op b = false := by first | exact nobehind _ (by decide) (by decide) | rfl) :
    PT X (.Compare a [op] [b] pos) (rdT c Wx (.tv (.call (eqG neg nm g) (.cons ea (.cons eb .nil))))) := by
  obtain ⟨C, _, _, hC, _⟩ := M.mth.ex
  obtain ⟨h1, h2⟩ := op_own n M hj hC
  have fin : ∀ σ H Q, rdT c Wx (.tv (.call (eqG neg nm g) (.cons ea (.cons eb .nil)))) σ H Q → tOp (rOEq C (spG c g) neg) (rdE c Wx ea) (rdE c Wx eb) σ H fun v H' => ∃ b, v = .bl b ∧ Q b H' := by
    intro σ H Q h
    refine own_lift (Wx := Wx) hC ?_
    obtain ⟨F0, H0, ρ, F, W, R, hP⟩ := h
    refine ⟨F0, H0, ρ, F, W, R, ?_⟩
    simp only [evT] at hP
    revert hP
    cases e : ev (.call (eqG neg nm g) (.cons ea (.cons eb .nil))) ρ W with
    | stk => exact fun h => h
    | ex x W' => exact fun h => h
    | ok z W' =>
      intro hP u F' H' S V
      cases ez : z.d <;> simp only [Out.bind, ez, D.isBl, ofO] at hP <;> try (exact hP.elim)
      rename_i b
      exact ⟨b, V.bl (R.step S) ez, hP b F' H' S rfl⟩
  subst ho
  cases neg
  · exact pt_wk (pt_cmpR h1 ha hb hm) fin
  · exact pt_wk (pt_cmpR h2 ha hb hm) fin
end
end Z

namespace Z
open PySem PySem.Spec PyProof.Rows L2
open Classical
section
variable {c : Pm} {Wx : WX} {X : Cx} {fu n k : Nat} {W W' W1 W2 W3 : Dr} {F0 H0 F H F' H' F1 H1 F2 H2 F3 H3 Hs : Hp} {ρ ρ' : En} {σ σ' : L2.St} {u w : V} {x y v : Vl} {Q : VK} {us : List V} {vs : List Vl} {pos : Pos}
theorem keyD_inj {a b : Key} (h : keyD a = keyD b) : a = b := by
  cases a <;> cases b <;> simp only [keyD] at h <;> cases h <;> rfl
abbrev KvG {κ : Type} (kd : κ → D) (c : Pm) (F : Hp) (ks : List (κ × V)) (kvs : List (D × D)) : Prop := Paired (fun (q : κ × V) (p : D × D) => p.1 = kd q.1 ∧ Rep c F q.2 p.2) ks kvs
abbrev KvR (c : Pm) (F : Hp) (ks : List (Key × V)) (kvs : List (D × D)) : Prop := KvG keyD c F ks kvs
section
variable {κ : Type} [DecidableEq κ] {kd : κ → D}
theorem kv_of : ∀ {ks : List (κ × V)} {kvs : List (D × D)}, kvs.map (·.1) = ks.map (fun q => kd q.1) → RepL c F (ks.map (·.2)) (kvs.map (·.2)) → KvG kd c F ks kvs
  | [], [], _, _ => .nil
  | [], _ :: _, h, _ => by cases h
  | _ :: _, [], h, _ => by cases h
  | q :: ks, p :: kvs, h, r => by
    simp only [List.map_cons] at h r
    cases r with
    | cons r rs => exact .cons ⟨(List.cons.inj h).1, r⟩ (kv_of (List.cons.inj h).2 rs)
theorem kv_to : ∀ {ks : List (κ × V)} {kvs : List (D × D)}, KvG kd c F ks kvs → kvs.map (·.1) = ks.map (fun q => kd q.1) ∧ RepL c F (ks.map (·.2)) (kvs.map (·.2))
  | _, _, .nil => ⟨rfl, .nil⟩
  | _, _, .cons h t => by
    obtain ⟨h1, h2⟩ := kv_to t
    exact ⟨by rw [List.map_cons, List.map_cons, h1, h.1], .cons h.2 h2⟩
theorem kv_any (inj : ∀ a b, kd a = kd b → a = b) {k : κ} : ∀ {ks : List (κ × V)} {kvs : List (D × D)}, KvG kd c F ks kvs → (kvs.any fun p => decide (p.1 = kd k)) = ks.any fun q => decide (q.1 = k)
  | _, _, .nil => rfl
  | _, _, .cons (a := q) h t => by
    rw [List.any_cons, List.any_cons, kv_any inj t, h.1]
    congr 1
    exact decide_eq_decide.mpr ⟨inj _ _, fun e => by rw [e]⟩
theorem kv_map (inj : ∀ a b, kd a = kd b → a = b) {k : κ} {v : V} {d : D} (r : Rep c F v d) : ∀ {ks : List (κ × V)} {kvs : List (D × D)}, KvG kd c F ks kvs → KvG kd c F (ks.map fun q => if q.1 = k then (q.1, v) else q) (kvs.map fun p => if p.1 = kd k then (p.1, d) else p)
  | _, _, .nil => .nil
  | _, _, .cons (a := q) (b := p) h t => by
    rw [List.map_cons, List.map_cons]
    refine .cons ?_ (kv_map inj r t)
    by_cases e : q.1 = k
    · rw [if_pos e, if_pos (by rw [h.1, e])]
      exact ⟨h.1, r⟩
    · rw [if_neg e, if_neg fun z => e (inj _ _ (h.1.symm.trans z))]
      exact h
theorem kv_snoc {q : κ × V} {p : D × D} (r : p.1 = kd q.1 ∧ Rep c F q.2 p.2) : ∀ {ks : List (κ × V)} {kvs : List (D × D)}, KvG kd c F ks kvs → KvG kd c F (ks ++ [q]) (kvs ++ [p])
  | _, _, .nil => .cons r .nil
  | _, _, .cons h t => .cons h (kv_snoc r t)
theorem kv_put (inj : ∀ a b, kd a = kd b → a = b) {k : κ} {v : V} {d : D} {ks : List (κ × V)} {kvs : List (D × D)} (r : Rep c F v d) (h : KvG kd c F ks kvs) : KvG kd c F (putK ks k v) (dPut kvs (kd k) d) := by
  unfold putK dPut
  rw [kv_any inj h]
  split
  · exact kv_map inj r h
  · exact kv_snoc (kd := kd) (q := (k, v)) (p := (kd k, d)) ⟨rfl, r⟩ h
end
theorem keyD_inj' : ∀ a b : Key, keyD a = keyD b → a = b := fun _ _ h => keyD_inj h
theorem kv_len {ks : List (Key × V)} {kvs : List (D × D)} (h : KvR c F ks kvs) : ks.length = kvs.length := Paired.len h
theorem key_of {d : D} {u : V} (r : Rep c F u d) (h : d.keyOk false = true) : ∃ k : Key, u = kV k ∧ d = keyD k := by
  cases d <;> simp only [D.keyOk, D.key1, Bool.false_eq_true, if_false] at h <;> try (cases h; done)
  · cases r; exact ⟨.inl _, rfl, rfl⟩
  · cases r; exact ⟨.inr _, rfl, rfl⟩

def keyT (k : List Key) : D := .tup (k.map keyD)
theorem keysD_inj : ∀ {a b : List Key}, a.map keyD = b.map keyD → a = b
  | [], [], _ => rfl
  | [], _ :: _, h => by cases h
  | _ :: _, [], h => by cases h
  | x :: a, y :: b, h => by
    have h' := List.cons.inj h
    rw [keyD_inj h'.1, keysD_inj h'.2]
theorem keyT_inj : ∀ a b : List Key, keyT a = keyT b → a = b := fun a b h => keysD_inj (D.tup.inj h)
theorem kv_ofG {κ : Type} {kd : κ → D} : ∀ {ks : List (κ × V)} {kvs : List (D × D)}, kvs.map (·.1) = ks.map (fun q => kd q.1) → RepL c F (ks.map (·.2)) (kvs.map (·.2)) → KvG kd c F ks kvs
  | [], [], _, _ => .nil
  | [], _ :: _, h, _ => by cases h
  | _ :: _, [], h, _ => by cases h
  | q :: ks, p :: kvs, h, r => by
    simp only [List.map_cons] at h r
    cases r with
    | cons r rs => exact .cons ⟨(List.cons.inj h).1, r⟩ (kv_ofG (List.cons.inj h).2 rs)
theorem keys_of : ∀ {us : List V} {xs : List D}, RepL c F us xs → xs.all D.key1 = true → ∃ k : List Key, us = k.map kV ∧ xs = k.map keyD
  | _, _, .nil, _ => ⟨[], rfl, rfl⟩
  | _, _, .cons (x := x) r t, h => by
    rw [List.all_cons, Bool.and_eq_true] at h
    obtain ⟨k, rfl, rfl⟩ := keys_of t h.2
    obtain ⟨k1, rfl, rfl⟩ := key_of (d := x) r (by simpa only [D.keyOk, Bool.false_eq_true, if_false] using h.1)
    exact ⟨k1 :: k, rfl, rfl⟩
theorem kv_toG {κ : Type} {kd : κ → D} : ∀ {ks : List (κ × V)} {kvs : List (D × D)}, KvG kd c F ks kvs → kvs.map (·.1) = ks.map (fun q => kd q.1) ∧ RepL c F (ks.map (·.2)) (kvs.map (·.2))
  | _, _, .nil => ⟨rfl, .nil⟩
  | _, _, .cons h t => by
    obtain ⟨h1, h2⟩ := kv_toG t
    exact ⟨by rw [List.map_cons, List.map_cons, h1, h.1], .cons h.2 h2⟩
def newDicD : List D → Option (Bool × D) := fun _ => some (true, .dic false [])
theorem e_dict : PE X (.Dict [] [] pos) (rdE c Wx (.call (pureG newDicD) .nil)) := by
  refine pe_wk (pe_dnewK (pos := pos)) fun σ H Q ⟨F0, H0, ρ, F, W, R, hP⟩ => ?_
  simp only [ev, evL, Out.ok_bind] at hP
  have A : ArgOk c ρ σ H F H [] [] := .nil
  have q := call_end (g := pureG newDicD) R R.refl A (t := []) (fun i h => by cases h) hP
  obtain ⟨F', xs, W', r, _, S, hf, hQ⟩ := spG_pure (c := c) (us := []) (f := newDicD) ⟨_, [], W, .nil, ((Ft_rel R R R.refl A).frz (t := []) (fun i h => by cases h)).stp.refl, q⟩
  cases hf
  intro p hp
  have hF : F' p = none := by
    cases q : F' p with
    | none => rfl
    | some o => rw [S.sub _ _ q] at hp; cases hp
  exact hQ _ F' _ (S.make hp) ⟨p, rfl, hF, fun h => S.sm h hp, .of hp, [], upd_same, rfl, .nil⟩

theorem s_setk {i : Nat} {z : Str} {kx e : Expr} {ek ee : E} {p2 tpos : Pos} (n : Cn c Wx k X) (hN : X.N[i]? = some z) (hv : Vis X.env.scope z) (hd : (z == ("__debug__" : Str)) = false) (hcd : (z == ("__classdict__" : Str)) = false) (hk : PE X kx (rdE c Wx ek)) (he : PE X e (rdE c Wx ee))
    (hs : swapsWith e (some (.Subscript (.Name z p2) kx tpos)) pos.line X.env = pure false) :
    PS X (.Assign [.Subscript (.Name z p2) kx tpos] e pos) (rdS c Wx fu (.setk i ek ee)) := by
  refine ps_wk (ps_dput (by have := n.hu; omega) (pe_var hN hv hd hcd) hk he hs) fun D σ H ⟨F0, H0, ρ, F, W, R, hP⟩ => ?_
  simp only [evS] at hP
  cases e0 : ρ[i]? with
  | none => rw [e0] at hP; exact hP.elim
  | some s =>
    rw [e0] at hP
    cases s with
    | un => exact hP.elim
    | slf _ _ _ => exact hP.elim
    | val d => exact hP.elim
    | own d =>
      cases d <;> try (exact hP.elim)
      rename_i t0 xs0
      simp only at hP
      obtain ⟨p, h1, _, _, _, _⟩ := R.own e0
      refine st_e R hP fun v W1 u F1 H1 S1 V1 R1 hP => ?_
      refine ⟨.ref p, h1, st_e R1 (hP.up S1.f) fun y W2 w F2 H2 S2 V2 R2 hP => ?_⟩
      have S12 := S1.trans S2
      have A : ArgOk c ρ σ H F2 H2 [u, w] [v, y] := .cons (V1.step R1 S2) (.cons (V2.start fun a m z => S1.keepN m z) .nil)
      obtain ⟨RF, RA, up⟩ := keep_all R R2 S12 A
      have hts : ts [v, y] = v.all ++ y.all := by simp [ts]
      rw [hts] at RF RA up
      cases e2 : (Z.frz ρ (v.all ++ y.all))[i]? with
      | none => rw [e2] at hP; exact hP.elim
      | some s =>
        rw [e2] at hP
        cases s with
        | un => exact hP.elim
        | slf _ _ _ => exact hP.elim
        | val d => exact hP.elim
        | own d =>
          cases d <;> try (exact hP.elim)
          rename_i t kvs
          simp only at hP
          split at hP
          · rename_i hz
            obtain ⟨p', q1, _, _, _, own⟩ := RF.own e2
            rw [h1] at q1
            have q := L2.V.ref.inj (Option.some.inj (Option.some.inj q1))
            subst q
            cases RA with
            | cons ru ra =>
              cases ra with
              | cons rw_ _ =>
                cases t with
                | false =>
                  obtain ⟨ks, h5, h6, h7⟩ := own
                  have h6 := kv_of h6 h7
                  obtain ⟨kk, rfl, ek'⟩ := key_of rw_ hz.1
                  have hl : ks.length < sizeLine := by rw [kv_len h6, ← cap_eq]; exact hz.2
                  have hput := kv_to (kv_put keyD_inj' (k := kk) ru h6)
                  rw [← ek'] at hput
                  exact ⟨p, _, rfl, DPut.k h5 hl, hP _ _ _ (RF.mut e2 h1 ⟨_, upd_same, hput.1, hput.2⟩) fun a o q => up _ _ (S2.f _ _ q)⟩
                | true =>
                  obtain ⟨ks, h5, h6, h7⟩ := own
                  have h6 := kv_ofG (kd := keyT) h6 h7
                  have hkey := hz.1
                  cases ey : y.d <;> rw [ey] at hkey <;> simp only [Z.D.keyOk, if_true] at hkey <;> try (cases hkey; done)
                  have rw2 : Rep c (Fz (Ft F2 H2 [u, w] [v, y]) H2 σ (v.all ++ y.all)) w y.d := rw_
                  rw [ey] at rw2
                  obtain ⟨b, ws, rfl, e5, e6⟩ := rw2.tupP
                  obtain ⟨kk, rfl, ek'⟩ := keys_of e6 hkey
                  have hl : ks.length < sizeLine := by rw [Paired.len h6, ← cap_eq]; exact hz.2
                  have hput := kv_toG (kv_put keyT_inj (k := kk) ru h6)
                  have ek2 : y.d = keyT kk := by rw [ey, ek']; rfl
                  rw [← ek2] at hput
                  have e7 := Fz_dn (Ft_dn R2.stp.sub) _ _ e5
                  exact ⟨p, _, rfl, DPut.t h5 e7 hl, hP _ _ _ (RF.mut e2 h1 ⟨_, upd_same, hput.1, hput.2⟩) fun a o q => up _ _ (S2.f _ _ q)⟩
          · exact hP.elim
theorem z_setk (i : Nat) {z : Str} {kx e : Expr} {ek ee : E} {p2 tpos : Pos} (n : Cn c Wx k X) (hk : PE X kx (rdE c Wx ek)) (he : PE X e (rdE c Wx ee)) (hv : Vis X.env.scope z) (hN : X.N[i]? = some z := by rfl) (hd : (z == ("__debug__" : Str)) = false := by decide) (hcd : (z == ("__classdict__" : Str)) = false := by decide)
    (hs : swapsWith e (some (.Subscript (.Name z p2) kx tpos)) pos.line X.env = pure false := by rfl) :
    PS X (.Assign [.Subscript (.Name z p2) kx tpos] e pos) (rdS c Wx fu (.setk i ek ee)) := s_setk n hN hv hd hcd hk he hs

noncomputable def sortS (l : List Str) : List Str := if h : ∃ ys : List Str, ys.Perm l ∧ sortedS ys = true then Classical.choose h else []
theorem ltC_tot : ∀ {a b : List Nat}, ltCps a b = false → ltCps b a = false → a = b
  | [], [], _, _ => rfl
  | [], _ :: _, h, _ => by simp [ltCps] at h
  | _ :: _, [], _, h => by simp [ltCps] at h
  | x :: a, y :: b, h1, h2 => by
    simp only [ltCps, Bool.or_eq_false_iff, decide_eq_false_iff_not, Bool.and_eq_false_iff, beq_eq_false_iff_ne] at h1 h2
    have : x = y := by omega
    subst this
    have h3 : ltCps a b = false := h1.2.resolve_left (by simp)
    have h4 : ltCps b a = false := h2.2.resolve_left (by simp)
    rw [ltC_tot h3 h4]
theorem ltC_trans : ∀ {a b c : List Nat}, ltCps b a = false → ltCps c b = false → ltCps c a = false
  | [], _, c, _, _ => by cases c <;> rfl
  | _ :: _, [], _, h, _ => by simp [ltCps] at h
  | _ :: _, _ :: _, [], _, h => by simp [ltCps] at h
  | x :: a, y :: b, z :: c, h1, h2 => by
    simp only [ltCps, Bool.or_eq_false_iff, decide_eq_false_iff_not, Bool.and_eq_false_iff, beq_eq_false_iff_ne] at h1 h2 ⊢
    refine ⟨by omega, ?_⟩
    by_cases e : z = x
    · right
      have e1 : y = x := by omega
      subst e1
      subst e
      exact ltC_trans (h1.2.resolve_left (by simp)) (h2.2.resolve_left (by simp))
    · exact .inl e
theorem rising_pw : ∀ {p : Str} {l : List Str}, risingS p l = true → (p :: l).Pairwise fun a b => ltCps b.cps.toList a.cps.toList = false
  | p, [], _ => by simp
  | p, x :: r, h => by
    simp only [risingS, Bool.and_eq_true, Bool.not_eq_true'] at h
    have ih := rising_pw h.2
    refine List.pairwise_cons.mpr ⟨fun y hy => ?_, ih⟩
    rcases List.mem_cons.mp hy with rfl | hy
    · exact h.1
    · exact ltC_trans h.1 ((List.pairwise_cons.mp ih).1 y hy)
theorem sorted_pw {l : List Str} (h : sortedS l = true) : l.Pairwise fun a b => ltCps b.cps.toList a.cps.toList = false := by
  cases l with
  | nil => exact .nil
  | cons x r => exact rising_pw h
theorem sorted_one : ∀ {a b : List Str}, a.Perm b → sortedS a = true → sortedS b = true → a = b := by
  intro a b p ha hb
  have e : ∀ x y : Str, ltCps y.cps.toList x.cps.toList = false → ltCps x.cps.toList y.cps.toList = false → x = y := fun x y h1 h2 => by
    have q := ltC_tot h2 h1
    cases x; cases y
    congr 1
    exact Array.toList_inj.mp q
  exact p.eq_of_pairwise (fun x y _ _ h1 h2 => e x y h1 h2) (sorted_pw ha) (sorted_pw hb)
theorem sortS_eq {l ys : List Str} (p : ys.Perm l) (s : sortedS ys = true) : sortS l = ys := by
  have h : ∃ ys : List Str, ys.Perm l ∧ sortedS ys = true := ⟨ys, p, s⟩
  unfold sortS
  rw [dif_pos h]
  have q := Classical.choose_spec h
  exact sorted_one (q.1.trans p.symm) q.2 s
noncomputable def sortedDD : List D → Option (Bool × D)
  | [.dic false kvs] => (strsD (kvs.map (·.1))).bind fun ks => if ks.length < 64 then some (true, .lst ((sortS ks).map .str)) else none
  | [.lst xs] => (strsD xs).bind fun ks => if ks.length < 64 then some (true, .lst ((sortS ks).map .str)) else none
  | _ => none
theorem keys_strs : ∀ {ks : List (Key × V)} {kvs : List (D × D)} {ss : List Str}, KvR c F ks kvs → strsD (kvs.map (·.1)) = some ss → ks.map (·.1) = ss.map Sum.inr
  | _, _, _, .nil, h => by cases h; rfl
  | _, _, _, .cons (a := q) (b := p) h t, e => by
    rw [List.map_cons] at e
    obtain ⟨q1, q2⟩ := q
    obtain ⟨p1, p2⟩ := p
    obtain ⟨h1, h2⟩ := h
    simp only at h1 e
    subst h1
    cases q1 with
    | inl i => simp [keyD, strsD] at e
    | inr x =>
      simp only [keyD, strsD, Option.map_eq_some_iff] at e
      obtain ⟨zs, e1, rfl⟩ := e
      rw [List.map_cons, List.map_cons, keys_strs t e1]
theorem rdL_mono {e : E} {Q Q' : List V → Hp → Prop} (h : rdL c Wx e σ H Q) (k : ∀ x H', Q x H' → Q' x H') : rdL c Wx e σ H Q' := by
  obtain ⟨F0, H0, ρ, F, W, R, hP⟩ := h
  refine ⟨F0, H0, ρ, F, W, R, ?_⟩
  revert hP
  cases evL e ρ W with
  | stk => exact fun h => h
  | ex x W' => exact fun h => h
  | ok a W' => exact fun h b F' H' S V => k b H' (h b F' H' S V)
theorem x_bltB {g : G} {r : List V → Hp → VK → Prop} {z : Str} {id : String} {e : Expr} {es : List Expr} {ea : E} {p : Pos} (n : Cn c Wx k X) (hr : ∀ vs H Q E, spG c g vs H Q E → r vs H Q) (hc : CallR X (.builtin id) r) (hv : bootBuiltins z = some (.builtin id)) (hm : X.mg z = none) (ha : PA X (e :: es) (rdL c Wx ea)) (hg : Gl X z := by rfl)
    (hn : z ≠ "__name__" := by decide) (hdb : (z == ("__debug__" : Str)) = false := by decide) (he : starEach (e :: es) X.env = (false, eval e X.env) :: starEach es X.env := by rfl) (hpl : (backTo pos (starEach es X.env)).any (·.1) = false := by rfl) : PE X (.Call (.Name z p) (e :: es) [] pos) (rdE c Wx (.call g ea)) :=
  pe_wk (pe_callB hc hg hm hv ha hn hdb he hpl) fun σ H Q h => rdL_mono (call_ok h) fun vs H1 q => hr _ _ _ _ q
theorem callR_or {f : Value} {r1 r2 : List V → Hp → VK → Prop} (h1 : CallR X f r1) (h2 : CallR X f r2) : CallR X f fun xs H Q => r1 xs H Q ∨ r2 xs H Q := by
  intro pins s σ H xs us Q I rel h
  rcases h with h | h
  · exact h1 pins s σ H xs us Q I rel h
  · exact h2 pins s σ H xs us Q I rel h
theorem boot_sorted' : bootBuiltins "sorted" = some (.builtin "sorted") := by first | rfl | decide +kernel
end
end Z

namespace Z
open PySem PySem.Spec PyProof.Rows L2
open Classical
section
open AutoSeq1 (wpAny_loadPart')
variable {prog : Program} {w : World} {A : Around} {E : Value → Shared → Prop} {s : Shared}
end
section
variable {c : Pm} {Wx : WX} {X : Cx} {fu n k : Nat} {W W' W1 W2 W3 : Dr} {F0 H0 F H F' H' F1 H1 F2 H2 F3 H3 Hs : Hp} {ρ ρ' : En} {σ σ' : L2.St} {u w : V} {x y v : Vl} {Q : VK} {us : List V} {vs : List Vl} {pos : Pos}
def revLD : List D → Option (Bool × D)
  | [.lst xs] => some (true, .lst xs.reverse)
  | _ => none
theorem RepL.rev {vs : List V} {xs : List D} (r : RepL c F vs xs) : RepL c F vs.reverse xs.reverse := by
  have go : ∀ (vs : List V) (xs : List D), RepL c F vs xs → RepL c F vs.reverse xs.reverse := by
    intro vs
    induction vs with
    | nil => intro xs r; cases r; exact .nil
    | cons v vs ih =>
      intro xs r
      cases r with
      | cons h t =>
        rw [List.reverse_cons, List.reverse_cons]
        exact (ih _ t).append (.cons h .nil)
  exact go _ _ r
theorem x_revL {a : Expr} {ea : E} {kk : Nat} {p1 p2 p3 : Pos} (n : Cn c Wx k X) (ha : PE X a (rdE c Wx ea)) : PE X (.Subscript a (.Slice none none (some (.UnaryOp .USub (.Constant (.int 1) kk p1) p2)) p3) pos) (rdE c Wx (.call (pureG revLD) (.cons ea .nil))) := by
  refine pe_wk (pe_revL ha) fun σ H Q h => rdE_mono (call1_ok h) fun x H1 h2 => ?_
  obtain ⟨F, xs, W, r, rr, S, hf, hQ⟩ := spG_pure h2
  cases rr with
  | cons r1 rr =>
    cases rr
    rename_i d1
    cases d1 <;> simp only [revLD] at hf <;> try (cases hf; done)
    cases hf
    obtain ⟨p, vs, rfl, e1, e2⟩ := r1.lstI
    exact ⟨p, vs, rfl, .inl (.inl (S.sub _ _ e1)), fin_newL S e2.rev hQ⟩
end
end Z

namespace Z
open PySem PySem.Spec PyProof.Rows L2 He
open Classical
theorem run1 {CX : CXT} {P : Program} {w : World} {K : PySem.W.Frag} {mg : Str → Option Value} {base : Heap} {k : Nat} {f : Addr} {x qual : Str} {st : Stmt} {fd : FuncData} {N : List Str} {pa : Str} (Fu : Fun K x qual st f fd) (S : FnScope N [pa] (defScope st))
    {A : Around} {outer : List Env} {s : Shared} {H : Hp} {u : Value} {v : V} {Q : VK} {E : XK} (hr : Room (k + 1) A) (e0 : Env0 P w K mg base A outer s H) (hb : ∀ (s : Shared) (u : Value), BindsTo s fd ⟨[u], []⟩ [(pa, u)]) (ru : RelV v u)
    (body : ∀ cdv : Value, fd.code = cdv → Room k (A.deeper (envOfC qual (defScope st) s.heap.objs.size f cdv)) → ∃ t, PSs (cxOf CX P w K mg base N qual (defScope st) f cdv A outer s H E) (defBody st) t ∧ t { nx := fun _ H' => Q .non H', rt := Q } (L2.start N [v]) H) :
    codeAny (model P w) A (.call (.ref f) ⟨[u], []⟩) (CR CX outer P w H s Q E) s := by
  obtain ⟨⟨oc, od, kV, doc, pm, an, cdv, ct, osl, rfl, lk, hcd⟩, kp⟩ := Fu
  obtain ⟨tt, ht, hq⟩ := body cdv rfl (hr.deeper _)
  have KX : K.In s.heap := e0.mod.kin.keeps fun b o z => (e0.bs b o z).1
  have nolim : s.heap.NoLimit := e0.mod.nolimit.keeps fun b o z => (e0.bs b o z).1
  have rr : Vals [v] [u] := .cons ru .nil
  have kinds : ∀ y ∈ [pa].zip [u], (defScope st).names.lookup y.1 = some .local ∨ ((defScope st).names.lookup y.1 = some .cell ∧ ((cellsFrom (s.heap.objs.size + 1) (defScope st).names []).lookup y.1).isSome = true) := by
    intro y hy
    have ey : y.1 ∈ [pa] := (List.of_mem_zip (a := y.1) (b := y.2) hy).1
    rcases S.par y.1 ey with q | q
    · exact .inl q
    · exact .inr ⟨q, PySem.W.cellsFrom_some _ _ _ (.inl q)⟩
  refine codeAny_call_function hr.depth (KX _ _ lk) rfl S.co S.gen rfl (PySem.W.codeRec_of KX hcd) ((hb s u) _ _ _ _ (wpAny_newFunctionEnv_cells S.kind kinds fun env he s1 y => ?_))
  subst he
  refine ⟨nolim.keeps y.toInCall.keep, codeAny_func ?_⟩
  have I := inv_start (CX := CX) (E := E) S hr.hd e0 rfl rr y
  refine wpAny_mono (ht.run [] s1 (L2.start N [v]) H _ I hq) (fun fl s2 hs => ?_) fun e s2 hs => hs
  cases fl with
  | next => obtain ⟨σ2, H2, J, q⟩ := hs; exact ⟨.non, H2, J.os, J.bare, J.base, J.hok, rfl, q⟩
  | ret z => obtain ⟨vz, σ2, H2, J, rz, q⟩ := hs; exact ⟨vz, H2, J.os, J.bare, J.base, J.hok, rz, q⟩
  | brk => obtain ⟨_, _, _, q⟩ := hs; exact q.elim
  | cont => obtain ⟨_, _, _, q⟩ := hs; exact q.elim
section
open LamX
variable {P : Program} {w : World} {K : PySem.W.Frag} {mg mb : Str → Option Value} {a : Addr} {cs : List (Addr × Addr)} {s₁ : Shared} {vs : List Value} {ns : List Int}
abbrev tbs (cs : List (Addr × Addr)) : List Addr := cs.map (·.2)
noncomputable def startH (K : PySem.W.Frag) (a : Addr) (vs : List Value) (ns : List Int) (cs : List (Addr × Addr)) : Hp := fun b =>
  if b ∈ tbs cs then some (.tbl #[]) else if b = a ∧ K.lookup a = none then some (.frz { cls := .type "list", data := .seq vs.toArray } (.lst (ns.map V.int))) else none
theorem law_start (KX : K.In s₁.heap) (hns : s₁.heap.Ns mainGlobals mg) (hb : s₁.heap.Ns builtinsNs mb) (hbb : ∀ x : Str, x ≠ "__name__" → mb x = bootBuiltins x) (hlim : s₁.heap.NoLimit) (hg : s₁.gens = #[])
    (hT : ∀ p ∈ cs, s₁.heap.get? p.2 = some { cls := .none, data := .fields #[] }) (nT : ∀ p ∈ cs, K.lookup p.2 = none) (C : ∀ p ∈ cs, PySem.W.CodeHd s₁.heap p.1 p.2)
    (hbm : ∃ (bm : Addr) (ob : Obj), mg "__builtins__" = some (.ref bm) ∧ bm ≠ builtinsNs ∧ s₁.heap.get? bm = some ob ∧ ob.cls = .type "module" ∧ ob.dict = some builtinsNs ∧ ob.data = .plain)
    (ha : s₁.heap.get? a = some { cls := .type "list", data := .seq vs.toArray }) (hi : IntsAre vs ns) (hl : ns.length ≤ sizeLine) :
    K.In (hidT s₁.heap (startH K a vs ns cs)) ∧ (hidT s₁.heap (startH K a vs ns cs)).Ns mainGlobals mg ∧ (∀ p ∈ cs, TabB (hidT s₁.heap (startH K a vs ns cs)) mg p.1 p.2) ∧ Env0 P w K mg (hidT s₁.heap (startH K a vs ns cs)) callerA [] s₁ (startH K a vs ns cs) ∧
      (∀ p ∈ cs, startH K a vs ns cs p.2 = some (.tbl #[])) ∧ SqL K (startH K a vs ns cs) a (ns.map V.int) := by
  generalize eH : startH K a vs ns cs = H
  have tb : ∀ b, b ∈ tbs cs → s₁.heap.get? b = some { cls := .none, data := .fields #[] } ∧ K.lookup b = none := fun b z => by
    obtain ⟨p, hp, rfl⟩ := List.mem_map.mp z
    exact ⟨hT p hp, nT p hp⟩
  have at_ : ∀ b o, H b = some o → (b ∈ tbs cs ∧ o = .tbl #[]) ∨ (b = a ∧ K.lookup a = none ∧ o = .frz { cls := .type "list", data := .seq vs.toArray } (.lst (ns.map V.int))) := fun b o z => by
    rw [← eH] at z
    unfold startH at z
    split at z
    · rename_i q; cases z; exact .inl ⟨q, rfl⟩
    · split at z
      · rename_i q; cases z; exact .inr ⟨q.1, q.2, rfl⟩
      · cases z
  have sm : ∀ b, b ∈ tbs cs → H b = some (.tbl #[]) := fun b z => by rw [← eH]; exact if_pos z
  -- what is no list and no table's object is not tracked
  have free : ∀ {b : Addr} {o : Obj}, s₁.heap.get? b = some o → (o.cls ≠ .type "list") → (o.data ≠ .fields #[]) → H b = none := fun {b o} z c1 c2 => by
    cases q : H b with
    | none => rfl
    | some u =>
      rcases at_ b u q with ⟨m, _⟩ | ⟨rfl, _⟩
      · rw [(tb b m).1] at z; cases z; exact absurd rfl c2
      · rw [ha] at z; cases z; exact absurd rfl c1
  have freeD : ∀ {b : Addr} {o : Obj} {es : Array DictEntry} {ep : Nat}, s₁.heap.get? b = some o → o.data = .dict es ep → H b = none := fun {b o es ep} z dd => by
    cases q : H b with
    | none => rfl
    | some u =>
      rcases at_ b u q with ⟨m, _⟩ | ⟨rfl, _⟩
      · rw [(tb b m).1] at z; cases z; cases dd
      · rw [ha] at z; cases z; cases dd
  have ns_ : ∀ {b : Addr} {m : Str → Option Value}, s₁.heap.Ns b m → (hidT s₁.heap H).Ns b m := fun {b m} ⟨o, es, ep, z, dd, r⟩ => ⟨o, es, ep, hidT_get z (freeD z dd), dd, r⟩
  have kin : K.In (hidT s₁.heap H) := fun b o z => hidT_get (KX b o z) (by
    cases q : H b with
    | none => rfl
    | some u =>
      rcases at_ b u q with ⟨m, _⟩ | ⟨rfl, n, _⟩
      · rw [(tb b m).2] at z; cases z
      · rw [n] at z; cases z)
  have okH : HOk P w H s₁.heap := fun b o z => by
    rcases at_ b o z with ⟨m, rfl⟩ | ⟨rfl, _, rfl⟩
    · exact (tb b m).1
    · exact ⟨ha, by rw [List.length_map]; exact hl, vs, _, vals_ints hi, ha⟩
  refine ⟨kin, ns_ hns, fun p hp => ⟨?_, ?_, fun z => ?_⟩, ⟨rfl, ⟨kin, ns_ hns, ⟨mb, ns_ hb, hbb⟩, let ⟨mc, h1, h2⟩ := hlim; ⟨mc, ns_ h1, h2⟩⟩, fun b o z => of_hidT z, Nat.le_of_eq (hidT_size _ _), trivial, fun b hb => (nomatch hb), okH, .of_eq hg⟩, fun p hp => sm _ (List.mem_map.mpr ⟨p, hp, rfl⟩), ?_⟩
  · obtain ⟨o, us, file, tf, flags, tg, inF, text, tt, e1, r1, r2, r3, r4⟩ := C p hp
    refine ⟨o, us, file, tf, flags, tg, inF, text, tt, hidT_get e1 (free e1 (by rw [r1]; decide) fun z => ?_), r1, r2, r3, r4⟩
    rw [r2] at z
    cases z
    simp at r3
  · obtain ⟨bm, ob, b1, b2, b3, b4, b5, b6⟩ := hbm
    refine ⟨bm, ob, b1, b2, fun q => ?_, fun q => ?_, hidT_get b3 (free b3 (by rw [b4]; decide) fun z => by rw [b6] at z; cases z), b4, b5, b6⟩
    · obtain ⟨o, es, ep, z, dd, _⟩ := hns
      rw [q, z] at b3; cases b3
      rw [dd] at b6; cases b6
    · rw [q, hT p hp] at b3; cases b3; cases b6
  · obtain ⟨o, es, ep, y, dd, _⟩ := hns
    rw [z, hT p hp] at y; cases y; cases dd
  · cases q : K.lookup a with
    | some o =>
      have y := KX a o q
      rw [ha] at y; cases y
      refine Or.inr ⟨_, vs.toArray, _, q, rfl, rfl, rfl, by rw [List.size_toArray, hi.length]; exact hl, by simpa using vals_ints hi⟩
    | none =>
      refine .inl (.inr ⟨{ cls := .type "list", data := .seq vs.toArray }, ?_⟩)
      rw [← eH]
      unfold startH
      rw [if_neg fun m => ?_, if_pos ⟨rfl, q⟩]
      have y := (tb a m).1
      rw [ha] at y; cases y
theorem law_callG {CX : CXT} {fl : Addr} (KX : K.In s₁.heap) (hns : s₁.heap.Ns mainGlobals mg) (hb : s₁.heap.Ns builtinsNs mb) (hbb : ∀ x : Str, x ≠ "__name__" → mb x = bootBuiltins x) (hlim : s₁.heap.NoLimit) (hg : s₁.gens = #[])
    (hT : ∀ p ∈ cs, s₁.heap.get? p.2 = some { cls := .none, data := .fields #[] }) (nT : ∀ p ∈ cs, K.lookup p.2 = none) (C : ∀ p ∈ cs, PySem.W.CodeHd s₁.heap p.1 p.2)
    (hbm : ∃ (bm : Addr) (ob : Obj), mg "__builtins__" = some (.ref bm) ∧ bm ≠ builtinsNs ∧ s₁.heap.get? bm = some ob ∧ ob.cls = .type "module" ∧ ob.dict = some builtinsNs ∧ ob.data = .plain)
    (ha : s₁.heap.get? a = some { cls := .type "list", data := .seq vs.toArray }) (hi : IntsAre vs ns) (hl : ns.length ≤ sizeLine)
    (F : ∀ (base : Heap) (H : Hp), K.In base → base.Ns mainGlobals mg → (∀ p ∈ cs, TabB base mg p.1 p.2) → Env0 P w K mg base callerA [] s₁ H → (∀ p ∈ cs, H p.2 = some (.tbl #[])) → SqL K H a (ns.map V.int) →
      codeAny (model P w) callerA (.call (.ref fl) ⟨[.ref a], []⟩) (CR CX [] P w H s₁ (fun v _ => v = .bl true) fun _ _ _ => False) s₁)
    (hCX : ∀ H e s', CX [] H s₁ (fun _ _ _ => False) e s' → False) :
    codeAny (model P w) callerA (.call (.ref fl) ⟨[.ref a], []⟩) (fun r s' => r = .ok (.ret (.bool true)) ∧ OldK s₁.heap s'.heap ∧ s'.os = s₁.os ∧ AllBare s'.gens) s₁ := by
  obtain ⟨k1, k2, k3, k4, k5, k6⟩ := law_start (P := P) (w := w) KX hns hb hbb hlim hg hT nT C hbm ha hi hl
  generalize eH : startH K a vs ns cs = H at k1 k2 k3 k4 k5 k6
  have out : ∀ b, H b = none ∨ (∃ p ∈ cs, p.2 = b) ∨ ∃ o xs, H b = some (.frz o (.lst xs)) := fun b => by
    rw [← eH]
    unfold startH
    split
    · rename_i m; obtain ⟨p, hp, q⟩ := List.mem_map.mp m; exact .inr (.inl ⟨p, hp, q⟩)
    · split
      · exact .inr (.inr ⟨_, _, rfl⟩)
      · exact .inl rfl
  refine codeAny_mono (F _ H k1 k2 k3 k4 k5 k6) fun r s2 z => ?_
  match r, z with
  | .error e, z => exact (hCX H e s2 z).elim
  | .ok .next, z => exact False.elim z
  | .ok .brk, z => exact False.elim z
  | .ok .cont, z => exact False.elim z
  | .ok (.ret u), ⟨v, H2, os2, bare, un, ok2, ru, q⟩ =>
    cases (show v = .bl true from q)
    cases (show u = Value.bool true from ru)
    -- a table only grows
    have tabs : ∀ b, (∃ p ∈ cs, p.2 = b) → ∃ more : Array Value, s2.heap.get? b = some { cls := .none, data := .fields more } := fun b ⟨p, hp, e⟩ => by
      obtain ⟨more, z⟩ := un.tbls p.2 #[] (k5 p hp)
      exact ⟨_, e ▸ ok2 p.2 _ z⟩
    have rest : ∀ b o, ¬ (∃ p ∈ cs, p.2 = b) → s₁.heap.get? b = some o → s2.heap.get? b = some o := fun b o n z => by
      rcases out b with h | h | ⟨ob, xs, h⟩
      · exact un.keep b o z h (fun y => nomatch y) (by simp)
      · exact absurd h n
      · have e1 := (k4.hok b _ h).1
        have e2 := (ok2 b _ (un.frzs b ob _ h)).1
        rw [z] at e1
        cases e1
        exact e2
    refine ⟨rfl, ⟨fun b o z => ?_, fun b o z => ?_⟩, os2, bare⟩
    · by_cases m : ∃ p ∈ cs, p.2 = b
      · obtain ⟨more, y⟩ := tabs b m
        obtain ⟨p, hp, rfl⟩ := m
        rw [hT p hp] at z
        cases z
        exact .inr (.inl ⟨((C p hp).tab (hT p hp)).isCodeTable, rfl, #[], more, rfl, by rw [Array.empty_append]; exact y⟩)
      · exact .inl (rest b o m z)
    · by_cases m : ∃ p ∈ cs, p.2 = b
      · obtain ⟨more, y⟩ := tabs b m; exact ⟨_, y⟩
      · exact ⟨o, rest b o m z⟩
end
theorem law_endG {l : PySem.W.OpenLaw} {k n : Nat} {q : Program} {loose : List Str} {XP : (Str → Option Value) → Heap → Prop} {d : DefRec} {fa : List Fa} {fn : List DefD} {tf : List Defn} {ex : PySem.W.Frag → Bool} {x : Str} (cas cxs : List Str)
    (hn : l.most = some 63) (hdf : d.params.defaults = []) (hr : Room (k + 1) callerA)
    (F : ∀ (w : World) (mg : Str → Option Value) (fl : Addr) (h : Heap) (K : PySem.W.Frag), K.In h → SaysX fa fn [] tf ex w h K → h.Ns mainGlobals mg → mg d.name = some (.ref fl) →
      ∃ (fd : FuncData) (N : List Str) (st : Stmt) (z qual : Str), (∀ (s : Shared) (u : Value), BindsTo s fd ⟨[u], []⟩ [(x, u)]) ∧ Fun K z qual st fl fd ∧ FnScope N [x] (defScope st) ∧
        ∀ base : Heap, K.In base → base.Ns mainGlobals mg → (∀ p ∈ tf.map (cT K), LamX.TabB base mg p.1 p.2) → ∀ (A : Around) (outer : List Env) (s : Shared) (H : Hp) (v : V) (Q : VK) (E : XK) (cdv : Value), A.guards = some [] → fd.code = cdv →
          Room k (A.deeper (envOfC qual (defScope st) s.heap.objs.size fl cdv)) → spLaw (pmOf K cas cxs tf [] 0) [v] H Q E →
          ∃ t, PSs (cxOf (L2.CX l.prog w) l.prog w K mg base N qual (defScope st) fl cdv A outer s H E) (defBody st) t ∧ t { nx := fun _ H' => Q .non H', rt := Q } (L2.start N [v]) H) :
    PySem.W.WalkO q loose XP (hookX n fa fn [] tf ex).says l.row.toRowW d [] (fun f vs => PySem.call f vs) := by
  refine _root_.Att.attach_callB hn hdf fun w s₀ s₁ mg mb fl o pm cd doc a vs ns G Y ho hd hcd hmg hobj hints hlen hbits hg => ?_
  obtain ⟨K, KX, c⟩ := Y
  obtain ⟨fd, N, st, z, qual, hb, Fu, S, body⟩ := F w mg fl _ K KX c G.T.g hmg
  refine law_callG (CX := L2.CX l.prog w) (cs := tf.map (cT K)) KX G.T.g G.T.b G.T.builtins G.T.nolimit hg (fun p hp => ?_) (fun p hp => ?_) (fun p hp => ?_) G.T.bmain hobj hints (Nat.le_trans hlen (by rw [sizeLine_eq]; decide)) (fun base H k1 k2 k3 e0 hT hS => ?_) fun H e s' y => ?_
  · obtain ⟨r, hq, rfl⟩ := List.mem_map.mp hp; exact c.empty r hq
  · obtain ⟨r, hq, rfl⟩ := List.mem_map.mp hp; exact c.out r hq
  · obtain ⟨r, hq, rfl⟩ := List.mem_map.mp hp; exact PySem.W.codeHd_of_K KX (c.hd r hq)
  · refine run1 Fu S hr e0 hb (v := .ref a) rfl fun cdv hcv hrm => body base k1 k2 k3 callerA [] s₁ H (.ref a) (fun v _ => v = .bl true) (fun _ _ _ => False) cdv rfl hcv hrm ⟨a, ns, rfl, sqS_of hS, hlen, fun p hp => ?_, fun _ => rfl⟩
    obtain ⟨r, hq, rfl⟩ := List.mem_map.mp hp
    exact LamX.TabS.nil (hT _ (List.mem_map.mpr ⟨r, hq, rfl⟩))
  · obtain ⟨_, _, _, _, _, _, _, _, _, _, _, _, y⟩ := y
    exact y
section
variable {c : Pm} {Wx : WX} {X : Cx} {fu n k : Nat} {W W' W1 W2 W3 : Dr} {F0 H0 F H F' H' F1 H1 F2 H2 F3 H3 Hs : Hp} {ρ ρ' : En} {σ σ' : L2.St} {u w : V} {x y v : Vl} {Q : VK} {us : List V} {vs : List Vl} {pos : Pos}
mutual
theorem pyN_nod : ∀ (n : Nat) (d : D) (p : PyData), D.pyN n d = some p → p.hasDict = false
  | n, .non, _, h => by cases n <;> simp [D.pyN] at h <;> subst h <;> rfl
  | n, .bl _, _, h => by cases n <;> simp [D.pyN] at h <;> subst h <;> rfl
  | n, .int _, _, h => by cases n <;> simp [D.pyN] at h <;> subst h <;> rfl
  | n, .str _, _, h => by cases n <;> simp [D.pyN] at h <;> subst h <;> rfl
  | n + 1, .tup xs, _, h => by
    simp only [D.pyN, Option.map_eq_some_iff] at h
    obtain ⟨ps, h1, rfl⟩ := h
    simp only [PyData.hasDict]
    exact pyNL_nod _ _ _ h1
  | n + 1, .lst xs, _, h => by
    simp only [D.pyN, Option.map_eq_some_iff] at h
    obtain ⟨ps, h1, rfl⟩ := h
    simp only [PyData.hasDict]
    exact pyNL_nod _ _ _ h1
  | 0, .tup _, _, h => by simp [D.pyN] at h
  | 0, .lst _, _, h => by simp [D.pyN] at h
  | n, .dic _ _, _, h => by cases n <;> simp [D.pyN] at h
  | n, .ins _ _, _, h => by cases n <;> simp [D.pyN] at h
  | n, .exc _ _, _, h => by cases n <;> simp [D.pyN] at h
  | n, .drw, _, h => by cases n <;> simp [D.pyN] at h
  | n, .fn _, _, h => by cases n <;> simp [D.pyN] at h
  | n, .scr _, _, h => by cases n <;> simp [D.pyN] at h
theorem pyNL_nod : ∀ (n : Nat) (ds : List D) (ps : List PyData), D.pyNL n ds = some ps → PyData.hasDictAll ps = false
  | n, [], _, h => by simp [D.pyNL] at h; subst h; rfl
  | n, d :: ds, _, h => by
    simp only [D.pyNL] at h
    cases e1 : D.pyN n d <;> cases e2 : D.pyNL n ds <;> rw [e1, e2] at h <;> simp only at h <;> try (cases h; done)
    cases h
    simp only [PyData.hasDictAll, pyN_nod _ _ _ e1, pyNL_nod _ _ _ e2, Bool.or_self]
end
theorem boot_repr' : bootBuiltins "repr" = some (.builtin "repr") := by first | rfl | decide +kernel
end
end Z

namespace Z
open PySem PySem.Spec PyProof.Rows L2
open Classical
section
variable {c : Pm} {Wx : WX} {X : Cx} {fu n k : Nat} {W W' W1 W2 W3 : Dr} {F0 H0 F H F' H' F1 H1 F2 H2 F3 H3 Hs : Hp} {ρ ρ' : En} {σ σ' : L2.St} {u w : V} {x y v : Vl} {Q : VK} {us : List V} {vs : List Vl} {pos : Pos}
end
end Z

namespace Z
open PySem PySem.Spec PyProof.Rows L2
open Classical
section
variable {c : Pm} {Wx : WX} {X : Cx} {fu n k : Nat} {W W' W1 W2 W3 : Dr} {F0 H0 F H F' H' F1 H1 F2 H2 F3 H3 Hs FF : Hp} {ρ ρ' : En} {σ σ' : L2.St} {u w : V} {x y v : Vl} {Q : VK} {us : List V} {vs : List Vl} {pos : Pos}
end
end Z

namespace Z
open PySem PySem.Spec PyProof.Rows L2
open Classical
section
variable {c : Pm} {Wx : WX} {X : Cx} {fu n k : Nat} {W W' W1 W2 W3 : Dr} {F0 H0 F H F' H' F1 H1 F2 H2 F3 H3 Hs : Hp} {ρ ρ' : En} {σ σ' : L2.St} {u w : V} {x y v : Vl} {Q : VK} {us : List V} {vs : List Vl} {pos : Pos}
end
end Z

namespace Z
open PySem PySem.Spec PyProof.Rows L2
open Classical
section
variable {c : Pm} {Wx : WX} {X : Cx} {fu n k : Nat} {W W' W1 W2 W3 : Dr} {F0 H0 F H F' H' F1 H1 F2 H2 F3 H3 Hs : Hp} {ρ ρ' : En} {σ σ' : L2.St} {u w : V} {x y v : Vl} {Q : VK} {us : List V} {vs : List Vl} {pos : Pos}
theorem Rel.un {i : Nat} (R : Rel c F0 H0 ρ σ F H W) : Rel c F0 H0 (ρ.set i .un) σ F H W := by
  refine ⟨by rw [List.length_set]; exact R.len, R.stp, fun j s e => ?_, fun j1 j2 d1 d2 p e1 e2 e3 e4 => ?_⟩
  · by_cases q : i = j
    · subst q
      have hl : i < ρ.length := by
        have := (List.getElem?_eq_some_iff.mp e).1
        rwa [List.length_set] at this
      rw [List.getElem?_set_self hl] at e
      cases e
      have hs : i < σ.length := R.len ▸ hl
      show σ[i]? ≠ none
      rw [List.getElem?_eq_getElem hs]
      exact fun z => nomatch z
    · rw [List.getElem?_set_ne q] at e
      exact R.slot j s e
  · have a : ∀ {j : Nat} {d' : D}, (ρ.set i .un)[j]? = some (.own d') → ρ[j]? = some (.own d') := fun {j d'} e => by
      by_cases q : i = j
      · subst q
        have hl : i < ρ.length := by
          have := (List.getElem?_eq_some_iff.mp e).1
          rwa [List.length_set] at this
        rw [List.getElem?_set_self hl] at e
        cases e
      · rwa [List.getElem?_set_ne q] at e
    exact R.dist j1 j2 d1 d2 p (a e1) (a e2) e3 e4
theorem Rel.kill (R : Rel c F0 H0 ρ σ F H W) : ∀ is : List Nat, Rel c F0 H0 (Z.wip ρ is) σ F H W
  | [] => R
  | i :: is => (R.kill is).un
theorem kl_ok {D : Ends} {b : S} {is js : List Nat} (h : rdS c Wx fu (.kl is b js) D σ H) : rdS c Wx fu b D σ H := by
  obtain ⟨F0, H0, ρ, F, W, R, hP⟩ := h
  refine ⟨F0, H0, Z.wip ρ is, F, W, R.kill is, ?_⟩
  simp only [evS] at hP
  revert hP
  cases evS fu b (Z.wip ρ is) W with
  | nx ρ' W' => exact fun h σ' F' H' R e => h σ' F' H' (R.kill js) e
  | bk ρ' W' => exact fun h σ' F' H' R e => h σ' F' H' (R.kill js) e
  | ct ρ' W' => exact fun h σ' F' H' R e => h σ' F' H' (R.kill js) e
  | rt v ρ W => exact fun h => h
  | ex x ρ W => exact fun h => h
  | stk => exact fun h => h
theorem z_kl (is js : List Nat) {st : Stmt} {b : S} (h : PS X st (rdS c Wx fu b)) : PS X st (rdS c Wx fu (.kl is b js)) := ps_wk h fun _ _ _ => kl_ok
theorem z_kls (is js : List Nat) {st : List Stmt} {b : S} (h : PSs X st (rdS c Wx fu b)) : PSs X st (rdS c Wx fu (.kl is b js)) := pss_wk h fun _ _ _ => kl_ok

def pdv (d : D) : PyData := d.pd.getD .none
def leD (a b : D) : Bool := PySem.W.dataLe false pdv a b
noncomputable def sortL (xs : List D) : List D := xs.mergeSort (PySem.W.dataLe false pdv)
def SortOk (xs : List D) : Prop := (∀ x ∈ xs, ∃ p, x.pd = some p) ∧ PySem.W.AllAlike (xs.map pdv) ∧ PySem.W.Sortable (xs.map pdv)
def rSortD (c : Pm) : List V → Hp → VK → Prop := fun vs H Q => ∃ (a : Addr) (us : List V) (F : Hp) (xs : List D), vs = [.ref a] ∧ H a = some (.lst us) ∧ Same F H ∧ RepL c F us xs ∧ SortOk xs ∧ ∀ us' p, RepL c F us' (sortL xs) → H p = none → Q (.ref p) (upd H p (.lst us'))
theorem each_of_rep {R : Value → D → Prop} {F : Hp} (hR : ∀ v u d, RelV u v → Rep c F u d → R v d) : ∀ {us : List V} {vs : List Value} {xs : List D}, Vals us vs → RepL c F us xs → PySem.W.EachIs R vs xs
  | _, _, _, .nil, .nil => .nil
  | _, _, _, .cons r t, .cons r' t' => .cons (hR _ _ _ r r') (each_of_rep hR t t')
theorem rep_of_each {F : Hp} : ∀ {vs : List Value} {xs : List D}, PySem.W.EachIs (fun v d => ∃ u, RelV u v ∧ Rep c F u d) vs xs → ∃ us, Vals us vs ∧ RepL c F us xs
  | _, _, .nil => ⟨[], .nil, .nil⟩
  | _, _, .cons ⟨u, h1, h2⟩ t => by
    obtain ⟨us, h3, h4⟩ := rep_of_each t
    exact ⟨u :: us, .cons h1 h3, .cons h2 h4⟩
theorem EachIs.and {R S : Value → D → Prop} : ∀ {vs : List Value} {xs : List D}, PySem.W.EachIs R vs xs → (∀ v x, x ∈ xs → R v x → S v x) → PySem.W.EachIs S vs xs
  | _, _, .nil, _ => .nil
  | _, _, .cons h t, k => .cons (k _ _ List.mem_cons_self h) (EachIs.and t fun v x hx => k v x (List.mem_cons_of_mem _ hx))
theorem cr_sortedD (hk : X.K = c.K) (hu : X.A.units + 64 < cLine) : CallR X (.builtin "sorted") (rSortD c) := by
  intro pins s σ H vs us Q I r h
  obtain ⟨a, zs, F, xs, rfl, hs, sF, rx, ⟨hp, hal, hso⟩, q⟩ := h
  obtain ⟨its, rv, hl, hz⟩ := I.list (a := a) (xs := zs) (.inl (.inl hs))
  rw [Vals.ref1 r]
  have e := each_of_rep (c := c) (F := F) (R := fun v d => ∃ u, RelV u v ∧ Rep c F u d) (fun v u d h1 h2 => ⟨u, h1, h2⟩) rv rx
  refine PySem.W.sorted_data (β := D) (enc := pdv) (bs := xs) (R := fun v d => ∃ u, RelV u v ∧ Rep c F u d) hl.isList e ?_ hal hso (by rw [← rx.length]; exact hz) (fun b hb => ?_) fun out ho eo => ?_
  · refine EachIs.and e fun v x hx ⟨u, h1, h2⟩ => ?_
    obtain ⟨p, hp⟩ := hp x hx
    have hd : Dp X.K H u p := by rw [hk]; exact dp_mono sF (rep_dp _ _ _ _ hp h2)
    obtain ⟨as, ha⟩ := Dp.reads I p u v hd h1
    refine ⟨as, ?_⟩
    unfold pdv; rw [hp]; exact ha
  · obtain ⟨p, hp⟩ := hp b hb
    have hd := (pyN_ok _ _ _ hp).2
    have : pdv b = p := by unfold pdv; rw [hp]; rfl
    rw [this]
    omega
  · obtain ⟨us', k1, k2⟩ := rep_of_each eo
    obtain ⟨ep, he'⟩ := PyProof.Rows.sortedAll_at s.heap its out.toArray
    have hlen : us'.length ≤ sizeLine := by
      rw [k1.length, ho, ← rx.length]
      exact hz
    exact ⟨.ref _, upd H (s.heap.objs.size + 1) (.lst us'), I.laid (t' := s.toks) (fun _ _ => PyProof.Rows.sortedAll_old) (Nat.le_succ _) ⟨hlen, out, ep, k1, he'⟩, rfl, q _ _ k2 (I.hok.fresh (Nat.le_succ _))⟩
def rSortDT (c : Pm) : List V → Hp → VK → Prop := fun vs H Q => ∃ (a : Addr) (ks : List (List Key × V)), vs = [.ref a] ∧ Rd H a (.dT ks) ∧ SortOk (ks.map fun q => keyT q.1) ∧ ∀ us' bs p, IsKeys H ks bs → (∀ F : Hp, (∀ b ∈ bs, F b = H b) → RepL c F us' (sortL (ks.map fun q => keyT q.1))) → H p = none → Q (.ref p) (upd H p (.lst us'))
theorem repl_keys : ∀ {F : Hp} (k : List Key), RepL c F (k.map kV) (k.map keyD)
  | _, [] => .nil
  | _, .inl i :: k => .cons (.int i) (repl_keys k)
  | _, .inr i :: k => .cons (.str i) (repl_keys k)
theorem keys_rep {F : Hp} : ∀ {ks : List (List Key × V)} {bs : List Addr}, IsKeys H ks bs → (∀ b ∈ bs, F b = H b) → RepL c F (bs.map V.ref) (ks.map fun q => keyT q.1)
  | _, _, .nil, _ => .nil
  | _, _, .cons h t, e => .cons (.tup (by rw [e _ List.mem_cons_self]; exact h) (repl_keys _)) (keys_rep t fun b hb => e b (List.mem_cons_of_mem _ hb))
theorem cr_sortedDT (hk : X.K = c.K) (hu : X.A.units + 64 < cLine) (hc : X.calm = true) : CallR X (.builtin "sorted") (rSortDT c) := by
  intro pins s σ H vs us Q I r h
  obtain ⟨d, kvs, rfl, hd, ⟨hp, hal, hso⟩, q⟩ := h
  rw [Vals.ref1 r]
  obtain ⟨z, hs, ks, pr, o, es, ep, ho, hx, hdt, he, hn⟩ := (show ObjOk X.prog X.w H s.heap d (.dT kvs) from hd.ok I.hok)
  have l1 : es.size = ks.length := size_of_entries he
  have l2 : kvs.length = ks.length := Paired.len pr
  refine Calls.call_function_entry PyProof.Rows.kind_sorted PyProof.Rows.plain_sorted PyProof.Rows.entry_sorted (PyProof.Rows.args_sorted1 _) ?_
  unfold Builtin.«sorted»
  refine wpAny_bind (m := checkCount "sorted" 1 1 _) (wpAny_pure ?_)
  refine wpAny_bind (PySem.W.kdu_collect (A := X.A.in1) (kdl_raw hs hx hdt) (I.ok.hd hc) ho (by omega) fun h' tk acc kp it => ?_)
  have ea : acc.toList = ks.map fun x => Value.ref x.2.1 := by
    have hl : acc.toList.length = ks.length := by rw [Array.length_toList, it.1]; exact l1
    apply List.ext_getElem?
    intro j
    rw [List.getElem?_map]
    cases hj : acc.toList[j]? with
    | none =>
      have h1 := List.getElem?_eq_none_iff.mp hj
      rw [List.getElem?_eq_none (by omega)]
      rfl
    | some v =>
      obtain ⟨en, hen, hv⟩ := it.2 j v (by rw [← Array.getElem?_toList]; exact hj)
      have qe := entry_at he j
      rw [hen] at qe
      cases hb : ks[j]? with
      | none =>
        rw [hb] at qe
        exact nomatch (show some en = none from qe)
      | some b =>
        rw [hb] at qe
        have e2 : en = entryOfKey (tupleKind (mixKind X.prog X.w)) b := Option.some.inj qe
        rw [hv, e2]
        rfl
  generalize hbs : ks.map (fun x => x.2.1) = bs
  have eb : acc.toList = bs.map Value.ref := by rw [ea, ← hbs, List.map_map]; rfl
  have ik : IsKeys H kvs bs := hbs ▸ isKeys_of pr
  generalize hF : (fun a => if a ∈ bs then H a else none : Hp) = F
  have hFb : ∀ b ∈ bs, F b = H b := fun b hb => by rw [← hF]; exact if_pos hb
  have sF : Same F H := fun a o e => by
    rw [← hF] at e
    by_cases m : a ∈ bs
    · simpa [m] using e
    · simp [m] at e
  have rx := keys_rep (c := c) (F := F) ik hFb
  have rv : Vals (bs.map V.ref) acc.toList := by rw [eb]; exact vals_refs _
  generalize hvs : acc.toList = vs at rv
  generalize hxs : (kvs.map fun q => keyT q.1) = xs at rx hp hal hso q
  have hz : vs.length ≤ sizeLine := by rw [← rv.length, rx.length, ← hxs, List.length_map]; exact z
  have I1 : Inv X pins σ H { s with heap := h', toks := tk } := I.kept kp
  refine wpAny_bind (wpAny_newList ?_ hz)
  have hoL : (h'.push (seqObj "list" vs.toArray 0)).get? h'.objs.size = some (seqObj "list" vs.toArray 0) := Heap.get?_push_size _ rfl
  show wpAny _ _ _ _ _ { s with heap := h'.push (seqObj "list" vs.toArray 0), toks := tk }
  have e := each_of_rep (c := c) (F := F) (R := fun v d => ∃ u, RelV u v ∧ Rep c F u d) (fun v u d h1 h2 => ⟨u, h1, h2⟩) rv rx
  have keep : ∀ b o, h'.get? b = some o → (PySem.W.sortingHeap (h'.push (seqObj "list" vs.toArray 0)) h'.objs.size vs).get? b = some o := fun b o e => by
    have hb : b < h'.objs.size := Heap.lt_size e
    exact PySem.W.sortingHeap_old (Nat.ne_of_lt hb) (Heap.get?_push_of_some _ e)
  have er : PySem.W.EachIs (fun v b => ∃ as, Reads (PySem.W.sortingHeap (h'.push (seqObj "list" vs.toArray 0)) h'.objs.size vs) v (pdv b) as) vs xs := by
    refine EachIs.and e fun v x hx ⟨u, h1, h2⟩ => ?_
    obtain ⟨p, hp⟩ := hp x hx
    have hd : Dp X.K H u p := by rw [hk]; exact dp_mono sF (rep_dp _ _ _ _ hp h2)
    obtain ⟨as, ha⟩ := Dp.reads I1 p u v hd h1
    refine ⟨as, PyProof.Rows.Reads.keeps keep ?_⟩
    unfold pdv; rw [hp]; exact ha
  refine wpAny_bind (wpAny_holding (wpAny_call_entry PyProof.Rows.slot_list_sort ⟨_, hoL, rfl⟩ PyProof.Rows.entry_list_sort
    (PySem.W.list_sort_vals (κ := PySem.W.dataKind (PySem.W.sortingHeap (h'.push (seqObj "list" vs.toArray 0)) h'.objs.size vs) (xs.map pdv)) (s := { s with heap := h'.push (seqObj "list" vs.toArray 0), toks := tk }) hoL
      (PySem.W.SortsAt.data (s := { s with heap := PySem.W.sortingHeap (h'.push (seqObj "list" vs.toArray 0)) h'.objs.size vs, toks := tk }) (PySem.W.each_map (R := fun v d => ∃ as, Reads (PySem.W.sortingHeap (h'.push (seqObj "list" vs.toArray 0)) h'.objs.size vs) v d as) pdv er) hal hso (PySem.W.bound_map (enc := pdv) fun b hb => ?_)) hz ⟨_, rfl, ?_⟩) (PyProof.Rows.args_list_sort _)))
  · obtain ⟨p, hp⟩ := hp b hb
    have hd := (pyN_ok _ _ _ hp).2
    have : pdv b = p := by unfold pdv; rw [hp]; rfl
    rw [this]
    show X.A.units + 2 + p.depth < cLine
    omega
  · have eo := PySem.W.sortVals_data (enc := pdv) (R := fun v d => ∃ u, RelV u v ∧ Rep c F u d) false e er hal
    obtain ⟨us', k1, k2⟩ := rep_of_each eo
    obtain ⟨e', he'⟩ := PyProof.Rows.sortedHeap_at (vs := vs) (out := (PySem.W.sortVals (PySem.W.dataKind (PySem.W.sortingHeap (h'.push (seqObj "list" vs.toArray 0)) h'.objs.size vs) (xs.map pdv)) false vs vs).toArray) hoL
    have hlen : us'.length ≤ sizeLine := by
      rw [k1.length, PySem.W.sortVals_length false rfl]
      exact hz
    refine wpAny_pure ⟨_, rfl, .ref h'.objs.size, upd H h'.objs.size (.lst us'), I1.laid (t' := tk) (fun b u e => ?_) (Nat.le_refl _)
      (show ObjOk X.prog X.w _ _ _ (.lst us') from ⟨hlen, _, e', k1, he'⟩), rfl, q us' bs _ ik (fun F2 hF2 => k2.mono fun a o e => by
      rw [← hF] at e
      by_cases m : a ∈ bs
      · rw [hF2 a m]; simpa [m] using e
      · simp [m] at e) (I1.hok.fresh (Nat.le_refl _))⟩
    have hb : b < h'.objs.size := Heap.lt_size e
    rw [PyProof.Rows.sortedHeap_old (Nat.ne_of_lt hb) (by rw [size_push']; exact Nat.lt_succ_of_lt hb)]
    exact Heap.get?_push_of_some _ e
noncomputable def sortAnyD : List D → Option (Bool × D)
  | [.lst xs] => if SortOk xs then some (true, .lst (sortL xs)) else none
  | [.dic false kvs] => sortedDD [.dic false kvs]
  | [.dic true kvs] => if SortOk (kvs.map (·.1)) then some (true, .lst (sortL (kvs.map (·.1)))) else none
  | _ => none
theorem isKeys_tup : ∀ {ks : List (List Key × V)} {bs : List Addr}, IsKeys H ks bs → ∀ b ∈ bs, ∃ xs, H b = some (.tup xs)
  | _, _, .nil, b, hb => by simp at hb
  | _, _, .cons h t, b, hb => (List.mem_cons.mp hb).elim (fun e => e ▸ ⟨_, h⟩) (isKeys_tup t b)
theorem Stp.addT {bs : List Addr} (S : Stp c W F H F H) (hb : ∀ b ∈ bs, ∃ xs, H b = some (.tup xs)) : Stp c W F H (fun a => if a ∈ bs then H a else F a) H := by
  have av : ∀ a ∈ c.mv, a ∉ bs := fun a ha m => by
    obtain ⟨xs, e⟩ := hb a m
    unfold Pm.mv at ha
    rcases List.mem_append.mp ha with ha | ha
    · rcases S.dr with h | ⟨a0, a1, h, n, e0, e1⟩
      · rw [h] at ha; cases ha
      · rw [h] at ha
        simp only [List.mem_cons, List.not_mem_nil, or_false] at ha
        rcases ha with rfl | rfl
        · rw [e] at e0; cases e0
        · rw [e] at e1; cases e1
    · obtain ⟨p, hp, rfl⟩ := List.mem_map.mp ha
      obtain ⟨ps, e1, _⟩ := S.tabs p hp
      rw [e] at e1
      cases e1
  refine ⟨fun a o e => ?_, fun a o e => ?_, fun _ _ e _ _ => e, fun a e t => ?_, fun a o e => ?_, fun a ha => ?_, S.dr, fun hd => ?_, S.tabs⟩
  · by_cases m : a ∈ bs
    · simp only [if_pos m]; exact S.sub _ _ e
    · simp only [if_neg m]; exact e
  · by_cases m : a ∈ bs
    · simpa only [if_pos m] using e
    · simp only [if_neg m] at e; exact S.sub _ _ e
  · have m : a ∉ bs := fun m => by
      obtain ⟨xs, e1⟩ := hb a m
      obtain ⟨o, e2, ob⟩ := t
      rw [e1] at e2
      cases e2
      exact ob.2 _ rfl
    simp only [if_neg m]; exact e
  · by_cases m : a ∈ bs
    · simp only [if_pos m] at e
      obtain ⟨xs, e1⟩ := hb a m
      rw [e1] at e
      cases e
      exact nt_tup
    · simp only [if_neg m] at e; exact S.nt _ _ e
  · simp only [if_neg (av a ha)]; exact S.av a ha
  · have e := S.cl hd
    by_cases m : c.d2 ∈ bs
    · simp only [if_pos m]; exact S.sub _ _ e
    · simp only [if_neg m]; exact e
theorem x_sortedA {a : Expr} {ea : E} {p : Pos} (n : Cn c Wx k X) (hm : X.mg "sorted" = none) (ha : PA X [a] (rdL c Wx ea)) (hg : Gl X "sorted" := by rfl) (he : starEach [a] X.env = (false, eval a X.env) :: starEach [] X.env := by rfl) (hpl : (backTo pos (starEach [] X.env)).any (·.1) = false := by rfl) :
    PE X (.Call (.Name "sorted" p) [a] [] pos) (rdE c Wx (.call (pureG sortAnyD) ea)) := by
  refine x_bltB n (fun vs H Q E h => ?_) (callR_or (cr_sortedD (c := c) n.hk n.hu) (callR_or (call_sortedD n.calm) (cr_sortedDT (c := c) n.hk n.hu n.calm))) boot_sorted' hm ha hg (by decide) (by decide) he hpl
  obtain ⟨F, xs, W, r, rr, S, hf, hQ⟩ := spG_pure h
  match xs, rr, hf with
  | [.lst zs], .cons r1 .nil, hf =>
    simp only [sortAnyD] at hf
    split at hf <;> cases hf
    rename_i hl
    obtain ⟨p, ws, rfl, e1, e2⟩ := r1.lstI
    exact .inl ⟨p, ws, F, zs, rfl, S.sub _ _ e1, S.sub, e2, hl, fun us' q r' hp => fin_newL S r' hQ q hp⟩
  | [.dic false kvs], .cons r1 .nil, hf =>
    simp only [sortAnyD, sortedDD, Option.bind_eq_some_iff] at hf
    obtain ⟨ks, hk, hf⟩ := hf
    split at hf <;> cases hf
    rename_i hl
    cases r1 with
    | dicK h1 h2 h3 => exact .inr (.inl ⟨_, _, ks, rfl, Rd.mono S.sub h1, keys_strs (kv_of h2 h3) hk, hl, fun ys q p1 p2 hp => by
        rw [sortS_eq p1 p2] at hQ
        exact fin_newL S (rep_strs ys) hQ q hp⟩)
  | [.dic true kvs], .cons r1 .nil, hf =>
    simp only [sortAnyD] at hf
    split at hf <;> cases hf
    rename_i hl
    cases r1 with
    | dicT h1 h2 h3 =>
      rename_i ks
      have ek : kvs.map (·.1) = ks.map fun q => keyT q.1 := h2
      refine .inr (.inr ⟨_, _, rfl, Rd.mono S.sub h1, by rw [← ek]; exact hl, fun us' bs q ik r' hp => ?_⟩)
      have S2 := S.addT (isKeys_tup ik)
      have r2 : RepL c (fun a => if a ∈ bs then H a else F a) us' (sortL (kvs.map (·.1))) := by
        rw [ek]
        exact r' _ fun b hb => if_pos hb
      have hq : (fun a => if a ∈ bs then H a else F a : Hp) q = none := by
        cases e : (fun a => if a ∈ bs then H a else F a : Hp) q with
        | none => rfl
        | some o =>
          have := S2.sub _ _ e
          rw [hp] at this
          cases this
      exact hQ _ _ _ (S2.trans (S2.refl.make hp)) ⟨q, rfl, hq, fun h => S2.sm h hp, .of hp, us', upd_same, r2⟩
end
end Z

namespace Z
open PySem PySem.Spec PyProof.Rows L2
open Classical
def Pin (o : Obj) : HO := .frz o (.ext fun _ => True)
noncomputable def pinned (L : List Addr) (h : Heap) (H : Hp) : Hp := fun b => if b ∈ L then (h.get? b).map Pin else H b
noncomputable def loose (L : List Addr) (H : Hp) : Hp := fun b => if b ∈ L then none else H b
noncomputable def repin (L : List Addr) (H0 H : Hp) : Hp := fun b => if b ∈ L then H0 b else H b
section
variable {P : Program} {w : World} {L : List Addr} {h h' base : Heap} {H H' HZ : Hp} {a b : Addr} {o : HO} {outer : List Env} {K : PySem.W.Frag} {mg : Str → Option Value} {A : Around} {s s' : Shared} {Q Q' : VK} {u : Value} {E : XK}
theorem pinned_in (hb : b ∈ L) : pinned L h H b = (h.get? b).map Pin := if_pos hb
theorem pinned_out (hb : b ∉ L) : pinned L h H b = H b := if_neg hb
structure Pb (L : List Addr) (outer : List Env) (base h : Heap) (H : Hp) : Prop where
  no : ∀ b ∈ L, H b = none
  at_ : ∀ b ∈ L, ∃ o, h.get? b = some o
  ba : ∀ b ∈ L, base.get? b = none
  fr : ∀ b ∈ L, b ∉ frs outer
theorem Pb.pin (p : Pb L outer base h H) (hb : b ∈ L) : ∃ o, h.get? b = some o ∧ pinned L h H b = some (Pin o) := by
  obtain ⟨o, e⟩ := p.at_ b hb
  exact ⟨o, e, by rw [pinned_in hb, e]; rfl⟩
theorem Pb.out (p : Pb L outer base h H) (e : H b = some o) : b ∉ L := fun hb => by rw [p.no b hb] at e; cases e
theorem Pb.up (p : Pb L outer base h H) (e : H b = some o) : pinned L h H b = some o := (pinned_out (p.out e)).trans e
end
end Z

namespace Z
open PySem PySem.Spec PyProof.Rows L2
open Classical
section
variable {X : Cx} {pins : List (Addr × Obj)} {σ : L2.St} {H HZ : Hp} {s s1 : Shared}
def tJob (i : Nat) (f c' : Addr) (q : Str) (L : List Addr) (pin : Hp) (E : XK) (tl : XK → Hp → VK → Prop) : TE := fun σZ HZ Q => σZ[i]? = some (some (.ref f)) ∧ (∀ b ∈ L, HZ b = pin b) ∧ HZ c' = some (LamX.CodeO c' q) ∧
  tl (fun cls d H' => (∀ b ∈ L, H' b = none) → E cls d (repin L HZ H')) (loose L HZ) (fun u H' => (∀ b ∈ L, H' b = none) → Q u (repin L HZ H'))
end
end Z

namespace Z
open PySem PySem.Spec PyProof.Rows L2
open Classical
section
variable {c : Pm} {Wx : WX} {X : Cx} {fu n k : Nat} {W W' W1 W2 W3 : Dr} {F0 H0 F H F' H' F1 H1 F2 H2 F3 H3 Hs : Hp} {ρ ρ' : En} {σ σ' : L2.St} {u w : V} {x y v : Vl} {Q : VK} {us : List V} {vs : List Vl} {pos : Pos} {L : List Addr}
end
end Z

namespace Z
open PySem PySem.Spec PyProof.Rows L2
open Classical
section
variable {c : Pm} {Wx : WX} {X : Cx} {fu n k mm : Nat} {W W' W1 W2 W3 : Dr} {F0 H0 F H F' H' F1 H1 F2 H2 F3 H3 Hs Hl H4 : Hp} {ρ ρ' : En} {σ σ' : L2.St} {u w e2 : V} {x y v : Vl} {Q : VK} {us : List V} {vs : List V} {pos : Pos} {L : List Addr} {f a1 : Addr} {N : List Str} {d2 : D} {xs : List D}
structure JobR (c : Pm) (F Hl H : Hp) (W : Dr) (L : List Addr) (pin : Hp) (c' : Addr) (q : Str) (oc : Out Vl) (tl : XK → Hp → VK → Prop) : Prop where
  st : Stp c W F H F H
  pin : ∀ b ∈ L, H b = pin b
  pn : ∀ b ∈ L, ∃ o, H b = some (Pin o)
  no : ∀ b ∈ L, Hl b = none
  fo : ∀ b ∈ L, F b = none
  out : ∀ b, b ∉ L → H b = Hl b
  code : H c' = some (LamX.CodeO c' q)
  run : ∀ (E : XK) (H3 : Hp) (Q : VK), Stp c W F Hl F (loose L H3) → (match oc with
    | .ok v W2 => ∀ u F2 H2, Stp c W2 F (loose L H3) F2 H2 → (v.k = .pl → v.t = [] → Rep c F2 u v.d) → Q u H2
    | .ex x W2 => ∀ cls dd F2 H2, Stp c W2 F (loose L H3) F2 H2 → ExOk c F2 x cls dd → E cls dd H2
    | .stk => False) → tl E (loose L H3) Q
def SaidB (c : Pm) (Z : Cx) (j : Nat) (a : Str) (h : Out Vl → Out Vl) (body : List Stmt) : Prop :=
  ∀ (f c' : Addr) (q : Str) (L : List Addr) (pin : Hp) (tl : XK → Hp → VK → Prop) (W : Dr) (oc : Out Vl) (F Hl H : Hp) (Q : VK),
    (∀ (Y : Cx) (Wx : WX) (E : XK) (i : Nat) (p1 p2 : Pos), Y.prog = Z.prog → Y.w = Z.w → Y.K = Z.K → Y.mg = Z.mg → Y.base = Z.base → Room (j + 1) Y.A → Takes Y Wx → (∀ cls d σ' H', E cls d H' → Wx cls d σ' H') → Y.N[i]? = some a → Vis Y.env.scope a →
      PE Y (.Call (.Name a p1) [] [] p2) (tJob i f c' q L pin E tl)) →
    JobR c F Hl H W L pin c' q oc tl →
    (match h oc with
      | .ok v W' => ∀ u F2 H2, Stp c W' F H F2 H2 → (∃ r, v = vo r [] ∧ ResOk c H F2 H2 u r) → Q u H2
      | _ => False) →
    ∃ t, PSs Z body t ∧ t { nx := fun _ H' => Q .non H', rt := Q } (L2.start Z.N [.ref f]) H
structure SaidF (c : Pm) (P : Program) (w : World) (K : PySem.W.Frag) (mg : Str → Option Value) (base : Heap) (j : Nat) (x : Str) (h : Out Vl → Out Vl) : Prop where
  ex : ∃ (g : Addr) (fd : FuncData) (st : Stmt) (Ng : List Str) (a : Str), Fun K x x st g fd ∧ mg x = some (.ref g) ∧ L2.Binds K fd [a] [] ∧ FnScope Ng [a] (defScope st) ∧ (a == ("__debug__" : Str)) = false ∧ (a == ("__classdict__" : Str)) = false ∧
    ∀ (A : Around) (outer : List Env) (s : Shared) (H : Hp), Room (j + 3) (A.deeper (envOfC x (defScope st) s.heap.objs.size g fd.code)) → SaidB c (cxOf C8.CX0 P w K mg base Ng x (defScope st) g fd.code A outer s H C8.E0) j a h (defBody st)
  ne : ∀ o x W, h o ≠ .ex x W
theorem e_dic1 {a : Str} {i : Int} {j1 j2 p1 p2} : PE X (.Dict [some (.Constant (.str a) j1 p1)] [.Constant (.int i) j2 p2] pos) (rdE c Wx (.cst (.dic false [(.str a, .int i)]))) :=
  pe_wk (pe_disp (pps_cons pe_str pe_int pps_nil) rfl rfl (by simp) (by simp)) fun σ H Q ⟨F0, H0, ρ, F, W, R, hP⟩ => by
    simp only [ev] at hP
    intro p hp
    have S := R.refl.makeF (o := .dK [(Sum.inr a, .int i)]) hp
    refine ⟨upd_same, [(Sum.inr a, .int i)], rfl, by simp, ?_⟩
    rw [upd_upd]
    exact hP _ _ _ S (.of_rep (.dicK (.inl upd_same) rfl (.cons (.int i) .nil)) rfl rfl)
end
end Z

namespace Z
open PySem PySem.Spec PyProof.Rows L2
open Classical
section
variable {X : Cx} {c : Pm} {Wx : WX} {pos : Pos}
theorem z_par3 (i j l : Nat) {k fu : Nat} {z1 z2 z3 : Str} {a b e : Expr} {ea : E} {px py pz pt : Pos} {kt k2 pt2} (n : Cn c Wx k X) (ha : PA X [a, b, e] (rdL c Wx ea)) (hij : i ≠ j := by decide) (hil : i ≠ l := by decide) (hjl : j ≠ l := by decide)
    (hi : X.N[i]? = some z1 := by rfl) (hj : X.N[j]? = some z2 := by rfl) (hl : X.N[l]? = some z3 := by rfl)
    (hx : X.env.scope.names.lookup z1 = some .local := by rfl) (hy : X.env.scope.names.lookup z2 = some .local := by rfl) (hz : X.env.scope.names.lookup z3 = some .local := by rfl)
    (hw : swappedStores [.Tuple [.Name z1 px, .Name z2 py, .Name z3 pz] kt pt] (.Tuple [a, b, e] k2 pt2) X.env = pure (some [z1, z2, z3]) := by rfl)
    (hs : swapsWithSole [.Tuple [.Name z1 px, .Name z2 py, .Name z3 pz] kt pt] (.Tuple [a, b, e] k2 pt2) pos.line X.env = pure false := by rfl) :
    PS X (.Assign [.Tuple [.Name z1 px, .Name z2 py, .Name z3 pz] kt pt] (.Tuple [a, b, e] k2 pt2) pos) (rdS c Wx fu (.par [i, j, l] ea)) := by
  refine ps_wk (ps_par3 n.calm n.nd hi hj hl hij hil hjl hx hy hz ha hw hs) fun D σ H ⟨F0, H0, ρ, F, W, R, hP⟩ => ?_
  simp only [evS] at hP
  refine st_l R hP fun vs W1 us F1 H1 S1 A ap R1 hP => ?_
  have q := par_ok R R1 S1 A ap hP
  have hl : vs.length = 3 := by
    by_cases h : vs.length = [i, j, l].length ∧ [i, j, l].Nodup
    · exact h.1
    · rw [if_neg h] at hP; exact hP.elim
  rw [← Paired.len A] at hl
  match us, hl with
  | [u, w, z], _ => exact ⟨u, w, z, rfl, q⟩
end
end Z

namespace Z
open PySem PySem.Spec PyProof.Rows L2
open Classical
def scD : D → Option PyData
  | .int i => some (.int i)
  | .str x => some (.str x)
  | _ => none
def scV : V → Option PyData
  | .int i => some (.int i)
  | .str x => some (.str x)
  | _ => none
def keyPd : Key → PyData
  | .inl i => .int i
  | .inr x => .str x
def pdK : List (D × D) → Option (List (PyData × PyData))
  | [] => some []
  | (k, v) :: r => match scD k, scD v, pdK r with
    | some a, some b, some q => some ((a, b) :: q)
    | _, _, _ => none
def pdV : List (Key × V) → Option (List (PyData × PyData))
  | [] => some []
  | (k, v) :: r => match scV v, pdV r with
    | some b, some q => some ((keyPd k, b) :: q)
    | _, _ => none
def pdOf : D → Option PyData
  | .dic false kvs => (pdK kvs).map .dict
  | d => d.pd
noncomputable def reprAnyD : List D → Option (Bool × D)
  | [d] => (pdOf d).bind fun p => if p.showable = true ∧ p.shown.length ≤ cap ∧ p.depth ≤ 50 then some (false, .str p.shown) else none
  | _ => none
section
variable {c : Pm} {Wx : WX} {X : Cx} {F : Hp} {pos : Pos} {k : Nat}
theorem scD_rep {u : V} {d : D} {p : PyData} (r : Rep c F u d) (h : scD d = some p) : scV u = some p := by
  cases r <;> first | exact h | (cases h)
theorem pdK_rep : ∀ {kvs : List (D × D)} {ks : List (Key × V)} {q : List (PyData × PyData)}, kvs.map (·.1) = ks.map (fun q => keyD q.1) → RepL c F (ks.map (·.2)) (kvs.map (·.2)) → pdK kvs = some q → pdV ks = some q
  | [], [], q, _, _, h => h
  | (k, v) :: r, (k', v') :: r', q, e, R, h => by
    simp only [List.map_cons, List.cons.injEq] at e
    obtain ⟨e1, e2⟩ := e
    simp only [List.map_cons] at R
    obtain _ | ⟨R1, R2⟩ := R
    simp only [pdK] at h
    cases h1 : scD k <;> cases h2 : scD v <;> cases h3 : pdK r <;> rw [h1, h2, h3] at h <;> simp only at h <;> try (cases h; done)
    rename_i A B R
    cases h
    have q1 := scD_rep R1 h2
    have q2 := pdK_rep e2 R2 h3
    have q3 : keyPd k' = A := by
      rw [e1] at h1
      cases k' <;> simp only [keyD, scD] at h1 <;> exact Option.some.inj h1
    simp only [pdV, q1, q2, q3]
  | [], _ :: _, _, e, _, _ => by simp at e
  | _ :: _, [], _, e, _, _ => by simp at e
theorem sc_reads {h : Heap} {v : V} {u : Value} {p : PyData} (r : RelV v u) (e : scV v = some p) : Reads h u p [] := by
  cases v <;> try (cases e; done)
  · cases e
    obtain ⟨t, rfl⟩ := r
    exact .int _ t
  · cases e
    obtain ⟨t, rfl⟩ := r
    exact .str _ t
theorem kv_reads {P : Program} {w : World} {h : Heap} : ∀ {ks : List (Key × V)} {vs : List (Key × Value)} {es : List DictEntry} {q : List (PyData × PyData)}, KV ks vs → Pairs (mixKind P w) es vs → pdV ks = some q →
    ReadsAll h (es.map (·.key)) (q.map (·.1)) [] ∧ ReadsAll h (es.map (·.val)) (q.map (·.2)) []
  | _, _, _, q, .nil, .nil, e => by cases e; exact ⟨.nil, .nil⟩
  | (k, v) :: ks, (k2, u) :: vs, en :: es, q, .cons r rs, .cons p1 p2 ps, e => by
    simp only [pdV] at e
    cases h1 : scV v <;> cases h2 : pdV ks <;> rw [h1, h2] at e <;> simp only at e <;> try (cases e; done)
    cases e
    obtain ⟨i1, i2⟩ := kv_reads (h := h) rs ps h2
    have hk : k = k2 := r.1
    have rv : RelV v u := r.2
    have p1 : keyIs k2 en.key = true := p1
    have p2 : en.val = u := p2
    subst hk
    refine ⟨?_, ?_⟩
    · have : Reads h en.key (keyPd k) [] := by
        rcases keyIs_shape p1 with ⟨i, t, rfl, e⟩ | ⟨x, t, rfl, e⟩
        · rw [e]; exact .int _ t
        · rw [e]; exact .str _ t
      exact ReadsAll.cons (as := []) (bs := []) this i1
    · rw [List.map_cons, List.map_cons, p2]
      exact ReadsAll.cons (as := []) (bs := []) (sc_reads rv h1) i2
def rReprA (K : PySem.W.Frag) : List V → Hp → VK → Prop := fun xs H Q => ∃ (v : V) (p : PyData), xs = [v] ∧ ((Dp K H v p ∧ p.hasDict = false) ∨ ∃ a ks q, v = .ref a ∧ Rd H a (.dK ks) ∧ pdV ks = some q ∧ p = .dict q) ∧ p.showable = true ∧ p.depth ≤ 50 ∧ p.shown.length ≤ sizeLine ∧ Q (.str p.shown) H
theorem cr_reprA (hu : X.A.units + 64 < cLine) (GD : X.A.guards = some []) : CallR X (.builtin "repr") (rReprA X.K) := by
  intro pins s σ H xs us Q I r h
  obtain ⟨v, p, rfl, hd, h1, h2, h3, q⟩ := h
  obtain ⟨u, rfl, ru⟩ := vals1 r
  obtain ⟨as, rd, hsm⟩ : ∃ as, Reads s.heap u p as ∧ (p.hasDict = true → sysModules ∉ as) := by
    rcases hd with ⟨hd, hn⟩ | ⟨a, ks, q, rfl, hR, hq, rfl⟩
    · obtain ⟨as, rd⟩ := Dp.reads I p _ _ hd ru
      exact ⟨as, rd, fun z => by rw [hn] at z; cases z⟩
    · cases ru
      obtain ⟨z, hs, vs, r0, o, es, ep, ho, hx, hdt, _, hp, _⟩ := hR.ok I.hok
      obtain ⟨i1, i2⟩ := kv_reads (h := s.heap) r0 hp hq
      refine ⟨_, Reads.dict ho hx.1 hdt i1 i2, fun _ hm => ?_⟩
      simp only [List.append_nil, List.mem_singleton] at hm
      exact beq_eq_false_iff_ne.mp hs hm.symm
  cases rd with
  | none => exact PySem.P.repr_of_none ⟨.str _, H, I.tok _, ⟨_, rfl⟩, q⟩
  | bool b => exact PySem.P.repr_of_bool ⟨.str _, H, I.tok _, ⟨_, rfl⟩, q⟩
  | int i t => exact PySem.P.repr_of_int (of_decide_eq_true h1) ⟨.str _, H, I.tok _, ⟨_, rfl⟩, q⟩
  | str x t => exact PySem.P.repr_of_str ⟨.str _, H, I.tok _, ⟨_, rfl⟩, q⟩ (hsz := h3)
  | list a b e d => exact repr_of_reads' (.list a b e d) h1 hsm GD (by omega) (fun _ _ z => z) (fun h' u tk hk => ⟨.str _, H, I.kept hk, ⟨_, rfl⟩, q⟩) h3
  | tuple a b e d => exact repr_of_reads' (.tuple a b e d) h1 hsm GD (by omega) (fun _ _ z => z) (fun h' u tk hk => ⟨.str _, H, I.kept hk, ⟨_, rfl⟩, q⟩) h3
  | dict a b e d f => exact repr_of_reads' (.dict a b e d f) h1 hsm GD (by omega) (fun _ _ z => z) (fun h' u tk hk => ⟨.str _, H, I.kept hk, ⟨_, rfl⟩, q⟩) h3
theorem x_reprA {a : Expr} {ea : E} {p : Pos} (n : Cn c Wx k X) (GD : X.A.guards = some []) (hm : X.mg "repr" = none) (ha : PA X [a] (rdL c Wx ea)) (hg : Gl X "repr" := by rfl) (he : starEach [a] X.env = (false, eval a X.env) :: starEach [] X.env := by rfl) (hpl : (backTo pos (starEach [] X.env)).any (·.1) = false := by rfl) :
    PE X (.Call (.Name "repr" p) [a] [] pos) (rdE c Wx (.call (pureG reprAnyD) ea)) := by
  refine x_bltB n (fun vs H Q E h => ?_) (cr_reprA n.hu GD) boot_repr' hm ha hg (by decide) (by decide) he hpl
  obtain ⟨F, xs, W, r, rr, S, hf, hQ⟩ := spG_pure h
  match xs, rr, hf with
  | [d], .cons (v := v) r1 .nil, hf =>
    simp only [reprAnyD] at hf
    rw [Option.bind_eq_some_iff] at hf
    obtain ⟨p, hp, hf⟩ := hf
    split at hf <;> cases hf
    rename_i hz
    refine ⟨v, p, rfl, ?_, hz.1, hz.2.2, by rw [← cap_eq]; exact hz.2.1, hQ _ F _ S (.str _)⟩
    by_cases hd : ∃ kvs, d = .dic false kvs
    · obtain ⟨kvs, rfl⟩ := hd
      have hp : (pdK kvs).map .dict = some p := hp
      rw [Option.map_eq_some_iff] at hp
      obtain ⟨q, hq, rfl⟩ := hp
      cases r1 with
      | dicK h1 h2 h3 => exact .inr ⟨_, _, q, rfl, Rd.mono S.sub h1, pdK_rep h2 h3 hq, rfl⟩
    · have hp : d.pd = some p := by
        cases d <;> try exact hp
        rename_i t kvs
        cases t
        · exact absurd ⟨_, rfl⟩ hd
        · exact hp
      exact .inl ⟨n.hk ▸ dp_mono S.sub (rep_dp _ _ _ _ hp r1), pyN_nod _ _ _ hp⟩
end
end Z

namespace Z
open PySem PySem.Spec PyProof.Rows L2
open Classical
end Z

namespace Z
open PySem PySem.Spec PyProof.Rows L2
open Classical
section
variable {prog : Program} {w : World} {A : Around} {R : Result → Shared → Prop} {I : Addr} {fp wr : List Addr} {G : Array GenState → Array GenState → Prop} {n : Nat} {P : Nat → Value → Prop} {St : Nat → Shared → Prop}
end
section
variable {prog : Program} {w : World} {A : Around} {E : Value → Shared → Prop} {s : Shared}
end
section
variable {X : Cx}
end
section
variable {c : Pm} {Wx : WX} {X : Cx} {pos : Pos} {k : Nat}
end
end Z

namespace Z
open PySem PySem.Spec PyProof.Rows L2
open PySem.W (Frag Looks findIn typeIn keepIn subIn nsIn mroIn clsIn codeIn kxs_mw ks_superObj ks_superIn ksFn ksEnv)
def eA (f : Str) (p1 p2 : Pos) : Arguments := { posonlyargs := [], args := [{ arg := "self", annotation := none, pos := p1 }, { arg := f, annotation := none, pos := p2 }], vararg := none, kwonlyargs := [], kw_defaults := [], kwarg := none, defaults := [] }
def eB (f m : Str) (j : Nat) (p0 p1 p2 p3 p4 p5 q1 q2 q3 q4 : Pos) : List Stmt :=
  [.Expr (.Call (.Attribute (.Call (.Name "super" p0) [] [] p1) "__init__" p2) [.Constant (.str m) j p3] [] p4) p5, .Assign [.Attribute (.Name "self" q1) f q2] (.Name f q3) q4]
structure ScOk (f : Str) (sc : Scope) : Prop where
  kind : sc.kind = .function
  co : sc.isCoroutine = false
  gen : sc.isGenerator = false
  sup : sc.names.lookup ("super" : Str) = some .globalImplicit
  cl : sc.names.lookup ("__class__" : Str) = some .free
  self : sc.names.lookup ("self" : Str) = some .local
  fld : sc.names.lookup f = some .local
  nocell : ∀ x ∈ sc.names, x.2 ≠ .cell
structure OwnT (P : Program) (K : Frag) (mg : Str → Option Value) (x f : Str) (C fI : Addr) : Prop where
  gC : mg x = some (.ref C)
  noS : mg "super" = none
  cls : OexC K C
  noN : findIn K (.ref C) f = some none
  iC : findIn K (.ref C) "__init__" = some (some (.ref fI))
  tI : typeIn K (.ref fI) = some (.type "function")
  slf : mroIn K C (.ref C) = some true
  sup : ks_superIn K C C "__init__" = some (some (.builtin "ValueError.__init__"))
  ve : subIn K (.ref C) (.type "ValueError") = some true
  opq : nsIn K cStatics "thirdparty.any" = some none
  hf : f ≠ "self"
  hb : f = "at" ∨ f = "row" ∨ f = "limit"
  hd : (f == ("__debug__" : Str)) = false
  top : (P.main.scope.names.lookup ("super" : Str)).isSome = false
  fn : ∃ (oc : Value) (od : Option Addr) (qual : Str) (sc : Scope) (doc pm : Value) (an : Option Addr) (cda : Addr) (ct : Value) (cc : Addr) (osl : Array (Option Value)) (m : Str) (j : Nat) (p1 p2 a0 a1 a2 a3 a4 a5 b1 b2 b3 b4 : Pos),
    K.lookup fI = some ⟨oc, od, .func (ksFn "__init__" qual (eA f p1 p2) (eB f m j a0 a1 a2 a3 a4 a5 b1 b2 b3 b4) sc .none .none doc pm an (.ref cda) ct cc), osl⟩ ∧ codeIn K (.ref cda) qual = true ∧ ScOk f sc ∧ (a2.endLine == a4.line) = true ∧
    (∃ ccl cdd vs ccs file tf, K.lookup cda = some ⟨ccl, cdd, .fields vs, ccs⟩ ∧ vs[2]? = some (.str file tf) ∧ ((P.main.file : Str) == file) = true) ∧ ∃ cl cld csl, K.lookup cc = some ⟨cl, cld, .cell (some (.ref C)), csl⟩
structure OwnEnd (h h' : Heap) (x C dx t1 : Addr) (f : Str) (v : Value) : Prop where
  keep : ∀ b o, b ≠ x → h.get? b = some o → h'.get? b = some o
  obj : h'.get? x = some { cls := .ref C, dict := some dx, data := .fields #[.ref t1, .none, .none, .none, .bool false, .none] }
  dbig : h.objs.size ≤ dx
  dne : dx ≠ x
  ns : h'.Ns1 dx (fun y => if y = f then some v else none)
section
variable {P : Program} {w : World} {A : Around} {E : Value → Shared → Prop} {R : Result → Shared → Prop} {s : Shared} {K : Frag} {mg mb : Str → Option Value} {x f : Str} {C fI : Addr}
end
section
variable {X : Cx} {x f : Str} {C fI : Addr} {p pos pos2 : Pos} {a : Expr}
end
section
variable {c : Pm} {Wx : WX} {X : Cx} {fu n k : Nat} {W W' W1 W2 W3 : Dr} {F0 H0 F H F' H' F1 H1 F2 H2 F3 H3 Hs : Hp} {ρ ρ' : En} {σ σ' : L2.St} {u w : V} {x y v : Vl} {Q : VK} {us : List V} {vs : List Vl} {pos : Pos}
structure OwnErr (c : Pm) (P : Program) (mg : Str → Option Value) (x f : Str) : Prop where
  ex : ∃ C fI, OwnT P c.K mg x f C fI ∧ c.cx x = some C
end
end Z

namespace Z
open PySem PySem.Spec PyProof.Rows L2 He
open PySem.W (Frag findIn typeIn keepIn subIn nsIn mroIn clsIn codeIn ks_superIn)
end Z

namespace Z
open PySem PySem.Spec PyProof.Rows L2
open Classical
section
variable {c : Pm} {Wx : WX} {X : Cx} {fu n k : Nat} {W W' W1 W2 W3 : Dr} {F0 H0 F H F' H' F1 H1 F2 H2 F3 H3 Hs : Hp} {ρ ρ' : En} {σ σ' : L2.St} {u w : V} {x y v : Vl} {Q : VK} {us : List V} {vs : List Vl} {pos : Pos}
end
end Z

namespace Z
open PySem PySem.Spec PyProof.Rows L2
def repS (x : Str) (k : Int) : Str := if k < 1 then Str.empty else if (k == 1 || x.length == 0) = true then x else ⟨(List.replicate k.toNat x.cps).foldl (· ++ ·) #[]⟩
def repSD : List D → Option (Bool × D)
  | [.str a, .int k] => if 0 ≤ k ∧ k ≤ 1000 ∧ a.length ≤ 10000 then some (false, .str (repS a k)) else none
  | _ => none
theorem fold_size (a : Array Nat) : ∀ (n : Nat) (acc : Array Nat), ((List.replicate n a).foldl (· ++ ·) acc).size = acc.size + n * a.size
  | 0, acc => by simp
  | n + 1, acc => by
    rw [List.replicate_succ, List.foldl_cons, fold_size a n, Array.size_append, Nat.add_mul]
    omega
theorem repS_len (x : Str) (k : Int) : (repS x k).length ≤ x.length * k.toNat := by
  unfold repS
  split
  · exact Nat.zero_le _
  · rename_i h
    have h1 : 1 ≤ k.toNat := by omega
    split
    · calc x.length = x.length * 1 := (Nat.mul_one _).symm
        _ ≤ x.length * k.toNat := Nat.mul_le_mul_left _ h1
    · show (Array.size _) ≤ _
      rw [fold_size]
      have : x.cps.size = x.length := rfl
      simp [this, Nat.mul_comm]
section
variable {c : Pm} {Wx : WX} {X : Cx} {pos : Pos} {k : Nat}
def rRepS : V → V → Hp → VK → Prop := fun x y H Q => ∃ (a : Str) (k : Int), x = .str a ∧ y = .int k ∧ 0 ≤ k ∧ k ≤ 1000 ∧ a.length ≤ 10000 ∧ Q (.str (repS a k)) H
theorem op_repS : OpR X (binaryOp .Mult) rRepS := by
  intro pins s σ H x y v u Q I rx ry h
  obtain ⟨a, k, rfl, rfl, h0, h1, ha, q⟩ := h
  obtain ⟨t, rfl⟩ := rx
  obtain ⟨t', rfl⟩ := ry
  have len := repS_len a k
  have big : a.length * k.toNat ≤ 10000000 := Nat.le_trans (Nat.mul_le_mul ha (show k.toNat ≤ 1000 by omega)) (by decide)
  refine PySem.P.mul_str (by
      rw [decide_eq_false (by omega), decide_eq_false (by omega)] <;> rfl) (fun h2 _ => ?_) (fun _ _ => ?_) ?_
  · have e : (a.length : Int) ≤ 10000 := by omega
    have : (10000 : Int) ≤ (2 ^ 63 - 1) / k := Int.le_ediv_of_mul_le (by omega) (by omega)
    omega
  · show Builtin.Str.tooLong _ = false
    unfold Builtin.Str.tooLong
    exact decide_eq_false (by rw [sizeLine_eq]; omega)
  · unfold repS at q len
    by_cases c1 : k < 1
    · rw [if_pos c1] at q ⊢
      exact ⟨by rw [sizeLine_eq]; exact Nat.zero_le _, .str _, H, I.tok _, ⟨_, rfl⟩, q⟩
    · rw [if_neg c1] at q len ⊢
      by_cases c2 : (k == 1 || a.length == 0) = true
      · rw [if_pos c2] at q ⊢
        exact ⟨.str a, H, I, ⟨t, rfl⟩, q⟩
      · rw [if_neg c2] at q len ⊢
        exact ⟨by rw [sizeLine_eq]; omega, .str _, H, I.tok _, ⟨_, rfl⟩, q⟩
theorem x_repS {a b : Expr} {ea eb : E} (n : Cn c Wx k X) (ha : PE X a (rdE c Wx ea)) (hb : PE X b (rdE c Wx eb)) : PE X (.BinOp a .Mult b pos) (rdE c Wx (.call (pureG repSD) (.cons ea (.cons eb .nil)))) := by
  refine pe_wk (pe_op op_repS ha hb) fun σ H Q h => rdE_mono (call2_ok h) fun x H1 h => rdE_mono h fun y H2 h => ?_
  obtain ⟨F', xs, W', z, r, S, hf, hQ⟩ := spG_pure h
  obtain _ | ⟨r1, _ | ⟨r2, _ | _⟩⟩ := r
  rename_i d1 d2
  cases d1 <;> cases d2 <;> try (cases hf)
  rename_i x i
  have hf : (if 0 ≤ i ∧ i ≤ 1000 ∧ x.length ≤ 10000 then some (false, D.str (repS x i)) else none) = some z := hf
  split at hf <;> cases hf
  rename_i hz
  cases r1
  exact ⟨x, i, rfl, r2.intI, hz.1, hz.2.1, hz.2.2, hQ _ F' H2 S (.str _)⟩
end
end Z

namespace Z
open PySem PySem.Spec PyProof.Rows L2
section
variable {c : Pm} {Wx : WX} {X : Cx} {fu n k : Nat} {W W' W1 W2 W3 : Dr} {F0 H0 F H F' H' F1 H1 F2 H2 F3 H3 Hs : Hp} {ρ ρ' : En} {σ σ' : L2.St} {u w : V} {x y v : Vl} {Q : VK} {us : List V} {vs : List Vl} {pos : Pos}
end
end Z

namespace Z
open PySem PySem.Spec PyProof.Rows L2
open PySem.W (Frag Looks findIn)
section
variable {M : Model} {A : Around} {E : Value → Shared → Prop} {h : Heap} {g : Array GenState} {d : Drawn} {t : Nat} {os : OsState}
variable {nm q : Str} {C N : Addr} {bs bm bmB : List Value} {hdct : Bool} {sn : List Str} {sub : List Value} {ab : Bool} {col : Option Bool} {dd : Option Addr} {k0 k1 k2 k3 k5 : Option Value} {B newId initId : String}
end
section
variable {prog : Program} {w : World} {A : Around} {E : Value → Shared → Prop} {R : Result → Shared → Prop} {h : Heap} {g : Array GenState} {d : Drawn} {t : Nat} {os : OsState}
variable {nm q : Str} {C N : Addr} {bs bm bmB : List Value} {hdct : Bool} {sn : List Str} {sub : List Value} {ab : Bool} {col : Option Bool} {dd : Option Addr} {k0 k1 k2 k3 k5 : Option Value} {B newId initId : String} {kw : List (Str × Value)}
end
section
variable {P : Program} {w : World} {A : Around} {R : Result → Shared → Prop} {s : Shared} {K : Frag} {mg mb : Str → Option Value} {x f : Str} {C fI : Addr}
end
section
variable {X : Cx} {x f : Str} {C fI : Addr} {p pos : Pos}
end
section
variable {c : Pm} {Wx : WX} {X : Cx} {k : Nat} {pos : Pos}
end
end Z

namespace Z
open PySem PySem.Spec PyProof.Rows L2
open Classical
section
variable {c : Pm} {Wx : WX} {X : Cx} {F : Hp} {pos : Pos} {k : Nat}
end
end Z

namespace Z
open PySem PySem.Spec PyProof.Rows L2
section
variable {c : Pm} {Wx : WX} {X : Cx} {fu n k : Nat} {σ : L2.St} {H : Hp} {Q : VK} {pos : Pos}
def KPickM (K : PySem.W.Frag) (fd : FuncData) (ps ks : List Str) (is : List Nat) : Prop := ∀ (s : Shared) (v : Value) (ws : List Value), K.In s.heap → ws.length = ks.length → BindsTo s fd ⟨[v], ks.zip ws⟩ (ps.zip (v :: pick is ws))
theorem Fun.kpickM {K : PySem.W.Frag} {x qual : Str} {st : Stmt} {f : Addr} {fd : FuncData} {ps ks : List Str} {is : List Nat} (F : Fun K x qual st f fd)
    (h : ∀ (kV doc pm : Value) (an : Option Addr) (cdv ct v : Value) (us : List Value), us.length = ks.length → bindArgs (PySem.W.fnOf x qual (defArgs st) (defBody st) (defScope st) .none kV doc pm an cdv ct) ⟨[v], ks.zip us⟩ = pure (ps.zip (v :: pick is us))) : KPickM K fd ps ks is := by
  obtain ⟨⟨oc, od, kV, doc, pm, an, cdv, ct, osl, rfl, lk, hcd⟩, kp⟩ := F
  exact fun s v us _ hl => .of_eq (h kV doc pm an cdv ct v us hl)
structure MakK (c : Pm) (P : Program) (w : World) (mg : Str → Option Value) (base : Heap) (k : Nat) (x : Str) (ps ks : List Str) (is : List Nat) (g : G) : Prop where
  ex : ∃ (C f : Addr) (fd : FuncData) (gi : Nat → G), mg x = some (.ref C) ∧ c.ca x = some C ∧ L2.Mk c.K C f ∧ KPickM c.K fd ps ks is ∧ FnOk P w c.K mg base (L2.CX P w) k f fd ps (spI c x C gi) ∧ ∀ p xs W, gi p xs W = g xs W
theorem run_makeK {pins : List (Addr × Obj)} {s : Shared} {ws : List Value} {zs : List V} {C f : Addr} {fd : FuncData} {ps ks : List Str} {is : List Nat} {sp : Sp} {CX : CXT} {E : XK} (M : L2.Mk X.K C f) (Fn : FnOk X.prog X.w X.K X.mg X.base CX k f fd ps sp) (hr : Room (k + 1) X.A) (hb : KPickM X.K fd ps ks is)
    (hx : ∀ (pins : List (Addr × Obj)) (H : Hp) (s : Shared) (e : Value) (s' : Shared), Inv X pins σ H s → CX X.stack H s E e s' → X.xe e s') (I : Inv X pins σ H s) (r : Vals zs ws) (hl : zs.length = ks.length) (hi : ∀ i ∈ is, i < zs.length)
    (h : ∀ x dx, H x = none → H dx = none → dx ≠ x → sp (.ref x :: pick is zs) (upd (upd H dx (.own x)) x (.ins C dx [])) (fun v H2 => v = .non ∧ Q (.ref x) H2) E) : wpAny (model X.prog X.w) X.A (call (.ref C) [] (ks.zip ws)) (EP X pins σ Q) X.xe s := by
  have q0 := h (s.heap.objs.size + 1) s.heap.objs.size (I.hok.fresh (Nat.le_succ _)) (I.hok.fresh (Nat.le_refl _)) (Nat.ne_of_lt (Nat.lt_succ_self _))
  have J := Inv.made (C := C) I
  have rr : Vals (V.ref (s.heap.objs.size + 1) :: pick is zs) (Value.ref (s.heap.objs.size + 1) :: pick is ws) := .cons rfl (pick_vals r hi)
  have b := hb _ (Value.ref (s.heap.objs.size + 1)) ws J.kIn (r.length.symm.trans hl)
  refine wpAny_call (make_map (f := f) I.kIn M.makes M.init (beq_iff_eq.mp M.fn) (codeAny_mono (Fn.run _ X.stack _ _ _ _ _ _ E (hr.make C [] (ks.zip ws)) (J.env0.make C [] (ks.zip ws)) b rr q0) fun res s2 hq => ?_))
  match res, hq with
  | .error e, hq => exact hx pins _ _ e s2 J hq
  | .ok (.ret u), hq =>
    obtain ⟨v, H2, J2, rv, ev, q2⟩ := J.after hq
    cases ev
    exact ⟨rv, V.ref (s.heap.objs.size + 1), H2, J2, rfl, q2⟩
theorem x_makek {j : Nat} {x : Str} {ps ks : List Str} {is : List Nat} {g : G} {kws : List Keyword} {ea : E} {p : Pos} (n : Cn c Wx k X) (h : MakK c X.prog X.w X.mg X.base j x ps ks is g) (hkw : PK X kws (rdL c Wx ea)) (hj : j + 1 ≤ k := by decide) (hg : Gl X x := by rfl) (hdb : (x == ("__debug__" : Str)) = false := by decide)
    (hall : (backToKw pos (keywordEach kws X.env)).all (·.1.isSome) = true := by rfl) (hks : (backToKw pos (keywordEach kws X.env)).filterMap (·.1) = ks := by rfl)
    (hpl : ((backTo pos (starEach [] X.env)).any (·.1) || (backToKw pos (keywordEach kws X.env)).any (·.1.isNone)) = false := by rfl) (hm : is.all (· < ks.length) = true := by decide) : PE X (.Call (.Name x p) [] kws pos) (rdE c Wx (.callk g ks.length is ea)) := by
  obtain ⟨C, f, fd, gi, h1, h2, h3, h4, h5, h6⟩ := h.ex
  rw [← n.hk] at h3 h4 h5
  refine ⟨fun pins s σ H Q I ⟨F0, H0, ρ, F, W, R, hP⟩ => ?_⟩
  simp only [ev] at hP
  have q : rdL c Wx ea σ H fun zs H2 => zs.length = ks.length ∧ (∀ i ∈ is, i < zs.length) ∧ ∀ a dx, H2 a = none → H2 dx = none → dx ≠ a → spI c x C gi (.ref a :: pick is zs) (upd (upd H2 dx (.own a)) a (.ins C dx [])) (fun v H3 => v = .non ∧ Q (.ref a) H3) (WE Wx σ) := by
    refine rd_l R R.refl hP fun vs W1 us F1 H1 S1 _ A R1 hP => ?_
    by_cases hl : vs.length = ks.length
    · rw [if_pos hl] at hP
      have RF := (Ft_rel R R1 S1 A).frz (ts_own A)
      have hlu : us.length = ks.length := (Paired.len A).trans hl
      have hi : ∀ i ∈ is, i < ks.length := fun i z => by simpa using List.all_eq_true.mp hm i z
      refine ⟨hlu, fun i z => by rw [hlu]; exact hi i z, fun a dx ha hdx hne => ?_⟩
      have hr : RepL c (Fz (Ft F1 H1 us vs) H1 σ (ts vs)) (pick is us) (pick is (ds vs)) := pick_rep (args_all R R1 S1 A) fun i z => by
        unfold ds
        rw [List.length_map, hl]
        exact hi i z
      refine ⟨a, dx, pick is us, Fz (Ft F1 H1 us vs) H1 σ (ts vs), H1, pick is (ds vs), W1, rfl, ha, hdx, hne, rfl, h2, hr, RF.stp.refl, ?_⟩
      rw [h6]
      have q := call_end (g := g) R S1 A (ts_own A) hP
      cases e : g (pick is (ds vs)) W1 with
      | ok r W' => rw [e] at q; exact fun F' H' S' r' => ⟨rfl, q _ F' H' S' r'⟩
      | ex x W' => rw [e] at q; exact q
      | stk => rw [e] at q; exact q
    · rw [if_neg hl] at hP; exact hP.elim
  refine wpAny_Call_Name_kw (ld_glob I hg h1 ?_ hdb)
  refine PySem.W.callWith_KW0 (h₀ := X.base) I.ok.mod.kin h3.kp hall (thn (hkw.run pos pins s σ H _ I q) fun ws s1 ⟨zs, H1, I1, r, l1, l2, q1⟩ => ⟨I1.kIn, ?_⟩) hpl
  rw [hks]
  exact run_makeK h3 h5 (n.room.mono hj) h4 (passAt n.tk σ) I1 r l1 l2 q1
end
end Z

namespace Z
open PySem PySem.Spec PyProof.Rows L2
open Classical
section
variable {c : Pm} {Wx : WX} {X : Cx} {fu n k : Nat} {W W' W1 W2 W3 : Dr} {F0 H0 F H F' H' F1 H1 F2 H2 F3 H3 Hs : Hp} {ρ ρ' : En} {σ σ' : L2.St} {u w : V} {x y v : Vl} {Q : VK} {us : List V} {vs : List Vl} {pos : Pos}
def rClear : V → List V → Hp → VK → Prop := fun x vs H Q => ∃ l xs, x = .ref l ∧ vs = [] ∧ H l = some (.lst xs) ∧ Q .non (upd H l (.lst []))
theorem mt_clear : MtM X "list.clear" rClear := by
  intro pins s σ H x vs v us Q I rx rv h
  obtain ⟨l, xs, rfl, rfl, hH, q⟩ := h
  cases rx
  cases rv
  obtain ⟨z, its, n, r, hl, e⟩ := I.lstM hH
  refine call_meets F.slot_list_clear ⟨_, e, rfl⟩ F.entry_list_clear (F.args_list_clear_1 _) (AutoSeq1.list_clear_list_0 l its.toArray n (by rw [List.size_toArray]; omega)) ⟨e, ?_⟩
  exact ⟨.non, _, I.lset (its' := []) hH e (by simp) .nil (Nat.zero_le _), rfl, q⟩
theorem z_tapp {o e : Expr} {eo ee : E} {apos cpos : Pos} (n : Cn c Wx k X) (ho : PE X o (rdE c Wx eo)) (he : PE X e (rdE c Wx ee))
    (hbase : attributeBase o "append" X.env (eval o X.env) = eval o X.env := by rfl)
    (hfew : ((backTo cpos (starEach [e] X.env)).all (fun x => !x.1) && (backToKw cpos (keywordEach [] X.env)).all (fun x => x.1.isSome)
      && decide (([e] : List Expr).length + ([] : List Keyword).length + (if ([] : List Keyword).isEmpty then 0 else 1) < 30)) = true := by rfl)
    (hline : (apos.endLine == cpos.line) = true := by rfl) (hs : starEach [e] X.env = [(false, eval e X.env)] := by rfl) (hsw : swapsWith (.Call (.Attribute o "append" apos) [e] [] cpos) none pos.line X.env = pure false := by rfl) :
    PS X (.Expr (.Call (.Attribute o "append" apos) [e] [] cpos) pos) (rdS c Wx fu (.tapp eo ee)) := by
  refine ps_wk (ps_expr (pe_bm F.plainAttrs_list F.slot_list_append (by rfl) mt_append ho (pa_cons he pa_nil hs) hbase hfew hline hs (by rfl)) hsw) fun D σ H ⟨F0, H0, ρ, F, W, R, hP⟩ => ?_
  simp only [evS] at hP
  refine st_e R hP fun v W1 u F1 H1 S1 V1 R1 hP => ?_
  cases hk : v.k with
  | pl => rw [hk] at hP; exact hP.elim
  | me i => rw [hk] at hP; exact hP.elim
  | fr =>
    rw [hk] at hP
    cases hd : v.d <;> rw [hd] at hP <;> try (exact hP.elim)
    rename_i xs
    simp only at hP
    by_cases hl : xs.length < cap
    · rw [if_pos hl] at hP
      have a1 := V1.at_
      rw [hk, hd] at a1
      obtain ⟨p, rfl, b2, b3, b4, ws0, b5, b6⟩ := a1
      refine ⟨.inl ⟨rfl, ws0, .inl (.inl b5)⟩, st_e R1 (hP.up S1.f) fun y W2 w F2 H2 S2 V2 R2 hP => ?_⟩
      have a2 := (V1.step R1 S2).at_
      rw [hk, hd] at a2
      obtain ⟨p', e1, c2, c3, c4, ws, c5, c6⟩ := a2
      cases e1
      refine ⟨p, ws, w, rfl, rfl, c5, by rw [c6.length, ← cap_eq]; exact hl, ?_⟩
      exact hP _ _ _ (R.setD (R.step (S1.trans S2)) c2 c4 c3 (fun q => by rw [c5]; exact fun z => by cases z) (fun q => by rw [c5]; exact fun z => by cases z)) S2.f
    · rw [if_neg hl] at hP; exact hP.elim
theorem z_tclr {o : Expr} {eo : E} {apos cpos : Pos} (n : Cn c Wx k X) (ho : PE X o (rdE c Wx eo))
    (hbase : attributeBase o "clear" X.env (eval o X.env) = eval o X.env := by rfl)
    (hline : (apos.endLine == cpos.line) = true := by rfl) (hsw : swapsWith (.Call (.Attribute o "clear" apos) [] [] cpos) none pos.line X.env = pure false := by rfl) :
    PS X (.Expr (.Call (.Attribute o "clear" apos) [] [] cpos) pos) (rdS c Wx fu (.tclr eo)) := by
  refine ps_wk (ps_expr (pe_bm0 F.plainAttrs_list F.slot_list_clear (by rfl) mt_clear ho hbase hline) hsw) fun D σ H ⟨F0, H0, ρ, F, W, R, hP⟩ => ?_
  simp only [evS] at hP
  refine st_e R hP fun v W1 u F1 H1 S1 V1 R1 hP => ?_
  cases hk : v.k with
  | pl => rw [hk] at hP; exact hP.elim
  | me i => rw [hk] at hP; exact hP.elim
  | fr =>
    rw [hk] at hP
    cases hd : v.d <;> rw [hd] at hP <;> try (exact hP.elim)
    rename_i xs
    simp only at hP
    have a1 := V1.at_
    rw [hk, hd] at a1
    obtain ⟨p, rfl, b2, b3, b4, ws, b5, b6⟩ := a1
    refine ⟨.inl ⟨rfl, ws, .inl (.inl b5)⟩, p, ws, rfl, rfl, b5, ?_⟩
    exact hP _ _ _ (R.setD R1 b2 b4 b3 (fun q => by rw [b5]; exact fun z => by cases z) (fun q => by rw [b5]; exact fun z => by cases z)) fun a o q => S1.f _ _ q
end
end Z

namespace Z
open PySem PySem.Spec PyProof.Rows L2
section
variable {c : Pm} {Wx : WX} {X : Cx} {fu n k : Nat} {σ : L2.St} {H : Hp} {Q : VK} {pos : Pos}
structure FnG (P : Program) (w : World) (K : PySem.W.Frag) (mg : Str → Option Value) (base : Heap) (CX : CXT) (k : Nat) (f : Addr) (fd : FuncData) (ps : List Str) (sp : Sp) : Prop where
  len : ∀ vs H Q E, sp vs H Q E → vs.length = ps.length
  run : ∀ (A : Around) (outer : List Env) (s : Shared) (H : Hp) (args : Args) (us : List Value) (vs : List V) (Q : VK) (E : XK), A.guards = some [] → Room k A → Env0 P w K mg base A outer s H → BindsTo s fd args (ps.zip us) → Vals vs us → sp vs H Q E →
    codeAny (model P w) A (.call (.ref f) args) (CR CX outer P w H s Q E) s
theorem FnG.mono {P : Program} {w : World} {K : PySem.W.Frag} {mg : Str → Option Value} {base : Heap} {CX : CXT} {j k : Nat} {f : Addr} {fd : FuncData} {ps : List Str} {sp : Sp} (F : FnG P w K mg base CX j f fd ps sp) (h : j ≤ k) :
    FnG P w K mg base CX k f fd ps sp := ⟨F.len, fun A outer s H args us vs Q E hg hr => F.run A outer s H args us vs Q E hg (hr.mono h)⟩
structure CalG (c : Pm) (P : Program) (w : World) (K : PySem.W.Frag) (mg : Str → Option Value) (base : Heap) (k : Nat) (x : Str) (ps : List Str) (g : G) : Prop where
  ex : ∃ (f : Addr) (fd : FuncData), mg x = some (.ref f) ∧ PySem.W.keepIn K (.ref f) = true ∧ Binds K fd ps [] ∧ FnG P w K mg base (L2.CX P w) k f fd ps (spG c g)
end
end Z

namespace Z
open PySem PySem.Spec PyProof.Rows L2
open Classical
section
variable {c : Pm} {Wx : WX} {X : Cx} {fu n k : Nat} {σ : L2.St} {H : Hp} {Q : VK} {pos : Pos}
def TabOk (c : Pm) (P : Program) (w : World) (K : PySem.W.Frag) (mg : Str → Option Value) (base : Heap) (j : Nat) : List (Str × G) → Prop
  | [] => True
  | (f, g) :: r => (mg f = some (.ref (He.ga c.K f)) ∧ ∃ ps, Cal c P w K mg base j f ps g) ∧ TabOk c P w K mg base j r
theorem TabOk.get {P : Program} {w : World} {K : PySem.W.Frag} {mg : Str → Option Value} {base : Heap} {j : Nat} {f : Str} {g : G} : ∀ {tb : List (Str × G)}, TabOk c P w K mg base j tb → tb.lookup f = some g → mg f = some (.ref (He.ga c.K f)) ∧ ∃ ps, Cal c P w K mg base j f ps g
  | [], _, e => by cases e
  | (f', g') :: r, ⟨h, t⟩, e => by
    rw [List.lookup_cons] at e
    by_cases q : f = f'
    · subst q
      rw [beq_self_eq_true] at e
      cases e
      exact h
    · rw [show (f == f') = false from by simpa using q] at e
      exact TabOk.get t e
end
end Z

namespace Z
open PySem PySem.Spec PyProof.Rows L2
open Classical
def plD (nm : Str) : D → Bool
  | .ins n _ => n == nm
  | .non => true
  | .bl _ => true
  | .int _ => true
  | .str _ => true
  | .tup _ => true
  | .lst _ => true
  | .dic t _ => !t
  | _ => false
def eqA (neg : Bool) (nm : Str) (g : G) : G := fun xs W => match xs with
  | [x, y] => if (insD nm x && plD nm y) = true then match g [x, y] W with
    | .ok (false, .bl b) W' => .ok (false, .bl (b != neg)) W'
    | _ => .stk
    else .stk
  | _ => .stk
section
variable {prog : Program} {w : World} {A A₀ : Around} {E : Value → Shared → Prop} {s : Shared} {K : PySem.W.Frag} {x C L f : Addr} {y : Value} {h₀ : Heap} {m : Str → Option Value} {ox : Obj} {od : Option Obj}
theorem ne_ownA {Q : Fin → Shared → Prop} (X : K.In s.heap) (I : PySem.W.InstAt s.heap x ox C od) (hs : PySem.W.findIn K (.ref C) "__eq__" = some (some (.ref f))) (hf : PySem.W.isFn K (.ref f) = true) (hu : A.units < cLine)
    (hcall : wpAny (model prog w) A (call (.ref f) [.ref x, y]) (fun v s' => ∃ b, v = .bool b ∧ Q (.done (.ret (.bool (!b)))) s') E s) :
    wpAny (model prog w) A (Builtin.«object.__ne__» ⟨[.ref x, y], []⟩) Q E s := by
  obtain ⟨hh, gg, dd, tt, oo⟩ := s
  unfold Builtin.«object.__ne__»
  repeat (first
    | with_reducible refine wpAny_cRoomFor hu ?_
    | (refine wpAny_bind (m := callSpecialIfBound? (.ref x) (Str.ofString "__eq__") [y])
        (PySem.W.ifBound_K X I hs hf (wpAny_mono hcall (fun r s' hr => by
          obtain ⟨b, rfl, hq⟩ := hr
          repeat (first | exact hq | exact wpAny_pure hq | exact wpAny_truthy_bool hq | (refine wpAny_bind (m := truthy (.bool _)) (wpAny_truthy_bool ?_)) | wp_step)) fun _ _ e => e)))
    | wp_step)
theorem cmp_neA {Q : Value → Shared → Prop} {tb : Value} (hu : A.units + 1 < cLine) (F : Fr h₀ L s.heap m) (X₀ : K.In h₀) (I : PySem.W.InstAt s.heap x ox C od) (J : PySem.W.Looks (model prog w) s.heap (typeOf y) tb) (nf : PySem.W.notFirst K C tb = true)
    (hs : PySem.W.findIn K (.ref C) "__eq__" = some (some (.ref f))) (hf : PySem.W.isFn K (.ref f) = true) (hn : PySem.W.findIn K (.ref C) "__ne__" = some (some (.builtin "object.__ne__"))) (ho : PySem.W.mroIn K C (.type "object") = some true)
    (h : wpAny (model prog w) A.in1 (call (.ref f) [.ref x, y]) (fun v s' => ∃ b, v = .bool b ∧ Q (.bool (!b)) s') E s) : wpAny (model prog w) A (richCompare .NotEq (.ref x) y) Q E s := by
  have X := X₀.keeps F.keep
  have sub : PySem.W.Looks (model prog w) s.heap (isInstance (.ref x) (.type "object")) true := I.type.andThen (PySem.W.looks_mroIn X ho)
  have one : wpAny (model prog w) A (tryCompare (.ref x) "__ne__" y) (fun r s' => ∃ v, r = some v ∧ Q v s') E s := by
    unfold tryCompare
    refine wpAny_bind (ifBound_ne X I hn (wpAny_call (codeAny_call_builtin PySem.F.cmp_object.ne.plain PySem.F.cmpEntry_ne
      (PySem.W.check_slot PySem.F.cmpKind_ne PySem.F.cmpSplit_ne sub (PySem.F.cmpArgs_ne _ _) (ne_ownA (A := A.in1) X I hs hf hu (wpAny_mono h (fun v s' hv => ?_) fun _ _ e => e))))))
    obtain ⟨b, rfl, hq⟩ := hv
    first | exact ⟨b, rfl, wpAny_pure ⟨_, rfl, hq⟩⟩ | exact ⟨b, rfl, wpAny_pure (wpAny_pure ⟨_, rfl, hq⟩)⟩ | exact ⟨b, rfl, ⟨_, rfl, hq⟩⟩
  unfold richCompare
  simp only [oneThing_ref]
  refine wpAny_holding (wpAny_bind (wpAny_cRoomFor (Nat.lt_of_succ_lt hu) ?_))
  refine wpAny_bind (I.type.here (wpAny_bind (J.here ?_)))
  split
  · rename_i q
    have e : PySem.W.subIn K tb (.ref C) = some false := by
      rcases Bool.or_eq_true_iff.mp nf with e | e
      · rw [beq_iff_eq.mp e] at q; simp at q
      · exact beq_iff_eq.mp e
    refine wpAny_bind ((PySem.W.looks_subIn X e).here ?_)
    simp only [Bool.false_eq_true, if_false]
    refine wpAny_bind (wpAny_mono one (fun r s' z => ?_) fun _ _ e => e)
    obtain ⟨v, rfl, hq⟩ := z
    exact wpAny_pure hq
  · refine wpAny_bind (wpAny_pure ?_)
    simp only [Bool.false_eq_true, if_false]
    refine wpAny_bind (wpAny_mono one (fun r s' z => ?_) fun _ _ e => e)
    obtain ⟨v, rfl, hq⟩ := z
    exact wpAny_pure hq
end
section
variable {c : Pm} {Wx : WX} {X : Cx} {fu n k : Nat} {W W' W1 W2 W3 : Dr} {F0 H0 F H F' H' F1 H1 F2 H2 F3 H3 Hs : Hp} {ρ ρ' : En} {σ σ' : L2.St} {u w : V} {x y v : Vl} {Q : VK} {us : List V} {vs : List Vl} {pos : Pos}
def rOA (K : PySem.W.Frag) (C : Addr) (sp : Sp) (neg : Bool) : R2 := fun x y H Q => (∃ a dx fs, x = .ref a ∧ H a = some (.ins C dx fs)) ∧ (∃ t, TyZ K H y t ∧ PySem.W.notFirst K C t = true) ∧ ∀ E, sp [x, y] H (fun v H' => ∃ r : Bool, v = .bl r ∧ Q (.bl (r != neg)) H') E
theorem nf_ty {K : PySem.W.Frag} {C : Addr} : ∀ T : String, T ∈ ["NoneType", "bool", "int", "str", "tuple", "list", "dict"] → PySem.W.notFirst K C (.type T) = true := by
  intro T h
  unfold PySem.W.notFirst PySem.W.subIn
  simp only [List.mem_cons, List.not_mem_nil, or_false] at h
  rcases h with rfl | rfl | rfl | rfl | rfl | rfl | rfl <;> rfl
theorem spG_eqA {neg : Bool} {nm : Str} {g : G} {x y : V} {E : XK} {C : Addr} {H : Hp} {Q : VK} (kl : Kls c) (hC : c.ca nm = some C) (h : spG c (eqA neg nm g) [x, y] H Q E) : rOA c.K C (spG c g) neg x y H Q := by
  obtain ⟨F, xs, W, r, S, hP⟩ := h
  cases r with
  | @cons _ _ d1 _ r1 r =>
    cases r with
    | @cons _ _ d2 _ r2 r =>
      cases r
      simp only [eqA] at hP
      split at hP
      · rename_i hd
        rw [Bool.and_eq_true] at hd
        obtain ⟨a, C', dx, fs, rfl, h1, h3⟩ := ins_of r1 hd.1
        rw [hC] at h3
        cases h3
        refine ⟨⟨a, dx, fs, rfl, S.sub _ _ h1⟩, ?_, fun E => ⟨F, [d1, d2], W, .cons r1 (.cons r2 .nil), S, ?_⟩⟩
        · have hp := hd.2
          cases r2 with
          | non => exact ⟨_, .base (.base .non), nf_ty _ (by simp)⟩
          | bl b => exact ⟨_, .base (.base (.bl b)), nf_ty _ (by simp)⟩
          | int b => exact ⟨_, .base (.base (.int b)), nf_ty _ (by simp)⟩
          | str b => exact ⟨_, .base (.base (.str b)), nf_ty _ (by simp)⟩
          | tup e1 _ => exact ⟨_, .base (.base (.tup (S.sub _ _ e1))), nf_ty _ (by simp)⟩
          | lst e1 _ => exact ⟨_, .base (.base (.lst (S.sub _ _ e1))), nf_ty _ (by simp)⟩
          | @dicK a' ks kvs e1 _ _ =>
            rcases e1 with e1 | ⟨o, e1⟩
            · exact ⟨_, .base (.base (.dK (S.sub _ _ e1))), nf_ty _ (by simp)⟩
            · exact ⟨_, .base (.fDict (S.sub _ _ e1)), nf_ty _ (by simp)⟩
          | @ins a' C' dx' n gs fs e1 e2 e3 =>
            have : n = nm := by simpa [plD] using hp
            subst this
            rw [hC] at e2
            cases e2
            have i := kl.ins _ _ hC
            exact ⟨_, .base (.base (.ins (S.sub _ _ e1) i.cl i.ha i.hn i.ht i.hm)), by unfold PySem.W.notFirst; rw [beq_self_eq_true, Bool.true_or]⟩
          | drw _ => simp [plD] at hp
          | scr _ => simp [plD] at hp
          | dicT _ _ _ => simp [plD] at hp
          | fn => simp [plD] at hp
          | exc0 _ _ => simp [plD] at hp
          | exc1 _ _ _ _ _ => simp [plD] at hp
        · cases e : g [d1, d2] W with
          | stk => rw [e] at hP; exact hP.elim
          | ex z W' => rw [e] at hP; exact hP.elim
          | ok rr W' =>
            rw [e] at hP
            obtain ⟨nw, d⟩ := rr
            cases nw <;> cases d <;> try (exact hP.elim)
            rename_i b
            intro u F' H' S' hr
            cases hr
            exact ⟨b, rfl, hP _ F' H' S' (.bl _)⟩
      · exact hP.elim
theorem op_ownA {j : Nat} {nm : Str} {ps : List Str} {g : G} {C : Addr} (n : Cn c Wx k X) (M : OwnEq c X.prog X.w X.mg X.base j nm ps g) (hj : j + 1 ≤ k) (hC : c.ca nm = some C) :
    OpR X (compareOp .Eq) (rOA c.K C (spG c g) false) ∧ OpR X (compareOp .NotEq) (rOA c.K C (spG c g) true) := by
  obtain ⟨C', f, fd, h1, h2, h3, h4, h5⟩ := M.mth.ex
  rw [hC] at h1
  cases h1
  obtain ⟨m1, m2⟩ := M.ne C hC
  have hk := n.hk
  rw [← hk] at h2 h3 h4 h5 m1 m2 ⊢
  refine ⟨fun pins s σ H x y v u Q I rx ry hq => ?_, fun pins s σ H x y v u Q I rx ry hq => ?_⟩
  · obtain ⟨⟨a, dx, fs, rfl, ha⟩, ⟨t, ty, nf⟩, q⟩ := hq
    cases rx
    obtain ⟨mA, J, _⟩ := ins_get I.hok ha
    obtain ⟨od, J, _⟩ := J.look
    obtain ⟨P, kx, hP, _⟩ := kit_z I ry ty
    have J' := kx.ty (model X.prog X.w) s.heap I.kIn hP
    obtain ⟨m, hF⟩ := I.fr
    show wpAny (model X.prog X.w) X.A (richCompare .Eq _ _) (EP X pins σ Q) X.xe s
    refine PySem.W.cmp_K (op := .Eq) (tb := t) n.room.units0 hF I.ok.mod.kin J J' nf h3.at_ h3.fn (wpAny_mono (run_own (us := [.ref a, u]) (vs := [.ref a, y]) h5 (n.room.mono (Nat.le_of_succ_le hj)) rfl h4 (passAt n.tk σ) I (.cons rfl (.cons ry .nil)) (q _)) (fun v s' z => ?_) fun _ _ e => e)
    obtain ⟨vv, H', I', rv, r, rfl, hQ⟩ := z
    obtain rfl : v = .bool r := rv
    exact ⟨.bl (r != false), H', I', by rw [Bool.bne_false]; rfl, hQ⟩
  · obtain ⟨⟨a, dx, fs, rfl, ha⟩, ⟨t, ty, nf⟩, q⟩ := hq
    cases rx
    obtain ⟨mA, J, _⟩ := ins_get I.hok ha
    obtain ⟨od, J, _⟩ := J.look
    obtain ⟨P, kx, hP, _⟩ := kit_z I ry ty
    have J' := kx.ty (model X.prog X.w) s.heap I.kIn hP
    obtain ⟨m, hF⟩ := I.fr
    show wpAny (model X.prog X.w) X.A (richCompare .NotEq _ _) (EP X pins σ Q) X.xe s
    refine cmp_neA (by have := n.hu; omega) hF I.ok.mod.kin J J' nf h3.at_ h3.fn m1 m2 (wpAny_mono (run_own (A := X.A.in1) (us := [.ref a, u]) (vs := [.ref a, y]) h5 ((n.room.mono hj).in1) rfl h4 (passAt n.tk σ) I (.cons rfl (.cons ry .nil)) (q _)) (fun v s' z => ?_) fun _ _ e => e)
    obtain ⟨vv, H', I', rv, r, rfl, hQ⟩ := z
    obtain rfl : v = .bool r := rv
    exact ⟨r, rfl, .bl (r != true), H', I', by cases r <;> rfl, hQ⟩
theorem own_liftA {neg : Bool} {nm : Str} {g : G} {ea eb : E} {C : Addr} {Q : VK} {σ : L2.St} {H : Hp} (kl : Kls c) (hC : c.ca nm = some C) (h : rdE c Wx (.call (eqA neg nm g) (.cons ea (.cons eb .nil))) σ H Q) : tOp (rOA c.K C (spG c g) neg) (rdE c Wx ea) (rdE c Wx eb) σ H Q :=
  rdE_mono (call2_ok h) fun x H1 h2 => rdE_mono h2 fun y H2 h3 => spG_eqA kl hC h3
theorem x_ownA {neg : Bool} {op : CmpOp} {j : Nat} {nm : Str} {ps : List Str} {g : G} {a b : Expr} {ea eb : E} (n : Cn c Wx k X) (kl : Kls c) (M : OwnEq c X.prog X.w X.mg X.base j nm ps g) (ha : PE X a (rdE c Wx ea)) (hb : PE X b (rdE c Wx eb)) (hj : j + 1 ≤ k := by decide) (ho : op = (if neg then .NotEq else .Eq) := by rfl) (hm : behindInMarks op b = false := by first | exact nobehind _ (by decide) (by decide) | rfl) :
    PE X (.Compare a [op] [b] pos) (rdE c Wx (.call (eqA neg nm g) (.cons ea (.cons eb .nil)))) := by
  obtain ⟨C, _, _, hC, _⟩ := M.mth.ex
  obtain ⟨h1, h2⟩ := op_ownA n M hj hC
  subst ho
  cases neg
  · exact pe_wk (pe_cmpR h1 ha hb hm) fun σ H Q h => own_liftA kl hC h
  · exact pe_wk (pe_cmpR h2 ha hb hm) fun σ H Q h => own_liftA kl hC h
end
end Z

namespace Z
open PySem PySem.Spec PyProof.Rows L2
open Classical
section
variable {c : Pm} {Wx : WX} {X : Cx} {fu n k : Nat} {σ : L2.St} {H : Hp} {Q : VK} {pos : Pos}
end
end Z

namespace Z
open PySem PySem.Spec PyProof.Rows L2
open Classical
section
variable {c : Pm} {Wx : WX} {X : Cx} {fu n k : Nat} {σ : L2.St} {H : Hp} {Q : VK} {pos : Pos}
end
end Z

namespace Z
open PySem PySem.Spec PyProof.Rows L2
section
variable {c : Pm} {Wx : WX} {X : Cx} {fu n k : Nat} {σ : L2.St} {H : Hp} {Q : VK} {pos : Pos}
end
end Z

namespace Z
open PySem PySem.Spec PyProof.Rows L2
section
variable {c : Pm} {Wx : WX} {X : Cx} {fu n k : Nat} {σ : L2.St} {H : Hp} {Q : VK} {pos : Pos}
end
end Z

namespace Z
open PySem PySem.Spec PyProof.Rows L2 He
end Z

namespace Z
open PySem PySem.Spec PyProof.Rows L2
open Classical
section
variable {c : Pm} {Wx : WX} {X : Cx} {fu n k : Nat} {σ : L2.St} {H : Hp} {Q : VK} {pos : Pos}
end
end Z

namespace Z
open PySem PySem.Spec PyProof.Rows L2
open Classical
section
variable {c : Pm} {Wx : WX} {X : Cx} {fu n k : Nat} {σ : L2.St} {H : Hp} {Q : VK} {pos : Pos}
end
end Z

set_option pp.maxSteps 300
namespace Z
open PySem PySem.Spec PyProof.Rows L2
def NewD (P : Program) (w : World) (ob : HO) : Prop := ∀ (H : Hp) (h : Heap), sysModules < h.objs.size → ObjOk P w H (h.push { cls := .type "dict", data := .dict #[] }) h.objs.size ob
theorem newD_K {P : Program} {w : World} : NewD P w (.dK []) := fun _ h hb => dk_empty h hb
theorem put_any {X : Cx} {pins : List (Addr × Obj)} {σ : L2.St} {H H' : Hp} {s : Shared} {E : Value → Shared → Prop} {a : Addr} {y v : V} {u r : Value} {Q : Unit → Shared → Prop} (hu : X.A.units + 2 < cLine) (I : Inv X pins σ H s) (g : DPut H a y v H') (ry : RelV y u) (rv : RelV v r)
    (h : ∀ s', Inv X pins σ H' s' → Q () s') : wpAny (model X.prog X.w) X.A (dictSet a u r) Q E s := by
  rcases g with ⟨kvs, k, e, rfl, l, rfl⟩ | ⟨kvs, k, b, e, rfl, eb, l, rfl⟩
  · exact d_dictSet I e l ry rv h
  · obtain rfl : u = Value.ref b := ry
    obtain ⟨z, nz, xs, rel, ent⟩ := dt_of I.hok e
    have room : xs.length ≤ sizeLine := by have := Paired.length rel; omega
    have more := length_putK kvs k v
    refine wpAny_dictSet_heap (hsz := room) (show (tupleKind (mixKind X.prog X.w)).room X.A from (Nat.lt_of_le_of_lt (Nat.le_add_right _ _) hu : X.A.units < cLine)) (L2.key_of I.hok eb) ent fun h2 ent2 same => h _ ?_
    obtain ⟨o, es, ep, q1, q2, q3, q4, _, q5⟩ := ent2
    refine d_write I (by rw [e]; exact True.intro) same ⟨o, q1⟩ ⟨by omega, nz, _, (rel.put k eb rv).keeps fun x ys ex => ?_, o, es, ep, q1, q2, q3, q4, q5⟩
    rw [upd_ne (ne_of ex e fun z => nomatch z)]
    exact ex
section
variable {X : Cx}
structure Blk (X : Cx) (pins : List (Addr × Obj)) (σ : L2.St) (scope : Scope) (tg : Expr) (fp : List Addr) (ce : Env) (J : It) (it : Addr) (tn : Nat → Heap → Prop) (sB : Shared) (HB : Hp) : Prop where
  def_ : Inv X pins σ HB sB
  turn : Turn X.prog X.w X.K tg J fp it tn
  fr : ∀ b ∈ fp, FpOk X pins HB b ∧ b < sB.heap.objs.size
  env : ce.locals = sB.heap.objs.size
variable {pins pm : List (Addr × Obj)} {σ σ' : L2.St} {scope : Scope} {tg : Expr} {fp : List Addr} {ce : Env} {J : It} {it : Addr} {tn : Nat → Heap → Prop} {sB s' : Shared} {HB H' : Hp} {i : Nat}
theorem blk_fp (I : Inv (X.blk sB HB scope ce fp) [] σ' H' s') (none_ : ∀ b ∈ fp, H' b = none) : ∀ b ∈ fp, FpOk (X.blk sB HB scope ce fp) [] H' b := fun b hb =>
  ⟨none_ b hb, (I.ok.exf b hb).1, I.ok.exfs b hb, .inl hb, fun x c e => (I.ok.exf b hb).2 x c e, fun p hp => absurd (show p ∈ ([] : List (Addr × Obj)) ++ [] from hp) (by simp)⟩
theorem Blk.stop (B : Blk X pins σ scope tg fp ce J it tn sB HB) (calm : X.calm = true) (I : Inv (X.blk sB HB scope ce fp) [] σ' H' s') (st : tn i s'.heap) (none_ : ∀ b ∈ fp, H' b = none) (go : J.stop i H') :
    wpAny (model X.prog X.w) X.A (pyNext (.ref it)) (fun r s2 => r = none ∧ Inv X pins σ H' s2 ∧ ∃ m, s2.heap.Ns sB.heap.objs.size m ∧ FpOk X pins H' sB.heap.objs.size) (fun _ _ => False) s' := by
  refine thnF (B.turn.done (X.blk sB HB scope ce fp) rfl rfl rfl calm i [] s' σ' H' (fun _ _ => False) I (blk_fp I none_) st go) fun r s2 ⟨e, I2⟩ => ⟨e, ?_, ?_⟩
  · exact B.def_.call' (ch := fp) I2.os I2.base I2.hok I2.bare fun b hb => by
      obtain ⟨⟨_, q1, _, q2, q3, q4⟩, _⟩ := B.fr b hb
      exact ⟨q2, q1, q3, q4⟩
  · have away : H' sB.heap.objs.size = none := by
      have z : H' ce.locals = none := I2.free
      rwa [B.env] at z
    obtain ⟨m, ns, _⟩ := I2.loc
    have ns : s2.heap.Ns ce.locals m := ns
    rw [B.env] at ns
    exact ⟨m, ns, B.def_.fpOk (Nat.le_refl _) away⟩
theorem Blk.again {vs : List Nat} {sI : Shared} {σ9 : L2.St} (B : Blk X pins σ scope tg fp ce J it tn sB HB) (stI : tn i sI.heap) (I : Inv (X.blk sB HB scope ce fp) (pm ++ pinsAt fp sI.heap) σ9 H' s') (len : (wipe σ vs).length = σ9.length) (know : ∀ (j : Nat) v, (wipe σ vs)[j]? = some (some v) → σ9[j]? = some (some v)) :
    Inv (X.blk sB HB scope ce fp) pm (wipe σ vs) H' s' ∧ tn i s'.heap ∧ ∀ b ∈ fp, H' b = none := by
  have held : ∀ b ∈ fp, ∀ o, sI.heap.get? b = some o → s'.heap.get? b = some o ∧ H' b = none := fun b hb o e => by
    have z := I.pin (b, o) (List.mem_append_right _ (List.mem_append_right _ (mem_pinsAt hb e)))
    exact ⟨z.1, z.2.1⟩
  refine ⟨I.unpinned.weak len know, B.turn.keep _ _ _ stI fun b hb o e => (held b hb o e).1, fun b hb => ?_⟩
  obtain ⟨o, e, _⟩ := B.turn.obj _ _ stI b hb
  exact (held b hb o e).2
variable {s : Shared} {H : Hp} {Q : VK} {kx vx iter : Expr} {ifs : List Expr} {rest : List Comprehension} {own : List (Str × Nat)} {pos pos' : Pos} {wi : TI} {use : Option (Value → Sem Unit)} {Qf : Value → Shared → Prop} {ob : HO}
theorem dcomp_open (hob : NewD X.prog X.w ob) (Pj : It → Addr → Hp → Prop) (nodup : X.N.Nodup) (I : Inv X pins σ H s) (hi : PI X tg iter wi) (ok : BlkOk X.N X.env.scope scope own) (plain : ∀ x, foldedSetIterable iter X.env x = pure x)
    (h : wi σ H fun J H1 => ∀ D, H1 D = none → Pj J D (upd H1 D ob))
    (loop : ∀ (J : It) (it D : Addr) (fp : List Addr) (tn : Nat → Heap → Prop) (sB s4 : Shared) (HB : Hp) (cl : List (Str × Addr)), Blk X pins σ scope tg fp (compEnvC scope cl sB.heap.objs.size X.env) J it tn sB HB → Pj J D HB →
      Inv (X.blk sB HB scope (compEnvC scope cl sB.heap.objs.size X.env) fp) [] (wipe σ (own.map (·.2))) HB s4 → tn 0 s4.heap → (∀ b ∈ fp, HB b = none) →
      codeAny (model X.prog X.w) X.A (.compLoop (.DictComp kx vx (⟨tg, iter, ifs, 0⟩ :: rest) scope pos) 0 (.ref it) (.ref D) (compEnvC scope cl sB.heap.objs.size X.env)) (compPost (model X.prog X.w) X.A X.xe use Qf (.ref D) sB.heap.objs.size) s4) :
    wpAny (model X.prog X.w) X.A (comprehension (.DictComp kx vx (⟨tg, iter, ifs, 0⟩ :: rest) scope pos) scope X.env pos' newDict false (eval iter X.env) use) Qf X.xe s := by
  refine wpAny_comprehension_free (use := use) rfl plain (closure_ok fun y hy e => (ok.free y hy e).elim (fun k => I.ok.has _ (.inl k)) fun k => I.ok.has _ (.inr k)) ok.kind (fun y hy e => (ok.uniq y hy).trans (by rw [e]))
    (thn (hi.run pins s σ H _ I h) fun xv s1 hx => thn hx fun itv s2 ⟨it, fp, tn, J, H2, e, I2, T, st2, f2, q⟩ => ?_)
  subst e
  refine wpAny_newObj_type (newEnv_comp ?_)
  have fresh : H2 s2.heap.objs.size = none := I2.hok.fresh (Nat.le_refl _)
  have qD := q _ fresh
  have small : ∀ b ∈ fp, b < s2.heap.objs.size := fun b hb => by
    obtain ⟨o, e, _⟩ := T.obj _ _ st2 b hb
    exact Heap.lt_size e
  have IB : Inv X pins σ (upd H2 s2.heap.objs.size ob) { s2 with heap := s2.heap.push { cls := .type "dict", data := .dict #[] } } :=
    I2.laid (t' := s2.toks) (fun b o e => Heap.get?_push_of_some _ e) (Nat.le_refl _) (hob _ _ I2.big)
  have frB : ∀ b ∈ fp, FpOk X pins (upd H2 s2.heap.objs.size ob) b ∧ b < (s2.heap.push { cls := .type "dict", data := .dict #[] } : Heap).objs.size := fun b hb => by
    have lt := small b hb
    obtain ⟨q0, q1⟩ := f2 b hb
    exact ⟨⟨by rw [upd_ne (Nat.ne_of_lt lt)]; exact q0, q1⟩, by rw [Heap.size_push]; exact Nat.lt_succ_of_lt lt⟩
  have stB : tn 0 (s2.heap.push { cls := .type "dict", data := .dict #[] } : Heap) := T.keep _ _ _ st2 fun b _ o e => Heap.get?_push_of_some _ e
  generalize hsB : ({ s2 with heap := s2.heap.push { cls := .type "dict", data := .dict #[] } } : Shared) = sB at IB
  have eB : sB.heap = s2.heap.push { cls := .type "dict", data := .dict #[] } := by rw [← hsB]
  rw [← eB] at frB stB
  generalize upd H2 s2.heap.objs.size ob = HB at qD IB frB
  have I4 := block_start IB ok nodup frB
  have st4 : tn 0 (pushCells (sB.heap.push { cls := .type "dict", data := .dict #[] }) scope.names) := T.keep _ _ _ stB fun b _ o e => pushCells_keeps _ _ _ _ (Heap.get?_push_of_some _ e)
  have L := loop J it s2.heap.objs.size fp tn sB _ HB _ ⟨IB, T, frB, rfl⟩ qD I4 st4 fun b hb => (frB b hb).1.1
  exact codeAny_compStart_dict L (T.self X.A 0 _ _ _ st4 L)
theorem dcomp_end {D C : Addr} {H : Hp} {m : Str → Option Value} {s2 : Shared} (I : Inv X pins σ H s2) (ns : s2.heap.Ns C m) (f : FpOk X pins H C) (q : Q (.ref D) H) : compPost (model X.prog X.w) X.A X.xe none (EP X pins σ Q) (.ref D) C (.ok .next) s2 := by
  obtain ⟨f0, f1, f2, f3, f4, f5⟩ := f
  exact ⟨m, ns, fun h2 sb => ⟨.ref D, H, I.turned (t' := s2.toks) (fun b o hb e => (sb.2 b hb).trans e) f0 f1 f3 f4 f5, rfl, q⟩⟩
end
end Z

set_option pp.maxSteps 300
namespace Z
open PySem PySem.Spec PyProof.Rows L2
section
variable {prog : Program} {w : World} {A : Around} {R : Result → Shared → Prop} {s : Shared} {kx vx t0 i0 t1 i1 : Expr} {f0 f1 : List Expr} {scope : Scope} {pos : Pos} {it : Value} {D : Addr} {env : Env}
theorem dturn_out (acc : Value) : compTurn (.DictComp kx vx [⟨t0, i0, f0, 0⟩, ⟨t1, i1, f1, 0⟩] scope pos) 0 it acc env = (do
      standAt i0.pos
      match ← pyNext it with
      | none => pure (.done .next)
      | some item =>
        letOwnedTupleGo t0 it item
        assign t0 env item
        let mut fits := true
        for c in f0 do
          if fits then fits ← isTrue c env (eval c env)
        if fits then
          let src ← eval i1 env
          standAt i1.pos
          let src ← foldedSetIterable i1 env src
          let _ ← runOwn (.compStart (.DictComp kx vx [⟨t0, i0, f0, 0⟩, ⟨t1, i1, f1, 0⟩] scope pos) 1 (← holding [src] (pyIter src)) acc env) env
        again (.compLoop (.DictComp kx vx [⟨t0, i0, f0, 0⟩, ⟨t1, i1, f1, 0⟩] scope pos) 0 it acc env)) := by rfl
theorem dturn_in : compTurn (.DictComp kx vx [⟨t0, i0, f0, 0⟩, ⟨t1, i1, f1, 0⟩] scope pos) 1 it (.ref D) env = (do
      standAt i1.pos
      match ← pyNext it with
      | none => pure (.done .next)
      | some item =>
        letOwnedTupleGo t1 it item
        assign t1 env item
        let mut fits := true
        for c in f1 do
          if fits then fits ← isTrue c env (eval c env)
        if fits then
          (do
            let kv ← eval kx env
            let vv ← holding [kv] (eval vx env)
            standAt { kx.pos with endLine := vx.pos.endLine, endCol := vx.pos.endCol }
            holding [kv, vv] (dictSet D kv vv))
        again (.compLoop (.DictComp kx vx [⟨t0, i0, f0, 0⟩, ⟨t1, i1, f1, 0⟩] scope pos) 1 it (.ref D) env)) := by rfl
abbrev Nb (prog : Program) (w : World) (A : Around) (R : Result → Shared → Prop) (env : Env) : Value → Shared → Prop := notedBy (model prog w) A env fun e s' => R (.error e) s'
abbrev allOf (cs : List Expr) (env : Env) : Sem Bool := forIn cs true fun c r => if r = true then do let ok ← isTrue c env (eval c env); pure (ForInStep.yield ok) else pure (ForInStep.yield r)
theorem dloop_out {acc : Value} (plain : ∀ x, foldedSetIterable i1 env x = pure x) (P : Nat → Shared → Prop)
    (turn : ∀ n s, P n s → wpAny (model prog w) A (pyNext it) (fun r sa => match r with
      | none => R (.ok .next) sa
      | some item => wpAny (model prog w) A (letOwnedTupleGo t0 it item) (fun _ sb => wpAny (model prog w) A (assign t0 env item) (fun _ sc => wpAny (model prog w) A (allOf f0 env) (fun fits sd =>
            if fits = true then wpAny (model prog w) A (eval i1 env) (fun src se => wpAny (model prog w) A (pyIter src) (fun itn sf =>
              codeAny (model prog w) A (.compStart (.DictComp kx vx [⟨t0, i0, f0, 0⟩, ⟨t1, i1, f1, 0⟩] scope pos) 1 itn acc env) (fun r s' => match r with
                | .ok _ => ∃ m, m < n ∧ P m s'
                | .error _ => False) sf) (Nb prog w A R env) se) (Nb prog w A R env) sd
            else ∃ m, m < n ∧ P m sd) (Nb prog w A R env) sc) (Nb prog w A R env) sb) (Nb prog w A R env) sa) (Nb prog w A R env) s)
    (n : Nat) (h : P n s) : codeAny (model prog w) A (.compLoop (.DictComp kx vx [⟨t0, i0, f0, 0⟩, ⟨t1, i1, f1, 0⟩] scope pos) 0 it acc env) R s := by
  refine codeAny_loop rfl P (fun n s hp => ?_) n h
  show wpAny _ A ((compTurn (.DictComp kx vx [⟨t0, i0, f0, 0⟩, ⟨t1, i1, f1, 0⟩] scope pos) 0 it acc env).onRaise fun x => do noteFrame x env; theTreesLotGoes x) _ _ s
  refine wpAny_noted ?_
  rw [dturn_out]
  refine wpAny_bind (wpAny_standAt (wpAny_bind (wpAny_mono (turn n s hp) (fun r sa ha => ?_) fun _ _ z => z)))
  cases r with
  | none => exact wpAny_pure ha
  | some item =>
    refine wpAny_bind (wpAny_mono ha (fun _ sb hb => wpAny_bind (wpAny_mono hb (fun _ sc hc => wpAny_bind (wpAny_mono hc (fun fits sd hd => ?_) fun _ _ z => z)) fun _ _ z => z)) fun _ _ z => z)
    cases fits with
    | false => exact wpAny_pure ⟨rfl, hd⟩
    | true =>
      refine wpAny_bind (wpAny_mono hd (fun src se he => wpAny_bind (wpAny_standAt (wpAny_bind (wpAny_of_eq (plain src) (wpAny_bind (wpAny_holding (wpAny_mono he (fun itn sf hf => ?_) fun _ _ z => z))))))) fun _ _ z => z)
      refine wpAny_bind (wpAny_runOwn ?_)
      rw [Around.mark_none]
      refine codeAny_mono hf fun r s' hr => ?_
      cases r with
      | error e => exact hr.elim
      | ok fl => first
          | exact wpAny_pure ⟨rfl, hr⟩
          | exact wpAny_bind (wpAny_pure (wpAny_pure ⟨rfl, hr⟩))
theorem dloop_in (P : Nat → Shared → Prop)
    (turn : ∀ n s, P n s → wpAny (model prog w) A (pyNext it) (fun r sa => match r with
      | none => R (.ok .next) sa
      | some item => wpAny (model prog w) A (letOwnedTupleGo t1 it item) (fun _ sb => wpAny (model prog w) A (assign t1 env item) (fun _ sc => wpAny (model prog w) A (allOf f1 env) (fun fits sd =>
            if fits = true then wpAny (model prog w) A (eval kx env) (fun kv se => wpAny (model prog w) A (eval vx env) (fun vv sf =>
              wpAny (model prog w) A (dictSet D kv vv) (fun _ sg => ∃ m, m < n ∧ P m sg) (Nb prog w A R env) sf) (Nb prog w A R env) se) (Nb prog w A R env) sd
            else ∃ m, m < n ∧ P m sd) (Nb prog w A R env) sc) (Nb prog w A R env) sb) (Nb prog w A R env) sa) (Nb prog w A R env) s)
    (n : Nat) (h : P n s) : codeAny (model prog w) A (.compLoop (.DictComp kx vx [⟨t0, i0, f0, 0⟩, ⟨t1, i1, f1, 0⟩] scope pos) 1 it (.ref D) env) R s := by
  refine codeAny_loop rfl P (fun n s hp => ?_) n h
  show wpAny _ A ((compTurn (.DictComp kx vx [⟨t0, i0, f0, 0⟩, ⟨t1, i1, f1, 0⟩] scope pos) 1 it (.ref D) env).onRaise fun x => do noteFrame x env; theTreesLotGoes x) _ _ s
  refine wpAny_noted ?_
  rw [dturn_in]
  refine wpAny_bind (wpAny_standAt (wpAny_bind (wpAny_mono (turn n s hp) (fun r sa ha => ?_) fun _ _ z => z)))
  cases r with
  | none => exact wpAny_pure ha
  | some item =>
    refine wpAny_bind (wpAny_mono ha (fun _ sb hb => wpAny_bind (wpAny_mono hb (fun _ sc hc => wpAny_bind (wpAny_mono hc (fun fits sd hd => ?_) fun _ _ z => z)) fun _ _ z => z)) fun _ _ z => z)
    cases fits with
    | false => exact wpAny_pure ⟨rfl, hd⟩
    | true => exact wpAny_bind (wpAny_bind (wpAny_mono hd (fun kv se he => wpAny_bind (wpAny_holding (wpAny_mono he (fun vv sf hf => wpAny_bind (wpAny_standAt (wpAny_holding (wpAny_mono hf (fun _ sg hg => wpAny_pure ⟨rfl, hg⟩) fun _ _ z => z)))) fun _ _ z => z))) fun _ _ z => z))
theorem dstart_in (h0 : codeAny (model prog w) A (.compLoop (.DictComp kx vx [⟨t0, i0, f0, 0⟩, ⟨t1, i1, f1, 0⟩] scope pos) 1 it (.ref D) env) R s)
    (h : wpAny (model prog w) A (pyIter it) (fun itn s' => codeAny (model prog w) A (.compLoop (.DictComp kx vx [⟨t0, i0, f0, 0⟩, ⟨t1, i1, f1, 0⟩] scope pos) 1 itn (.ref D) env) R s') (Nb prog w A R env) s) :
    codeAny (model prog w) A (.compStart (.DictComp kx vx [⟨t0, i0, f0, 0⟩, ⟨t1, i1, f1, 0⟩] scope pos) 1 it (.ref D) env) R s := by
  refine codeAny_of_tree ?_
  show wpAny _ _ ((compStart (.DictComp kx vx [⟨t0, i0, f0, 0⟩, ⟨t1, i1, f1, 0⟩] scope pos) 1 it (.ref D) env).onRaise fun x => do noteFrame x env; standAt theWindowsPlace) _ _ s
  refine wpAny_notedAt ?_
  unfold compStart
  show wpAny _ _ (ask >>= _) _ _ s
  refine wpAny_bind (wpAny_askSetting (wpAny_ite ?_))
  split
  · first
      | exact wpAny_bind (wpAny_pure (wpAny_pure (And.intro rfl h0)))
      | exact wpAny_pure (And.intro rfl h0)
  · first
      | exact wpAny_bind (wpAny_rule (wpAny_bind (wpAny_standAt (wpAny_bind (wpAny_mono h (fun itn s' z => wpAny_pure (And.intro rfl z)) fun _ _ x => x)))))
      | (refine wpAny_bind (wpAny_rule ?_); show wpAny _ _ (standAt i1.pos >>= _) _ _ s; exact wpAny_bind (wpAny_standAt (wpAny_bind (wpAny_mono h (fun itn s' z => wpAny_pure (And.intro rfl z)) fun _ _ x => x))))
end
section
variable {X : Cx} {σ : L2.St} {H : Hp} {Q : VK} {kx vx tg iter tg1 iter1 : Expr} {ifs ifs1 : List Expr} {scope : Scope} {own : List (Str × Nat)} {vs1 : List Nat} {pos : Pos} {wi wi1 : TI} {ob : HO}
def DcP2 (g : TG) (tt : TT) (wi1 : TI) (g1 : TG) (tt1 : TT) (tk tv : TE) (vs vs1 : List Nat) (σ : L2.St) (Q : VK) (J : It) (D : Addr) (H0 : Hp) : Prop := ∃ W : Nat → Nat → Hp → Prop, (∃ m, W 0 m H0) ∧ ∀ i m H, W i m H →
  (J.stop i H ∧ Q (.ref D) H) ∨ (J.go i H ∧ ∃ Nx : Hp → Prop, (∀ H', Nx H' → ∃ m', m' < m ∧ W (i + 1) m' H') ∧ ∀ x H', J.yld i H x H' → g x (wipe σ vs) H' fun σ2 H2 => wipe σ2 vs = wipe σ vs ∧ tt σ2 H2 fun b H3 =>
    if b = true then wi1 σ2 H3 fun J1 H4 => ∃ W1 : Nat → Nat → Hp → Prop, (∃ m, W1 0 m H4) ∧ ∀ j k H, W1 j k H →
      (J1.stop j H ∧ Nx H) ∨ (J1.go j H ∧ ∃ Nx1 : Hp → Prop, (∀ H', Nx1 H' → ∃ k', k' < k ∧ W1 (j + 1) k' H') ∧ ∀ x H', J1.yld j H x H' → g1 x (wipe σ2 vs1) H' fun σ3 H5 => wipe σ3 vs1 = wipe σ2 vs1 ∧ tt1 σ3 H5 fun b H6 =>
        if b = true then tk σ3 H6 fun y H7 => tv σ3 H7 fun z H8 => ∃ H9, DPut H8 D y z H9 ∧ Nx1 H9 else Nx1 H6)
    else Nx H3)
def tDcG2 (ob : HO) (wi : TI) (g : TG) (tt : TT) (wi1 : TI) (g1 : TG) (tt1 : TT) (tk tv : TE) (vs vs1 : List Nat) : TE := fun σ H Q => wi σ H fun J H1 => ∀ D, H1 D = none → DcP2 g tt wi1 g1 tt1 tk tv vs vs1 σ Q J D (upd H1 D ob)
theorem pe_dcG2 {g g1 : TG} {tt tt1 : TT} {tk tv : TE} (hu : X.A.units + 2 < cLine) (hob : NewD X.prog X.w ob) (calm : X.calm = true) (nodup : X.N.Nodup) (hi : PI X tg iter wi) (ok : BlkOk X.N X.env.scope scope own) (inn : ∀ i ∈ vs1, i ∈ own.map (·.2))
    (hg : ∀ (s : Shared) (H : Hp) (C : Addr) (cl : List (Str × Addr)) (fp : List Addr), PG (X.blk s H scope (compEnvC scope cl C X.env) fp) tg g)
    (ht : ∀ (s : Shared) (H : Hp) (C : Addr) (cl : List (Str × Addr)) (fp : List Addr), PTs (X.blk s H scope (compEnvC scope cl C X.env) fp) ifs tt)
    (hi1 : ∀ (s : Shared) (H : Hp) (C : Addr) (cl : List (Str × Addr)) (fp : List Addr), PI (X.blk s H scope (compEnvC scope cl C X.env) fp) tg1 iter1 wi1)
    (hg1 : ∀ (s : Shared) (H : Hp) (C : Addr) (cl : List (Str × Addr)) (fp : List Addr), PG (X.blk s H scope (compEnvC scope cl C X.env) fp) tg1 g1)
    (ht1 : ∀ (s : Shared) (H : Hp) (C : Addr) (cl : List (Str × Addr)) (fp : List Addr), PTs (X.blk s H scope (compEnvC scope cl C X.env) fp) ifs1 tt1)
    (hk : ∀ (s : Shared) (H : Hp) (C : Addr) (cl : List (Str × Addr)) (fp : List Addr), PE (X.blk s H scope (compEnvC scope cl C X.env) fp) kx tk)
    (hv : ∀ (s : Shared) (H : Hp) (C : Addr) (cl : List (Str × Addr)) (fp : List Addr), PE (X.blk s H scope (compEnvC scope cl C X.env) fp) vx tv) (plain : ∀ x, foldedSetIterable iter X.env x = pure x := by intro _; rfl) (plain1 : ∀ env x, foldedSetIterable iter1 env x = pure x := by intro _ _; rfl) :
    PE X (.DictComp kx vx [⟨tg, iter, ifs, 0⟩, ⟨tg1, iter1, ifs1, 0⟩] scope pos) (tDcG2 ob wi g tt wi1 g1 tt1 tk tv (own.map (·.2)) vs1) := by
  refine ⟨fun pins s σ H Q I h => ?_⟩
  rw [arm_eval_DictComp]
  refine dcomp_open hob (DcP2 g tt wi1 g1 tt1 tk tv (own.map fun p : Str × Nat => p.2) vs1 σ Q) nodup I hi ok plain h fun J it D fp tn sB s4 HB cl B ⟨W, ⟨m0, w0⟩, turn⟩ I4 st4 n4 => ?_
  generalize hce : compEnvC scope cl sB.heap.objs.size X.env = ce at *
  have pg := hce ▸ hg sB HB sB.heap.objs.size cl fp
  have pt := hce ▸ ht sB HB sB.heap.objs.size cl fp
  have pi1 := hce ▸ hi1 sB HB sB.heap.objs.size cl fp
  have pg1 := hce ▸ hg1 sB HB sB.heap.objs.size cl fp
  have pt1 := hce ▸ ht1 sB HB sB.heap.objs.size cl fp
  have pk := hce ▸ hk sB HB sB.heap.objs.size cl fp
  have pv := hce ▸ hv sB HB sB.heap.objs.size cl fp
  refine dloop_out (plain1 ce) (fun n s' => ∃ i H', Inv (X.blk sB HB scope ce fp) [] (wipe σ (own.map (·.2))) H' s' ∧ tn i s'.heap ∧ (∀ b ∈ fp, H' b = none) ∧ W i n H') (fun n s5 ⟨i, H5, I5, st5, n5, w5⟩ => ?_) m0 ⟨0, HB, I4, st4, n4, w0⟩
  rcases turn i n H5 w5 with ⟨stop, done⟩ | ⟨go, Nx, nx, step⟩
  · refine thnF (B.stop calm I5 st5 n5 stop) fun r s6 ⟨e, I6, m, ns, f⟩ => ?_
    subst e
    exact dcomp_end I6 ns f done
  · refine thnF (B.turn.item (X.blk sB HB scope ce fp) rfl rfl rfl calm i [] s5 _ H5 (fun _ _ => False) I5 (blk_fp I5 n5) st5 go) fun r s6 ⟨u, e, got⟩ => ?_
    subst e
    refine thnF got fun _ s7 ⟨x, H7, I7, rx, y7, st7, n7⟩ => ?_
    refine thnF (pg.run _ s7 _ H7 x u _ (I7.pinned (blk_fp I7 n7) (B.turn.obj _ _ st7)) rx (step x H7 y7)) fun _ s8 ⟨σ8, H8, I8, off, q8⟩ => ?_
    refine thnF (pt.run _ s8 σ8 H8 _ I8 q8) fun b s9 ⟨H9, I9, q9⟩ => ?_
    have fin : ∀ {σ9 : L2.St} {s' : Shared} {H' : Hp}, Inv (X.blk sB HB scope ce fp) ([] ++ pinsAt fp s7.heap) σ9 H' s' → (wipe σ (own.map (·.2))).length = σ9.length → (∀ (j : Nat) v, (wipe σ (own.map (·.2)))[j]? = some (some v) → σ9[j]? = some (some v)) → Nx H' →
        ∃ m, m < n ∧ ∃ i H', Inv (X.blk sB HB scope ce fp) [] (wipe σ (own.map (·.2))) H' s' ∧ tn i s'.heap ∧ (∀ b ∈ fp, H' b = none) ∧ W i m H' := fun {σ9 s' H'} I' l9 k9 n' => by
      obtain ⟨m', lt, w'⟩ := nx H' n'
      obtain ⟨k1, k2, k3⟩ := B.again st7 I' (vs := own.map (·.2)) l9 k9
      exact ⟨m', lt, i + 1, H', k1, k2, k3, w'⟩
    have l8 : (wipe σ (own.map (·.2))).length = σ8.length := by rw [← off, wipe_length]
    have k8 : ∀ (j : Nat) v, (wipe σ (own.map (·.2)))[j]? = some (some v) → σ8[j]? = some (some v) := fun j v e => by
      rw [← off] at e
      exact (wipe_some e).1
    cases b with
    | false => simp only [Bool.false_eq_true, if_false] at q9 ⊢; exact fin I9 l8 k8 q9
    | true =>
      simp only [if_true] at q9 ⊢
      refine thnF (pi1.run _ s9 σ8 H9 _ I9 q9) fun xv s10 hx => thnF hx fun itv s11 ⟨it1, fp1, tn1, J1, H11, e1, I11, T1, st11, f11, W1, ⟨m1, w1⟩, turn1⟩ => ?_
      subst e1
      have held : ∀ {H' : Hp}, (∀ b ∈ fp1, H' b = none) → ∀ b ∈ fp1, FpOk (X.blk sB HB scope ce fp) ([] ++ pinsAt fp s7.heap) H' b := fun z b hb => ⟨z b hb, (f11 b hb).2⟩
      have inner : codeAny (model X.prog X.w) X.A (.compLoop (.DictComp kx vx [⟨tg, iter, ifs, 0⟩, ⟨tg1, iter1, ifs1, 0⟩] scope pos) 1 (.ref it1) (.ref D) ce) (fun r s' => match r with
          | .ok _ => ∃ m, m < n ∧ ∃ i H', Inv (X.blk sB HB scope ce fp) [] (wipe σ (own.map (·.2))) H' s' ∧ tn i s'.heap ∧ (∀ b ∈ fp, H' b = none) ∧ W i m H'
          | .error _ => False) s11 := by
        refine dloop_in (fun k s' => ∃ j H', Inv (X.blk sB HB scope ce fp) ([] ++ pinsAt fp s7.heap) (wipe σ8 vs1) H' s' ∧ tn1 j s'.heap ∧ (∀ b ∈ fp1, H' b = none) ∧ W1 j k H') (fun k s12 ⟨j, H12, I12, st12, n12, w12⟩ => ?_) m1 ⟨0, H11, I11.weak (wipe_length _ _) (fun j v e => (wipe_some e).1), st11, fun b hb => (f11 b hb).1, w1⟩
        rcases turn1 j k H12 w12 with ⟨stop1, next1⟩ | ⟨go1, Nx1, nx1, step1⟩
        · refine thnF (T1.done (X.blk sB HB scope ce fp) rfl rfl rfl calm j _ s12 (wipe σ8 vs1) H12 (fun _ _ => False) I12 (held n12) st12 stop1) fun r s13 ⟨e, I13⟩ => ?_
          subst e
          refine fin I13 (l8.trans (wipe_length σ8 vs1).symm) (fun a v e => ?_) next1
          rw [← off] at e
          obtain ⟨e1, e2⟩ := wipe_some e
          rw [wipe_out fun z => e2 (inn a z)]
          exact e1
        · refine thnF (T1.item (X.blk sB HB scope ce fp) rfl rfl rfl calm j _ s12 (wipe σ8 vs1) H12 (fun _ _ => False) I12 (held n12) st12 go1) fun r s13 ⟨u1, e, got1⟩ => ?_
          subst e
          refine thnF got1 fun _ s14 ⟨x1, H14, I14, rx1, y14, st14, n14⟩ => ?_
          refine thnF (pg1.run _ s14 (wipe σ8 vs1) H14 x1 u1 _ (I14.pinned (held n14) (T1.obj _ _ st14)) rx1 (step1 x1 H14 y14)) fun _ s15 ⟨σ15, H15, I15, off1, q15⟩ => ?_
          refine thnF (pt1.run _ s15 σ15 H15 _ I15 q15) fun b1 s16 ⟨H16, I16, q16⟩ => ?_
          have fin1 : ∀ {s' : Shared} {H' : Hp}, Inv (X.blk sB HB scope ce fp) (([] ++ pinsAt fp s7.heap) ++ pinsAt fp1 s14.heap) σ15 H' s' → Nx1 H' → ∃ m, m < k ∧ ∃ j H', Inv (X.blk sB HB scope ce fp) ([] ++ pinsAt fp s7.heap) (wipe σ8 vs1) H' s' ∧ tn1 j s'.heap ∧ (∀ b ∈ fp1, H' b = none) ∧ W1 j m H' := fun {s' H'} I' n' => by
            obtain ⟨m', lt, w'⟩ := nx1 H' n'
            have stay : ∀ b ∈ fp1, ∀ o, s14.heap.get? b = some o → s'.heap.get? b = some o ∧ H' b = none := fun b hb o e => by
              have z := I'.pin (b, o) (List.mem_append_right _ (List.mem_append_right _ (mem_pinsAt hb e)))
              exact ⟨z.1, z.2.1⟩
            refine ⟨m', lt, j + 1, H', I'.unpinned.weak (by rw [← off1, wipe_length]) (fun a v e => by rw [← off1] at e; exact (wipe_some e).1), T1.keep _ _ _ st14 fun b hb o e => (stay b hb o e).1, fun b hb => ?_, w'⟩
            obtain ⟨o, e, _⟩ := T1.obj _ _ st14 b hb
            exact (stay b hb o e).2
          cases b1 with
          | false => simp only [Bool.false_eq_true, if_false] at q16 ⊢; exact fin1 I16 q16
          | true =>
            simp only [if_true] at q16 ⊢
            refine thnF (pk.run _ s16 σ15 H16 _ I16 q16) fun ku s17 ⟨yk, H17, I17, rk, q17⟩ => ?_
            refine thnF (pv.run _ s17 σ15 H17 _ I17 q17) fun vu s18 ⟨yv, H18, I18, rv, H19, dp, n19⟩ => ?_
            exact put_any (X := X.blk sB HB scope ce fp) hu I18 dp rk rv fun s19 I19 => fin1 I19 n19
      exact dstart_in inner (T1.self X.A 0 _ _ _ st11 inner)
end
end Z

set_option pp.maxSteps 300
namespace Z
open PySem PySem.Spec PyProof.Rows L2
open Classical
def Sqj (K : PySem.W.Frag) (H : Hp) (a : Addr) (ys : List V) (J : It) : Prop := (SqL K H a ys ∧ J = Itl K a) ∨ (SqT K H a ys ∧ J = Itt K a)
theorem Sqj.mono {K : PySem.W.Frag} {H H' : Hp} {a : Addr} {ys : List V} {J : It} (s : Same H H') (h : Sqj K H a ys J) : Sqj K H' a ys J := by
  rcases h with ⟨h, e⟩ | ⟨h, e⟩
  · refine .inl ⟨?_, e⟩
    rcases h with (h | ⟨o, h⟩) | h
    · exact .inl (.inl (s _ _ h))
    · exact .inl (.inr ⟨o, s _ _ h⟩)
    · exact .inr h
  · exact .inr ⟨Same.sqT s h, e⟩
theorem Sqj.go {K : PySem.W.Frag} {H : Hp} {a : Addr} {ys : List V} {J : It} {i : Nat} {y : V} (h : Sqj K H a ys J) (e : ys[i]? = some y) : J.go i H := by
  rcases h with ⟨h, rfl⟩ | ⟨h, rfl⟩
  · exact ⟨ys, y, h, e⟩
  · exact ⟨ys, y, h, e⟩
theorem Sqj.yld {K : PySem.W.Frag} {H H' : Hp} {a : Addr} {ys : List V} {J : It} {i : Nat} {x : V} (h : Sqj K H a ys J) (g : J.yld i H x H') : H' = H ∧ ys[i]? = some x := by
  rcases h with ⟨h, rfl⟩ | ⟨h, rfl⟩
  · exact ⟨g.1, g.2 ys h⟩
  · exact ⟨g.1, g.2 ys h⟩
theorem Sqj.stop {K : PySem.W.Frag} {H : Hp} {a : Addr} {ys : List V} {J : It} {i : Nat} (h : Sqj K H a ys J) (e : ys.length ≤ i) : J.stop i H := by
  rcases h with ⟨h, rfl⟩ | ⟨h, rfl⟩
  · exact ⟨ys, h, e⟩
  · exact ⟨ys, h, e⟩
def iSeq (K : PySem.W.Frag) (te : TE) : TI := fun σ H R => te σ H fun x H1 => ∃ a ys J, x = .ref a ∧ Sqj K H1 a ys J ∧ R J H1
theorem pi_seq {X : Cx} {tg l : Expr} {tl : TE} (hl : PE X l tl) : PI X tg l (iSeq X.K tl) := by
  refine ⟨fun pins s σ H R I h => ?_⟩
  refine thn (hl.run pins s σ H _ I h) fun v s1 ⟨x, H1, I1, r1, q1⟩ => ?_
  obtain ⟨a, xs, J, e, hq, q⟩ := q1
  subst e
  cases r1
  rcases hq with ⟨hq, rfl⟩ | ⟨hq, rfl⟩
  · obtain ⟨its, rv, p, hz⟩ := I1.list hq
    refine wpAny_pyIter_list p.isList ?_
    refine ⟨s1.heap.objs.size, [s1.heap.objs.size], _, _, H1, rfl, I1.kept (t' := s1.toks) fun b o e => Heap.get?_push_of_some _ e, turn_list a _, ⟨_, Heap.get?_push_size _ rfl, rfl, rfl⟩, fun b hb => ?_, q⟩
    have e : b = s1.heap.objs.size := by simpa using hb
    subst e
    exact I1.fpOk (Nat.le_refl _) (I1.hok.fresh (Nat.le_refl _))
  · obtain ⟨its, rv, p, hz⟩ := I1.tuple hq
    refine wpAny_pyIter_tuple (show s1.heap.IsTuple a its.toArray from p) ?_
    refine ⟨s1.heap.objs.size, [s1.heap.objs.size], _, _, H1, rfl, I1.kept (t' := s1.toks) fun b o e => Heap.get?_push_of_some _ e, turn_tuple a _, ⟨_, Heap.get?_push_size _ rfl, rfl, rfl⟩, fun b hb => ?_, q⟩
    have e : b = s1.heap.objs.size := by simpa using hb
    subst e
    exact I1.fpOk (Nat.le_refl _) (I1.hok.fresh (Nat.le_refl _))
def itemsD : D → Option (List D)
  | .lst xs => some xs
  | .tup xs => some xs
  | _ => none
theorem itemsD_sqj {c : Pm} {F : Hp} {x : V} {d : D} {xs : List D} (r : Rep c F x d) (h : itemsD d = some xs) : ∃ a ys J, x = .ref a ∧ RepL c F ys xs ∧ Sqj c.K F a ys J := by
  cases r <;> simp only [itemsD] at h <;> try (cases h; done)
  · cases h
    rename_i a vs h1 h2
    exact ⟨a, vs, _, rfl, h2, .inr ⟨.inl (.inl h1), rfl⟩⟩
  · cases h
    rename_i a vs h1 h2
    exact ⟨a, vs, _, rfl, h2, .inl ⟨.inl (.inl h1), rfl⟩⟩
def gridD : List D → Option (List (List D))
  | [] => some []
  | d :: r => (itemsD d).bind fun xs => (gridD r).map (xs :: ·)
def flatD : List D → Option (Bool × D)
  | [d] => (itemsD d).bind fun ds => (gridD ds).bind fun ls => if ls.flatten.length < cap then some (true, .lst ls.flatten) else none
  | _ => none
def strKeys : List D → Option (List Str)
  | [] => some []
  | .str x :: r => (strKeys r).map (x :: ·)
  | _ => none
noncomputable def hueKvs (xs : List Str) : List (D × D) := xs.foldl (fun kvs x => dPut kvs (.str x) (.bl true)) []
noncomputable def huesD : List D → Option (Bool × D)
  | [d] => (itemsD d).bind fun ds => (gridD ds).bind fun ls => (strKeys ls.flatten).bind fun xs => if xs.length < cap then some (false, .dic false (hueKvs xs)) else none
  | _ => none
def hueK (xs : List Str) : List (Key × V) := xs.foldl (fun kvs x => putK kvs (Sum.inr x) (.bl true)) []
theorem hueK_snoc (xs : List Str) (x : Str) : hueK (xs ++ [x]) = putK (hueK xs) (Sum.inr x) (.bl true) := by unfold hueK; rw [List.foldl_append]; rfl
theorem hueKvs_snoc (xs : List Str) (x : Str) : hueKvs (xs ++ [x]) = dPut (hueKvs xs) (.str x) (.bl true) := by unfold hueKvs; rw [List.foldl_append]; rfl
theorem snocI {α : Type} {P : List α → Prop} (h0 : P []) (hs : ∀ l c, P l → P (l ++ [c])) (l : List α) : P l := by
  rw [← List.reverse_reverse l]
  induction l.reverse with
  | nil => exact h0
  | cons c r ih => rw [List.reverse_cons]; exact hs _ _ ih
theorem hueK_len (xs : List Str) : (hueK xs).length ≤ xs.length := by
  refine snocI (P := fun xs => (hueK xs).length ≤ xs.length) (by simp [hueK]) (fun xs x ih => ?_) xs
  rw [hueK_snoc]; have := length_putK (hueK xs) (Sum.inr x) (.bl true); simp; omega
theorem hue_rep {c : Pm} {F : Hp} (xs : List Str) : KvR c F (hueK xs) (hueKvs xs) := by
  refine snocI (P := fun xs => KvR c F (hueK xs) (hueKvs xs)) .nil (fun xs x ih => ?_) xs
  rw [hueK_snoc, hueKvs_snoc]
  exact kv_put keyD_inj' (k := Sum.inr x) (.bl true) ih
theorem repL_app {c : Pm} {F : Hp} : ∀ {us ws : List V} {xs ys : List D}, RepL c F us xs → RepL c F ws ys → RepL c F (us ++ ws) (xs ++ ys)
  | _, _, _, _, .nil, h => h
  | _, _, _, _, .cons r t, h => .cons r (repL_app t h)
theorem gridD_all {c : Pm} {F : Hp} : ∀ {ys : List V} {ds : List D} {ls : List (List D)}, RepL c F ys ds → gridD ds = some ls →
    ∃ vss : List (List V), vss.length = ys.length ∧ RepL c F vss.flatten ls.flatten ∧ ∀ (i : Nat) (y : V), ys[i]? = some y → ∃ (a : Addr) (zs : List V) (J : It), y = V.ref a ∧ vss[i]? = some zs ∧ Sqj c.K F a zs J
  | _, _, _, .nil, h => by
    cases h
    exact ⟨[], rfl, .nil, fun i y e => by simp at e⟩
  | _, _, ls, .cons (v := v) (x := d) r t, h => by
    simp only [gridD] at h
    cases hi : itemsD d with
    | none => rw [hi] at h; cases h
    | some xs =>
      rw [hi] at h
      simp only [Option.bind] at h
      rw [Option.map_eq_some_iff] at h
      obtain ⟨l2, h2, rfl⟩ := h
      obtain ⟨vss, g1, g2, g3⟩ := gridD_all t h2
      obtain ⟨a, zs, J, h3, h4, h5⟩ := itemsD_sqj r hi
      refine ⟨zs :: vss, by simp [g1], ?_, fun i y e => ?_⟩
      · rw [List.flatten_cons, List.flatten_cons]
        exact repL_app h4 g2
      · cases i with
        | zero =>
          simp only [List.getElem?_cons_zero, Option.some.injEq] at e ⊢
          subst e
          exact ⟨a, zs, J, h3, rfl, h5⟩
        | succ i =>
          simp only [List.getElem?_cons_succ] at e ⊢
          exact g3 i y e
theorem take_succ_flat {α : Type} {vss : List (List α)} {i : Nat} {zs : List α} (h : vss[i]? = some zs) : (vss.take (i + 1)).flatten = (vss.take i).flatten ++ zs := by
  rw [List.take_succ, h]; simp
theorem flat_split {α : Type} {vss : List (List α)} {i : Nat} {zs : List α} (h : vss[i]? = some zs) : vss.flatten = (vss.take i).flatten ++ (zs ++ (vss.drop (i + 1)).flatten) := by
  have e : vss = vss.take i ++ zs :: vss.drop (i + 1) := by
    obtain ⟨hl, e⟩ := List.getElem?_eq_some_iff.mp h
    rw [← e, List.getElem_cons_drop, List.take_append_drop]
  conv => lhs; rw [e]
  simp
theorem wipe_put {σ : L2.St} {vs : List Nat} {i : Nat} {v : Option V} (h : i ∈ vs) : wipe ((wipe σ vs).set i v) vs = wipe σ vs := by
  rw [wipe_eq (σ := wipe σ vs) (by rw [List.length_set]) fun k hk => by rw [List.getElem?_set_ne]; exact fun z => hk (z ▸ h), wipe_wipe]
theorem walk2 {K : PySem.W.Frag} {H1 : Hp} {D a : Addr} {ys : List V} {J : It} {vss : List (List V)} {Q : VK} {σ : L2.St} {i0 j0 : Nat} (st : List V → HO) (Body : L2.St → Hp → (Hp → Prop) → Prop) (hD : H1 D = none) (hs : Sqj K H1 a ys J) (hl : vss.length = ys.length)
    (hr : ∀ (i : Nat) (y : V), ys[i]? = some y → ∃ (b : Addr) (zs : List V) (Jz : It), y = V.ref b ∧ vss[i]? = some zs ∧ Sqj K H1 b zs Jz) (hi : i0 < σ.length) (hj : j0 < σ.length) (hQ : Q (.ref D) (upd H1 D (st vss.flatten)))
    (hB : ∀ σ3 don z rest N, σ3[j0]? = some (some z) → vss.flatten = don ++ z :: rest → N (upd H1 D (st (don ++ [z]))) → Body σ3 (upd H1 D (st don)) N) :
    ∃ W : Nat → Nat → Hp → Prop, (∃ m, W 0 m (upd H1 D (st []))) ∧ ∀ i m H, W i m H → (J.stop i H ∧ Q (.ref D) H) ∨ (J.go i H ∧ ∃ Nx : Hp → Prop, (∀ H', Nx H' → ∃ m', m' < m ∧ W (i + 1) m' H') ∧ ∀ x H', J.yld i H x H' → gName i0 x (wipe σ [i0, j0]) H' fun σ2 H2 => wipe σ2 [i0, j0] = wipe σ [i0, j0] ∧ tYes σ2 H2 fun b H3 =>
      if b = true then iSeq K (tVar i0) σ2 H3 fun J1 H4 => ∃ W1 : Nat → Nat → Hp → Prop, (∃ m, W1 0 m H4) ∧ ∀ j k H, W1 j k H → (J1.stop j H ∧ Nx H) ∨ (J1.go j H ∧ ∃ Nx1 : Hp → Prop, (∀ H', Nx1 H' → ∃ k', k' < k ∧ W1 (j + 1) k' H') ∧ ∀ x H', J1.yld j H x H' → gName j0 x (wipe σ2 [j0]) H' fun σ3 H5 => wipe σ3 [j0] = wipe σ2 [j0] ∧ tYes σ3 H5 fun b H6 =>
        if b = true then Body σ3 H6 Nx1 else Nx1 H6) else Nx H3) := by
  have keep : ∀ o, Same H1 (upd H1 D o) := fun o b q e => by
    rw [upd_ne fun z => by rw [z, hD] at e; cases e]; exact e
  refine ⟨fun i m H => m = ys.length - i ∧ i ≤ ys.length ∧ H = upd H1 D (st (vss.take i).flatten), ⟨_, rfl, Nat.zero_le _, by simp⟩, ?_⟩
  rintro i m H ⟨rfl, hil, rfl⟩
  by_cases hlt : i < ys.length
  · obtain ⟨y, hy⟩ : ∃ y, ys[i]? = some y := ⟨ys[i], List.getElem?_eq_getElem hlt⟩
    refine .inr ⟨(hs.mono (keep _)).go hy, fun H' => H' = upd H1 D (st (vss.take (i + 1)).flatten), fun H' e => ⟨ys.length - (i + 1), by omega, rfl, hlt, e⟩, fun x H' g => ?_⟩
    obtain ⟨rfl, hx⟩ := (hs.mono (keep _)).yld g
    obtain ⟨b, zs, Jz, rfl, hz, hq⟩ := hr i x hx
    refine ⟨wipe_put (by simp), ?_⟩
    simp only [tYes, gName, if_true]
    have hl2 : i0 < (wipe σ [i0, j0]).length := by rw [wipe_length]; exact hi
    refine ⟨.ref b, by rw [List.getElem?_set_self hl2], b, zs, Jz, rfl, hq.mono (keep _), ?_⟩
    refine ⟨fun j k H => k = zs.length - j ∧ j ≤ zs.length ∧ H = upd H1 D (st ((vss.take i).flatten ++ zs.take j)), ⟨_, rfl, Nat.zero_le _, by simp⟩, ?_⟩
    rintro j k H ⟨rfl, hjl, rfl⟩
    by_cases hlj : j < zs.length
    · obtain ⟨z, hzj⟩ : ∃ z, zs[j]? = some z := ⟨zs[j], List.getElem?_eq_getElem hlj⟩
      refine .inr ⟨(hq.mono (keep _)).go hzj, fun H' => H' = upd H1 D (st ((vss.take i).flatten ++ zs.take (j + 1))), fun H' e => ⟨zs.length - (j + 1), by omega, rfl, hlj, e⟩, fun x H' g => ?_⟩
      obtain ⟨rfl, hx⟩ := (hq.mono (keep _)).yld g
      refine ⟨wipe_put (by simp), ?_⟩
      refine hB _ _ x (zs.drop (j + 1) ++ (vss.drop (i + 1)).flatten) _ ?_ ?_ ?_
      · rw [List.getElem?_set_self]
        simp only [wipe_length, List.length_set]
        exact hj
      · rw [flat_split hz, List.append_assoc]
        congr 1
        have e : zs = zs.take j ++ x :: zs.drop (j + 1) := by
          obtain ⟨hl, e⟩ := List.getElem?_eq_some_iff.mp hx
          rw [← e, List.getElem_cons_drop, List.take_append_drop]
        conv => lhs; rw [e]
        simp
      · show upd H1 D _ = upd H1 D _
        rw [List.append_assoc, List.take_succ, hx]
        rfl
    · have e : j = zs.length := by omega
      subst e
      refine .inl ⟨(hq.mono (keep _)).stop (Nat.le_refl _), ?_⟩
      show upd H1 D _ = upd H1 D _
      rw [List.take_length, take_succ_flat hz]
  · have e : i = ys.length := by omega
    subst e
    refine .inl ⟨(hs.mono (keep _)).stop (Nat.le_refl _), ?_⟩
    rw [List.take_of_length_le (by omega)]
    exact hQ
section
variable {c : Pm} {Wx : WX} {X : Cx} {fu n k : Nat} {σ : L2.St} {H : Hp} {Q : VK} {pos : Pos}
theorem x_flat {x y : Str} {px py px2 py2 : Pos} {it : Expr} {scope : Scope} {i j : Nat} {ea : E} (n : Cn c Wx k X) (ha : PE X it (rdE c Wx ea)) (ok : blkC X.N X.env.scope scope [(x, i), (y, j)] = true)
    (hgx : ∀ (s : Shared) (H : Hp) (C : Addr) (cl : List (Str × Addr)) (fp : List Addr), PG (X.blk s H scope (compEnvC scope cl C X.env) fp) (.Name x px) (gName i))
    (hgy : ∀ (s : Shared) (H : Hp) (C : Addr) (cl : List (Str × Addr)) (fp : List Addr), PG (X.blk s H scope (compEnvC scope cl C X.env) fp) (.Name y py) (gName j))
    (hvx : ∀ (s : Shared) (H : Hp) (C : Addr) (cl : List (Str × Addr)) (fp : List Addr), PE (X.blk s H scope (compEnvC scope cl C X.env) fp) (.Name x px2) (tVar i))
    (hvy : ∀ (s : Shared) (H : Hp) (C : Addr) (cl : List (Str × Addr)) (fp : List Addr), PE (X.blk s H scope (compEnvC scope cl C X.env) fp) (.Name y py2) (tVar j))
    (hi : X.N[i]? = some x) (hj : X.N[j]? = some y) (hs : ∀ x, foldedSetIterable it X.env x = pure x := by intro _; rfl) :
    PE X (.ListComp (.Name y py2) [⟨.Name x px, it, [], 0⟩, ⟨.Name y py, .Name x px2, [], 0⟩] scope pos) (rdE c Wx (.call (pureG flatD) (.cons ea .nil))) := by
  refine ⟨fun pins s σ H Q I h => (pe_lc2 (vs1 := [j]) (wi1 := iSeq X.K (tVar i)) n.calm n.nd (pi_seq ha) (blkOk_by ok) (by simp) hgx (fun _ _ _ _ _ => pts_nil) (fun s0 H0 C0 cl0 fp0 => pi_seq (X := X.blk s0 H0 scope (compEnvC scope cl0 C0 X.env) fp0) (hvx s0 H0 C0 cl0 fp0)) hgy (fun _ _ _ _ _ => pts_nil) hvy hs).run pins s σ H Q I ?_⟩
  have li : i < σ.length := by rw [I.len]; exact (List.getElem?_eq_some_iff.mp hi).1
  have lj : j < σ.length := by rw [I.len]; exact (List.getElem?_eq_some_iff.mp hj).1
  refine rdE_mono (call1_ok h) fun v H1 h3 => ?_
  obtain ⟨F, xs, W, r, rr, S, hf, hQ⟩ := spG_pure h3
  match xs, rr, hf with
  | [d], .cons r1 .nil, hf =>
    simp only [flatD] at hf
    cases hd : itemsD d with
    | none => rw [hd] at hf; cases hf
    | some ds =>
      rw [hd] at hf
      simp only [Option.bind] at hf
      cases hr : gridD ds with
      | none => rw [hr] at hf; cases hf
      | some ls =>
        rw [hr] at hf
        simp only at hf
        split at hf <;> cases hf
        rename_i hc
        obtain ⟨a, ys, J, rfl, h1, h2⟩ := itemsD_sqj r1 hd
        obtain ⟨vss, g1, g2, g3⟩ := gridD_all h1 hr
        rw [← n.hk] at h2 g3
        refine ⟨a, ys, J, rfl, h2.mono S.sub, fun D hD => ?_⟩
        refine walk2 (st := fun l => .lst l) (Body := fun σ3 H6 N => tVar j σ3 H6 fun y H7 => ∃ acc, H7 D = some (.lst acc) ∧ acc.length < sizeLine ∧ N (upd H7 D (.lst (acc ++ [y])))) hD (h2.mono S.sub) g1 (fun i y e => ?_) li lj (fin_newL S g2 hQ D hD) fun σ3 don z rest N hz ed hn => ?_
        · obtain ⟨b, zs, Jz, e1, e2, e3⟩ := g3 i y e
          exact ⟨b, zs, Jz, e1, e2, e3.mono S.sub⟩
        · refine ⟨z, hz, don, upd_same, ?_, ?_⟩
          · have e := g2.length
            rw [ed] at e
            rw [← cap_eq]
            simp only [List.length_append, List.length_cons] at e
            omega
          · rw [upd_upd]; exact hn
theorem strKeys_rep {F : Hp} : ∀ {us : List V} {xs : List D} {ks : List Str}, RepL c F us xs → strKeys xs = some ks → us = ks.map V.str
  | _, _, _, .nil, h => by cases h; rfl
  | _, _, _, .cons (x := d) r t, h => by
    cases d <;> simp only [strKeys] at h <;> try (cases h; done)
    rw [Option.map_eq_some_iff] at h
    obtain ⟨zs, h1, rfl⟩ := h
    cases r
    rw [strKeys_rep t h1]
    rfl
def sV : V → Str
  | .str x => x
  | _ => default
theorem sV_map (ks : List Str) : (ks.map V.str).map sV = ks := by
  induction ks with
  | nil => rfl
  | cons k ks ih => rw [List.map_cons, List.map_cons, ih]; rfl
theorem x_hues {x y : Str} {px py px2 py2 pc : Pos} {jc : Nat} {it : Expr} {scope : Scope} {i j : Nat} {ea : E} (n : Cn c Wx k X) (ha : PE X it (rdE c Wx ea)) (ok : blkC X.N X.env.scope scope [(x, i), (y, j)] = true)
    (hgx : ∀ (s : Shared) (H : Hp) (C : Addr) (cl : List (Str × Addr)) (fp : List Addr), PG (X.blk s H scope (compEnvC scope cl C X.env) fp) (.Name x px) (gName i))
    (hgy : ∀ (s : Shared) (H : Hp) (C : Addr) (cl : List (Str × Addr)) (fp : List Addr), PG (X.blk s H scope (compEnvC scope cl C X.env) fp) (.Name y py) (gName j))
    (hvx : ∀ (s : Shared) (H : Hp) (C : Addr) (cl : List (Str × Addr)) (fp : List Addr), PE (X.blk s H scope (compEnvC scope cl C X.env) fp) (.Name x px2) (tVar i))
    (hvy : ∀ (s : Shared) (H : Hp) (C : Addr) (cl : List (Str × Addr)) (fp : List Addr), PE (X.blk s H scope (compEnvC scope cl C X.env) fp) (.Name y py2) (tVar j))
    (hi : X.N[i]? = some x) (hj : X.N[j]? = some y) (hs : ∀ x, foldedSetIterable it X.env x = pure x := by intro _; rfl) :
    PE X (.DictComp (.Name y py2) (.Constant (.bool true) jc pc) [⟨.Name x px, it, [], 0⟩, ⟨.Name y py, .Name x px2, [], 0⟩] scope pos) (rdE c Wx (.call (pureG huesD) (.cons ea .nil))) := by
  refine ⟨fun pins s σ H Q I h => (pe_dcG2 (vs1 := [j]) (wi1 := iSeq X.K (tVar i)) (ob := .dK []) (by have := n.hu; omega) newD_K n.calm n.nd (pi_seq ha) (blkOk_by ok) (by simp) hgx (fun _ _ _ _ _ => pts_nil) (fun s0 H0 C0 cl0 fp0 => pi_seq (X := X.blk s0 H0 scope (compEnvC scope cl0 C0 X.env) fp0) (hvx s0 H0 C0 cl0 fp0)) hgy (fun _ _ _ _ _ => pts_nil) hvy (fun _ _ _ _ _ => pe_bl) hs).run pins s σ H Q I ?_⟩
  have li : i < σ.length := by rw [I.len]; exact (List.getElem?_eq_some_iff.mp hi).1
  have lj : j < σ.length := by rw [I.len]; exact (List.getElem?_eq_some_iff.mp hj).1
  refine rdE_mono (call1_ok h) fun v H1 h3 => ?_
  obtain ⟨F, xs, W, r, rr, S, hf, hQ⟩ := spG_pure h3
  match xs, rr, hf with
  | [d], .cons r1 .nil, hf =>
    simp only [huesD] at hf
    cases hd : itemsD d with
    | none => rw [hd] at hf; cases hf
    | some ds =>
      rw [hd] at hf
      simp only [Option.bind] at hf
      cases hr : gridD ds with
      | none => rw [hr] at hf; cases hf
      | some ls =>
        rw [hr] at hf
        simp only at hf
        cases hk : strKeys ls.flatten with
        | none => rw [hk] at hf; cases hf
        | some ks =>
          rw [hk] at hf
          simp only at hf
          split at hf <;> cases hf
          rename_i hc
          obtain ⟨a, ys, J, rfl, h1, h2⟩ := itemsD_sqj r1 hd
          obtain ⟨vss, g1, g2, g3⟩ := gridD_all h1 hr
          have g4 := strKeys_rep g2 hk
          rw [← n.hk] at h2 g3
          refine ⟨a, ys, J, rfl, h2.mono S.sub, fun D hD => ?_⟩
          refine walk2 (st := fun l => .dK (hueK (l.map sV))) (Body := fun σ3 H6 N => tVar j σ3 H6 fun y H7 => tC (.bl true) σ3 H7 fun z H8 => ∃ H9, DPut H8 D y z H9 ∧ N H9) hD (h2.mono S.sub) g1 (fun i y e => ?_) li lj ?_ fun σ3 don z rest N hz ed hn => ?_
          · obtain ⟨b, zs, Jz, e1, e2, e3⟩ := g3 i y e
            exact ⟨b, zs, Jz, e1, e2, e3.mono S.sub⟩
          · rw [g4, sV_map]
            obtain ⟨q1, q2⟩ := kv_to (hue_rep (c := c) (F := upd F D (.dK (hueK ks))) ks)
            exact hQ _ _ _ (S.makeF hD) (.dicK (.inl upd_same) q1 q2)
          · have hz2 : z = .str (sV z) ∧ don.length < ks.length := by
              rw [g4] at ed
              have m : z ∈ ks.map V.str := by rw [ed]; simp
              obtain ⟨s, _, rfl⟩ := List.mem_map.mp m
              refine ⟨rfl, ?_⟩
              have e := congrArg List.length ed
              simp only [List.length_map, List.length_append, List.length_cons] at e
              omega
            refine ⟨z, hz, _, .inl ⟨_, Sum.inr (sV z), upd_same, hz2.1, ?_, rfl⟩, ?_⟩
            · have := hueK_len (don.map sV)
              rw [List.length_map] at this
              rw [← cap_eq]
              omega
            · rw [upd_upd, ← hueK_snoc]
              simpa using hn
end
end Z

set_option pp.maxSteps 300
namespace Z
open PySem PySem.Spec PyProof.Rows L2
open Classical
def lenG (nm : Str) (g : G) : G := fun xs W => match xs with
  | [x] => if insD nm x = true then match g [x] W with
    | .ok (false, .int i) W' => if 0 ≤ i ∧ i < 9223372036854775808 then .ok (false, .int i) W' else .stk
    | _ => .stk
    else .stk
  | _ => .stk
section
variable {c : Pm} {Wx : WX} {X : Cx} {fu n k : Nat} {σ : L2.St} {H : Hp} {Q : VK} {pos : Pos}
def rLen (C : Addr) (sp : Sp) : List V → Hp → VK → Prop := fun xs H Q => ∃ a dx fs, xs = [V.ref a] ∧ H a = some (.ins C dx fs) ∧ ∀ E, sp [V.ref a] H (fun v H' => ∃ i : Int, v = .int i ∧ (0 ≤ i ∧ i < 9223372036854775808) ∧ Q (.int i) H') E
theorem spG_lenO {nm : Str} {g : G} {C : Addr} {xs : List V} {E : XK} (hC : c.ca nm = some C) (h : spG c (lenG nm g) xs H Q E) : rLen C (spG c g) xs H Q := by
  obtain ⟨F, ds, W, r, S, hP⟩ := h
  match ds, r, hP with
  | [d1], .cons r1 .nil, hP =>
    simp only [lenG] at hP
    split at hP
    · rename_i hd
      obtain ⟨a, C', dx, fs, rfl, h1, h3⟩ := ins_of r1 hd
      rw [hC] at h3
      cases h3
      refine ⟨a, dx, fs, rfl, S.sub _ _ h1, fun E => ⟨F, [d1], W, .cons r1 .nil, S, ?_⟩⟩
      cases e : g [d1] W with
      | stk => rw [e] at hP; exact hP.elim
      | ex z W' => rw [e] at hP; exact hP.elim
      | ok rr W' =>
        rw [e] at hP
        obtain ⟨nw, d⟩ := rr
        cases nw <;> cases d <;> try (exact hP.elim)
        rename_i i
        simp only at hP
        split at hP
        · rename_i hz
          intro u F' H' S' hr
          cases hr
          exact ⟨i, rfl, hz, hP _ F' H' S' (.int _)⟩
        · exact hP.elim
    · exact hP.elim
theorem cr_lenOwn {j : Nat} {nm : Str} {ps : List Str} {g : G} {C : Addr} (n : Cn c Wx k X) (M : Mth c X.prog X.w X.mg X.base j nm "__len__" ps g) (hj : j + 1 ≤ k) (hC : c.ca nm = some C) : CallR X (.builtin "len") (rLen C (spG c g)) := by
  obtain ⟨C', f, fd, h1, h2, h3, h4, h5⟩ := M.ex
  rw [hC] at h1
  cases h1
  rw [← n.hk] at h2 h3 h4 h5
  intro pins s σ H xs us Q I r h
  obtain ⟨a, dx, fs, rfl, ha, q⟩ := h
  obtain ⟨u, rfl, ru⟩ := vals1 r
  cases ru
  obtain ⟨mA, J, _⟩ := ins_get I.hok ha
  obtain ⟨od, J, _⟩ := J.look
  obtain ⟨m, hF⟩ := I.fr
  refine PySem.W.len_K hF I.ok.mod.kin J h3.at_ h3.fn (wpAny_mono (run_own (A := X.A.in1) (us := [.ref a]) (vs := [.ref a]) h5 ((n.room.mono hj).in1) rfl h4 (passAt n.tk σ) I (.cons rfl .nil) (q _)) (fun v s' z => ?_) fun _ _ e => e)
  obtain ⟨vv, H', I', rv, i, rfl, hz, hQ⟩ := z
  obtain ⟨t, rfl⟩ := rv
  exact ⟨hz, .int i, H', I'.tok _, ⟨_, rfl⟩, hQ⟩
theorem x_lenOwn {j : Nat} {nm : Str} {ps : List Str} {g : G} {a : Expr} {ea : E} {p : Pos} (n : Cn c Wx k X) (M : Mth c X.prog X.w X.mg X.base j nm "__len__" ps g) (hm : X.mg "len" = none) (ha : PA X [a] (rdL c Wx ea)) (hj : j + 1 ≤ k := by decide) (hg : Gl X "len" := by rfl) (he : starEach [a] X.env = (false, eval a X.env) :: starEach [] X.env := by rfl) (hpl : (backTo pos (starEach [] X.env)).any (·.1) = false := by rfl) :
    PE X (.Call (.Name "len" p) [a] [] pos) (rdE c Wx (.call (lenG nm g) ea)) := by
  obtain ⟨C, _, _, hC, _⟩ := M.ex
  exact x_bltB n (fun vs H Q E h => spG_lenO hC h) (cr_lenOwn n M hj hC) boot_len hm ha hg (by decide) (by decide) he hpl
def dicHeadD : List D → Option (Bool × D)
  | [.lst (d :: _)] => some (false, .dic false [(.int 0, d)])
  | _ => none
theorem rdE_var {i : Nat} (h : rdE c Wx (.var i) σ H Q) : tVar i σ H Q := by
  obtain ⟨F0, H0, ρ, F, W, R, hP⟩ := h
  simp only [ev] at hP
  cases e : ρ[i]? with
  | none => rw [e] at hP; exact hP.elim
  | some s =>
    rw [e] at hP
    cases s with
    | un => exact hP.elim
    | slf _ _ _ => exact hP.elim
    | val d =>
      obtain ⟨v, h1, h2⟩ := R.slot i _ e
      exact ⟨v, h1, fin_sc R R.refl hP h2⟩
    | own d =>
      obtain ⟨p, h1, h2, h3, h4, h5⟩ := R.own e
      refine ⟨.ref p, h1, hP _ F H R.refl ⟨fun j hj => ?_, rfl, e, h1⟩⟩
      have : j = i := by simpa [Vl.all] using hj
      subst this
      exact ⟨d, e⟩
theorem x_dicHead {i : Nat} {z : Str} {j1 j2 : Nat} {p1 p2 p3 p4 : Pos} (hN : X.N[i]? = some z) (hv : Vis X.env.scope z) (hd : (z == ("__debug__" : Str)) = false) (hcd : (z == ("__classdict__" : Str)) = false) (hs : PlainIx (.Constant (.int 0) j2 p4) := by first | exact plain_int | exact fun _ _ => rfl) :
    PE X (.Dict [some (.Constant (.int 0) j1 p1)] [.Subscript (.Name z p2) (.Constant (.int 0) j2 p4) p3] pos) (rdE c Wx (.call (pureG dicHeadD) (.cons (.var i) .nil))) :=
  pe_wk (pe_disp (pps_cons pe_int (pe_ix ix_seq (pe_var hN hv hd hcd) pe_int hs) pps_nil) rfl rfl (by simp) (by simp)) fun σ H Q h => by
    intro p hp
    obtain ⟨v, e1, h3⟩ := rdE_var (call1_ok h)
    obtain ⟨F, xs, W, r, rr, S, hf, hQ⟩ := spG_pure h3
    have ne : ∀ a, H a ≠ none → a ≠ p := fun a h z => h (by rw [z]; exact hp)
    match xs, rr, hf with
    | [.lst (d :: ds)], .cons r1 .nil, hf =>
      cases hf
      cases r1 with
      | @lst a vs _ h1 h2 =>
        cases h2 with
        | @cons w ws _ _ h4 h5 =>
          refine ⟨.ref a, e1, .inl ⟨a, w :: ws, 0, w, rfl, rfl, .inl (.inl ?_), by simp [atI, ixN], ?_⟩⟩
          · have e := S.sub _ _ h1
            rw [upd_ne (ne _ (by rw [e]; simp))]
            exact e
          · refine ⟨upd_same, [(Sum.inl 0, w)], rfl, by simp, ?_⟩
            rw [upd_upd]
            refine hQ _ _ _ (S.makeF hp) (.dicK (.inl upd_same) rfl (.cons (h4.mono ?_) .nil))
            intro a o e
            have e' := S.sub _ _ e
            rw [upd_ne (ne _ (by rw [e']; simp))]
            exact e
end
end Z

namespace Z
open PySem
noncomputable section
def B__law_mixed_1 : S := (.seq (.asg 4 (.bin .Mod (.bi .int (.cons (.bin .Add (.bin .Add (.bin .Mult (.var 4) (.cst (.int 48271))) (.var 5)) (.var 1)) .nil)) (.var 3)))
  .skip)
def B__law_mixed_2 : S := (.seq (.asg 4 (.bin .Add (.bin .Mult (.cst (.int 57731)) (.var 1)) (.bin .FloorDiv (.var 3) (.cst (.int 29)))))
  (.seq (.for (.nm 5) (.wk (.drc (.var 0))) B__law_mixed_1)
  (.seq (.asg 2 (.bin .Add (.bin .Mult (.var 2) (.cst (.int 2147483647))) (.bin .Mod (.bi .int (.cons (.bin .Pow (.var 4) (.cst (.int 5))) .nil)) (.var 3))))
  .skip)))
def B__law_mixed : S := (.seq (.par [1, 2] (.cons (.bin .Add (.drg true (.var 0)) (.cst (.int 1))) (.cons (.cst (.int 0)) .nil)))
  (.seq (.drs true 0 (.var 1))
  (.seq (.for (.nm 3) (.wk (.lst (.cons (.cst (.int 2147483629)) (.cons (.cst (.int 2147483587)) (.cons (.cst (.int 2147483579)) (.cons (.cst (.int 2147483563)) .nil)))))) B__law_mixed_2)
  (.seq (.ret (.var 2))
  .skip))))
def G__law_mixed : G := run 1000000 6 1 B__law_mixed
def B__law_take : S := (.seq (.iff (.tv (.cmp .Eq (.drg false (.var 0)) (.cst (.int 0)))) (.seq (.drs false 0 (.ite (.tv (.drn (.var 0))) (.drp (.var 0)) (.call G__law_mixed (.cons (.var 0) .nil))))
  .skip) .skip)
  (.seq (.asg 2 (.bin .Mod (.bi .int (.cons (.drg false (.var 0)) .nil)) (.var 1)))
  (.seq (.drs false 0 (.bin .FloorDiv (.drg false (.var 0)) (.var 1)))
  (.seq (.ret (.var 2))
  .skip))))
def G__law_take : G := run 1000000 3 2 B__law_take
def B__law_pick : S := (.seq (.ret (.ix (.var 1) (.call G__law_take (.cons (.var 0) (.cons (.bi .len (.cons (.var 1) .nil)) .nil)))))
  .skip)
def G__law_pick : G := run 1000000 2 2 B__law_pick
def T__law_shuffled_1 : E := (.tv (.cmp .NotEq (.var 2) (.lst .nil)))
def B__law_shuffled_2 : S := (.seq (.popp 3 2 (.cons (.call G__law_take (.cons (.var 0) (.cons (.bi .len (.cons (.var 2) .nil)) .nil))) .nil))
  .skip)
def B__law_shuffled : S := (.seq (.par [2, 3] (.cons (.bi .list (.cons (.var 1) .nil)) (.cons (.lst .nil) .nil)))
  (.seq (.whl T__law_shuffled_1 B__law_shuffled_2)
  (.seq (.ret (.var 3))
  .skip)))
def G__law_shuffled : G := run 1000000 4 2 B__law_shuffled
def B__law_hues : S := (.seq (.ret (.sl (.call G__law_shuffled (.cons (.var 0) (.cons (.lst (.cons (.cst (.str "a")) (.cons (.cst (.str "b")) (.cons (.cst (.str "c")) (.cons (.cst (.str "x")) (.cons (.cst (.str "ab")) (.cons (.cst (.str "ba")) (.cons (.cst (.str "zz")) (.cons (.cst (.str "zzzz")) (.cons (.cst (.str "zzzy")) (.cons (.cst (.str "aaab")) (.cons (.cst (.str "aaaa")) (.cons (.cst (.str "q")) .nil))))))))))))) .nil))) .no (.pt (.var 1))))
  .skip)
def G__law_hues : G := run 1000000 2 2 B__law_hues
def E__law_lines_1 : E := (.tup (.cons (.call G__law_pick (.cons (.var 0) (.cons (.var 1) .nil))) .nil))
def B__law_lines_2 : S := (.seq (.asg 7 (.call G__law_take (.cons (.var 0) (.cons (.var 4) .nil))))
  (.seq (.setix 5 (.var 7) (.bin .Add (.ix (.var 5) (.var 7)) (.tup (.cons (.call G__law_pick (.cons (.var 0) (.cons (.var 1) .nil))) .nil))))
  .skip))
def B__law_lines : S := (.seq (.asg 4 (.bin .Add (.cst (.int 1)) (.call G__law_take (.cons (.var 0) (.cons (.var 2) .nil)))))
  (.seq (.asg 5 (.lc E__law_lines_1 (.nm 6) (.rng (.cons (.var 4) .nil)) .nil [6]))
  (.seq (.for (.nm 6) (.rng (.cons (.call G__law_take (.cons (.var 0) (.cons (.bin .Add (.bin .Sub (.var 3) (.var 4)) (.cst (.int 1))) .nil))) .nil)) B__law_lines_2)
  (.seq (.ret (.var 5))
  .skip))))
def G__law_lines : G := run 1000000 8 4 B__law_lines
def E__law_sealed_lines_1 : E := (.bi .len (.cons (.var 9) .nil))
def E__law_sealed_lines_2 : E := (.call G__law_pick (.cons (.var 0) (.cons (.var 3) .nil)))
def B__law_sealed_lines_3 : S := (.seq (.par [4, 5] (.cons (.call G__law_take (.cons (.var 0) (.cons (.bi .len (.cons (.var 2) .nil)) .nil))) (.cons (.bin .Sub (.var 1) (.bi .sum (.cons (.lc E__law_sealed_lines_1 (.nm 9) (.wk (.var 2)) .nil [9]) .nil))) .nil)))
  (.seq (.asg 6 (.bi .tuple (.cons (.lc E__law_sealed_lines_2 (.nm 8) (.rng (.cons (.call G__law_take (.cons (.var 0) (.cons (.bi .max (.cons (.bin .FloorDiv (.var 5) (.cst (.int 2))) (.cons (.cst (.int 1)) .nil))) .nil))) .nil)) .nil [8]) .nil)))
  (.seq (.asg 7 (.bin .Add (.cst (.int 1)) (.call G__law_take (.cons (.var 0) (.cons (.bi .len (.cons (.ix (.var 2) (.var 4)) .nil)) .nil)))))
  (.seq (.setix 2 (.var 4) (.bin .Add (.bin .Add (.sl (.ix (.var 2) (.var 4)) .no (.pt (.var 7))) (.var 6)) (.sl (.ix (.var 2) (.var 4)) (.pt (.var 7)) .no)))
  .skip))))
def B__law_sealed_lines : S := (.seq (.asg 2 (.call G__law_lines (.cons (.var 0) (.cons (.lst (.cons (.cst (.str "a")) (.cons (.cst (.str "b")) (.cons (.cst (.str "x")) .nil)))) (.cons (.cst (.int 3)) (.cons (.bin .FloorDiv (.var 1) (.cst (.int 2))) .nil))))))
  (.seq (.for (.nm 3) (.wk (.lst (.cons (.lst (.cons (.cst (.str "c")) (.cons (.cst (.str "d")) .nil))) (.cons (.lst (.cons (.cst (.str "e")) (.cons (.cst (.str "f")) (.cons (.cst (.str "g")) .nil)))) .nil)))) B__law_sealed_lines_3)
  (.seq (.ret (.var 2))
  .skip)))
def G__law_sealed_lines : G := run 1000000 10 2 B__law_sealed_lines
def B__law_some_lines : S := (.seq (.iff (.tv (.cmp .Eq (.call G__law_take (.cons (.var 0) (.cons (.cst (.int 3)) .nil))) (.cst (.int 0)))) (.seq (.ret (.call G__law_sealed_lines (.cons (.var 0) (.cons (.var 1) .nil))))
  .skip) .skip)
  (.seq (.ret (.call G__law_lines (.cons (.var 0) (.cons (.call G__law_hues (.cons (.var 0) (.cons (.bin .Add (.cst (.int 1)) (.call G__law_take (.cons (.var 0) (.cons (.cst (.int 4)) .nil)))) .nil))) (.cons (.cst (.int 3)) (.cons (.var 1) .nil))))))
  .skip))
def G__law_some_lines : G := run 1000000 2 2 B__law_some_lines
def E_is_color_1 : E := (.cmp .In (.var 1) (.gl (.str "abcdefghijklmnopqrstuvwxyz")))
def B_is_color : S := (.seq (.iff (.or (.not (.tv (.isi (.var 0) [.str]))) (.not (.tv (.chn .LtE .LtE (.cst (.int 1)) (.bi .len (.cons (.var 0) .nil)) (.gl (.int 4)))))) (.seq (.ret (.cst (.bl false)))
  .skip) .skip)
  (.seq (.ret (.bi .all (.cons (.lc E_is_color_1 (.nm 1) (.wk (.var 0)) .nil [1]) .nil)))
  .skip))
def G_is_color : G := run 1000000 2 1 B_is_color
def E_is_thread_1 : E := (.call G_is_color (.cons (.var 1) .nil))
def B_is_thread : S := (.seq (.ret (.and (.isi (.var 0) [.tuple]) (.and (.cmp .Gt (.bi .len (.cons (.var 0) .nil)) (.cst (.int 0))) (.bi .all (.cons (.lc E_is_thread_1 (.nm 1) (.wk (.var 0)) .nil [1]) .nil)))))
  .skip)
def G_is_thread : G := run 1000000 2 1 B_is_thread
def E_beads_in_1 : E := (.bi .len (.cons (.var 1) .nil))
def B_beads_in : S := (.seq (.ret (.bi .sum (.cons (.lc E_beads_in_1 (.nm 1) (.wk (.var 0)) .nil [1]) .nil)))
  .skip)
def G_beads_in : G := run 1000000 2 1 B_beads_in
def E_are_threads_1 : E := (.call G_is_thread (.cons (.var 1) .nil))
def B_are_threads : S := (.seq (.iff (.or (.not (.tv (.isi (.var 0) [.list, .tuple]))) (.not (.tv (.chn .LtE .LtE (.cst (.int 1)) (.bi .len (.cons (.var 0) .nil)) (.gl (.int 8)))))) (.seq (.ret (.cst (.bl false)))
  .skip) .skip)
  (.seq (.ret (.and (.bi .all (.cons (.lc E_are_threads_1 (.nm 1) (.wk (.var 0)) .nil [1]) .nil)) (.cmp .LtE (.call G_beads_in (.cons (.var 0) .nil)) (.gl (.int 60)))))
  .skip))
def G_are_threads : G := run 1000000 2 1 B_are_threads
def B_State___init__ : S := (.seq (.iff (.not (.tv (.call G_are_threads (.cons (.var 1) .nil)))) (.seq (.raise "NoState" [] .nil)
  .skip) .skip)
  (.seq (.fld 0 "s_lines" (.bi .tuple (.cons (.var 1) .nil)))
  .skip))
def GI_State (p : Nat) : G := runC 1000000 2 2 p "State" B_State___init__
def G_State : G := fun xs W => GI_State 0 xs W
def B_State_threads : S := (.seq (.ret (.bi .list (.cons (.attr (.var 0) "s_lines") .nil)))
  .skip)
def G_State_threads : G := run 1000000 1 1 B_State_threads
def Ty_State : Ty := .cls "State" []
def Ty_NoState : Ty := .cls "NoState" []
def B__law_all_hues_1 : S := (.kl [] (.seq (.setk 1 (.var 3) (.cst (.bl true)))
  .skip) [3])
def B__law_all_hues_2 : S := (.kl [] (.seq (.kl [3] (.for (.nm 3) (.wk (.var 2)) B__law_all_hues_1) [3, 2])
  .skip) [3, 2])
def B__law_all_hues : S := (.seq (.asg 1 (.call (pureG newDicD) .nil))
  (.seq (.kl [] (.for (.nm 2) (.wk (.var 0)) B__law_all_hues_2) [3, 2, 0])
  (.seq (.ret (.call (pureG sortAnyD) (.cons (.var 1) .nil)))
  .skip)))
def G__law_all_hues : G := run 1000000 4 1 B__law_all_hues
def B__law_odd : S := (.seq (.asg 1 (.lst (.cons (.cst .non) (.cons (.cst (.bl true)) (.cons (.cst (.bl false)) (.cons (.neg (.cst (.int 1))) (.cons (.bin .Pow (.cst (.int 10)) (.cst (.int 40))) (.cons (.cst (.str "")) (.cons (.cst (.str "A")) (.cons (.cst (.str "abcde")) (.cons (.cst (.str "a b")) (.cons (.tup .nil) (.cons (.lst .nil) (.cons (.cst (.dic false [])) (.cons (.tup (.cons (.cst (.str "A")) .nil)) (.cons (.tup (.cons (.cst (.str "abcde")) .nil)) (.cons (.tup (.cons (.cst (.str "a")) (.cons (.cst (.int 1)) .nil))) .nil)))))))))))))))))
  (.seq (.ret (.call G__law_pick (.cons (.var 0) (.cons (.bin .Add (.var 1) (.lst (.cons (.tup (.cons (.cst .non) .nil)) (.cons (.lst (.cons (.cst (.str "a")) .nil)) (.cons (.cst (.dic false [(.str "a", .int 1)])) (.cons (.tup (.cons (.tup .nil) .nil)) (.cons (.lst (.cons (.tup .nil) .nil)) (.cons (.lst (.cons (.tup (.cons (.cst (.str "a")) (.cons (.cst (.str "")) .nil))) .nil)) (.cons (.cst (.str "1")) (.cons (.tup (.cons (.cst (.str "a")) (.cons (.tup (.cons (.cst (.str "a")) .nil)) .nil))) (.cons (.lst (.cons (.cst (.str "A")) .nil)) .nil))))))))))) .nil))))
  .skip))
def G__law_odd : G := run 1000000 2 1 B__law_odd
end
end Z
namespace Qk02
open PySem Z
noncomputable section
def B_State___eq__ : S := (.seq (.ret (.and (.isi (.var 1) [Ty_State]) (.cmp .Eq (.attr (.var 0) "s_lines") (.attr (.var 1) "s_lines"))))
  .skip)
def G_State___eq__ : G := run 1000000 2 2 B_State___eq__
def B_State___len__ : S := (.seq (.ret (.bi .len (.cons (.call (pureG flatD) (.cons (.attr (.var 0) "s_lines") .nil)) .nil)))
  .skip)
def G_State___len__ : G := run 1000000 3 1 B_State___len__
def T__law_is_hue_1 : E := (.cons (.tv (.cmp .NotIn (.var 1) (.cst (.str "abcdefghijklmnopqrstuvwxyz")))) .nil)
def B__law_is_hue : S := (.seq (.iff (.or (.not (.tv (.isi (.var 0) [.str]))) (.not (.tv (.chn .LtE .LtE (.cst (.int 1)) (.bi .len (.cons (.var 0) .nil)) (.cst (.int 4)))))) (.seq (.ret (.cst (.bl false)))
  .skip) .skip)
  (.seq (.ret (.cmp .Eq (.lc (.var 1) (.nm 1) (.wk (.var 0)) T__law_is_hue_1 [1]) (.lst .nil)))
  .skip))
def G__law_is_hue : G := run 1000000 2 1 B__law_is_hue
def B_colors_in : S := (.seq (.ret (.call (pureG sortAnyD) (.cons (.call (pureG huesD) (.cons (.var 0) .nil)) .nil)))
  .skip)
def G_colors_in : G := run 1000000 3 1 B_colors_in
def B_State_colors : S := (.seq (.ret (.call G_colors_in (.cons (.attr (.var 0) "s_lines") .nil)))
  .skip)
def G_State_colors : G := run 1000000 1 1 B_State_colors
def T__law_are_strands_1 : E := (.cons (.not (.tv (.call G__law_is_hue (.cons (.var 2) .nil)))) .nil)
def B__law_are_strands_2 : S := (.kl [] (.seq (.iff (.or (.not (.tv (.isi (.var 1) [.tuple]))) (.or (.tv (.cmp .Eq (.var 1) (.tup .nil))) (.tv (.cmp .NotEq (.lc (.var 2) (.nm 2) (.wk (.var 1)) T__law_are_strands_1 [2]) (.lst .nil))))) (.seq (.ret (.cst (.bl false)))
  .skip) .skip)
  .skip) [1])
def E__law_are_strands_3 : E := (.bi .len (.cons (.var 1) .nil))
def B__law_are_strands : S := (.seq (.iff (.or (.not (.tv (.isi (.var 0) [.list, .tuple]))) (.not (.tv (.chn .LtE .LtE (.cst (.int 1)) (.bi .len (.cons (.var 0) .nil)) (.cst (.int 8)))))) (.seq (.ret (.cst (.bl false)))
  .skip) .skip)
  (.seq (.kl [] (.for (.nm 1) (.wk (.var 0)) B__law_are_strands_2) [1])
  (.seq (.ret (.cmp .LtE (.bi .sum (.cons (.lc E__law_are_strands_3 (.nm 1) (.wk (.var 0)) .nil [1]) .nil)) (.cst (.int 60))))
  .skip)))
def G__law_are_strands : G := run 1000000 3 1 B__law_are_strands
def B__law_bent : S := (.seq (.par [2, 3, 4] (.cons (.bi .list (.cons (.var 1) .nil)) (.cons (.call G__law_take (.cons (.var 0) (.cons (.bi .len (.cons (.var 1) .nil)) .nil))) (.cons (.call G__law_take (.cons (.var 0) (.cons (.cst (.int 8)) .nil))) .nil))))
  (.seq (.asg 5 (.call G__law_take (.cons (.var 0) (.cons (.bi .len (.cons (.ix (.var 2) (.var 3)) .nil)) .nil))))
  (.seq (.asg 6 (.call G__law_pick (.cons (.var 0) (.cons (.lst (.cons (.cst (.str "A")) (.cons (.cst (.str "")) (.cons (.cst (.str "abcde")) (.cons (.cst (.str "a1")) (.cons (.cst .non) (.cons (.cst (.int 5)) (.cons (.cst (.bl true)) (.cons (.tup (.cons (.cst (.str "a")) .nil)) (.cons (.cst (.str "abcd")) (.cons (.cst (.str "zzzz")) .nil))))))))))) .nil))))
  (.seq (.iff (.tv (.cmp .Lt (.var 4) (.cst (.int 3)))) (.seq (.setix 2 (.var 3) (.bin .Add (.bin .Add (.sl (.ix (.var 2) (.var 3)) .no (.pt (.var 5))) (.tup (.cons (.var 6) .nil))) (.sl (.ix (.var 2) (.var 3)) (.pt (.bin .Add (.var 5) (.bin .Mod (.var 4) (.cst (.int 2))))) .no)))
  .skip) (.seq (.iff (.tv (.cmp .Eq (.var 4) (.cst (.int 3)))) (.seq (.setix 2 (.var 3) (.call G__law_pick (.cons (.var 0) (.cons (.lst (.cons (.tup .nil) (.cons (.bi .list (.cons (.ix (.var 2) (.var 3)) .nil)) (.cons (.cst (.str "ab")) (.cons (.cst .non) (.cons (.sl (.ix (.var 2) (.var 3)) (.pt (.var 5)) .no) .nil)))))) .nil))))
  .skip) (.seq (.iff (.tv (.cmp .Eq (.var 4) (.cst (.int 4)))) (.seq (.asg 2 (.sl (.bin .Mult (.var 2) (.cst (.int 9))) .no (.pt (.bin .Add (.cst (.int 7)) (.call G__law_take (.cons (.var 0) (.cons (.cst (.int 3)) .nil)))))))
  .skip) (.seq (.iff (.tv (.cmp .Eq (.var 4) (.cst (.int 5)))) (.seq (.setix 2 (.var 3) (.sl (.bin .Mult (.ix (.var 2) (.var 3)) (.cst (.int 60))) .no (.pt (.bin .Add (.cst (.int 58)) (.call G__law_take (.cons (.var 0) (.cons (.cst (.int 5)) .nil)))))))
  .skip) (.seq (.iff (.tv (.cmp .Eq (.var 4) (.cst (.int 6)))) (.seq (.ret (.call G__law_pick (.cons (.var 0) (.cons (.lst (.cons (.bi .tuple (.cons (.var 2) .nil)) (.cons (.call (pureG dicHeadD) (.cons (.var 2) .nil)) (.cons (.ix (.var 2) (.var 3)) (.cons (.cst (.str "ab")) (.cons (.lst .nil) .nil)))))) .nil))))
  .skip) (.seq (.asg 2 (.bin .Add (.sl (.var 2) .no (.pt (.var 3))) (.sl (.var 2) (.pt (.bin .Add (.var 3) (.cst (.int 1)))) .no)))
  .skip))
  .skip))
  .skip))
  .skip))
  .skip))
  (.seq (.ret (.var 2))
  .skip)))))
def G__law_bent : G := run 1000000 7 2 B__law_bent
def E__law_told_right_1 : E := (.bi .len (.cons (.var 6) .nil))
def T__law_told_right_2 : E := (.cons (.tv (.cmp .NotEq (.call (eqG false "State" G_State___eq__) (.cons (.call G_State (.cons (.var 6) .nil)) (.cons (.var 2) .nil))) (.cmp .Eq (.var 6) (.bi .list (.cons (.var 0) .nil))))) .nil)
def B__law_told_right : S := (.seq (.asg 1 (.bi .list (.cons (.var 0) .nil)))
  (.seq (.asg 2 (.callk G_State 1 [0] (.cons (.var 1) .nil)))
  (.seq (.app 1 (.tup (.cons (.cst (.str "zz")) .nil)))
  (.seq (.par [3, 4] (.cons (.call G__law_all_hues (.cons (.var 0) .nil)) (.cons (.bi .sum (.cons (.lc E__law_told_right_1 (.nm 6) (.wk (.var 0)) .nil [6]) .nil)) .nil)))
  (.seq (.iff (.tv (.cmp .NotEq (.lst (.cons (.mth "threads" "State" G_State_threads (.var 2) .nil) (.cons (.mth "colors" "State" G_State_colors (.var 2) .nil) (.cons (.call (lenG "State" G_State___len__) (.cons (.var 2) .nil)) .nil)))) (.lst (.cons (.bi .list (.cons (.var 0) .nil)) (.cons (.var 3) (.cons (.var 4) .nil)))))) (.seq (.ret (.cst (.bl false)))
  .skip) .skip)
  (.seq (.asg 5 (.lst (.cons (.call (pureG revLD) (.cons (.bi .list (.cons (.var 0) .nil)) .nil)) (.cons (.bin .Add (.sl (.bi .list (.cons (.var 0) .nil)) (.pt (.cst (.int 1))) .no) (.sl (.bi .list (.cons (.var 0) .nil)) .no (.pt (.cst (.int 1))))) .nil))))
  (.seq (.iff (.and (.tv (.cmp .Gt (.bi .len (.cons (.var 0) .nil)) (.cst (.int 1)))) (.tv (.cmp .Gt (.bi .len (.cons (.ix (.var 0) (.cst (.int 0))) .nil)) (.cst (.int 1))))) (.seq (.app 5 (.bin .Add (.lst (.cons (.sl (.ix (.var 0) (.cst (.int 0))) .no (.pt (.neg (.cst (.int 1))))) (.cons (.bin .Add (.sl (.ix (.var 0) (.cst (.int 0))) (.pt (.neg (.cst (.int 1)))) .no) (.ix (.var 0) (.cst (.int 1)))) .nil))) (.sl (.bi .list (.cons (.var 0) .nil)) (.pt (.cst (.int 2))) .no)))
  .skip) .skip)
  (.seq (.iff (.tv (.cmp .NotEq (.lc (.var 6) (.nm 6) (.wk (.var 5)) T__law_told_right_2 [6]) (.lst .nil))) (.seq (.ret (.cst (.bl false)))
  .skip) .skip)
  (.seq (.tapp (.mth "threads" "State" G_State_threads (.var 2) .nil) (.cst .non))
  (.seq (.tclr (.mth "colors" "State" G_State_colors (.var 2) .nil))
  (.seq (.iff (.or (.tv (.cmp .NotEq (.lst (.cons (.mth "threads" "State" G_State_threads (.var 2) .nil) (.cons (.mth "colors" "State" G_State_colors (.var 2) .nil) .nil))) (.lst (.cons (.bi .list (.cons (.var 0) .nil)) (.cons (.var 3) .nil))))) (.tv (.call (eqG true "State" G_State___eq__) (.cons (.var 2) (.cons (.call G_State (.cons (.bi .tuple (.cons (.var 0) .nil)) .nil)) .nil))))) (.seq (.ret (.cst (.bl false)))
  .skip) .skip)
  (.seq (.ret (.and (.call (eqA true "State" G_State___eq__) (.cons (.var 2) (.cons (.bi .list (.cons (.var 0) .nil)) .nil))) (.and (.not (.call (eqA false "State" G_State___eq__) (.cons (.var 2) (.cons (.bi .tuple (.cons (.var 0) .nil)) .nil)))) (.call (eqA true "State" G_State___eq__) (.cons (.var 2) (.cons (.cst .non) .nil))))))
  .skip))))))))))))
def G__law_told_right : G := run 1000000 7 1 B__law_told_right
def B_law_1 : S := (.seq (.iff (.not (.tv (.call G__law_told_right (.cons (.bi .list (.cons (.var 4) .nil)) .nil)))) (.seq (.ret (.cst (.bl false)))
  .skip) .skip)
  .skip)
def B_law_2 : S := (.kl [] (.seq (.iff (.tv (.cmp .NotEq (.call (pureG reprAnyD) (.cons (.lst (.cons (.call G_is_color (.cons (.var 8) .nil)) (.cons (.callk G_is_color 1 [0] (.cons (.var 8) .nil)) .nil))) .nil)) (.call (pureG reprAnyD) (.cons (.bin .Mult (.lst (.cons (.call G__law_is_hue (.cons (.var 8) .nil)) .nil)) (.cst (.int 2))) .nil)))) (.seq (.ret (.cst (.bl false)))
  .skip) .skip)
  .skip) [8])
def B_law_3 : S := (.seq (.kl [8] (.for (.nm 8) (.wk (.lst (.cons (.var 6) (.cons (.ix (.ix (.var 3) (.cst (.int 0))) (.cst (.int 0))) (.cons (.cst (.str "abcd")) (.cons (.cst (.str "abcde")) (.cons (.cst (.str "zzzz")) (.cons (.var 7) (.cons (.bin .Add (.bin .Add (.var 7) (.cst (.str "h"))) (.var 7)) .nil))))))))) B_law_2) [8, 7, 3])
  (.seq (.iff (.and (.not (.tv (.call G__law_are_strands (.cons (.var 6) .nil)))) (.not (.tv (.isi (.caught (.call G_State (.cons (.var 6) .nil))) [Ty_NoState])))) (.seq (.ret (.cst (.bl false)))
  .skip) .skip)
  .skip))
def B_law_4 : S := (.seq (.unp [6, 7] (.tup (.cons (.call G__law_odd (.cons (.var 1) .nil)) (.cons (.call G__law_pick (.cons (.var 1) (.cons (.cst (.str "abcdefghijklmnopqrstuvwxyz")) .nil))) .nil))))
  (.seq (.iff (.tv (.cmp .NotEq (.mth "colors" "State" G_State_colors (.call G_State (.cons (.lst (.cons (.tup (.cons (.var 7) (.cons (.call (pureG repSD) (.cons (.var 7) (.cons (.cst (.int 4)) .nil))) .nil))) .nil)) .nil)) .nil) (.lst (.cons (.var 7) (.cons (.call (pureG repSD) (.cons (.var 7) (.cons (.cst (.int 4)) .nil))) .nil))))) (.seq (.ret (.cst (.bl false)))
  .skip) .skip)
  B_law_3))
def B_law_5 : S := (.seq (.asg 4 (.call G__law_bent (.cons (.var 1) (.cons (.var 3) .nil))))
  (.seq (.asg 5 (.caught (.call G_State (.cons (.var 4) .nil))))
  (.seq (.iff (.tv (.call G__law_are_strands (.cons (.var 4) .nil))) (.seq (.iff (.or (.tv (.cmp .IsNot (.var 5) (.cst .non))) (.tv (.cmp .NotEq (.call (eqG false "State" G_State___eq__) (.cons (.call G_State (.cons (.var 4) .nil)) (.cons (.call G_State (.cons (.var 3) .nil)) .nil))) (.cmp .Eq (.bi .list (.cons (.var 4) .nil)) (.var 3))))) (.seq (.ret (.cst (.bl false)))
  .skip) .skip)
  B_law_1) (.seq (.iff (.not (.tv (.isi (.var 5) [Ty_NoState]))) (.seq (.ret (.cst (.bl false)))
  .skip) .skip)
  .skip))
  B_law_4)))
def B_law_6 : S := (.kl [] (.seq (.asg 3 (.call G__law_some_lines (.cons (.var 1) (.cons (.cst (.int 12)) .nil))))
  (.seq (.iff (.not (.tv (.call G__law_told_right (.cons (.var 3) .nil)))) (.seq (.ret (.cst (.bl false)))
  .skip) .skip)
  B_law_5)) [8, 5, 7, 6, 3, 4, 2])
def B_law : S := (.seq (.kl [] (.for (.nm 2) (.rng (.cons (.bin .Add (.cst (.int 8)) (.bi .min (.cons (.bi .len (.cons (.var 0) .nil)) (.cons (.cst (.int 40)) .nil)))) .nil)) B_law_6) [1, 8, 5, 7, 6, 0, 3, 4, 2])
  (.seq (.ret (.cst (.bl true)))
  .skip))
def RunOk : Prop := ∀ ns : List Int, ns.length ≤ 63 → ∃ ρ' W', evS 1000000 B_law (law0 8 1 ns) (dr0 ns) = .rt ⟨.bl true, .pl, []⟩ ρ' W'
end
end Qk02
namespace Qk02
open PySem PySem.Spec PyProof.Rows L2 Z
def top (i : Nat) : Stmt := PySem.Challenge.pw_tradedtails_k02_states_made_or_refused.main.body.getD i (.Pass ⟨0, 0, 0, 0⟩)
structure Tx (c : Pm) (mg : Str → Option Value) : Prop where
  kl : Kls c
  at_s_lines : ∀ n C, c.ca n = some C → Cls c.K C ∧ NoAttr c.K C "s_lines"
  n_all : mg "all" = none
  n_int : mg "int" = none
  n_isinstance : mg "isinstance" = none
  n_len : mg "len" = none
  n_list : mg "list" = none
  n_max : mg "max" = none
  n_min : mg "min" = none
  n_range : mg "range" = none
  n_repr : mg "repr" = none
  n_sorted : mg "sorted" = none
  n_str : mg "str" = none
  n_sum : mg "sum" = none
  n_tuple : mg "tuple" = none
  g_LETTERS : ∃ uu, mg "LETTERS" = some uu ∧ RelV (.str "abcdefghijklmnopqrstuvwxyz") uu
  g_MOST_BEADS : ∃ uu, mg "MOST_BEADS" = some uu ∧ RelV (.int 60) uu
  g_MOST_LETTERS : ∃ uu, mg "MOST_LETTERS" = some uu ∧ RelV (.int 4) uu
  g_MOST_THREADS : ∃ uu, mg "MOST_THREADS" = some uu ∧ RelV (.int 8) uu
  m_NoState : mg "NoState" = some (.ref (He.ga c.K "NoState"))
  is_NoState : IsF c Ty_NoState (.ref (He.ga c.K "NoState"))
  m_State : mg "State" = some (.ref (He.ga c.K "State"))
  is_State : IsF c Ty_State (.ref (He.ga c.K "State"))
  is_list : IsF c .list (.type "list")
  is_str : IsF c .str (.type "str")
  is_tuple : IsF c .tuple (.type "tuple")
  r_NoState : RaiseF c mg "NoState"
variable {c : Pm} {P : Program} {w : World} {mg : Str → Option Value} {base : Heap}
abbrev s__law_caught : Stmt := top 20
theorem sc__law_caught : FnScope ["_law_job", "_law_found", "_law_error"] ["_law_job"] (defScope s__law_caught) := ⟨rfl, rfl, rfl, by decide +kernel, rfl, by decide +kernel, by decide +kernel⟩
theorem cau_mk {g : Addr} {fd : FuncData} (F : Fun c.K "_law_caught" "_law_caught" s__law_caught g fd) (hm : mg "_law_caught" = some (.ref g)) (hb : L2.Binds c.K fd ["_law_job"] []) (ht : mg "ThreadError" = some (.ref (He.ga c.K "ThreadError"))) (up : ∀ n C, c.cx n = some C → PySem.W.exmOne c.K (.ref C) (.ref (He.ga c.K "ThreadError")) = some true) : CauF c mg "_law_caught" "_law_job" ["_law_job", "_law_found", "_law_error"] s__law_caught (He.ga c.K "ThreadError") :=
  ⟨⟨g, fd, F, hm, hb⟩, sc__law_caught, rfl, .inl rfl, fun X g cdv q hk hmg => caught_gives (by decide) rfl rfl rfl (by rw [hmg]; exact ht) (by decide) (by decide) (by decide) (by decide) (by decide) rfl (fun _ => rfl) (fun _ => rfl) (fun _ => rfl), up⟩
abbrev s_State___eq__ : Stmt := inClass (top 13) 4
theorem sc_State___eq__ : FnScope ["self", "other"] ["self", "other"] (defScope s_State___eq__) := ⟨rfl, rfl, rfl, by decide +kernel, rfl, by decide +kernel, by decide +kernel⟩
theorem ok_State___eq__ {f : Addr} {fd : FuncData} (Fu : Fun c.K "__eq__" "State.__eq__" s_State___eq__ f fd) (T : Tx c mg) : FnOk P w c.K mg base (L2.CX P w) 1 f fd ["self", "other"] (spG c G_State___eq__) :=
  fn_ok Fu sc_State___eq__ fun cdv A outer s H E hr tk => have n := Cn.fn rfl sc_State___eq__ hr tk; (s_cons (s_ret (e_and (x_isi n T.kl T.is_State (.own _) (x_var 1 n (.inl rfl)) (x_cls n T.m_State) T.n_isinstance) (x_one (x_cmp n (x_attr n T.at_s_lines (x_var 0 n (.inl rfl))) (x_attr n T.at_s_lines (x_var 1 n (.inl rfl)))))))
  s_nil)
abbrev s_State___len__ : Stmt := inClass (top 13) 3
theorem sc_State___len__ : FnScope ["self", "line", "color"] ["self"] (defScope s_State___len__) := ⟨rfl, rfl, rfl, by decide +kernel, rfl, by decide +kernel, by decide +kernel⟩
theorem ok_State___len__ {f : Addr} {fd : FuncData} (Fu : Fun c.K "__len__" "State.__len__" s_State___len__ f fd) (T : Tx c mg) : FnOk P w c.K mg base (L2.CX P w) 1 f fd ["self"] (spG c G_State___len__) :=
  fn_ok Fu sc_State___len__ fun cdv A outer s H E hr tk => have n := Cn.fn rfl sc_State___len__ hr tk; (s_cons (s_ret (x_len n T.n_len (x_cons (x_flat (i := 1) (j := 2) n (x_attr n T.at_s_lines (x_var 0 n (.inl rfl))) (by rfl) (fun _ _ _ _ _ => pg_name (n.blk).nd rfl (.inl rfl) (.inr rfl)) (fun _ _ _ _ _ => pg_name (n.blk).nd rfl (.inl rfl) (.inr rfl)) (fun _ _ _ _ _ => pe_var rfl (.inl rfl)) (fun _ _ _ _ _ => pe_var rfl (.inl rfl)) rfl rfl) l_nil)))
  s_nil)
abbrev s_State_threads : Stmt := inClass (top 13) 1
theorem sc_State_threads : FnScope ["self"] ["self"] (defScope s_State_threads) := ⟨rfl, rfl, rfl, by decide +kernel, rfl, by decide +kernel, by decide +kernel⟩
theorem ok_State_threads {f : Addr} {fd : FuncData} (Fu : Fun c.K "threads" "State.threads" s_State_threads f fd) (T : Tx c mg) : FnOk P w c.K mg base (L2.CX P w) 1 f fd ["self"] (spG c G_State_threads) :=
  fn_ok Fu sc_State_threads fun cdv A outer s H E hr tk => have n := Cn.fn rfl sc_State_threads hr tk; (s_cons (s_ret (x_list n T.n_list (x_cons (x_attr n T.at_s_lines (x_var 0 n (.inl rfl))) l_nil)))
  s_nil)
abbrev s__law_all_hues : Stmt := top 26
theorem sc__law_all_hues : FnScope ["_law_strands", "_law_found", "_law_strand", "_law_hue"] ["_law_strands"] (defScope s__law_all_hues) := ⟨rfl, rfl, rfl, by decide +kernel, rfl, by decide +kernel, by decide +kernel⟩
theorem ok__law_all_hues {f : Addr} {fd : FuncData} (Fu : Fun c.K "_law_all_hues" "_law_all_hues" s__law_all_hues f fd) (T : Tx c mg) : FnOk P w c.K mg base (L2.CX P w) 1 f fd ["_law_strands"] (spG c G__law_all_hues) :=
  fn_ok Fu sc__law_all_hues fun cdv A outer s H E hr tk => have n := Cn.fn rfl sc__law_all_hues hr tk; (s_cons (z_set 1 n e_dict (.inl rfl))
  (s_cons (z_kl [] [3, 2, 0] (z_for (own := [2]) n (passes_of rfl) (x_wk n (x_var 0 n (.inl rfl)) (pi_str (x_var 0 n (.inl rfl)))) (pg_name n.nd rfl (.inl rfl) (.inl rfl)) (g_nm (by decide)) (z_kls [] [3, 2] (s_cons (z_kl [3] [3, 2] (z_for (own := [3]) n (passes_of rfl) (x_wk n (x_var 2 n (.inl rfl)) (pi_str (x_var 2 n (.inl rfl)))) (pg_name n.nd rfl (.inl rfl) (.inl rfl)) (g_nm (by decide)) (z_kls [] [3] (s_cons (z_setk 1 n (x_var 3 n (.inl rfl)) e_bl (.inl rfl))
  s_nil))))
  s_nil))))
  (s_cons (s_ret (x_sortedA n T.n_sorted (x_cons (x_var 1 n (.inl rfl)) l_nil)))
  s_nil)))
abbrev s__law_is_hue : Stmt := top 27
theorem sc__law_is_hue : FnScope ["_law_thing", "_law_sign"] ["_law_thing"] (defScope s__law_is_hue) := ⟨rfl, rfl, rfl, by decide +kernel, rfl, by decide +kernel, by decide +kernel⟩
theorem ok__law_is_hue {f : Addr} {fd : FuncData} (Fu : Fun c.K "_law_is_hue" "_law_is_hue" s__law_is_hue f fd) (T : Tx c mg) : FnOk P w c.K mg base (L2.CX P w) 1 f fd ["_law_thing"] (spG c G__law_is_hue) :=
  fn_ok Fu sc__law_is_hue fun cdv A outer s H E hr tk => have n := Cn.fn rfl sc__law_is_hue hr tk; (s_cons (s_if (w_or (t_not (y_val (x_isi n T.kl T.is_str (.ty "str") (x_var 0 n (.inl rfl)) (x_ty n T.n_str boot_str) T.n_isinstance))) (w_or1 (t_not (y_chn n e_int (x_len n T.n_len (x_cons (x_var 0 n (.inl rfl)) l_nil)) e_int)))).pt (s_cons (s_ret e_bl)
  s_nil) s_nil)
  (s_cons (s_ret (x_cmp n (x_lc (own := [("_law_sign", 1)]) n (x_wk n (x_var 0 n (.inl rfl)) (pi_str (x_var 0 n (.inl rfl)))) (g_nm (by decide)) (by rfl) (fun _ _ _ _ _ => (pg_name (n.blk).nd rfl (.inl rfl) (.inr rfl))) (fun _ _ _ _ _ => (a_oneT (y_cmp (n.blk) (x_var 1 (n.blk) (.inl rfl)) e_str))) (fun _ _ _ _ _ => (x_var 1 (n.blk) (.inl rfl)))) (e_lst l_nil)))
  s_nil))
abbrev s__law_mixed : Stmt := top 16
theorem sc__law_mixed : FnScope ["_law_draw", "_law_turn", "_law_found", "_law_prime", "_law_blend", "_law_cell"] ["_law_draw"] (defScope s__law_mixed) := ⟨rfl, rfl, rfl, by decide +kernel, rfl, by decide +kernel, by decide +kernel⟩
theorem ok__law_mixed {f : Addr} {fd : FuncData} (Fu : Fun c.K "_law_mixed" "_law_mixed" s__law_mixed f fd) (T : Tx c mg) : FnOk P w c.K mg base (L2.CX P w) 1 f fd ["_law_draw"] (spG c G__law_mixed) :=
  fn_ok Fu sc__law_mixed fun cdv A outer s H E hr tk => have n := Cn.fn rfl sc__law_mixed hr tk; (s_cons (z_par 1 2 n (x_cons (x_bin (bin_add n.hk) (x_drg true n (x_var 0 n (.inl rfl))) e_int) (x_cons e_int l_nil)))
  (s_cons (z_drs true 0 n (x_var 1 n (.inl rfl)) (.inl rfl))
  (s_cons (z_for (own := [3]) n (passes_of rfl) (x_wk n (e_lst (x_cons e_int (x_cons e_int (x_cons e_int (x_cons e_int l_nil))))) (pi_str (e_lst (x_cons e_int (x_cons e_int (x_cons e_int (x_cons e_int l_nil))))))) (pg_name n.nd rfl (.inl rfl) (.inl rfl)) (g_nm (by decide)) (s_cons (z_set 4 n (x_bin (bin_add n.hk) (x_bin (bin_mul n.hk) e_int (x_var 1 n (.inl rfl))) (x_bin (bin_div) (x_var 3 n (.inl rfl)) e_int)) (.inl rfl))
  (s_cons (z_for (own := [5]) n (passes_of rfl) (x_wk n (x_drc n (x_var 0 n (.inl rfl))) (pi_str (x_drc n (x_var 0 n (.inl rfl))))) (pg_name n.nd rfl (.inl rfl) (.inl rfl)) (g_nm (by decide)) (s_cons (z_set 4 n (x_bin (bin_mod) (x_int n T.n_int (x_cons (x_bin (bin_add n.hk) (x_bin (bin_add n.hk) (x_bin (bin_mul n.hk) (x_var 4 n (.inl rfl)) e_int) (x_var 5 n (.inl rfl))) (x_var 1 n (.inl rfl))) l_nil)) (x_var 3 n (.inl rfl))) (.inl rfl))
  s_nil))
  (s_cons (z_set 2 n (x_bin (bin_add n.hk) (x_bin (bin_mul n.hk) (x_var 2 n (.inl rfl)) e_int) (x_bin (bin_mod) (x_int n T.n_int (x_cons (x_bin (bin_pow) (x_var 4 n (.inl rfl)) e_int) l_nil)) (x_var 3 n (.inl rfl)))) (.inl rfl))
  s_nil))))
  (s_cons (s_ret (x_var 2 n (.inl rfl)))
  s_nil))))
abbrev s_beads_in : Stmt := top 10
theorem sc_beads_in : FnScope ["lines", "line"] ["lines"] (defScope s_beads_in) := ⟨rfl, rfl, rfl, by decide +kernel, rfl, by decide +kernel, by decide +kernel⟩
theorem ok_beads_in {f : Addr} {fd : FuncData} (Fu : Fun c.K "beads_in" "beads_in" s_beads_in f fd) (T : Tx c mg) : FnOk P w c.K mg base (L2.CX P w) 1 f fd ["lines"] (spG c G_beads_in) :=
  fn_ok Fu sc_beads_in fun cdv A outer s H E hr tk => have n := Cn.fn rfl sc_beads_in hr tk; (s_cons (s_ret (x_sum n T.n_sum (x_cons (x_lc (own := [("line", 1)]) n (x_wk n (x_var 0 n (.inl rfl)) (pi_str (x_var 0 n (.inl rfl)))) (g_nm (by decide)) (by rfl) (fun _ _ _ _ _ => (pg_name (n.blk).nd rfl (.inl rfl) (.inr rfl))) (fun _ _ _ _ _ => a_nilT) (fun _ _ _ _ _ => (x_len (n.blk) T.n_len (x_cons (x_var 1 (n.blk) (.inl rfl)) l_nil)))) l_nil)))
  s_nil)
abbrev s_colors_in : Stmt := top 12
theorem sc_colors_in : FnScope ["lines", "line", "color"] ["lines"] (defScope s_colors_in) := ⟨rfl, rfl, rfl, by decide +kernel, rfl, by decide +kernel, by decide +kernel⟩
theorem ok_colors_in {f : Addr} {fd : FuncData} (Fu : Fun c.K "colors_in" "colors_in" s_colors_in f fd) (T : Tx c mg) : FnOk P w c.K mg base (L2.CX P w) 1 f fd ["lines"] (spG c G_colors_in) :=
  fn_ok Fu sc_colors_in fun cdv A outer s H E hr tk => have n := Cn.fn rfl sc_colors_in hr tk; (s_cons (s_ret (x_sortedA n T.n_sorted (x_cons (x_hues (i := 1) (j := 2) n (x_var 0 n (.inl rfl)) (by rfl) (fun _ _ _ _ _ => pg_name (n.blk).nd rfl (.inl rfl) (.inr rfl)) (fun _ _ _ _ _ => pg_name (n.blk).nd rfl (.inl rfl) (.inr rfl)) (fun _ _ _ _ _ => pe_var rfl (.inl rfl)) (fun _ _ _ _ _ => pe_var rfl (.inl rfl)) rfl rfl) l_nil)))
  s_nil)
abbrev s_is_color : Stmt := top 8
theorem sc_is_color : FnScope ["value", "letter"] ["value"] (defScope s_is_color) := ⟨rfl, rfl, rfl, by decide +kernel, rfl, by decide +kernel, by decide +kernel⟩
theorem ok_is_color {f : Addr} {fd : FuncData} (Fu : Fun c.K "is_color" "is_color" s_is_color f fd) (T : Tx c mg) : FnOk P w c.K mg base (L2.CX P w) 1 f fd ["value"] (spG c G_is_color) :=
  fn_ok Fu sc_is_color fun cdv A outer s H E hr tk => have n := Cn.fn rfl sc_is_color hr tk; (s_cons (s_if (w_or (t_not (y_val (x_isi n T.kl T.is_str (.ty "str") (x_var 0 n (.inl rfl)) (x_ty n T.n_str boot_str) T.n_isinstance))) (w_or1 (t_not (y_chn n e_int (x_len n T.n_len (x_cons (x_var 0 n (.inl rfl)) l_nil)) (x_gl n T.g_MOST_LETTERS (fun _ => .int _)))))).pt (s_cons (s_ret e_bl)
  s_nil) s_nil)
  (s_cons (s_ret (x_all n T.n_all (x_cons (x_lc (own := [("letter", 1)]) n (x_wk n (x_var 0 n (.inl rfl)) (pi_str (x_var 0 n (.inl rfl)))) (g_nm (by decide)) (by rfl) (fun _ _ _ _ _ => (pg_name (n.blk).nd rfl (.inl rfl) (.inr rfl))) (fun _ _ _ _ _ => a_nilT) (fun _ _ _ _ _ => (x_cmp (n.blk) (x_var 1 (n.blk) (.inl rfl)) (x_gl (n.blk) T.g_LETTERS (fun _ => .str _))))) l_nil)))
  s_nil))
abbrev s_State_colors : Stmt := inClass (top 13) 2
theorem sc_State_colors : FnScope ["self"] ["self"] (defScope s_State_colors) := ⟨rfl, rfl, rfl, by decide +kernel, rfl, by decide +kernel, by decide +kernel⟩
theorem ok_State_colors {f : Addr} {fd : FuncData} (Fu : Fun c.K "colors" "State.colors" s_State_colors f fd) (T : Tx c mg) (C_colors_in : Cal c P w c.K mg base 1 "colors_in" ["lines"] G_colors_in) : FnOk P w c.K mg base (L2.CX P w) 2 f fd ["self"] (spG c G_State_colors) :=
  fn_ok Fu sc_State_colors fun cdv A outer s H E hr tk => have n := Cn.fn rfl sc_State_colors hr tk; (s_cons (s_ret (x_call n C_colors_in (x_cons (x_attr n T.at_s_lines (x_var 0 n (.inl rfl))) l_nil)))
  s_nil)
abbrev s__law_are_strands : Stmt := top 28
theorem sc__law_are_strands : FnScope ["_law_thing", "_law_each", "_law_hue"] ["_law_thing"] (defScope s__law_are_strands) := ⟨rfl, rfl, rfl, by decide +kernel, rfl, by decide +kernel, by decide +kernel⟩
theorem ok__law_are_strands {f : Addr} {fd : FuncData} (Fu : Fun c.K "_law_are_strands" "_law_are_strands" s__law_are_strands f fd) (T : Tx c mg) (C__law_is_hue : Cal c P w c.K mg base 1 "_law_is_hue" ["_law_thing"] G__law_is_hue) : FnOk P w c.K mg base (L2.CX P w) 2 f fd ["_law_thing"] (spG c G__law_are_strands) :=
  fn_ok Fu sc__law_are_strands fun cdv A outer s H E hr tk => have n := Cn.fn rfl sc__law_are_strands hr tk; (s_cons (s_if (w_or (t_not (y_val (x_isi2 n T.kl T.is_list (.ty "list") T.is_tuple (.ty "tuple") (x_var 0 n (.inl rfl)) (x_ty n T.n_list boot_list) (x_ty n T.n_tuple boot_tuple) T.n_isinstance))) (w_or1 (t_not (y_chn n e_int (x_len n T.n_len (x_cons (x_var 0 n (.inl rfl)) l_nil)) e_int)))).pt (s_cons (s_ret e_bl)
  s_nil) s_nil)
  (s_cons (z_kl [] [1] (z_for (own := [1]) n (passes_of rfl) (x_wk n (x_var 0 n (.inl rfl)) (pi_str (x_var 0 n (.inl rfl)))) (pg_name n.nd rfl (.inl rfl) (.inl rfl)) (g_nm (by decide)) (z_kls [] [1] (s_cons (s_if (w_or (t_not (y_val (x_isi n T.kl T.is_tuple (.ty "tuple") (x_var 1 n (.inl rfl)) (x_ty n T.n_tuple boot_tuple) T.n_isinstance))) (w_or (y_cmp n (x_var 1 n (.inl rfl)) (e_tup l_nil)) (w_or1 (y_cmp n (x_lc (own := [("_law_hue", 2)]) n (x_wk n (x_var 1 n (.inl rfl)) (pi_str (x_var 1 n (.inl rfl)))) (g_nm (by decide)) (by rfl) (fun _ _ _ _ _ => (pg_name (n.blk).nd rfl (.inl rfl) (.inr rfl))) (fun _ _ _ _ _ => (a_oneT (t_not (y_val (x_call (n.blk) C__law_is_hue (x_cons (x_var 2 (n.blk) (.inl rfl)) l_nil)))))) (fun _ _ _ _ _ => (x_var 2 (n.blk) (.inl rfl)))) (e_lst l_nil))))).pt (s_cons (s_ret e_bl)
  s_nil) s_nil)
  s_nil))))
  (s_cons (s_ret (x_cmp n (x_sum n T.n_sum (x_cons (x_lc (own := [("_law_each", 1)]) n (x_wk n (x_var 0 n (.inl rfl)) (pi_str (x_var 0 n (.inl rfl)))) (g_nm (by decide)) (by rfl) (fun _ _ _ _ _ => (pg_name (n.blk).nd rfl (.inl rfl) (.inr rfl))) (fun _ _ _ _ _ => a_nilT) (fun _ _ _ _ _ => (x_len (n.blk) T.n_len (x_cons (x_var 1 (n.blk) (.inl rfl)) l_nil)))) l_nil)) e_int))
  s_nil)))
abbrev s__law_take : Stmt := top 17
theorem sc__law_take : FnScope ["_law_draw", "_law_total", "_law_found"] ["_law_draw", "_law_total"] (defScope s__law_take) := ⟨rfl, rfl, rfl, by decide +kernel, rfl, by decide +kernel, by decide +kernel⟩
theorem ok__law_take {f : Addr} {fd : FuncData} (Fu : Fun c.K "_law_take" "_law_take" s__law_take f fd) (T : Tx c mg) (C__law_mixed : Cal c P w c.K mg base 1 "_law_mixed" ["_law_draw"] G__law_mixed) : FnOk P w c.K mg base (L2.CX P w) 2 f fd ["_law_draw", "_law_total"] (spG c G__law_take) :=
  fn_ok Fu sc__law_take fun cdv A outer s H E hr tk => have n := Cn.fn rfl sc__law_take hr tk; (s_cons (s_if (y_cmp n (x_drg false n (x_var 0 n (.inl rfl))) e_int) (s_cons (z_drs false 0 n (e_ite (y_drn n (x_var 0 n (.inl rfl))) (x_drp n (x_var 0 n (.inl rfl))) (x_call n C__law_mixed (x_cons (x_var 0 n (.inl rfl)) l_nil))) (.inl rfl))
  s_nil) s_nil)
  (s_cons (z_set 2 n (x_bin (bin_mod) (x_int n T.n_int (x_cons (x_drg false n (x_var 0 n (.inl rfl))) l_nil)) (x_var 1 n (.inl rfl))) (.inl rfl))
  (s_cons (z_drs false 0 n (x_bin (bin_div) (x_drg false n (x_var 0 n (.inl rfl))) (x_var 1 n (.inl rfl))) (.inl rfl))
  (s_cons (s_ret (x_var 2 n (.inl rfl)))
  s_nil))))
abbrev s_is_thread : Stmt := top 9
theorem sc_is_thread : FnScope ["value", "color"] ["value"] (defScope s_is_thread) := ⟨rfl, rfl, rfl, by decide +kernel, rfl, by decide +kernel, by decide +kernel⟩
theorem ok_is_thread {f : Addr} {fd : FuncData} (Fu : Fun c.K "is_thread" "is_thread" s_is_thread f fd) (T : Tx c mg) (C_is_color : Cal c P w c.K mg base 1 "is_color" ["value"] G_is_color) : FnOk P w c.K mg base (L2.CX P w) 2 f fd ["value"] (spG c G_is_thread) :=
  fn_ok Fu sc_is_thread fun cdv A outer s H E hr tk => have n := Cn.fn rfl sc_is_thread hr tk; (s_cons (s_ret (e_and (x_isi n T.kl T.is_tuple (.ty "tuple") (x_var 0 n (.inl rfl)) (x_ty n T.n_tuple boot_tuple) T.n_isinstance) (e_and (x_cmp n (x_len n T.n_len (x_cons (x_var 0 n (.inl rfl)) l_nil)) e_int) (x_one (x_all n T.n_all (x_cons (x_lc (own := [("color", 1)]) n (x_wk n (x_var 0 n (.inl rfl)) (pi_str (x_var 0 n (.inl rfl)))) (g_nm (by decide)) (by rfl) (fun _ _ _ _ _ => (pg_name (n.blk).nd rfl (.inl rfl) (.inr rfl))) (fun _ _ _ _ _ => a_nilT) (fun _ _ _ _ _ => (x_call (n.blk) C_is_color (x_cons (x_var 1 (n.blk) (.inl rfl)) l_nil)))) l_nil))))))
  s_nil)
abbrev s__law_pick : Stmt := top 18
theorem sc__law_pick : FnScope ["_law_draw", "_law_some"] ["_law_draw", "_law_some"] (defScope s__law_pick) := ⟨rfl, rfl, rfl, by decide +kernel, rfl, by decide +kernel, by decide +kernel⟩
theorem ok__law_pick {f : Addr} {fd : FuncData} (Fu : Fun c.K "_law_pick" "_law_pick" s__law_pick f fd) (T : Tx c mg) (C__law_take : Cal c P w c.K mg base 2 "_law_take" ["_law_draw", "_law_total"] G__law_take) : FnOk P w c.K mg base (L2.CX P w) 3 f fd ["_law_draw", "_law_some"] (spG c G__law_pick) :=
  fn_ok Fu sc__law_pick fun cdv A outer s H E hr tk => have n := Cn.fn rfl sc__law_pick hr tk; (s_cons (s_ret (x_ix n (x_var 1 n (.inl rfl)) (x_call n C__law_take (x_cons (x_var 0 n (.inl rfl)) (x_cons (x_len n T.n_len (x_cons (x_var 1 n (.inl rfl)) l_nil)) l_nil)))))
  s_nil)
abbrev s__law_shuffled : Stmt := top 19
theorem sc__law_shuffled : FnScope ["_law_draw", "_law_some", "_law_left", "_law_found"] ["_law_draw", "_law_some"] (defScope s__law_shuffled) := ⟨rfl, rfl, rfl, by decide +kernel, rfl, by decide +kernel, by decide +kernel⟩
theorem ok__law_shuffled {f : Addr} {fd : FuncData} (Fu : Fun c.K "_law_shuffled" "_law_shuffled" s__law_shuffled f fd) (T : Tx c mg) (C__law_take : Cal c P w c.K mg base 2 "_law_take" ["_law_draw", "_law_total"] G__law_take) : FnOk P w c.K mg base (L2.CX P w) 3 f fd ["_law_draw", "_law_some"] (spG c G__law_shuffled) :=
  fn_ok Fu sc__law_shuffled fun cdv A outer s H E hr tk => have n := Cn.fn rfl sc__law_shuffled hr tk; (s_cons (z_par 2 3 n (x_cons (x_list n T.n_list (x_cons (x_var 1 n (.inl rfl)) l_nil)) (x_cons (e_lst l_nil) l_nil)))
  (s_cons (s_while (passes_of rfl) (y_cmp n (x_var 2 n (.inl rfl)) (e_lst l_nil)) (s_cons (z_popp 3 2 n (x_cons (x_call n C__law_take (x_cons (x_var 0 n (.inl rfl)) (x_cons (x_len n T.n_len (x_cons (x_var 2 n (.inl rfl)) l_nil)) l_nil))) l_nil) (.inl rfl) (.inl rfl))
  s_nil))
  (s_cons (s_ret (x_var 3 n (.inl rfl)))
  s_nil)))
abbrev s_are_threads : Stmt := top 11
theorem sc_are_threads : FnScope ["value", "line"] ["value"] (defScope s_are_threads) := ⟨rfl, rfl, rfl, by decide +kernel, rfl, by decide +kernel, by decide +kernel⟩
theorem ok_are_threads {f : Addr} {fd : FuncData} (Fu : Fun c.K "are_threads" "are_threads" s_are_threads f fd) (T : Tx c mg) (C_beads_in : Cal c P w c.K mg base 1 "beads_in" ["lines"] G_beads_in) (C_is_thread : Cal c P w c.K mg base 2 "is_thread" ["value"] G_is_thread) : FnOk P w c.K mg base (L2.CX P w) 3 f fd ["value"] (spG c G_are_threads) :=
  fn_ok Fu sc_are_threads fun cdv A outer s H E hr tk => have n := Cn.fn rfl sc_are_threads hr tk; (s_cons (s_if (w_or (t_not (y_val (x_isi2 n T.kl T.is_list (.ty "list") T.is_tuple (.ty "tuple") (x_var 0 n (.inl rfl)) (x_ty n T.n_list boot_list) (x_ty n T.n_tuple boot_tuple) T.n_isinstance))) (w_or1 (t_not (y_chn n e_int (x_len n T.n_len (x_cons (x_var 0 n (.inl rfl)) l_nil)) (x_gl n T.g_MOST_THREADS (fun _ => .int _)))))).pt (s_cons (s_ret e_bl)
  s_nil) s_nil)
  (s_cons (s_ret (e_and (x_all n T.n_all (x_cons (x_lc (own := [("line", 1)]) n (x_wk n (x_var 0 n (.inl rfl)) (pi_str (x_var 0 n (.inl rfl)))) (g_nm (by decide)) (by rfl) (fun _ _ _ _ _ => (pg_name (n.blk).nd rfl (.inl rfl) (.inr rfl))) (fun _ _ _ _ _ => a_nilT) (fun _ _ _ _ _ => (x_call (n.blk) C_is_thread (x_cons (x_var 1 (n.blk) (.inl rfl)) l_nil)))) l_nil)) (x_one (x_cmp n (x_call n C_beads_in (x_cons (x_var 0 n (.inl rfl)) l_nil)) (x_gl n T.g_MOST_BEADS (fun _ => .int _))))))
  s_nil))
abbrev s_State___init__ : Stmt := inClass (top 13) 0
theorem sc_State___init__ : FnScope ["self", "threads"] ["self", "threads"] (defScope s_State___init__) := ⟨rfl, rfl, rfl, by decide +kernel, rfl, by decide +kernel, by decide +kernel⟩
theorem ok_State___init__ {f C : Addr} {fd : FuncData} (Fu : Fun c.K "__init__" "State.__init__" s_State___init__ f fd) (T : Tx c mg) (C_are_threads : Cal c P w c.K mg base 3 "are_threads" ["value"] G_are_threads) : FnOk P w c.K mg base (L2.CX P w) 4 f fd ["self", "threads"] (spI c "State" C GI_State) :=
  init_ok Fu sc_State___init__ fun cdv A outer s H E hr tk => have n := Cn.fn rfl sc_State___init__ hr tk; (s_cons (s_if (t_not (y_val (x_call n C_are_threads (x_cons (x_var 1 n (.inl rfl)) l_nil)))) (s_cons (z_raise n T.r_NoState)
  s_nil) s_nil)
  (s_cons (z_fld 0 n T.at_s_lines (x_tuple n T.n_tuple (x_cons (x_var 1 n (.inl rfl)) l_nil)) (.inl rfl))
  s_nil))
abbrev s__law_bent : Stmt := top 29
theorem sc__law_bent : FnScope ["_law_draw", "_law_strands", "_law_found", "_law_spot", "_law_sort", "_law_at", "_law_hue"] ["_law_draw", "_law_strands"] (defScope s__law_bent) := ⟨rfl, rfl, rfl, by decide +kernel, rfl, by decide +kernel, by decide +kernel⟩
theorem ok__law_bent {f : Addr} {fd : FuncData} (Fu : Fun c.K "_law_bent" "_law_bent" s__law_bent f fd) (T : Tx c mg) (C__law_pick : Cal c P w c.K mg base 3 "_law_pick" ["_law_draw", "_law_some"] G__law_pick) (C__law_take : Cal c P w c.K mg base 2 "_law_take" ["_law_draw", "_law_total"] G__law_take) : FnOk P w c.K mg base (L2.CX P w) 4 f fd ["_law_draw", "_law_strands"] (spG c G__law_bent) :=
  fn_ok Fu sc__law_bent fun cdv A outer s H E hr tk => have n := Cn.fn rfl sc__law_bent hr tk; (s_cons (z_par3 2 3 4 n (x_cons (x_list n T.n_list (x_cons (x_var 1 n (.inl rfl)) l_nil)) (x_cons (x_call n C__law_take (x_cons (x_var 0 n (.inl rfl)) (x_cons (x_len n T.n_len (x_cons (x_var 1 n (.inl rfl)) l_nil)) l_nil))) (x_cons (x_call n C__law_take (x_cons (x_var 0 n (.inl rfl)) (x_cons e_int l_nil))) l_nil))))
  (s_cons (z_set 5 n (x_call n C__law_take (x_cons (x_var 0 n (.inl rfl)) (x_cons (x_len n T.n_len (x_cons (x_ix n (x_var 2 n (.inl rfl)) (x_var 3 n (.inl rfl))) l_nil)) l_nil))) (.inl rfl))
  (s_cons (z_set 6 n (x_call n C__law_pick (x_cons (x_var 0 n (.inl rfl)) (x_cons (e_lst (x_cons e_str (x_cons e_str (x_cons e_str (x_cons e_str (x_cons e_non (x_cons e_int (x_cons e_bl (x_cons (e_tup (x_cons e_str l_nil)) (x_cons e_str (x_cons e_str l_nil))))))))))) l_nil))) (.inl rfl))
  (s_cons (s_if (y_cmp n (x_var 4 n (.inl rfl)) e_int) (s_cons (z_setix 2 n (x_var 3 n (.inl rfl)) (x_bin (bin_add n.hk) (x_bin (bin_add n.hk) (x_sl n (x_ix n (x_var 2 n (.inl rfl)) (x_var 3 n (.inl rfl))) o_none (o_some (x_var 5 n (.inl rfl)))) (e_tup (x_cons (x_var 6 n (.inl rfl)) l_nil))) (x_sl n (x_ix n (x_var 2 n (.inl rfl)) (x_var 3 n (.inl rfl))) (o_some (x_bin (bin_add n.hk) (x_var 5 n (.inl rfl)) (x_bin (bin_mod) (x_var 4 n (.inl rfl)) e_int))) o_none)) (.inl rfl))
  s_nil) (s_cons (s_if (y_cmp n (x_var 4 n (.inl rfl)) e_int) (s_cons (z_setix 2 n (x_var 3 n (.inl rfl)) (x_call n C__law_pick (x_cons (x_var 0 n (.inl rfl)) (x_cons (e_lst (x_cons (e_tup l_nil) (x_cons (x_list n T.n_list (x_cons (x_ix n (x_var 2 n (.inl rfl)) (x_var 3 n (.inl rfl))) l_nil)) (x_cons e_str (x_cons e_non (x_cons (x_sl n (x_ix n (x_var 2 n (.inl rfl)) (x_var 3 n (.inl rfl))) (o_some (x_var 5 n (.inl rfl))) o_none) l_nil)))))) l_nil))) (.inl rfl))
  s_nil) (s_cons (s_if (y_cmp n (x_var 4 n (.inl rfl)) e_int) (s_cons (z_set 2 n (x_sl n (x_bin (bin_mul n.hk) (x_var 2 n (.inl rfl)) e_int) o_none (o_some (x_bin (bin_add n.hk) e_int (x_call n C__law_take (x_cons (x_var 0 n (.inl rfl)) (x_cons e_int l_nil)))))) (.inl rfl))
  s_nil) (s_cons (s_if (y_cmp n (x_var 4 n (.inl rfl)) e_int) (s_cons (z_setix 2 n (x_var 3 n (.inl rfl)) (x_sl n (x_bin (bin_mul n.hk) (x_ix n (x_var 2 n (.inl rfl)) (x_var 3 n (.inl rfl))) e_int) o_none (o_some (x_bin (bin_add n.hk) e_int (x_call n C__law_take (x_cons (x_var 0 n (.inl rfl)) (x_cons e_int l_nil)))))) (.inl rfl))
  s_nil) (s_cons (s_if (y_cmp n (x_var 4 n (.inl rfl)) e_int) (s_cons (s_ret (x_call n C__law_pick (x_cons (x_var 0 n (.inl rfl)) (x_cons (e_lst (x_cons (x_tuple n T.n_tuple (x_cons (x_var 2 n (.inl rfl)) l_nil)) (x_cons (x_dicHead (i := 2) rfl (.inl rfl) (by decide) (by decide)) (x_cons (x_ix n (x_var 2 n (.inl rfl)) (x_var 3 n (.inl rfl))) (x_cons e_str (x_cons (e_lst l_nil) l_nil)))))) l_nil))))
  s_nil) (s_cons (z_set 2 n (x_bin (bin_add n.hk) (x_sl n (x_var 2 n (.inl rfl)) o_none (o_some (x_var 3 n (.inl rfl)))) (x_sl n (x_var 2 n (.inl rfl)) (o_some (x_bin (bin_add n.hk) (x_var 3 n (.inl rfl)) e_int)) o_none)) (.inl rfl))
  s_nil))
  s_nil))
  s_nil))
  s_nil))
  s_nil))
  (s_cons (s_ret (x_var 2 n (.inl rfl)))
  s_nil)))))
abbrev s__law_hues : Stmt := top 22
theorem sc__law_hues : FnScope ["_law_draw", "_law_many"] ["_law_draw", "_law_many"] (defScope s__law_hues) := ⟨rfl, rfl, rfl, by decide +kernel, rfl, by decide +kernel, by decide +kernel⟩
theorem ok__law_hues {f : Addr} {fd : FuncData} (Fu : Fun c.K "_law_hues" "_law_hues" s__law_hues f fd) (T : Tx c mg) (C__law_shuffled : Cal c P w c.K mg base 3 "_law_shuffled" ["_law_draw", "_law_some"] G__law_shuffled) : FnOk P w c.K mg base (L2.CX P w) 4 f fd ["_law_draw", "_law_many"] (spG c G__law_hues) :=
  fn_ok Fu sc__law_hues fun cdv A outer s H E hr tk => have n := Cn.fn rfl sc__law_hues hr tk; (s_cons (s_ret (x_sl n (x_call n C__law_shuffled (x_cons (x_var 0 n (.inl rfl)) (x_cons (e_lst (x_cons e_str (x_cons e_str (x_cons e_str (x_cons e_str (x_cons e_str (x_cons e_str (x_cons e_str (x_cons e_str (x_cons e_str (x_cons e_str (x_cons e_str (x_cons e_str l_nil))))))))))))) l_nil))) o_none (o_some (x_var 1 n (.inl rfl)))))
  s_nil)
abbrev s__law_lines : Stmt := top 23
theorem sc__law_lines : FnScope ["_law_draw", "_law_hues_here", "_law_most", "_law_beads", "_law_many", "_law_found", "_law_lap", "_law_spot"] ["_law_draw", "_law_hues_here", "_law_most", "_law_beads"] (defScope s__law_lines) := ⟨rfl, rfl, rfl, by decide +kernel, rfl, by decide +kernel, by decide +kernel⟩
theorem ok__law_lines {f : Addr} {fd : FuncData} (Fu : Fun c.K "_law_lines" "_law_lines" s__law_lines f fd) (T : Tx c mg) (C__law_pick : Cal c P w c.K mg base 3 "_law_pick" ["_law_draw", "_law_some"] G__law_pick) (C__law_take : Cal c P w c.K mg base 2 "_law_take" ["_law_draw", "_law_total"] G__law_take) : FnOk P w c.K mg base (L2.CX P w) 4 f fd ["_law_draw", "_law_hues_here", "_law_most", "_law_beads"] (spG c G__law_lines) :=
  fn_ok Fu sc__law_lines fun cdv A outer s H E hr tk => have n := Cn.fn rfl sc__law_lines hr tk; (s_cons (z_set 4 n (x_bin (bin_add n.hk) e_int (x_call n C__law_take (x_cons (x_var 0 n (.inr (.inl rfl))) (x_cons (x_var 2 n (.inl rfl)) l_nil)))) (.inl rfl))
  (s_cons (z_setLc 5 (own := [("_law_lap", 6)]) n (x_rng1 n T.n_range (x_cons (x_var 4 n (.inl rfl)) l_nil)) (g_nm (by decide)) (by rfl) (fun _ _ _ _ _ => (pg_name (n.blk).nd rfl (.inl rfl) (.inr rfl))) (fun _ _ _ _ _ => a_nilT) (fun _ _ _ _ _ => (e_tup (x_cons (x_call (n.blk) C__law_pick (x_cons (x_var 0 (n.blk) (.inr (.inl rfl))) (x_cons (x_var 1 (n.blk) (.inr (.inl rfl))) l_nil))) l_nil))))
  (s_cons (z_for (own := [6]) n (passes_of rfl) (x_rng1 n T.n_range (x_cons (x_call n C__law_take (x_cons (x_var 0 n (.inr (.inl rfl))) (x_cons (x_bin (bin_add n.hk) (x_bin (bin_sub) (x_var 3 n (.inl rfl)) (x_var 4 n (.inl rfl))) e_int) l_nil))) l_nil)) (pg_name n.nd rfl (.inl rfl) (.inl rfl)) (g_nm (by decide)) (s_cons (z_set 7 n (x_call n C__law_take (x_cons (x_var 0 n (.inr (.inl rfl))) (x_cons (x_var 4 n (.inl rfl)) l_nil))) (.inl rfl))
  (s_cons (z_setix 5 n (x_var 7 n (.inl rfl)) (x_bin (bin_add n.hk) (x_ix n (x_var 5 n (.inl rfl)) (x_var 7 n (.inl rfl))) (e_tup (x_cons (x_call n C__law_pick (x_cons (x_var 0 n (.inr (.inl rfl))) (x_cons (x_var 1 n (.inr (.inl rfl))) l_nil))) l_nil))) (.inl rfl))
  s_nil)))
  (s_cons (s_ret (x_var 5 n (.inl rfl)))
  s_nil))))
abbrev s__law_odd : Stmt := top 21
theorem sc__law_odd : FnScope ["_law_draw", "_law_some"] ["_law_draw"] (defScope s__law_odd) := ⟨rfl, rfl, rfl, by decide +kernel, rfl, by decide +kernel, by decide +kernel⟩
theorem ok__law_odd {f : Addr} {fd : FuncData} (Fu : Fun c.K "_law_odd" "_law_odd" s__law_odd f fd) (T : Tx c mg) (C__law_pick : Cal c P w c.K mg base 3 "_law_pick" ["_law_draw", "_law_some"] G__law_pick) : FnOk P w c.K mg base (L2.CX P w) 4 f fd ["_law_draw"] (spG c G__law_odd) :=
  fn_ok Fu sc__law_odd fun cdv A outer s H E hr tk => have n := Cn.fn rfl sc__law_odd hr tk; (s_cons (z_set 1 n (e_lst (x_cons e_non (x_cons e_bl (x_cons e_bl (x_cons (e_neg e_int) (x_cons (x_bin (bin_pow) e_int e_int) (x_cons e_str (x_cons e_str (x_cons e_str (x_cons e_str (x_cons (e_tup l_nil) (x_cons (e_lst l_nil) (x_cons e_dic0 (x_cons (e_tup (x_cons e_str l_nil)) (x_cons (e_tup (x_cons e_str l_nil)) (x_cons (e_tup (x_cons e_str (x_cons e_int l_nil))) l_nil)))))))))))))))) (.inl rfl))
  (s_cons (s_ret (x_call n C__law_pick (x_cons (x_var 0 n (.inl rfl)) (x_cons (x_bin (bin_add n.hk) (x_var 1 n (.inl rfl)) (e_lst (x_cons (e_tup (x_cons e_non l_nil)) (x_cons (e_lst (x_cons e_str l_nil)) (x_cons e_dic1 (x_cons (e_tup (x_cons (e_tup l_nil) l_nil)) (x_cons (e_lst (x_cons (e_tup l_nil) l_nil)) (x_cons (e_lst (x_cons (e_tup (x_cons e_str (x_cons e_str l_nil))) l_nil)) (x_cons e_str (x_cons (e_tup (x_cons e_str (x_cons (e_tup (x_cons e_str l_nil)) l_nil))) (x_cons (e_lst (x_cons e_str l_nil)) l_nil))))))))))) l_nil))))
  s_nil))
abbrev s__law_sealed_lines : Stmt := top 24
theorem sc__law_sealed_lines : FnScope ["_law_draw", "_law_beads", "_law_found", "_law_lots", "_law_spot", "_law_room", "_law_run", "_law_at", "_law_lap", "_law_strand"] ["_law_draw", "_law_beads"] (defScope s__law_sealed_lines) := ⟨rfl, rfl, rfl, by decide +kernel, rfl, by decide +kernel, by decide +kernel⟩
theorem ok__law_sealed_lines {f : Addr} {fd : FuncData} (Fu : Fun c.K "_law_sealed_lines" "_law_sealed_lines" s__law_sealed_lines f fd) (T : Tx c mg) (C__law_lines : Cal c P w c.K mg base 4 "_law_lines" ["_law_draw", "_law_hues_here", "_law_most", "_law_beads"] G__law_lines) (C__law_pick : Cal c P w c.K mg base 3 "_law_pick" ["_law_draw", "_law_some"] G__law_pick) (C__law_take : Cal c P w c.K mg base 2 "_law_take" ["_law_draw", "_law_total"] G__law_take) : FnOk P w c.K mg base (L2.CX P w) 5 f fd ["_law_draw", "_law_beads"] (spG c G__law_sealed_lines) :=
  fn_ok Fu sc__law_sealed_lines fun cdv A outer s H E hr tk => have n := Cn.fn rfl sc__law_sealed_lines hr tk; (s_cons (z_set 2 n (x_call n C__law_lines (x_cons (x_var 0 n (.inr (.inl rfl))) (x_cons (e_lst (x_cons e_str (x_cons e_str (x_cons e_str l_nil)))) (x_cons e_int (x_cons (x_bin (bin_div) (x_var 1 n (.inl rfl)) e_int) l_nil))))) (.inl rfl))
  (s_cons (z_for (own := [3]) n (passes_of rfl) (x_wk n (e_lst (x_cons (e_lst (x_cons e_str (x_cons e_str l_nil))) (x_cons (e_lst (x_cons e_str (x_cons e_str (x_cons e_str l_nil)))) l_nil))) (pi_str (e_lst (x_cons (e_lst (x_cons e_str (x_cons e_str l_nil))) (x_cons (e_lst (x_cons e_str (x_cons e_str (x_cons e_str l_nil)))) l_nil))))) (pg_name n.nd rfl (.inr rfl) (.inl rfl)) (g_nm (by decide)) (s_cons (z_par 4 5 n (x_cons (x_call n C__law_take (x_cons (x_var 0 n (.inr (.inl rfl))) (x_cons (x_len n T.n_len (x_cons (x_var 2 n (.inl rfl)) l_nil)) l_nil))) (x_cons (x_bin (bin_sub) (x_var 1 n (.inl rfl)) (x_sum n T.n_sum (x_cons (x_lc (own := [("_law_strand", 9)]) n (x_wk n (x_var 2 n (.inl rfl)) (pi_str (x_var 2 n (.inl rfl)))) (g_nm (by decide)) (by rfl) (fun _ _ _ _ _ => (pg_name (n.blk).nd rfl (.inl rfl) (.inr rfl))) (fun _ _ _ _ _ => a_nilT) (fun _ _ _ _ _ => (x_len (n.blk) T.n_len (x_cons (x_var 9 (n.blk) (.inl rfl)) l_nil)))) l_nil))) l_nil)))
  (s_cons (z_set 6 n (x_tuple n T.n_tuple (x_cons (x_lc (own := [("_law_lap", 8)]) n (x_rng1 n T.n_range (x_cons (x_call n C__law_take (x_cons (x_var 0 n (.inr (.inl rfl))) (x_cons (x_max n T.n_max (x_cons (x_bin (bin_div) (x_var 5 n (.inl rfl)) e_int) (x_cons e_int l_nil))) l_nil))) l_nil)) (g_nm (by decide)) (by rfl) (fun _ _ _ _ _ => (pg_name (n.blk).nd rfl (.inl rfl) (.inr rfl))) (fun _ _ _ _ _ => a_nilT) (fun _ _ _ _ _ => (x_call (n.blk) C__law_pick (x_cons (x_var 0 (n.blk) (.inr (.inl rfl))) (x_cons (x_var 3 (n.blk) (.inr (.inl rfl))) l_nil))))) l_nil)) (.inl rfl))
  (s_cons (z_set 7 n (x_bin (bin_add n.hk) e_int (x_call n C__law_take (x_cons (x_var 0 n (.inr (.inl rfl))) (x_cons (x_len n T.n_len (x_cons (x_ix n (x_var 2 n (.inl rfl)) (x_var 4 n (.inl rfl))) l_nil)) l_nil)))) (.inl rfl))
  (s_cons (z_setix 2 n (x_var 4 n (.inl rfl)) (x_bin (bin_add n.hk) (x_bin (bin_add n.hk) (x_sl n (x_ix n (x_var 2 n (.inl rfl)) (x_var 4 n (.inl rfl))) o_none (o_some (x_var 7 n (.inl rfl)))) (x_var 6 n (.inl rfl))) (x_sl n (x_ix n (x_var 2 n (.inl rfl)) (x_var 4 n (.inl rfl))) (o_some (x_var 7 n (.inl rfl))) o_none)) (.inl rfl))
  s_nil)))))
  (s_cons (s_ret (x_var 2 n (.inl rfl)))
  s_nil)))
abbrev s__law_some_lines : Stmt := top 25
theorem sc__law_some_lines : FnScope ["_law_draw", "_law_beads"] ["_law_draw", "_law_beads"] (defScope s__law_some_lines) := ⟨rfl, rfl, rfl, by decide +kernel, rfl, by decide +kernel, by decide +kernel⟩
theorem ok__law_some_lines {f : Addr} {fd : FuncData} (Fu : Fun c.K "_law_some_lines" "_law_some_lines" s__law_some_lines f fd) (T : Tx c mg) (C__law_hues : Cal c P w c.K mg base 4 "_law_hues" ["_law_draw", "_law_many"] G__law_hues) (C__law_lines : Cal c P w c.K mg base 4 "_law_lines" ["_law_draw", "_law_hues_here", "_law_most", "_law_beads"] G__law_lines) (C__law_sealed_lines : Cal c P w c.K mg base 5 "_law_sealed_lines" ["_law_draw", "_law_beads"] G__law_sealed_lines) (C__law_take : Cal c P w c.K mg base 2 "_law_take" ["_law_draw", "_law_total"] G__law_take) : FnOk P w c.K mg base (L2.CX P w) 6 f fd ["_law_draw", "_law_beads"] (spG c G__law_some_lines) :=
  fn_ok Fu sc__law_some_lines fun cdv A outer s H E hr tk => have n := Cn.fn rfl sc__law_some_lines hr tk; (s_cons (s_if (y_cmp n (x_call n C__law_take (x_cons (x_var 0 n (.inl rfl)) (x_cons e_int l_nil))) e_int) (s_cons (s_ret (x_call n C__law_sealed_lines (x_cons (x_var 0 n (.inl rfl)) (x_cons (x_var 1 n (.inl rfl)) l_nil))))
  s_nil) s_nil)
  (s_cons (s_ret (x_call n C__law_lines (x_cons (x_var 0 n (.inl rfl)) (x_cons (x_call n C__law_hues (x_cons (x_var 0 n (.inl rfl)) (x_cons (x_bin (bin_add n.hk) e_int (x_call n C__law_take (x_cons (x_var 0 n (.inl rfl)) (x_cons e_int l_nil)))) l_nil))) (x_cons e_int (x_cons (x_var 1 n (.inl rfl)) l_nil))))))
  s_nil))
abbrev s__law_told_right : Stmt := top 30
theorem sc__law_told_right : FnScope ["_law_strands", "_law_given", "_law_house", "_law_hues_here", "_law_many", "_law_others", "_law_each"] ["_law_strands"] (defScope s__law_told_right) := ⟨rfl, rfl, rfl, by decide +kernel, rfl, by decide +kernel, by decide +kernel⟩
theorem ok__law_told_right {f : Addr} {fd : FuncData} (Fu : Fun c.K "_law_told_right" "_law_told_right" s__law_told_right f fd) (T : Tx c mg) (M_State___eq__ : OwnEq c P w mg base 1 "State" ["self", "other"] G_State___eq__) (M_State___len__ : Mth c P w mg base 1 "State" "__len__" ["self"] G_State___len__) (M_State_colors : Mth c P w mg base 2 "State" "colors" ["self"] G_State_colors) (M_State_threads : Mth c P w mg base 1 "State" "threads" ["self"] G_State_threads) (M_State : Mak c P w mg base 4 "State" ["self", "threads"] G_State) (C__law_all_hues : Cal c P w c.K mg base 1 "_law_all_hues" ["_law_strands"] G__law_all_hues) (MK_State_0 : MakK c P w mg base 4 "State" ["self", "threads"] ["threads"] [0] G_State) : FnOk P w c.K mg base (L2.CX P w) 6 f fd ["_law_strands"] (spG c G__law_told_right) :=
  fn_ok Fu sc__law_told_right fun cdv A outer s H E hr tk => have n := Cn.fn rfl sc__law_told_right hr tk; (s_cons (z_set 1 n (x_list n T.n_list (x_cons (x_var 0 n (.inr (.inl rfl))) l_nil)) (.inl rfl))
  (s_cons (z_set 2 n (x_makek n MK_State_0 (k_cons (x_var 1 n (.inl rfl)) k_nil)) (.inr rfl))
  (s_cons (z_app 1 n (e_tup (x_cons e_str l_nil)) (.inl rfl))
  (s_cons (z_par 3 4 n (x_cons (x_call n C__law_all_hues (x_cons (x_var 0 n (.inr (.inl rfl))) l_nil)) (x_cons (x_sum n T.n_sum (x_cons (x_lc (own := [("_law_each", 6)]) n (x_wk n (x_var 0 n (.inr (.inl rfl))) (pi_str (x_var 0 n (.inr (.inl rfl))))) (g_nm (by decide)) (by rfl) (fun _ _ _ _ _ => (pg_name (n.blk).nd rfl (.inl rfl) (.inr rfl))) (fun _ _ _ _ _ => a_nilT) (fun _ _ _ _ _ => (x_len (n.blk) T.n_len (x_cons (x_var 6 (n.blk) (.inl rfl)) l_nil)))) l_nil)) l_nil)))
  (s_cons (s_if (y_cmp n (e_lst (x_cons (x_mth0 n M_State_threads (x_var 2 n (.inr (.inl rfl)))) (x_cons (x_mth0 n M_State_colors (x_var 2 n (.inr (.inl rfl)))) (x_cons (x_lenOwn n M_State___len__ T.n_len (x_cons (x_var 2 n (.inr (.inl rfl))) l_nil)) l_nil)))) (e_lst (x_cons (x_list n T.n_list (x_cons (x_var 0 n (.inr (.inl rfl))) l_nil)) (x_cons (x_var 3 n (.inl rfl)) (x_cons (x_var 4 n (.inl rfl)) l_nil))))) (s_cons (s_ret e_bl)
  s_nil) s_nil)
  (s_cons (z_set 5 n (e_lst (x_cons (x_revL n (x_list n T.n_list (x_cons (x_var 0 n (.inr (.inl rfl))) l_nil))) (x_cons (x_bin (bin_add n.hk) (x_sl n (x_list n T.n_list (x_cons (x_var 0 n (.inr (.inl rfl))) l_nil)) (o_some e_int) o_none) (x_sl n (x_list n T.n_list (x_cons (x_var 0 n (.inr (.inl rfl))) l_nil)) o_none (o_some e_int))) l_nil))) (.inl rfl))
  (s_cons (s_if (w_and (y_cmp n (x_len n T.n_len (x_cons (x_var 0 n (.inr (.inl rfl))) l_nil)) e_int) (w_and1 (y_cmp n (x_len n T.n_len (x_cons (x_ix n (x_var 0 n (.inr (.inl rfl))) e_int) l_nil)) e_int))).pt (s_cons (z_app 5 n (x_bin (bin_add n.hk) (e_lst (x_cons (x_sl n (x_ix n (x_var 0 n (.inr (.inl rfl))) e_int) o_none (o_some (e_neg e_int))) (x_cons (x_bin (bin_add n.hk) (x_sl n (x_ix n (x_var 0 n (.inr (.inl rfl))) e_int) (o_some (e_neg e_int)) o_none) (x_ix n (x_var 0 n (.inr (.inl rfl))) e_int)) l_nil))) (x_sl n (x_list n T.n_list (x_cons (x_var 0 n (.inr (.inl rfl))) l_nil)) (o_some e_int) o_none)) (.inl rfl))
  s_nil) s_nil)
  (s_cons (s_if (y_cmp n (x_lc (own := [("_law_each", 6)]) n (x_wk n (x_var 5 n (.inl rfl)) (pi_str (x_var 5 n (.inl rfl)))) (g_nm (by decide)) (by rfl) (fun _ _ _ _ _ => (pg_name (n.blk).nd rfl (.inl rfl) (.inr rfl))) (fun _ _ _ _ _ => (a_oneT (y_cmp (n.blk) (x_own (neg := false) (n.blk) M_State___eq__ (x_make (n.blk) M_State (x_cons (x_var 6 (n.blk) (.inl rfl)) l_nil)) (x_var 2 (n.blk) (.inr (.inl rfl)))) (x_cmp (n.blk) (x_var 6 (n.blk) (.inl rfl)) (x_list (n.blk) T.n_list (x_cons (x_var 0 (n.blk) (.inr (.inl rfl))) l_nil)))))) (fun _ _ _ _ _ => (x_var 6 (n.blk) (.inl rfl)))) (e_lst l_nil)) (s_cons (s_ret e_bl)
  s_nil) s_nil)
  (s_cons (z_tapp n (x_mth0 n M_State_threads (x_var 2 n (.inr (.inl rfl)))) e_non)
  (s_cons (z_tclr n (x_mth0 n M_State_colors (x_var 2 n (.inr (.inl rfl)))))
  (s_cons (s_if (w_or (y_cmp n (e_lst (x_cons (x_mth0 n M_State_threads (x_var 2 n (.inr (.inl rfl)))) (x_cons (x_mth0 n M_State_colors (x_var 2 n (.inr (.inl rfl)))) l_nil))) (e_lst (x_cons (x_list n T.n_list (x_cons (x_var 0 n (.inr (.inl rfl))) l_nil)) (x_cons (x_var 3 n (.inl rfl)) l_nil)))) (w_or1 (y_own (neg := true) n M_State___eq__ (x_var 2 n (.inr (.inl rfl))) (x_make n M_State (x_cons (x_tuple n T.n_tuple (x_cons (x_var 0 n (.inr (.inl rfl))) l_nil)) l_nil))))).pt (s_cons (s_ret e_bl)
  s_nil) s_nil)
  (s_cons (s_ret (e_and (x_ownA (neg := true) n T.kl M_State___eq__ (x_var 2 n (.inr (.inl rfl))) (x_list n T.n_list (x_cons (x_var 0 n (.inr (.inl rfl))) l_nil))) (e_and (e_not (x_ownA (neg := false) n T.kl M_State___eq__ (x_var 2 n (.inr (.inl rfl))) (x_tuple n T.n_tuple (x_cons (x_var 0 n (.inr (.inl rfl))) l_nil)))) (x_one (x_ownA (neg := true) n T.kl M_State___eq__ (x_var 2 n (.inr (.inl rfl))) e_non)))))
  s_nil))))))))))))
abbrev s_law : Stmt := top 31
theorem sc_law : FnScope ["_law_script", "_law_draw", "_law_turn", "_law_strands", "_law_thing", "_law_error", "_law_odd_here", "_law_letter", "_law_each"] ["_law_script"] (defScope s_law) := ⟨rfl, rfl, rfl, by decide +kernel, rfl, by decide +kernel, by decide +kernel⟩
theorem rest_law {fd : FuncData} (T : Tx c mg) (M_State___eq__ : OwnEq c P w mg base 1 "State" ["self", "other"] G_State___eq__) (M_State_colors : Mth c P w mg base 2 "State" "colors" ["self"] G_State_colors) (M_State : Mak c P w mg base 4 "State" ["self", "threads"] G_State) (C__law_are_strands : Cal c P w c.K mg base 2 "_law_are_strands" ["_law_thing"] G__law_are_strands) (C__law_bent : Cal c P w c.K mg base 4 "_law_bent" ["_law_draw", "_law_strands"] G__law_bent) (C__law_is_hue : Cal c P w c.K mg base 1 "_law_is_hue" ["_law_thing"] G__law_is_hue) (C__law_odd : Cal c P w c.K mg base 4 "_law_odd" ["_law_draw"] G__law_odd) (C__law_pick : Cal c P w c.K mg base 3 "_law_pick" ["_law_draw", "_law_some"] G__law_pick) (C__law_some_lines : Cal c P w c.K mg base 6 "_law_some_lines" ["_law_draw", "_law_beads"] G__law_some_lines) (C__law_told_right : Cal c P w c.K mg base 6 "_law_told_right" ["_law_strands"] G__law_told_right) (C_is_color : Cal c P w c.K mg base 1 "is_color" ["value"] G_is_color) (CK_is_color_0 : CalK c P w c.K mg base 1 "is_color" ["value"] ["value"] [0] G_is_color) (CF : CauF c mg "_law_caught" "_law_job" ["_law_job", "_law_found", "_law_error"] s__law_caught (He.ga c.K "ThreadError")) (TB : TbF c mg base "law" fd) {cdv : Value} {A : Around} {outer : List Env} {s : Shared} {H : Hp} {E : XK} {f : Addr} (hcd : fd.code = cdv) (hgd : A.guards = some []) (hr : Room 7 (A.deeper (envOfC "law" (defScope s_law) s.heap.objs.size f cdv)))
    (tk : Takes (cxOf (L2.CX P w) P w c.K mg base ["_law_script", "_law_draw", "_law_turn", "_law_strands", "_law_thing", "_law_error", "_law_odd_here", "_law_letter", "_law_each"] "law" (defScope s_law) f cdv A outer s H E) (fun cls dd _ H' => E cls dd H')) : PSs (cxOf (L2.CX P w) P w c.K mg base ["_law_script", "_law_draw", "_law_turn", "_law_strands", "_law_thing", "_law_error", "_law_odd_here", "_law_letter", "_law_each"] "law" (defScope s_law) f cdv A outer s H E) (defBody s_law).tail (rdS c (fun cls dd _ H' => E cls dd H') 1000000 B_law) :=
  have n := Cn.fn rfl sc_law hr tk; have LA := TB.at hcd; have GD : (cxOf (L2.CX P w) P w c.K mg base ["_law_script", "_law_draw", "_law_turn", "_law_strands", "_law_thing", "_law_error", "_law_odd_here", "_law_letter", "_law_each"] "law" (defScope s_law) f cdv A outer s H E).A.guards = some [] := hgd; (s_cons (z_kl [] [1, 8, 5, 7, 6, 0, 3, 4, 2] (z_for (own := [2]) n (passes_of rfl) (x_rng1 n T.n_range (x_cons (x_bin (bin_add n.hk) e_int (x_min n T.n_min (x_cons (x_len n T.n_len (x_cons (x_var 0 n (.inl rfl)) l_nil)) (x_cons e_int l_nil)))) l_nil)) (pg_name n.nd rfl (.inl rfl) (.inl rfl)) (g_nm (by decide)) (z_kls [] [8, 5, 7, 6, 3, 4, 2] (s_cons (z_set 3 n (x_call n C__law_some_lines (x_cons (x_var 1 n (.inl rfl)) (x_cons e_int l_nil))) (.inl rfl))
  (s_cons (s_if (t_not (y_val (x_call n C__law_told_right (x_cons (x_var 3 n (.inl rfl)) l_nil)))) (s_cons (s_ret e_bl)
  s_nil) s_nil)
  (s_cons (z_set 4 n (x_call n C__law_bent (x_cons (x_var 1 n (.inl rfl)) (x_cons (x_var 3 n (.inl rfl)) l_nil))) (.inr rfl))
  (s_cons (z_set 5 n (x_caught (j := 5) n LA CF (fun _ _ _ _ _ _ _ nl1 => (x_make nl1 M_State (x_cons (x_var 4 nl1 (.inr (.inr rfl))) l_nil)))) (.inl rfl))
  (s_cons (s_if (y_val (x_call n C__law_are_strands (x_cons (x_var 4 n (.inr (.inl rfl))) l_nil))) (s_cons (s_if (w_or (y_cmp n (x_var 5 n (.inl rfl)) e_non) (w_or1 (y_cmp n (x_own (neg := false) n M_State___eq__ (x_make n M_State (x_cons (x_var 4 n (.inr (.inl rfl))) l_nil)) (x_make n M_State (x_cons (x_var 3 n (.inl rfl)) l_nil))) (x_cmp n (x_list n T.n_list (x_cons (x_var 4 n (.inr (.inl rfl))) l_nil)) (x_var 3 n (.inl rfl)))))).pt (s_cons (s_ret e_bl)
  s_nil) s_nil)
  (s_cons (s_if (t_not (y_val (x_call n C__law_told_right (x_cons (x_list n T.n_list (x_cons (x_var 4 n (.inr (.inl rfl))) l_nil)) l_nil)))) (s_cons (s_ret e_bl)
  s_nil) s_nil)
  s_nil)) (s_cons (s_if (t_not (y_val (x_isi n T.kl T.is_NoState (.own _) (x_var 5 n (.inl rfl)) (x_cls n T.m_NoState) T.n_isinstance))) (s_cons (s_ret e_bl)
  s_nil) s_nil)
  s_nil))
  (s_cons (z_unp n (e_tup (x_cons (x_call n C__law_odd (x_cons (x_var 1 n (.inl rfl)) l_nil)) (x_cons (x_call n C__law_pick (x_cons (x_var 1 n (.inl rfl)) (x_cons e_str l_nil))) l_nil))) (pg_tup n.calm (pgs_cons (pg_name n.nd rfl (.inr rfl) (.inl rfl)) (pgs_cons (pg_name n.nd rfl (.inl rfl) (.inl rfl)) pgs_nil))))
  (s_cons (s_if (y_cmp n (x_mth0 n M_State_colors (x_make n M_State (x_cons (e_lst (x_cons (e_tup (x_cons (x_var 7 n (.inl rfl)) (x_cons (x_repS n (x_var 7 n (.inl rfl)) e_int) l_nil))) l_nil)) l_nil))) (e_lst (x_cons (x_var 7 n (.inl rfl)) (x_cons (x_repS n (x_var 7 n (.inl rfl)) e_int) l_nil)))) (s_cons (s_ret e_bl)
  s_nil) s_nil)
  (s_cons (z_kl [8] [8, 7, 3] (z_for (own := [8]) n (passes_of rfl) (x_wk n (e_lst (x_cons (x_var 6 n (.inr (.inl rfl))) (x_cons (x_ix n (x_ix n (x_var 3 n (.inl rfl)) e_int) e_int) (x_cons e_str (x_cons e_str (x_cons e_str (x_cons (x_var 7 n (.inl rfl)) (x_cons (x_bin (bin_add n.hk) (x_bin (bin_add n.hk) (x_var 7 n (.inl rfl)) e_str) (x_var 7 n (.inl rfl))) l_nil)))))))) (pi_str (e_lst (x_cons (x_var 6 n (.inr (.inl rfl))) (x_cons (x_ix n (x_ix n (x_var 3 n (.inl rfl)) e_int) e_int) (x_cons e_str (x_cons e_str (x_cons e_str (x_cons (x_var 7 n (.inl rfl)) (x_cons (x_bin (bin_add n.hk) (x_bin (bin_add n.hk) (x_var 7 n (.inl rfl)) e_str) (x_var 7 n (.inl rfl))) l_nil)))))))))) (pg_name n.nd rfl (.inl rfl) (.inl rfl)) (g_nm (by decide)) (z_kls [] [8] (s_cons (s_if (y_cmp n (x_reprA n GD T.n_repr (x_cons (e_lst (x_cons (x_call n C_is_color (x_cons (x_var 8 n (.inl rfl)) l_nil)) (x_cons (x_callk n CK_is_color_0 (k_cons (x_var 8 n (.inl rfl)) k_nil)) l_nil))) l_nil)) (x_reprA n GD T.n_repr (x_cons (x_bin (bin_mul n.hk) (e_lst (x_cons (x_call n C__law_is_hue (x_cons (x_var 8 n (.inl rfl)) l_nil)) l_nil)) e_int) l_nil))) (s_cons (s_ret e_bl)
  s_nil) s_nil)
  s_nil))))
  (s_cons (s_if (w_and (t_not (y_val (x_call n C__law_are_strands (x_cons (x_var 6 n (.inr (.inl rfl))) l_nil)))) (w_and1 (t_not (y_val (x_isi n T.kl T.is_NoState (.own _) (x_caught (j := 5) n LA CF (fun _ _ _ _ _ _ _ nl2 => (x_make nl2 M_State (x_cons (x_var 6 nl2 (.inr (.inr rfl))) l_nil)))) (x_cls n T.m_NoState) T.n_isinstance))))).pt (s_cons (s_ret e_bl)
  s_nil) s_nil)
  s_nil))))))))))))
  (s_cons (s_ret e_bl)
  s_nil))
abbrev s__law_begun : Stmt := top 15
theorem sc__law_begun : FnScope ["_law_script", "_law_wide", "_law_cell"] ["_law_script"] (defScope s__law_begun) := ⟨rfl, rfl, rfl, by decide +kernel, rfl, by decide +kernel, by decide +kernel⟩
theorem ok__law_begun {f : Addr} {fd : FuncData} (Fu : Fun c.K "_law_begun" "_law_begun" s__law_begun f fd) (ha : mg "abs" = none) (hi : mg "int" = none) : FnOk P w c.K mg base (L2.CX P w) 1 f fd ["_law_script"] (spBegun c) :=
  Fu.okX sc__law_begun (fun vs H Q E h => by obtain ⟨s, ns, rfl, _⟩ := h; rfl) fun cdv A outer s H vs Q E hr h => ⟨_, (have n : Cn c.bare WXF 0 (cxOf (L2.CX P w) P w c.K mg base ["_law_script", "_law_wide", "_law_cell"] "_law_begun" (defScope s__law_begun) f cdv A outer s H E) := ⟨rfl, rfl, sc__law_begun.nd, L2.takes0, hr⟩;
    pss_cons (z_setLc 1 (own := [("_law_cell", 2)]) n (x_wk n (x_var 0 n (.inl rfl)) (pi_str (x_var 0 n (.inl rfl)))) (g_nm (by decide)) (by rfl) (fun _ _ _ _ _ => (pg_name (n.blk).nd rfl (.inl rfl) (.inr rfl))) (fun _ _ _ _ _ => (a_oneT (y_cmp (n.blk) (x_abs (n.blk) ha (x_cons (x_var 2 (n.blk) (.inl rfl)) l_nil)) (x_bin (bin_pow) e_int e_int)))) (fun _ _ _ _ _ => (x_bin (bin_sub) (x_abs (n.blk) ha (x_cons (x_var 2 (n.blk) (.inl rfl)) l_nil)) (x_bin (bin_pow) e_int e_int)))) (pss_one (ps_ret (pe_disp (pps_cons pe_str (x_var 1 n (.inl rfl)) (pps_cons pe_str (x_lc (own := [("_law_cell", 2)]) n (x_wk n (x_var 0 n (.inl rfl)) (pi_str (x_var 0 n (.inl rfl)))) (g_nm (by decide)) (by rfl) (fun _ _ _ _ _ => (pg_name (n.blk).nd rfl (.inl rfl) (.inr rfl))) (fun _ _ _ _ _ => a_nilT) (fun _ _ _ _ _ => (x_bin (bin_mod) (x_int (n.blk) hi (x_cons (x_abs (n.blk) ha (x_cons (x_var 2 (n.blk) (.inl rfl)) l_nil)) l_nil)) e_int))) (pps_cons pe_str pe_int (pps_cons pe_str pe_int pps_nil)))) rfl rfl (by decide) (by decide))))), begun_ok (fu := 1000000) h⟩
def cas : List Str := ["State"]
def cxs : List Str := ["NoState"]
def ats : List Str := ["s_lines"]
def tys : List Ty := [Ty_NoState, Ty_State, .list, .str, .tuple]
def tf : List He.Defn := [("law", none)]
def d_State___eq__ : He.DefD := ⟨("State", some "__eq__"), "__eq__", "State.__eq__", defArgs s_State___eq__, defBody s_State___eq__, defScope s_State___eq__, [], []⟩
def d_State___len__ : He.DefD := ⟨("State", some "__len__"), "__len__", "State.__len__", defArgs s_State___len__, defBody s_State___len__, defScope s_State___len__, [], []⟩
def d_State_threads : He.DefD := ⟨("State", some "threads"), "threads", "State.threads", defArgs s_State_threads, defBody s_State_threads, defScope s_State_threads, [], []⟩
def d__law_all_hues : He.DefD := ⟨("_law_all_hues", none), "_law_all_hues", "_law_all_hues", defArgs s__law_all_hues, defBody s__law_all_hues, defScope s__law_all_hues, [], []⟩
def d__law_is_hue : He.DefD := ⟨("_law_is_hue", none), "_law_is_hue", "_law_is_hue", defArgs s__law_is_hue, defBody s__law_is_hue, defScope s__law_is_hue, [], []⟩
def d__law_mixed : He.DefD := ⟨("_law_mixed", none), "_law_mixed", "_law_mixed", defArgs s__law_mixed, defBody s__law_mixed, defScope s__law_mixed, [], []⟩
def d_beads_in : He.DefD := ⟨("beads_in", none), "beads_in", "beads_in", defArgs s_beads_in, defBody s_beads_in, defScope s_beads_in, [], []⟩
def d_colors_in : He.DefD := ⟨("colors_in", none), "colors_in", "colors_in", defArgs s_colors_in, defBody s_colors_in, defScope s_colors_in, [], []⟩
def d_is_color : He.DefD := ⟨("is_color", none), "is_color", "is_color", defArgs s_is_color, defBody s_is_color, defScope s_is_color, [], []⟩
def d_State_colors : He.DefD := ⟨("State", some "colors"), "colors", "State.colors", defArgs s_State_colors, defBody s_State_colors, defScope s_State_colors, [], []⟩
def d__law_are_strands : He.DefD := ⟨("_law_are_strands", none), "_law_are_strands", "_law_are_strands", defArgs s__law_are_strands, defBody s__law_are_strands, defScope s__law_are_strands, [], []⟩
def d__law_take : He.DefD := ⟨("_law_take", none), "_law_take", "_law_take", defArgs s__law_take, defBody s__law_take, defScope s__law_take, [], []⟩
def d_is_thread : He.DefD := ⟨("is_thread", none), "is_thread", "is_thread", defArgs s_is_thread, defBody s_is_thread, defScope s_is_thread, [], []⟩
def d__law_pick : He.DefD := ⟨("_law_pick", none), "_law_pick", "_law_pick", defArgs s__law_pick, defBody s__law_pick, defScope s__law_pick, [], []⟩
def d__law_shuffled : He.DefD := ⟨("_law_shuffled", none), "_law_shuffled", "_law_shuffled", defArgs s__law_shuffled, defBody s__law_shuffled, defScope s__law_shuffled, [], []⟩
def d_are_threads : He.DefD := ⟨("are_threads", none), "are_threads", "are_threads", defArgs s_are_threads, defBody s_are_threads, defScope s_are_threads, [], []⟩
def d_State___init__ : He.DefD := ⟨("State", some "__init__"), "__init__", "State.__init__", defArgs s_State___init__, defBody s_State___init__, defScope s_State___init__, [], []⟩
def d__law_bent : He.DefD := ⟨("_law_bent", none), "_law_bent", "_law_bent", defArgs s__law_bent, defBody s__law_bent, defScope s__law_bent, [], []⟩
def d__law_hues : He.DefD := ⟨("_law_hues", none), "_law_hues", "_law_hues", defArgs s__law_hues, defBody s__law_hues, defScope s__law_hues, [], []⟩
def d__law_lines : He.DefD := ⟨("_law_lines", none), "_law_lines", "_law_lines", defArgs s__law_lines, defBody s__law_lines, defScope s__law_lines, [], []⟩
def d__law_odd : He.DefD := ⟨("_law_odd", none), "_law_odd", "_law_odd", defArgs s__law_odd, defBody s__law_odd, defScope s__law_odd, [], []⟩
def d__law_sealed_lines : He.DefD := ⟨("_law_sealed_lines", none), "_law_sealed_lines", "_law_sealed_lines", defArgs s__law_sealed_lines, defBody s__law_sealed_lines, defScope s__law_sealed_lines, [], []⟩
def d__law_some_lines : He.DefD := ⟨("_law_some_lines", none), "_law_some_lines", "_law_some_lines", defArgs s__law_some_lines, defBody s__law_some_lines, defScope s__law_some_lines, [], []⟩
def d__law_told_right : He.DefD := ⟨("_law_told_right", none), "_law_told_right", "_law_told_right", defArgs s__law_told_right, defBody s__law_told_right, defScope s__law_told_right, [], []⟩
def d_law : He.DefD := ⟨("law", none), "law", "law", defArgs s_law, defBody s_law, defScope s_law, [], []⟩
def d__law_begun : He.DefD := ⟨("_law_begun", none), "_law_begun", "_law_begun", defArgs s__law_begun, defBody s__law_begun, defScope s__law_begun, [], []⟩
def d__law_caught : He.DefD := ⟨("_law_caught", none), "_law_caught", "_law_caught", defArgs s__law_caught, defBody s__law_caught, defScope s__law_caught, [], []⟩
def fa0 : List He.Fa := [.free "all", .free "int", .free "isinstance", .free "len", .free "list", .free "max", .free "min", .free "range", .free "repr", .free "sorted", .free "str", .free "sum", .free "tuple", .str "LETTERS" "abcdefghijklmnopqrstuvwxyz", .int "MOST_BEADS" 60, .int "MOST_LETTERS" 4, .int "MOST_THREADS" 8, .glo "NoState", .glo "State", .exc "NoState", .meth "State" "__eq__", .meth "State" "__len__", .meth "State" "threads", .glo "_law_all_hues", .glo "_law_is_hue", .glo "_law_mixed", .glo "beads_in", .glo "colors_in", .glo "is_color", .meth "State" "colors", .glo "_law_are_strands", .glo "_law_take", .glo "is_thread", .glo "_law_pick", .glo "_law_shuffled", .glo "are_threads", .mkr "State", .glo "_law_bent", .glo "_law_hues", .glo "_law_lines"]
def fa1 : List He.Fa := [.glo "_law_odd", .glo "_law_sealed_lines", .glo "_law_some_lines", .glo "_law_told_right", .glo "law", .glo "_law_begun", .glo "_law_caught", .glo "ThreadError", .free "abs"]
def fa : List He.Fa := fa0 ++ fa1
def fn : List He.DefD := [d_State___eq__, d_State___len__, d_State_threads, d__law_all_hues, d__law_is_hue, d__law_mixed, d_beads_in, d_colors_in, d_is_color, d_State_colors, d__law_are_strands, d__law_take, d_is_thread, d__law_pick, d__law_shuffled, d_are_threads, d_State___init__, d__law_bent, d__law_hues, d__law_lines, d__law_odd, d__law_sealed_lines, d__law_some_lines, d__law_told_right, d_law, d__law_begun, d__law_caught]
def ex : PySem.W.Frag → Bool := Z.exB cas cxs ats tys "ThreadError" tf
abbrev cc (K : PySem.W.Frag) (dl : List Addr) (d2 : Addr) : Pm := pmOf K cas cxs tf dl d2
section
variable {K : PySem.W.Frag} {h : Heap} {dl : List Addr} {d2 : Addr}
theorem glob_int {mg : Str → Option Value} (KX : K.In h) (G : h.Ns mainGlobals mg) {x : Str} {i : Int} (c : (He.Fa.int x i).ok K = true) : ∃ uu, mg x = some uu ∧ RelV (.int i) uu := by obtain ⟨t, e⟩ := He.int_ok KX G c; exact ⟨_, e, ⟨t, rfl⟩⟩
theorem glob_str {mg : Str → Option Value} (KX : K.In h) (G : h.Ns mainGlobals mg) {x z : Str} (c : (He.Fa.str x z).ok K = true) : ∃ uu, mg x = some uu ∧ RelV (.str z) uu := by obtain ⟨t, e⟩ := He.str_ok KX G c; exact ⟨_, e, ⟨t, rfl⟩⟩
theorem tx_mk {mg : Str → Option Value} (KX : K.In h) (G : h.Ns mainGlobals mg) (c : He.SaysD fa fn K) (e : ex K = true) : Tx (cc K dl d2) mg where
  kl := ex_kls e
  at_s_lines := ex_at e (by decide)
  n_all := He.free_ok KX G (c.fact 0 (f := .free "all") rfl)
  n_int := He.free_ok KX G (c.fact 1 (f := .free "int") rfl)
  n_isinstance := He.free_ok KX G (c.fact 2 (f := .free "isinstance") rfl)
  n_len := He.free_ok KX G (c.fact 3 (f := .free "len") rfl)
  n_list := He.free_ok KX G (c.fact 4 (f := .free "list") rfl)
  n_max := He.free_ok KX G (c.fact 5 (f := .free "max") rfl)
  n_min := He.free_ok KX G (c.fact 6 (f := .free "min") rfl)
  n_range := He.free_ok KX G (c.fact 7 (f := .free "range") rfl)
  n_repr := He.free_ok KX G (c.fact 8 (f := .free "repr") rfl)
  n_sorted := He.free_ok KX G (c.fact 9 (f := .free "sorted") rfl)
  n_str := He.free_ok KX G (c.fact 10 (f := .free "str") rfl)
  n_sum := He.free_ok KX G (c.fact 11 (f := .free "sum") rfl)
  n_tuple := He.free_ok KX G (c.fact 12 (f := .free "tuple") rfl)
  g_LETTERS := glob_str KX G (c.fact 13 (f := .str "LETTERS" "abcdefghijklmnopqrstuvwxyz") rfl)
  g_MOST_BEADS := glob_int KX G (c.fact 14 (f := .int "MOST_BEADS" 60) rfl)
  g_MOST_LETTERS := glob_int KX G (c.fact 15 (f := .int "MOST_LETTERS" 4) rfl)
  g_MOST_THREADS := glob_int KX G (c.fact 16 (f := .int "MOST_THREADS" 8) rfl)
  m_NoState := He.glo_ok KX G (c.fact 17 (f := .glo "NoState") rfl)
  is_NoState := ex_is e (t := Ty_NoState) (List.mem_cons_self)
  m_State := He.glo_ok KX G (c.fact 18 (f := .glo "State") rfl)
  is_State := ex_is e (t := Ty_State) (List.mem_cons_of_mem _ (List.mem_cons_self))
  is_list := ex_is e (t := .list) (List.mem_cons_of_mem _ (List.mem_cons_of_mem _ (List.mem_cons_self)))
  is_str := ex_is e (t := .str) (List.mem_cons_of_mem _ (List.mem_cons_of_mem _ (List.mem_cons_of_mem _ (List.mem_cons_self))))
  is_tuple := ex_is e (t := .tuple) (List.mem_cons_of_mem _ (List.mem_cons_of_mem _ (List.mem_cons_of_mem _ (List.mem_cons_of_mem _ (List.mem_cons_self)))))
  r_NoState := raiseF_of (c.fact 19 (f := .exc "NoState") rfl) (He.glo_ok KX G (c.fact 17 (f := .glo "NoState") rfl)) (by decide) PySem.F.excBase_ValueError
theorem fu_State___eq__ (c : He.SaysD fa fn K) : ∃ fd, Fun K "__eq__" "State.__eq__" s_State___eq__ (He.fAd K d_State___eq__.at_) fd ∧ Binds K fd ["self", "other"] [] := by
  obtain ⟨fd, F⟩ := c.def_ 0 (d := d_State___eq__) rfl
  exact ⟨fd, fun_of F, FunD.bindsN (ps := ["self", "other"]) F fun _ _ _ _ _ _ us hl => match us, hl with | [_, _], _ => rfl⟩
theorem fu_State___len__ (c : He.SaysD fa fn K) : ∃ fd, Fun K "__len__" "State.__len__" s_State___len__ (He.fAd K d_State___len__.at_) fd ∧ Binds K fd ["self"] [] := by
  obtain ⟨fd, F⟩ := c.def_ 1 (d := d_State___len__) rfl
  exact ⟨fd, fun_of F, FunD.bindsN (ps := ["self"]) F fun _ _ _ _ _ _ us hl => match us, hl with | [_], _ => rfl⟩
theorem fu_State_threads (c : He.SaysD fa fn K) : ∃ fd, Fun K "threads" "State.threads" s_State_threads (He.fAd K d_State_threads.at_) fd ∧ Binds K fd ["self"] [] := by
  obtain ⟨fd, F⟩ := c.def_ 2 (d := d_State_threads) rfl
  exact ⟨fd, fun_of F, FunD.bindsN (ps := ["self"]) F fun _ _ _ _ _ _ us hl => match us, hl with | [_], _ => rfl⟩
theorem fu__law_all_hues (c : He.SaysD fa fn K) : ∃ fd, Fun K "_law_all_hues" "_law_all_hues" s__law_all_hues (He.fAd K d__law_all_hues.at_) fd ∧ Binds K fd ["_law_strands"] [] := by
  obtain ⟨fd, F⟩ := c.def_ 3 (d := d__law_all_hues) rfl
  exact ⟨fd, fun_of F, FunD.bindsN (ps := ["_law_strands"]) F fun _ _ _ _ _ _ us hl => match us, hl with | [_], _ => rfl⟩
theorem fu__law_is_hue (c : He.SaysD fa fn K) : ∃ fd, Fun K "_law_is_hue" "_law_is_hue" s__law_is_hue (He.fAd K d__law_is_hue.at_) fd ∧ Binds K fd ["_law_thing"] [] := by
  obtain ⟨fd, F⟩ := c.def_ 4 (d := d__law_is_hue) rfl
  exact ⟨fd, fun_of F, FunD.bindsN (ps := ["_law_thing"]) F fun _ _ _ _ _ _ us hl => match us, hl with | [_], _ => rfl⟩
theorem fu__law_mixed (c : He.SaysD fa fn K) : ∃ fd, Fun K "_law_mixed" "_law_mixed" s__law_mixed (He.fAd K d__law_mixed.at_) fd ∧ Binds K fd ["_law_draw"] [] := by
  obtain ⟨fd, F⟩ := c.def_ 5 (d := d__law_mixed) rfl
  exact ⟨fd, fun_of F, FunD.bindsN (ps := ["_law_draw"]) F fun _ _ _ _ _ _ us hl => match us, hl with | [_], _ => rfl⟩
theorem fu_beads_in (c : He.SaysD fa fn K) : ∃ fd, Fun K "beads_in" "beads_in" s_beads_in (He.fAd K d_beads_in.at_) fd ∧ Binds K fd ["lines"] [] := by
  obtain ⟨fd, F⟩ := c.def_ 6 (d := d_beads_in) rfl
  exact ⟨fd, fun_of F, FunD.bindsN (ps := ["lines"]) F fun _ _ _ _ _ _ us hl => match us, hl with | [_], _ => rfl⟩
theorem fu_colors_in (c : He.SaysD fa fn K) : ∃ fd, Fun K "colors_in" "colors_in" s_colors_in (He.fAd K d_colors_in.at_) fd ∧ Binds K fd ["lines"] [] := by
  obtain ⟨fd, F⟩ := c.def_ 7 (d := d_colors_in) rfl
  exact ⟨fd, fun_of F, FunD.bindsN (ps := ["lines"]) F fun _ _ _ _ _ _ us hl => match us, hl with | [_], _ => rfl⟩
theorem fu_is_color (c : He.SaysD fa fn K) : ∃ fd, Fun K "is_color" "is_color" s_is_color (He.fAd K d_is_color.at_) fd ∧ Binds K fd ["value"] [] ∧ KPick K fd ["value"] ["value"] [0] := by
  obtain ⟨fd, F⟩ := c.def_ 8 (d := d_is_color) rfl
  exact ⟨fd, fun_of F, FunD.bindsN (ps := ["value"]) F fun _ _ _ _ _ _ us hl => match us, hl with | [_], _ => rfl, Z.Fun.kpick (x := "is_color") (qual := "is_color") (st := s_is_color) (fun_of F) fun _ _ _ _ _ _ us hl => match us, hl with | [_], _ => rfl⟩
theorem fu_State_colors (c : He.SaysD fa fn K) : ∃ fd, Fun K "colors" "State.colors" s_State_colors (He.fAd K d_State_colors.at_) fd ∧ Binds K fd ["self"] [] := by
  obtain ⟨fd, F⟩ := c.def_ 9 (d := d_State_colors) rfl
  exact ⟨fd, fun_of F, FunD.bindsN (ps := ["self"]) F fun _ _ _ _ _ _ us hl => match us, hl with | [_], _ => rfl⟩
theorem fu__law_are_strands (c : He.SaysD fa fn K) : ∃ fd, Fun K "_law_are_strands" "_law_are_strands" s__law_are_strands (He.fAd K d__law_are_strands.at_) fd ∧ Binds K fd ["_law_thing"] [] := by
  obtain ⟨fd, F⟩ := c.def_ 10 (d := d__law_are_strands) rfl
  exact ⟨fd, fun_of F, FunD.bindsN (ps := ["_law_thing"]) F fun _ _ _ _ _ _ us hl => match us, hl with | [_], _ => rfl⟩
theorem fu__law_take (c : He.SaysD fa fn K) : ∃ fd, Fun K "_law_take" "_law_take" s__law_take (He.fAd K d__law_take.at_) fd ∧ Binds K fd ["_law_draw", "_law_total"] [] := by
  obtain ⟨fd, F⟩ := c.def_ 11 (d := d__law_take) rfl
  exact ⟨fd, fun_of F, FunD.bindsN (ps := ["_law_draw", "_law_total"]) F fun _ _ _ _ _ _ us hl => match us, hl with | [_, _], _ => rfl⟩
theorem fu_is_thread (c : He.SaysD fa fn K) : ∃ fd, Fun K "is_thread" "is_thread" s_is_thread (He.fAd K d_is_thread.at_) fd ∧ Binds K fd ["value"] [] := by
  obtain ⟨fd, F⟩ := c.def_ 12 (d := d_is_thread) rfl
  exact ⟨fd, fun_of F, FunD.bindsN (ps := ["value"]) F fun _ _ _ _ _ _ us hl => match us, hl with | [_], _ => rfl⟩
theorem fu__law_pick (c : He.SaysD fa fn K) : ∃ fd, Fun K "_law_pick" "_law_pick" s__law_pick (He.fAd K d__law_pick.at_) fd ∧ Binds K fd ["_law_draw", "_law_some"] [] := by
  obtain ⟨fd, F⟩ := c.def_ 13 (d := d__law_pick) rfl
  exact ⟨fd, fun_of F, FunD.bindsN (ps := ["_law_draw", "_law_some"]) F fun _ _ _ _ _ _ us hl => match us, hl with | [_, _], _ => rfl⟩
theorem fu__law_shuffled (c : He.SaysD fa fn K) : ∃ fd, Fun K "_law_shuffled" "_law_shuffled" s__law_shuffled (He.fAd K d__law_shuffled.at_) fd ∧ Binds K fd ["_law_draw", "_law_some"] [] := by
  obtain ⟨fd, F⟩ := c.def_ 14 (d := d__law_shuffled) rfl
  exact ⟨fd, fun_of F, FunD.bindsN (ps := ["_law_draw", "_law_some"]) F fun _ _ _ _ _ _ us hl => match us, hl with | [_, _], _ => rfl⟩
theorem fu_are_threads (c : He.SaysD fa fn K) : ∃ fd, Fun K "are_threads" "are_threads" s_are_threads (He.fAd K d_are_threads.at_) fd ∧ Binds K fd ["value"] [] := by
  obtain ⟨fd, F⟩ := c.def_ 15 (d := d_are_threads) rfl
  exact ⟨fd, fun_of F, FunD.bindsN (ps := ["value"]) F fun _ _ _ _ _ _ us hl => match us, hl with | [_], _ => rfl⟩
theorem fu_State___init__ (c : He.SaysD fa fn K) : ∃ fd, Fun K "__init__" "State.__init__" s_State___init__ (He.fAd K d_State___init__.at_) fd ∧ Binds K fd ["self", "threads"] [] ∧ KPickM K fd ["self", "threads"] ["threads"] [0] := by
  obtain ⟨fd, F⟩ := c.def_ 16 (d := d_State___init__) rfl
  exact ⟨fd, fun_of F, FunD.bindsN (ps := ["self", "threads"]) F fun _ _ _ _ _ _ us hl => match us, hl with | [_, _], _ => rfl, Z.Fun.kpickM (x := "__init__") (qual := "State.__init__") (st := s_State___init__) (fun_of F) fun _ _ _ _ _ _ _ us hl => match us, hl with | [_], _ => rfl⟩
theorem fu__law_bent (c : He.SaysD fa fn K) : ∃ fd, Fun K "_law_bent" "_law_bent" s__law_bent (He.fAd K d__law_bent.at_) fd ∧ Binds K fd ["_law_draw", "_law_strands"] [] := by
  obtain ⟨fd, F⟩ := c.def_ 17 (d := d__law_bent) rfl
  exact ⟨fd, fun_of F, FunD.bindsN (ps := ["_law_draw", "_law_strands"]) F fun _ _ _ _ _ _ us hl => match us, hl with | [_, _], _ => rfl⟩
theorem fu__law_hues (c : He.SaysD fa fn K) : ∃ fd, Fun K "_law_hues" "_law_hues" s__law_hues (He.fAd K d__law_hues.at_) fd ∧ Binds K fd ["_law_draw", "_law_many"] [] := by
  obtain ⟨fd, F⟩ := c.def_ 18 (d := d__law_hues) rfl
  exact ⟨fd, fun_of F, FunD.bindsN (ps := ["_law_draw", "_law_many"]) F fun _ _ _ _ _ _ us hl => match us, hl with | [_, _], _ => rfl⟩
theorem fu__law_lines (c : He.SaysD fa fn K) : ∃ fd, Fun K "_law_lines" "_law_lines" s__law_lines (He.fAd K d__law_lines.at_) fd ∧ Binds K fd ["_law_draw", "_law_hues_here", "_law_most", "_law_beads"] [] := by
  obtain ⟨fd, F⟩ := c.def_ 19 (d := d__law_lines) rfl
  exact ⟨fd, fun_of F, FunD.bindsN (ps := ["_law_draw", "_law_hues_here", "_law_most", "_law_beads"]) F fun _ _ _ _ _ _ us hl => match us, hl with | [_, _, _, _], _ => rfl⟩
theorem fu__law_odd (c : He.SaysD fa fn K) : ∃ fd, Fun K "_law_odd" "_law_odd" s__law_odd (He.fAd K d__law_odd.at_) fd ∧ Binds K fd ["_law_draw"] [] := by
  obtain ⟨fd, F⟩ := c.def_ 20 (d := d__law_odd) rfl
  exact ⟨fd, fun_of F, FunD.bindsN (ps := ["_law_draw"]) F fun _ _ _ _ _ _ us hl => match us, hl with | [_], _ => rfl⟩
theorem fu__law_sealed_lines (c : He.SaysD fa fn K) : ∃ fd, Fun K "_law_sealed_lines" "_law_sealed_lines" s__law_sealed_lines (He.fAd K d__law_sealed_lines.at_) fd ∧ Binds K fd ["_law_draw", "_law_beads"] [] := by
  obtain ⟨fd, F⟩ := c.def_ 21 (d := d__law_sealed_lines) rfl
  exact ⟨fd, fun_of F, FunD.bindsN (ps := ["_law_draw", "_law_beads"]) F fun _ _ _ _ _ _ us hl => match us, hl with | [_, _], _ => rfl⟩
theorem fu__law_some_lines (c : He.SaysD fa fn K) : ∃ fd, Fun K "_law_some_lines" "_law_some_lines" s__law_some_lines (He.fAd K d__law_some_lines.at_) fd ∧ Binds K fd ["_law_draw", "_law_beads"] [] := by
  obtain ⟨fd, F⟩ := c.def_ 22 (d := d__law_some_lines) rfl
  exact ⟨fd, fun_of F, FunD.bindsN (ps := ["_law_draw", "_law_beads"]) F fun _ _ _ _ _ _ us hl => match us, hl with | [_, _], _ => rfl⟩
theorem fu__law_told_right (c : He.SaysD fa fn K) : ∃ fd, Fun K "_law_told_right" "_law_told_right" s__law_told_right (He.fAd K d__law_told_right.at_) fd ∧ Binds K fd ["_law_strands"] [] := by
  obtain ⟨fd, F⟩ := c.def_ 23 (d := d__law_told_right) rfl
  exact ⟨fd, fun_of F, FunD.bindsN (ps := ["_law_strands"]) F fun _ _ _ _ _ _ us hl => match us, hl with | [_], _ => rfl⟩
theorem fu__law_begun (c : He.SaysD fa fn K) : ∃ fd, Fun K "_law_begun" "_law_begun" s__law_begun (He.fAd K d__law_begun.at_) fd ∧ Binds K fd ["_law_script"] [] := by
  obtain ⟨fd, F⟩ := c.def_ 25 (d := d__law_begun) rfl
  exact ⟨fd, fun_of F, FunD.bindsN (ps := ["_law_script"]) F fun _ _ _ _ _ _ us hl => match us, hl with | [_], _ => rfl⟩
theorem fu__law_caught (c : He.SaysD fa fn K) : ∃ fd, Fun K "_law_caught" "_law_caught" s__law_caught (He.fAd K d__law_caught.at_) fd ∧ Binds K fd ["_law_job"] [] := by
  obtain ⟨fd, F⟩ := c.def_ 26 (d := d__law_caught) rfl
  exact ⟨fd, fun_of F, FunD.bindsN (ps := ["_law_job"]) F fun _ _ _ _ _ _ us hl => match us, hl with | [_], _ => rfl⟩
end
theorem mk_State : ∀ p xs W, GI_State p xs W = G_State xs W := by
  intro p xs W
  unfold G_State GI_State runC
  by_cases h : xs.length + 1 = 2
  · rw [if_pos h, if_pos h]
    obtain ⟨x, rfl⟩ : ∃ x, xs = [x] := by
      match xs, h with
      | [x], _ => exact ⟨x, rfl⟩
    simp only [B_State___init__, evS, evT, ev, evL, Out.bind, Out.st, List.map_cons, List.map_nil, List.singleton_append, List.getElem?_cons_zero, List.getElem?_cons_succ]
    generalize G_are_threads _ _ = o
    cases o with
    | stk => rfl
    | ex x W => rfl
    | ok r W =>
      obtain ⟨b, d⟩ := r
      cases hb : (vo (b, d) (ts [⟨x, .pl, []⟩])).d.isBl with
      | none => simp [hb, ofO]
      | some q =>
        cases q with
        | false => simp [hb, ofO]
        | true =>
          simp [hb, ofO]
          cases hz : biD .tuple (ds [⟨x, .pl, []⟩]) with
          | none => simp
          | some z =>
            obtain ⟨z1, z2⟩ := z
            simp [vo, vl, vf, Vl.all, frz, ts, putFD, Sl.noSlf]
  · rw [if_neg h, if_neg h]
theorem ok_law {K : PySem.W.Frag} {h : Heap} (KX : K.In h) (G : h.Ns mainGlobals mg) (c : He.SaysD fa fn K) (e : ex K = true) (TBs : ∀ p ∈ tf.map (He.cT K), LamX.TabB base mg p.1 p.2) {fd : FuncData} (Fl : Fun K "law" "law" s_law (He.fAd K d_law.at_) fd)
    (run : RunOk) : ∀ (A : Around) (outer : List Env) (s : Shared) (H : Hp) (v : V) (Q : VK) (E : XK) (cdv : Value), A.guards = some [] → fd.code = cdv → Room 7 (A.deeper (envOfC "law" (defScope s_law) s.heap.objs.size (He.fAd K d_law.at_) cdv)) → spLaw (pmOf K cas cxs tf [] 0) [v] H Q E → ∃ t, PSs (cxOf (L2.CX P w) P w K mg base ["_law_script", "_law_draw", "_law_turn", "_law_strands", "_law_thing", "_law_error", "_law_odd_here", "_law_letter", "_law_each"] "law" (defScope s_law) (He.fAd K d_law.at_) cdv A outer s H E) (defBody s_law) t ∧ t { nx := fun _ H' => Q .non H', rt := Q } (L2.start ["_law_script", "_law_draw", "_law_turn", "_law_strands", "_law_thing", "_law_error", "_law_odd_here", "_law_letter", "_law_each"] [v]) H := by
  obtain ⟨fd_State___eq__, F_State___eq__, b_State___eq__⟩ := fu_State___eq__ c
  obtain ⟨fd_State___len__, F_State___len__, b_State___len__⟩ := fu_State___len__ c
  obtain ⟨fd_State_threads, F_State_threads, b_State_threads⟩ := fu_State_threads c
  obtain ⟨fd__law_all_hues, F__law_all_hues, b__law_all_hues⟩ := fu__law_all_hues c
  obtain ⟨fd__law_is_hue, F__law_is_hue, b__law_is_hue⟩ := fu__law_is_hue c
  obtain ⟨fd__law_mixed, F__law_mixed, b__law_mixed⟩ := fu__law_mixed c
  obtain ⟨fd_beads_in, F_beads_in, b_beads_in⟩ := fu_beads_in c
  obtain ⟨fd_colors_in, F_colors_in, b_colors_in⟩ := fu_colors_in c
  obtain ⟨fd_is_color, F_is_color, b_is_color, k_CK_is_color_0⟩ := fu_is_color c
  obtain ⟨fd_State_colors, F_State_colors, b_State_colors⟩ := fu_State_colors c
  obtain ⟨fd__law_are_strands, F__law_are_strands, b__law_are_strands⟩ := fu__law_are_strands c
  obtain ⟨fd__law_take, F__law_take, b__law_take⟩ := fu__law_take c
  obtain ⟨fd_is_thread, F_is_thread, b_is_thread⟩ := fu_is_thread c
  obtain ⟨fd__law_pick, F__law_pick, b__law_pick⟩ := fu__law_pick c
  obtain ⟨fd__law_shuffled, F__law_shuffled, b__law_shuffled⟩ := fu__law_shuffled c
  obtain ⟨fd_are_threads, F_are_threads, b_are_threads⟩ := fu_are_threads c
  obtain ⟨fd_State___init__, F_State___init__, b_State___init__, k_MK_State_0⟩ := fu_State___init__ c
  obtain ⟨fd__law_bent, F__law_bent, b__law_bent⟩ := fu__law_bent c
  obtain ⟨fd__law_hues, F__law_hues, b__law_hues⟩ := fu__law_hues c
  obtain ⟨fd__law_lines, F__law_lines, b__law_lines⟩ := fu__law_lines c
  obtain ⟨fd__law_odd, F__law_odd, b__law_odd⟩ := fu__law_odd c
  obtain ⟨fd__law_sealed_lines, F__law_sealed_lines, b__law_sealed_lines⟩ := fu__law_sealed_lines c
  obtain ⟨fd__law_some_lines, F__law_some_lines, b__law_some_lines⟩ := fu__law_some_lines c
  obtain ⟨fd__law_told_right, F__law_told_right, b__law_told_right⟩ := fu__law_told_right c
  obtain ⟨fd__law_begun, F__law_begun, b__law_begun⟩ := fu__law_begun c
  obtain ⟨fd__law_caught, F__law_caught, b__law_caught⟩ := fu__law_caught c
  refine fun A outer s H v Q E cdv hgd hcd hr h => ⟨_, pss_cons (ps_set (i := 1) sc_law.nd rfl (.inl rfl) (pe_callS (ok__law_begun (c := cc K [] 0) (base := base) (P := P) (w := w) F__law_begun (He.free_ok KX G (c.fact 48 (f := .free "abs") rfl)) (He.free_ok KX G (c.fact 1 (f := .free "int") rfl))) (hr.mono (by decide)) rfl (He.glo_ok KX G (c.fact 45 (f := .glo "_law_begun") rfl)) F__law_begun.kp b__law_begun (fun σ => passAt (takes_of rfl rfl rfl rfl) σ) (pa_cons (pe_var (i := 0) rfl (.inl rfl) (by decide) (by decide)) pa_nil) (by decide) rfl rfl) rfl (.inl rfl)) (pss_ex3 fun a0 a1 a2 => ?_), frame_ok rfl (by decide) (by decide) h run⟩
  have T : Tx (cc K [a0, a1] a2) mg := tx_mk KX G c e
  have CF : CauF (cc K [a0, a1] a2) mg "_law_caught" "_law_job" ["_law_job", "_law_found", "_law_error"] s__law_caught (He.ga K "ThreadError") := cau_mk F__law_caught (He.glo_ok KX G (c.fact 46 (f := .glo "_law_caught") rfl)) b__law_caught (He.glo_ok KX G (c.fact 47 (f := .glo "ThreadError") rfl)) (ex_up e)
  have M_State___eq__ : OwnEq (cc K [a0, a1] a2) P w mg base 1 "State" ["self", "other"] G_State___eq__ := ⟨⟨_, _, fd_State___eq__, pm_ca_mk (by decide), (T.kl.ins _ _ (pm_ca_mk (by decide))).cl, He.meth_ok (c.fact 20 (f := .meth "State" "__eq__") rfl), b_State___eq__, ok_State___eq__ F_State___eq__ T ⟩, fun C hC => ⟨ex_ne e C hC, (T.kl.ins _ _ hC).hm⟩⟩
  have M_State___len__ : Mth (cc K [a0, a1] a2) P w mg base 1 "State" "__len__" ["self"] G_State___len__ := ⟨_, _, fd_State___len__, pm_ca_mk (by decide), (T.kl.ins _ _ (pm_ca_mk (by decide))).cl, He.meth_ok (c.fact 21 (f := .meth "State" "__len__") rfl), b_State___len__, ok_State___len__ F_State___len__ T ⟩
  have M_State_threads : Mth (cc K [a0, a1] a2) P w mg base 1 "State" "threads" ["self"] G_State_threads := ⟨_, _, fd_State_threads, pm_ca_mk (by decide), (T.kl.ins _ _ (pm_ca_mk (by decide))).cl, He.meth_ok (c.fact 22 (f := .meth "State" "threads") rfl), b_State_threads, ok_State_threads F_State_threads T ⟩
  have O__law_all_hues := ok__law_all_hues (c := cc K [a0, a1] a2) (P := P) (w := w) (base := base) F__law_all_hues T 
  have C__law_all_hues : Cal (cc K [a0, a1] a2) P w K mg base 1 "_law_all_hues" ["_law_strands"] G__law_all_hues := ⟨_, fd__law_all_hues, He.glo_ok KX G (c.fact 23 (f := .glo "_law_all_hues") rfl), F__law_all_hues.kp, b__law_all_hues, O__law_all_hues⟩
  have O__law_is_hue := ok__law_is_hue (c := cc K [a0, a1] a2) (P := P) (w := w) (base := base) F__law_is_hue T 
  have C__law_is_hue : Cal (cc K [a0, a1] a2) P w K mg base 1 "_law_is_hue" ["_law_thing"] G__law_is_hue := ⟨_, fd__law_is_hue, He.glo_ok KX G (c.fact 24 (f := .glo "_law_is_hue") rfl), F__law_is_hue.kp, b__law_is_hue, O__law_is_hue⟩
  have O__law_mixed := ok__law_mixed (c := cc K [a0, a1] a2) (P := P) (w := w) (base := base) F__law_mixed T 
  have C__law_mixed : Cal (cc K [a0, a1] a2) P w K mg base 1 "_law_mixed" ["_law_draw"] G__law_mixed := ⟨_, fd__law_mixed, He.glo_ok KX G (c.fact 25 (f := .glo "_law_mixed") rfl), F__law_mixed.kp, b__law_mixed, O__law_mixed⟩
  have O_beads_in := ok_beads_in (c := cc K [a0, a1] a2) (P := P) (w := w) (base := base) F_beads_in T 
  have C_beads_in : Cal (cc K [a0, a1] a2) P w K mg base 1 "beads_in" ["lines"] G_beads_in := ⟨_, fd_beads_in, He.glo_ok KX G (c.fact 26 (f := .glo "beads_in") rfl), F_beads_in.kp, b_beads_in, O_beads_in⟩
  have O_colors_in := ok_colors_in (c := cc K [a0, a1] a2) (P := P) (w := w) (base := base) F_colors_in T 
  have C_colors_in : Cal (cc K [a0, a1] a2) P w K mg base 1 "colors_in" ["lines"] G_colors_in := ⟨_, fd_colors_in, He.glo_ok KX G (c.fact 27 (f := .glo "colors_in") rfl), F_colors_in.kp, b_colors_in, O_colors_in⟩
  have O_is_color := ok_is_color (c := cc K [a0, a1] a2) (P := P) (w := w) (base := base) F_is_color T 
  have C_is_color : Cal (cc K [a0, a1] a2) P w K mg base 1 "is_color" ["value"] G_is_color := ⟨_, fd_is_color, He.glo_ok KX G (c.fact 28 (f := .glo "is_color") rfl), F_is_color.kp, b_is_color, O_is_color⟩
  have CK_is_color_0 : CalK (cc K [a0, a1] a2) P w K mg base 1 "is_color" ["value"] ["value"] [0] G_is_color := ⟨_, fd_is_color, He.glo_ok KX G (c.fact 28 (f := .glo "is_color") rfl), F_is_color.kp, k_CK_is_color_0, O_is_color⟩
  have M_State_colors : Mth (cc K [a0, a1] a2) P w mg base 2 "State" "colors" ["self"] G_State_colors := ⟨_, _, fd_State_colors, pm_ca_mk (by decide), (T.kl.ins _ _ (pm_ca_mk (by decide))).cl, He.meth_ok (c.fact 29 (f := .meth "State" "colors") rfl), b_State_colors, ok_State_colors F_State_colors T C_colors_in⟩
  have O__law_are_strands := ok__law_are_strands (c := cc K [a0, a1] a2) (P := P) (w := w) (base := base) F__law_are_strands T C__law_is_hue
  have C__law_are_strands : Cal (cc K [a0, a1] a2) P w K mg base 2 "_law_are_strands" ["_law_thing"] G__law_are_strands := ⟨_, fd__law_are_strands, He.glo_ok KX G (c.fact 30 (f := .glo "_law_are_strands") rfl), F__law_are_strands.kp, b__law_are_strands, O__law_are_strands⟩
  have O__law_take := ok__law_take (c := cc K [a0, a1] a2) (P := P) (w := w) (base := base) F__law_take T C__law_mixed
  have C__law_take : Cal (cc K [a0, a1] a2) P w K mg base 2 "_law_take" ["_law_draw", "_law_total"] G__law_take := ⟨_, fd__law_take, He.glo_ok KX G (c.fact 31 (f := .glo "_law_take") rfl), F__law_take.kp, b__law_take, O__law_take⟩
  have O_is_thread := ok_is_thread (c := cc K [a0, a1] a2) (P := P) (w := w) (base := base) F_is_thread T C_is_color
  have C_is_thread : Cal (cc K [a0, a1] a2) P w K mg base 2 "is_thread" ["value"] G_is_thread := ⟨_, fd_is_thread, He.glo_ok KX G (c.fact 32 (f := .glo "is_thread") rfl), F_is_thread.kp, b_is_thread, O_is_thread⟩
  have O__law_pick := ok__law_pick (c := cc K [a0, a1] a2) (P := P) (w := w) (base := base) F__law_pick T C__law_take
  have C__law_pick : Cal (cc K [a0, a1] a2) P w K mg base 3 "_law_pick" ["_law_draw", "_law_some"] G__law_pick := ⟨_, fd__law_pick, He.glo_ok KX G (c.fact 33 (f := .glo "_law_pick") rfl), F__law_pick.kp, b__law_pick, O__law_pick⟩
  have O__law_shuffled := ok__law_shuffled (c := cc K [a0, a1] a2) (P := P) (w := w) (base := base) F__law_shuffled T C__law_take
  have C__law_shuffled : Cal (cc K [a0, a1] a2) P w K mg base 3 "_law_shuffled" ["_law_draw", "_law_some"] G__law_shuffled := ⟨_, fd__law_shuffled, He.glo_ok KX G (c.fact 34 (f := .glo "_law_shuffled") rfl), F__law_shuffled.kp, b__law_shuffled, O__law_shuffled⟩
  have O_are_threads := ok_are_threads (c := cc K [a0, a1] a2) (P := P) (w := w) (base := base) F_are_threads T C_beads_in C_is_thread
  have C_are_threads : Cal (cc K [a0, a1] a2) P w K mg base 3 "are_threads" ["value"] G_are_threads := ⟨_, fd_are_threads, He.glo_ok KX G (c.fact 35 (f := .glo "are_threads") rfl), F_are_threads.kp, b_are_threads, O_are_threads⟩
  have M_State : Mak (cc K [a0, a1] a2) P w mg base 4 "State" ["self", "threads"] G_State := ⟨_, _, fd_State___init__, GI_State, He.glo_ok KX G (c.fact 18 (f := .glo "State") rfl), pm_ca_mk (by decide), He.mkr_ok (c.fact 36 (f := .mkr "State") rfl), b_State___init__, ok_State___init__ F_State___init__ T C_are_threads, mk_State⟩
  have MK_State_0 : MakK (cc K [a0, a1] a2) P w mg base 4 "State" ["self", "threads"] ["threads"] [0] G_State := ⟨_, _, fd_State___init__, GI_State, He.glo_ok KX G (c.fact 18 (f := .glo "State") rfl), pm_ca_mk (by decide), He.mkr_ok (c.fact 36 (f := .mkr "State") rfl), k_MK_State_0, ok_State___init__ F_State___init__ T C_are_threads, mk_State⟩
  have O__law_bent := ok__law_bent (c := cc K [a0, a1] a2) (P := P) (w := w) (base := base) F__law_bent T C__law_pick C__law_take
  have C__law_bent : Cal (cc K [a0, a1] a2) P w K mg base 4 "_law_bent" ["_law_draw", "_law_strands"] G__law_bent := ⟨_, fd__law_bent, He.glo_ok KX G (c.fact 37 (f := .glo "_law_bent") rfl), F__law_bent.kp, b__law_bent, O__law_bent⟩
  have O__law_hues := ok__law_hues (c := cc K [a0, a1] a2) (P := P) (w := w) (base := base) F__law_hues T C__law_shuffled
  have C__law_hues : Cal (cc K [a0, a1] a2) P w K mg base 4 "_law_hues" ["_law_draw", "_law_many"] G__law_hues := ⟨_, fd__law_hues, He.glo_ok KX G (c.fact 38 (f := .glo "_law_hues") rfl), F__law_hues.kp, b__law_hues, O__law_hues⟩
  have O__law_lines := ok__law_lines (c := cc K [a0, a1] a2) (P := P) (w := w) (base := base) F__law_lines T C__law_pick C__law_take
  have C__law_lines : Cal (cc K [a0, a1] a2) P w K mg base 4 "_law_lines" ["_law_draw", "_law_hues_here", "_law_most", "_law_beads"] G__law_lines := ⟨_, fd__law_lines, He.glo_ok KX G (c.fact 39 (f := .glo "_law_lines") rfl), F__law_lines.kp, b__law_lines, O__law_lines⟩
  have O__law_odd := ok__law_odd (c := cc K [a0, a1] a2) (P := P) (w := w) (base := base) F__law_odd T C__law_pick
  have C__law_odd : Cal (cc K [a0, a1] a2) P w K mg base 4 "_law_odd" ["_law_draw"] G__law_odd := ⟨_, fd__law_odd, He.glo_ok KX G (c.fact 40 (f := .glo "_law_odd") rfl), F__law_odd.kp, b__law_odd, O__law_odd⟩
  have O__law_sealed_lines := ok__law_sealed_lines (c := cc K [a0, a1] a2) (P := P) (w := w) (base := base) F__law_sealed_lines T C__law_lines C__law_pick C__law_take
  have C__law_sealed_lines : Cal (cc K [a0, a1] a2) P w K mg base 5 "_law_sealed_lines" ["_law_draw", "_law_beads"] G__law_sealed_lines := ⟨_, fd__law_sealed_lines, He.glo_ok KX G (c.fact 41 (f := .glo "_law_sealed_lines") rfl), F__law_sealed_lines.kp, b__law_sealed_lines, O__law_sealed_lines⟩
  have O__law_some_lines := ok__law_some_lines (c := cc K [a0, a1] a2) (P := P) (w := w) (base := base) F__law_some_lines T C__law_hues C__law_lines C__law_sealed_lines C__law_take
  have C__law_some_lines : Cal (cc K [a0, a1] a2) P w K mg base 6 "_law_some_lines" ["_law_draw", "_law_beads"] G__law_some_lines := ⟨_, fd__law_some_lines, He.glo_ok KX G (c.fact 42 (f := .glo "_law_some_lines") rfl), F__law_some_lines.kp, b__law_some_lines, O__law_some_lines⟩
  have O__law_told_right := ok__law_told_right (c := cc K [a0, a1] a2) (P := P) (w := w) (base := base) F__law_told_right T M_State___eq__ M_State___len__ M_State_colors M_State_threads M_State C__law_all_hues MK_State_0
  have C__law_told_right : Cal (cc K [a0, a1] a2) P w K mg base 6 "_law_told_right" ["_law_strands"] G__law_told_right := ⟨_, fd__law_told_right, He.glo_ok KX G (c.fact 43 (f := .glo "_law_told_right") rfl), F__law_told_right.kp, b__law_told_right, O__law_told_right⟩
  obtain ⟨⟨oc, od, osl, lk⟩, hcl⟩ := Z.Fun.lk Fl
  have TB_law : TbF (cc K [a0, a1] a2) mg base "law" fd := tbF_of e (List.mem_cons_self) TBs lk hcl
  exact rest_law (c := cc K [a0, a1] a2) T M_State___eq__ M_State_colors M_State C__law_are_strands C__law_bent C__law_is_hue C__law_odd C__law_pick C__law_some_lines C__law_told_right C_is_color CK_is_color_0 CF TB_law hcd hgd hr (takes_of rfl rfl rfl rfl)
theorem law_at {K : PySem.W.Frag} {h : Heap} {fl : Addr} (KX : K.In h) (G : h.Ns mainGlobals mg) (hm : mg "law" = some (.ref fl)) (c : He.SaysD fa fn K) (e : ex K = true) (run : RunOk) :
    ∃ (fd : FuncData) (N : List Str) (st : Stmt) (z qual : Str), (∀ (s : Shared) (u : Value), BindsTo s fd ⟨[u], []⟩ [("_law_script", u)]) ∧ Fun K z qual st fl fd ∧ FnScope N ["_law_script"] (defScope st) ∧ ∀ base : Heap, K.In base → base.Ns mainGlobals mg → (∀ p ∈ tf.map (He.cT K), LamX.TabB base mg p.1 p.2) → ∀ (A : Around) (outer : List Env) (s : Shared) (H : Hp) (v : V) (Q : VK) (E : XK) (cdv : Value), A.guards = some [] → fd.code = cdv → Room 7 (A.deeper (envOfC qual (defScope st) s.heap.objs.size fl cdv)) → spLaw (pmOf K cas cxs tf [] 0) [v] H Q E → ∃ t, PSs (cxOf (L2.CX P w) P w K mg base N qual (defScope st) fl cdv A outer s H E) (defBody st) t ∧ t { nx := fun _ H' => Q .non H', rt := Q } (L2.start N [v]) H := by
  obtain ⟨fd, F⟩ := c.def_ 24 (d := d_law) rfl
  have e2 := hm.symm.trans (He.glo_ok KX G (c.fact 44 (f := .glo "law") rfl))
  cases e2
  have b := FunD.bindsA (ps := ["_law_script"]) F fun _ _ _ _ _ _ us hl => match us, hl with | [_], _ => rfl
  exact ⟨fd, ["_law_script", "_law_draw", "_law_turn", "_law_strands", "_law_thing", "_law_error", "_law_odd_here", "_law_letter", "_law_each"], s_law, "law", "law", fun s v => b s [v] rfl, fun_of F, sc_law, fun base _ _ TBs => ok_law (P := P) (w := w) (base := base) KX G c e TBs (fun_of F) run⟩
end Qk02
namespace Z
open PySem
@[simp] theorem vl_nil {d : D} : vl d [] = ⟨d, .pl, []⟩ := by unfold vl; split <;> rfl
@[simp] theorem vf_nil {d : D} : vf d [] = ⟨d, .fr, []⟩ := by unfold vf; split <;> rfl
theorem vl_imm {d : D} {t : List Nat} (h : d.imm = true) : vl d t = ⟨d, .pl, []⟩ := by unfold vl; rw [if_pos h]
theorem vf_imm {d : D} {t : List Nat} (h : d.kids = true) : vf d t = ⟨d, .fr, []⟩ := by unfold vf; rw [if_pos h]
theorem vl_int {i : Int} {t : List Nat} : vl (.int i) t = ⟨.int i, .pl, []⟩ := vl_imm rfl
theorem vl_str {i : Str} {t : List Nat} : vl (.str i) t = ⟨.str i, .pl, []⟩ := vl_imm rfl
theorem vl_bl {i : Bool} {t : List Nat} : vl (.bl i) t = ⟨.bl i, .pl, []⟩ := vl_imm rfl
theorem vl_non {t : List Nat} : vl .non t = ⟨.non, .pl, []⟩ := vl_imm rfl
@[simp] theorem frz_nil {ρ : En} : frz ρ [] = ρ := by
  unfold frz
  refine List.ext_getElem? fun i => ?_
  rw [List.getElem?_mapIdx]
  cases h : ρ[i]? with
  | none => rfl
  | some s => cases s <;> simp
theorem frz_one {ρ : En} {i : Nat} {d : D} (h : ρ[i]? = some (.own d)) : frz ρ [i] = ρ.set i (.val d) := by
  unfold frz
  refine List.ext_getElem? fun j => ?_
  rw [List.getElem?_mapIdx]
  by_cases e : i = j
  · subst e
    have hl : i < ρ.length := (List.getElem?_eq_some_iff.mp h).1
    rw [List.getElem?_set_self hl, h]
    simp
  · rw [List.getElem?_set_ne e]
    cases q : ρ[j]? with
    | none => rfl
    | some s =>
      have e' : ¬ j = i := fun z => e z.symm
      cases s <;> simp [e']
theorem nd2 {i j : Nat} : [i, j].Nodup ↔ ¬ i = j := by simp
noncomputable def forOne (fu : Nat) (b : S) (pt : Pat) : D → En → Dr → SOut := fun x ρ W => ofS (bindP pt x ρ) fun ρ' => evS fu b ρ' W
noncomputable def lcOne (el tst : E) (pt : Pat) (own : List Nat) (ρ : En) : D → Dr → Out (Option Vl) := fun x W => ofO (bindP pt x (wip ρ own)) fun ρ' => (evA tst ρ' W).bind fun b W => if b then (ev el ρ' W).bind fun v W => .ok (some v) W else .ok none W
theorem evS_for {fu : Nat} {pt : Pat} {src : E} {b : S} {ρ : En} {W : Dr} : evS fu (.for pt src b) ρ W = (evI src ρ W).st ρ fun p W => forGo (forOne fu b pt) p.xs (frz ρ (p.me ++ p.t)) W := (Eq.refl _).trans rfl
theorem ev_lc {el tst src : E} {pt : Pat} {own : List Nat} {ρ : En} {W : Dr} : ev (.lc el pt src tst own) ρ W = (evI src ρ W).bind fun p W => match p.t with
    | [] => lcGo (lcOne el tst pt own ρ) p.xs [] [] W
    | _ => .stk := by simp only [ev]; rfl
theorem lcOne_nm {el : E} {i : Nat} {own : List Nat} {ρ : En} {x : D} {W : Dr} : lcOne el .nil (.nm i) own ρ x W = (ev el ((wip ρ own).set i (.val x)) W).bind fun v W => .ok (some v) W := by simp [lcOne, bindP, ofO, evA, Out.bind]
theorem lcOne_ok {el : E} {i : Nat} {own : List Nat} {ρ : En} {x : D} {W W' : Dr} {v : Vl} (h : ev el ((wip ρ own).set i (.val x)) W = .ok v W') : lcOne el .nil (.nm i) own ρ x W = .ok (some v) W' := by rw [lcOne_nm, h]; rfl

theorem for_inv {f : D → En → Dr → SOut} (I : Nat → En → Dr → Prop) : ∀ (xs : List D) (k : Nat) {ρ : En} {W : Dr}, I k ρ W →
    (∀ i x ρ W, xs[i]? = some x → I (k + i) ρ W → ∃ ρ' W', (f x ρ W = .nx ρ' W' ∨ f x ρ W = .ct ρ' W') ∧ I (k + i + 1) ρ' W') → ∃ ρ' W', forGo f xs ρ W = .nx ρ' W' ∧ I (k + xs.length) ρ' W'
  | [], k, ρ, W, h0, _ => ⟨ρ, W, rfl, h0⟩
  | x :: xs, k, ρ, W, h0, h => by
    obtain ⟨ρ1, W1, e, h1⟩ := h 0 x ρ W rfl h0
    obtain ⟨ρ2, W2, e2, h2⟩ := for_inv I xs (k + 1) h1 fun i y ρ W hy hi => by
      have := h (i + 1) y ρ W (by simpa using hy) (by rw [show k + (i + 1) = k + 1 + i by omega]; exact hi)
      rw [show k + 1 + i + 1 = k + (i + 1) + 1 by omega]
      exact this
    refine ⟨ρ2, W2, ?_, by rw [List.length_cons, show k + (xs.length + 1) = k + 1 + xs.length by omega]; exact h2⟩
    rcases e with e | e <;> simp only [forGo, e, e2]
theorem for_inv0 {f : D → En → Dr → SOut} {xs : List D} (I : Nat → En → Dr → Prop) {ρ : En} {W : Dr} (h0 : I 0 ρ W)
    (h : ∀ i x ρ W, xs[i]? = some x → I i ρ W → ∃ ρ' W', (f x ρ W = .nx ρ' W' ∨ f x ρ W = .ct ρ' W') ∧ I (i + 1) ρ' W') : ∃ ρ' W', forGo f xs ρ W = .nx ρ' W' ∧ I xs.length ρ' W' := by
  obtain ⟨ρ', W', e, q⟩ := for_inv I xs 0 h0 fun i x ρ W hx hi => by
    rw [Nat.zero_add] at hi ⊢
    exact h i x ρ W hx hi
  rw [Nat.zero_add] at q
  exact ⟨ρ', W', e, q⟩
theorem whl_inv {c : En → Dr → Out Bool} {f : En → Dr → SOut} (I : Nat → En → Dr → Prop)
    (h : ∀ n ρ W, I n ρ W → (∃ W', c ρ W = .ok false W' ∧ I 0 ρ W') ∨ ∃ m W', n = m + 1 ∧ c ρ W = .ok true W' ∧ ∃ ρ'' W'', (f ρ W' = .nx ρ'' W'' ∨ f ρ W' = .ct ρ'' W'') ∧ I m ρ'' W'') : ∀ (n fu : Nat) {ρ : En} {W : Dr}, I n ρ W → n < fu → ∃ ρ' W', whlGo c f fu ρ W = .nx ρ' W' ∧ I 0 ρ' W'
  | n, 0, _, _, _, hl => by omega
  | n, fu + 1, ρ, W, h0, hl => by
    rcases h n ρ W h0 with ⟨W', e, q⟩ | ⟨m, W', rfl, e, ρ2, W2, e2, q⟩
    · exact ⟨ρ, W', by simp only [whlGo, e, Out.st]; rfl, q⟩
    · obtain ⟨ρ3, W3, e3, q3⟩ := whl_inv I h m fu q (by omega)
      refine ⟨ρ3, W3, ?_, q3⟩
      rcases e2 with e2 | e2 <;> simp only [whlGo, e, Out.st, if_true, e2, e3]
theorem lc_inv {one : D → Dr → Out (Option Vl)} (I : Nat → List D → Dr → Prop) : ∀ (xs : List D) (k : Nat) {acc : List D} {W : Dr}, I k acc W → acc.length + xs.length ≤ cap →
    (∀ i x acc W, xs[i]? = some x → I (k + i) acc W → (∃ W', one x W = .ok none W' ∧ I (k + i + 1) acc W') ∨ ∃ v W', one x W = .ok (some v) W' ∧ v.all = [] ∧ I (k + i + 1) (acc ++ [v.d]) W') → ∃ ys W', lcGo one xs acc [] W = .ok ⟨.lst ys, .fr, []⟩ W' ∧ I (k + xs.length) ys W'
  | [], k, acc, W, h0, _, _ => ⟨acc, W, by simp [lcGo], h0⟩
  | x :: xs, k, acc, W, h0, hl, h => by
    have step : ∀ i y acc W, xs[i]? = some y → I (k + 1 + i) acc W → (∃ W', one y W = .ok none W' ∧ I (k + 1 + i + 1) acc W') ∨ ∃ v W', one y W = .ok (some v) W' ∧ v.all = [] ∧ I (k + 1 + i + 1) (acc ++ [v.d]) W' := fun i y acc W hy hi => by
      have := h (i + 1) y acc W (by simpa using hy) (by rw [show k + (i + 1) = k + 1 + i by omega]; exact hi)
      rw [show k + 1 + i + 1 = k + (i + 1) + 1 by omega]
      exact this
    rw [List.length_cons] at hl
    have el : k + (x :: xs).length = k + 1 + xs.length := by rw [List.length_cons]; omega
    rcases h 0 x acc W rfl h0 with ⟨W1, e, q⟩ | ⟨v, W1, e, hv, q⟩
    · obtain ⟨ys, W2, e2, q2⟩ := lc_inv I xs (k + 1) q (by omega) step
      exact ⟨ys, W2, by simp only [lcGo, e, e2], by rw [el]; exact q2⟩
    · obtain ⟨ys, W2, e2, q2⟩ := lc_inv I xs (k + 1) q (by simp; omega) step
      refine ⟨ys, W2, ?_, by rw [el]; exact q2⟩
      simp only [lcGo, e, hv, List.append_nil]
      rw [if_pos (by omega)]
      exact e2
theorem lc_inv0 {one : D → Dr → Out (Option Vl)} {xs : List D} (I : Nat → List D → Dr → Prop) {W : Dr} (h0 : I 0 [] W) (hl : xs.length ≤ cap)
    (h : ∀ i x acc W, xs[i]? = some x → I i acc W → (∃ W', one x W = .ok none W' ∧ I (i + 1) acc W') ∨ ∃ v W', one x W = .ok (some v) W' ∧ v.all = [] ∧ I (i + 1) (acc ++ [v.d]) W') : ∃ ys W', lcGo one xs [] [] W = .ok ⟨.lst ys, .fr, []⟩ W' ∧ I xs.length ys W' := by
  obtain ⟨ys, W', e, q⟩ := lc_inv I xs 0 h0 (by simpa using hl) fun i x acc W hx hi => by
    rw [Nat.zero_add] at hi ⊢
    exact h i x acc W hx hi
  rw [Nat.zero_add] at q
  exact ⟨ys, W', e, q⟩
theorem lc_map {one : D → Dr → Out (Option Vl)} {g : D → Option D} {W : Dr} : ∀ (xs : List D) {acc : List D}, acc.length + xs.length ≤ cap → (∀ x ∈ xs, ∃ o, one x W = .ok o W ∧ o.map (·.d) = g x ∧ ∀ v, o = some v → v.all = []) →
    lcGo one xs acc [] W = .ok ⟨.lst (acc ++ xs.filterMap g), .fr, []⟩ W
  | [], acc, _, _ => by simp [lcGo]
  | x :: xs, acc, hl, h => by
    obtain ⟨o, e, e2, e3⟩ := h x List.mem_cons_self
    rw [List.length_cons] at hl
    have ih := fun acc' h' => lc_map (one := one) (g := g) (W := W) xs (acc := acc') h' fun y hy => h y (List.mem_cons_of_mem _ hy)
    cases o with
    | none =>
      simp only [lcGo, e]
      rw [ih acc (by omega)]
      simp only [Option.map_none] at e2
      simp [List.filterMap_cons, ← e2]
    | some v =>
      simp only [lcGo, e, e3 v rfl, List.append_nil]
      rw [if_pos (by omega), ih _ (by simp; omega)]
      simp only [Option.map_some] at e2
      simp [List.filterMap_cons, ← e2]
theorem rng_len {n : Nat} : ((List.range n).map fun k : Nat => D.int (k : Int)).length = n := by simp
theorem rng_at {n i : Nat} {x : D} (h : ((List.range n).map fun k : Nat => D.int (k : Int))[i]? = some x) : x = .int i ∧ i < n := by
  rw [List.getElem?_map, Option.map_eq_some_iff] at h
  obtain ⟨j, h1, rfl⟩ := h
  have hi : i < n := by simpa using (List.getElem?_eq_some_iff.mp h1).1
  rw [List.getElem?_range hi] at h1
  cases h1
  exact ⟨rfl, hi⟩
theorem rngD1 {n : Int} (h0 : 0 ≤ n) (h : n < 2 ^ 62) : rngD [.int n] = some ((List.range n.toNat).map fun k : Nat => .int (k : Int)) := by
  simp only [rngD, big_eq]; rw [if_pos ⟨by omega, h⟩]
theorem rngN {n : Nat} (h : n < 2 ^ 40) : rngD [.int n] = some ((List.range n).map fun k : Nat => .int (k : Int)) := by
  have := rngD1 (n := (n : Int)) (by omega) (by omega)
  rwa [Int.toNat_natCast] at this
theorem atD_nat {α : Type} {xs : List α} {i : Nat} (h : i < xs.length) : atD xs (i : Int) = some xs[i] := by
  unfold atD L2.atI L2.ixN
  rw [if_pos (by omega), if_pos (by omega)]
  simp [h]
theorem atD_int {α : Type} {xs : List α} {i : Int} (h0 : 0 ≤ i) (h : i < xs.length) : atD xs i = some (xs[i.toNat]'(by omega)) := by
  obtain ⟨n, rfl⟩ := Int.eq_ofNat_of_zero_le h0
  exact atD_nat (by omega)
theorem atD_mem {α : Type} {xs : List α} {i : Int} (h0 : 0 ≤ i) (h : i < xs.length) : ∃ x ∈ xs, atD xs i = some x ∧ xs[i.toNat]? = some x := by
  rw [atD_int h0 h]
  exact ⟨_, List.getElem_mem _, rfl, List.getElem?_eq_getElem _⟩
theorem ixOf_nat {n i : Nat} (h : i < n) : ixOf n (i : Int) = some i := by
  unfold ixOf L2.ixN
  rw [if_pos (by omega), if_pos (by omega)]
  simp
theorem ixOf_int {n : Nat} {i : Int} (h0 : 0 ≤ i) (h : i < n) : ixOf n i = some i.toNat := by
  obtain ⟨m, rfl⟩ := Int.eq_ofNat_of_zero_le h0
  exact ixOf_nat (by omega)
theorem cut_to {α : Type} {xs : List α} {k : Int} (h : 0 ≤ k) : cutD xs none (some k) = xs.take k.toNat := by
  obtain ⟨n, rfl⟩ := Int.eq_ofNat_of_zero_le h
  unfold cutD
  rw [show ((n : Int)) = ((n : Nat) : Int) from rfl, HT.sIx_nat, HT.sIx_none]
  simp
theorem cut_from {α : Type} {xs : List α} {k : Int} (h : 0 ≤ k) : cutD xs (some k) none = xs.drop k.toNat := by
  obtain ⟨n, rfl⟩ := Int.eq_ofNat_of_zero_le h
  unfold cutD
  rw [HT.sIx_nat, HT.sIx_none, Int.toNat_natCast]
  by_cases q : n ≤ xs.length
  · rw [Nat.min_eq_left q, List.take_of_length_le (by simp)]
  · rw [Nat.min_eq_right (by omega)]
    simp [List.drop_eq_nil_of_le (show xs.length ≤ n by omega)]
theorem imm_strs : ∀ l : List Str, D.immL (l.map .str) = true
  | [] => by simp [D.immL]
  | _ :: l => by simp [D.immL, D.imm, imm_strs l]
theorem immL_iff : ∀ l : List D, D.immL l = true ↔ ∀ x ∈ l, x.imm = true
  | [] => by simp [D.immL]
  | x :: l => by simp [D.immL, immL_iff l]
def Pd (n : Nat) (x : D) : Prop := ∃ p, D.pyN n x = some p
theorem pyNL_of {n : Nat} : ∀ {xs : List D}, (∀ x ∈ xs, Pd n x) → ∃ ps, D.pyNL n xs = some ps ∧ ps.length = xs.length
  | [], _ => ⟨[], by simp [D.pyNL], rfl⟩
  | x :: xs, h => by
    obtain ⟨p, hp⟩ := h x List.mem_cons_self
    obtain ⟨ps, h1, h2⟩ := pyNL_of fun y hy => h y (List.mem_cons_of_mem _ hy)
    exact ⟨p :: ps, by simp [D.pyNL, hp, h1], by simp [h2]⟩
theorem eq_nil {xs : List D} (h : ∀ x ∈ xs, Pd 11 x) : D.eq (.lst xs) (.lst []) = some xs.isEmpty := by
  obtain ⟨ps, h1, h2⟩ := pyNL_of h
  simp only [D.eq, D.pd, D.pyN, h1, Option.map_some, D.pyNL]
  cases xs with
  | nil =>
    simp only [List.length_nil, List.length_eq_zero_iff] at h2
    subst h2
    rfl
  | cons x xs =>
    cases ps with
    | nil => simp at h2
    | cons p ps => rfl
theorem pd_str {n : Nat} {s : Str} : Pd n (.str s) := by cases n <;> exact ⟨_, by simp only [D.pyN]; rfl⟩
theorem pd_int {n : Nat} {s : Int} : Pd n (.int s) := by cases n <;> exact ⟨_, by simp only [D.pyN]; rfl⟩
theorem pd_bl {n : Nat} {s : Bool} : Pd n (.bl s) := by cases n <;> exact ⟨_, by simp only [D.pyN]; rfl⟩
theorem pd_non {n : Nat} : Pd n .non := by cases n <;> exact ⟨_, by simp only [D.pyN]; rfl⟩
theorem pd_tup {n : Nat} {xs : List D} (h : ∀ x ∈ xs, Pd n x) : Pd (n + 1) (.tup xs) := by
  obtain ⟨ps, h1, _⟩ := pyNL_of h
  exact ⟨_, by simp only [D.pyN, h1, Option.map_some]; rfl⟩
theorem pd_lst {n : Nat} {xs : List D} (h : ∀ x ∈ xs, Pd n x) : Pd (n + 1) (.lst xs) := by
  obtain ⟨ps, h1, _⟩ := pyNL_of h
  exact ⟨_, by simp only [D.pyN, h1, Option.map_some]; rfl⟩
theorem for_pre {α : Type} (dec : α → D) (enc : List α → En) {f : D → En → Dr → SOut} {W : Dr} : ∀ {r p : List α}, (∀ q x r', p ++ r = q ++ x :: r' → p.length ≤ q.length → f (dec x) (enc q) W = .nx (enc (q ++ [x])) W ∨ f (dec x) (enc q) W = .ct (enc (q ++ [x])) W) →
    forGo f (r.map dec) (enc p) W = .nx (enc (p ++ r)) W
  | [], p, _ => by simp [forGo]
  | x :: r, p, h => by
    have e := h p x r rfl (Nat.le_refl _)
    have ih := for_pre dec enc (r := r) (p := p ++ [x]) fun q y r' e1 e2 => h q y r' (by simpa using e1) (by simp at e2; omega)
    rw [List.map_cons]
    rcases e with e | e <;> simp only [forGo, e, ih, List.append_assoc, List.singleton_append]
theorem for_pre0 {α : Type} (dec : α → D) (enc : List α → En) {f : D → En → Dr → SOut} {W : Dr} {xs : List α} (h : ∀ q x r, xs = q ++ x :: r → f (dec x) (enc q) W = .nx (enc (q ++ [x])) W ∨ f (dec x) (enc q) W = .ct (enc (q ++ [x])) W) :
    forGo f (xs.map dec) (enc []) W = .nx (enc xs) W := by
  have := for_pre dec enc (f := f) (W := W) (r := xs) (p := []) fun q x r e _ => h q x r (by simpa using e)
  simpa using this
theorem for_ret {α : Type} (dec : α → D) (enc : List α → En) (P : α → Bool) (v : α → Vl) {f : D → En → Dr → SOut} {W : Dr} {xs : List α} (h : ∀ q x r, xs = q ++ x :: r → q.all (fun y => !P y) = true → if P x = true then ∃ ρ', f (dec x) (enc q) W = .rt (v x) ρ' W else f (dec x) (enc q) W = .nx (enc (q ++ [x])) W) :
    match xs.find? P with
    | some x => ∃ ρ', forGo f (xs.map dec) (enc []) W = .rt (v x) ρ' W
    | none => forGo f (xs.map dec) (enc []) W = .nx (enc xs) W := by
  suffices H : ∀ (r p : List α), xs = p ++ r → p.all (fun y => !P y) = true → match r.find? P with
    | some x => ∃ ρ', forGo f (r.map dec) (enc p) W = .rt (v x) ρ' W
    | none => forGo f (r.map dec) (enc p) W = .nx (enc (p ++ r)) W from by
      have := H xs [] rfl rfl
      simpa using this
  intro r
  induction r with
  | nil => intro p _ _; simp [forGo]
  | cons x r ih =>
    intro p e hp
    have hx := h p x r e hp
    by_cases hP : P x = true
    · rw [if_pos hP] at hx
      obtain ⟨ρ', hx⟩ := hx
      rw [List.find?_cons_of_pos hP]
      exact ⟨ρ', by simp only [List.map_cons, forGo, hx]⟩
    · rw [if_neg hP] at hx
      have hP' : P x = false := by simpa using hP
      rw [List.find?_cons_of_neg hP]
      have := ih (p ++ [x]) (by simp [e]) (by simp only [List.all_append, hp, List.all_cons, hP', List.all_nil]; rfl)
      simp only [List.map_cons, forGo, hx]
      simpa using this
theorem lc_dec {α : Type} (dec : α → D) (g : α → Option D) {one : D → Dr → Out (Option Vl)} {W : Dr} {xs : List α} (hl : xs.length ≤ cap) (h : ∀ x ∈ xs, ∃ o, one (dec x) W = .ok o W ∧ o.map (·.d) = g x ∧ ∀ v, o = some v → v.all = []) :
    lcGo one (xs.map dec) [] [] W = .ok ⟨.lst (xs.filterMap g), .fr, []⟩ W := by
  suffices H : ∀ (ys : List α) {acc : List D}, acc.length + ys.length ≤ cap → (∀ x ∈ ys, x ∈ xs) → lcGo one (ys.map dec) acc [] W = .ok ⟨.lst (acc ++ ys.filterMap g), .fr, []⟩ W from by
    have := H xs (acc := []) (by simpa using hl) fun _ h => h
    simpa using this
  intro ys
  induction ys with
  | nil => intro acc _ _; simp [lcGo]
  | cons x ys ih =>
    intro acc hl2 hs
    obtain ⟨o, e, e2, e3⟩ := h x (hs x List.mem_cons_self)
    rw [List.length_cons] at hl2
    cases o with
    | none =>
      simp only [List.map_cons, lcGo, e]
      rw [ih (by omega) fun y hy => hs y (List.mem_cons_of_mem _ hy)]
      simp only [Option.map_none] at e2
      simp [List.filterMap_cons, ← e2]
    | some v =>
      simp only [List.map_cons, lcGo, e, e3 v rfl, List.append_nil]
      rw [if_pos (by omega), ih (by simp; omega) fun y hy => hs y (List.mem_cons_of_mem _ hy)]
      simp only [Option.map_some] at e2
      simp [List.filterMap_cons, ← e2]
theorem lc_filter {α : Type} (dec : α → D) (p : α → Bool) {one : D → Dr → Out (Option Vl)} {W : Dr} {xs : List α} (hl : xs.length ≤ cap) (h : ∀ x ∈ xs, ∃ v, one (dec x) W = .ok (if p x = true then some v else none) W ∧ v.d = dec x ∧ v.all = []) :
    lcGo one (xs.map dec) [] [] W = .ok ⟨.lst ((xs.filter p).map dec), .fr, []⟩ W := by
  rw [lc_dec dec (fun x => if p x = true then some (dec x) else none) hl fun x hx => ?_]
  · congr 3
    clear h hl
    induction xs with
    | nil => rfl
    | cons x xs ih =>
      by_cases q : p x = true
      · simp [q, ih]
      · simp [q, ih]
  · obtain ⟨v, e, e2, e3⟩ := h x hx
    refine ⟨_, e, ?_, fun w hw => ?_⟩
    · split
      · simp [e2]
      · rfl
    · split at hw
      · cases hw; exact e3
      · cases hw
end Z

namespace Z
open PySem
structure Wd (T : Nat) (W : Dr) : Prop where
  t0 : 0 ≤ W.turn
  t1 : W.turn ≤ (T : Int)
  rs : 0 ≤ W.rest
  wd : ∀ x ∈ W.wide, 0 ≤ x
  cl : ∀ x ∈ W.cells, 0 ≤ x ∧ x < 2147483629
theorem Wd.mono {T T' : Nat} {W : Dr} (h : Wd T W) (l : T ≤ T') : Wd T' W := ⟨h.t0, by have := h.t1; omega, h.rs, h.wd, h.cl⟩
theorem wd0 (ns : List Int) : Wd 0 (dr0 ns) := by
  refine ⟨Int.le_refl _, Int.le_refl _, Int.le_refl _, fun x hx => ?_, fun x hx => ?_⟩
  · obtain ⟨i, _, e⟩ := List.mem_filterMap.mp (show x ∈ wideOf ns from hx)
    split at e <;> cases e
    omega
  · obtain ⟨i, _, e⟩ := List.mem_map.mp (show x ∈ cellsOf ns from hx)
    subst e
    omega
theorem pow_small {b : Int} (h0 : 0 ≤ b) (h : b < 2 ^ 60) : b.natAbs < 2 ^ 64 := by omega
theorem mixed1 {t f p c b : Int} {s5 : Sl} {W : Dr} (hp : 0 < p) : evS 1000000 B__law_mixed_1 ([.val .drw, .val (.int t), .val (.int f), .val (.int p), .val (.int b), s5].set 5 (.val (.int c))) W = .nx [.val .drw, .val (.int t), .val (.int f), .val (.int p), .val (.int ((b * 48271 + c + t) % p)), .val (.int c)] W := by
  unfold B__law_mixed_1
  simp [wip, SOut.wp, vl_int, vl_str, vl_bl, vl_non, nd2, Nat.reduceLeDiff, Nat.reduceEqDiff, not_false_eq_true, and_self, and_true, true_and, putAll, big_eq, ↓evS_for, ↓ev_lc, evS, evT, evA, ev, evL, evO, evI, Out.bind, Out.st, ofS, ofO, D.isBl, vo, put, Vl.isFr, Vl.all, biD, ds, ts, sets, List.flatMap_cons, List.flatMap_nil, List.map_cons, List.map_nil, List.append_nil, List.nil_append, vl_nil, vf_nil, frz_nil, List.getElem?_cons_zero, List.getElem?_cons_succ, List.set_cons_zero, List.set_cons_succ, Bool.false_eq_true, if_false, if_true, reduceIte, List.length_cons, List.length_nil, Nat.reduceAdd, Nat.reduceSub, List.replicate, List.cons_append, List.replicate_succ, List.replicate_zero, Option.map_some, Option.map_none, Bool.not_true, Bool.not_false, List.singleton_append, binD, intD, hp]
theorem mixed2 {t f p : Int} {s3 s4 s5 : Sl} {W : Dr} (hp : 0 < p) (hp2 : p ≤ 2147483629) (hf : 0 ≤ f) (ht : 0 ≤ t) (ht2 : t ≤ 2 ^ 41) :
    ∃ f' s4' s5', 0 ≤ f' ∧ evS 1000000 B__law_mixed_2 ([.val .drw, .val (.int t), .val (.int f), s3, s4, s5].set 3 (.val (.int p))) W = .nx [.val .drw, .val (.int t), .val (.int f'), .val (.int p), s4', s5'] W := by
  obtain ⟨ρ', W', e, b', s5', rfl, e2, h1, h2⟩ := for_inv0 (f := forOne 1000000 B__law_mixed_1 (.nm 5)) (xs := W.cells.map .int) (ρ := [.val .drw, .val (.int t), .val (.int f), .val (.int p), .val (.int (57731 * t + p / 29)), s5]) (W := W)
    (I := fun _ ρ V => ∃ b s5, ρ = [.val .drw, .val (.int t), .val (.int f), .val (.int p), .val (.int b), s5] ∧ V = W ∧ 0 ≤ b ∧ b < 2 ^ 60) ⟨_, _, rfl, rfl, by omega, by omega⟩ (fun i x ρ V hx ⟨b, s5, e1, e2, h1, h2⟩ => by
      subst e1 e2
      rw [List.getElem?_map, Option.map_eq_some_iff] at hx
      obtain ⟨c, hc, rfl⟩ := hx
      refine ⟨_, _, .inl (mixed1 hp), _, _, rfl, rfl, ?_⟩
      have := Int.emod_nonneg (b * 48271 + c + t) (b := p) (by omega)
      have := Int.emod_lt_of_pos (b * 48271 + c + t) hp
      omega)
  subst e2
  have hb : b'.natAbs < 2 ^ 64 := pow_small h1 h2
  have hq : (0 : Int) ≤ b' ^ 5 % p := Int.emod_nonneg _ (by omega)
  refine ⟨f * 2147483647 + b' ^ 5 % p, .val (.int b'), s5', by omega, ?_⟩
  unfold B__law_mixed_2
  simp [wip, SOut.wp, vl_int, vl_str, vl_bl, vl_non, nd2, Nat.reduceLeDiff, Nat.reduceEqDiff, not_false_eq_true, and_self, and_true, true_and, putAll, big_eq, ↓evS_for, ↓ev_lc, evS, evT, evA, ev, evL, evO, evI, Out.bind, Out.st, ofS, ofO, D.isBl, vo, put, Vl.isFr, Vl.all, biD, ds, ts, sets, List.flatMap_cons, List.flatMap_nil, List.map_cons, List.map_nil, List.append_nil, List.nil_append, vl_nil, vf_nil, frz_nil, List.getElem?_cons_zero, List.getElem?_cons_succ, List.set_cons_zero, List.set_cons_succ, Bool.false_eq_true, if_false, if_true, reduceIte, List.length_cons, List.length_nil, Nat.reduceAdd, Nat.reduceSub, List.replicate, List.cons_append, List.replicate_succ, List.replicate_zero, Option.map_some, Option.map_none, Bool.not_true, Bool.not_false, List.singleton_append, binD, intD, D.items, e, hp, hb]
theorem mixed_ok {T : Nat} {W : Dr} (h : Wd T W) (hT : T ≤ 1099511627776) : ∃ r, 0 ≤ r ∧ G__law_mixed [.drw] W = .ok (false, .int r) { W with turn := W.turn + 1 } := by
  have ht := h.t0; have ht1 := h.t1
  obtain ⟨ρ', W', e, f', s3, s4, s5, rfl, e2, h1⟩ := for_inv0 (f := forOne 1000000 B__law_mixed_2 (.nm 3)) (xs := [.int 2147483629, .int 2147483587, .int 2147483579, .int 2147483563]) (ρ := [.val .drw, .val (.int (W.turn + 1)), .val (.int 0), .un, .un, .un]) (W := { W with turn := W.turn + 1 })
    (I := fun _ ρ V => ∃ f s3 s4 s5, ρ = [.val .drw, .val (.int (W.turn + 1)), .val (.int f), s3, s4, s5] ∧ V = { W with turn := W.turn + 1 } ∧ 0 ≤ f) ⟨0, _, _, _, rfl, rfl, by omega⟩ (fun i x ρ V hx ⟨f, s3, s4, s5, e1, e2, h1⟩ => by
      subst e1 e2
      obtain ⟨p, rfl, hp, hp2⟩ : ∃ p, x = .int p ∧ 0 < p ∧ p ≤ 2147483629 := by
        have := List.mem_of_getElem? hx
        simp only [List.mem_cons, List.not_mem_nil, or_false] at this
        rcases this with rfl | rfl | rfl | rfl <;> exact ⟨_, rfl, by omega, by omega⟩
      obtain ⟨f', s4', s5', hf', e⟩ := mixed2 (s3 := s3) (s4 := s4) (s5 := s5) (W := { W with turn := W.turn + 1 }) hp hp2 h1 (t := W.turn + 1) (by omega) (by omega)
      exact ⟨_, _, .inl e, f', _, s4', s5', rfl, rfl, hf'⟩)
  subst e2
  refine ⟨f', h1, ?_⟩
  unfold G__law_mixed Z.run B__law_mixed
  simp [wip, SOut.wp, vl_int, vl_str, vl_bl, vl_non, nd2, Nat.reduceLeDiff, Nat.reduceEqDiff, not_false_eq_true, and_self, and_true, true_and, putAll, big_eq, ↓evS_for, ↓ev_lc, evS, evT, evA, ev, evL, evO, evI, Out.bind, Out.st, ofS, ofO, D.isBl, vo, put, Vl.isFr, Vl.all, biD, ds, ts, sets, List.flatMap_cons, List.flatMap_nil, List.map_cons, List.map_nil, List.append_nil, List.nil_append, vl_nil, vf_nil, frz_nil, List.getElem?_cons_zero, List.getElem?_cons_succ, List.set_cons_zero, List.set_cons_succ, Bool.false_eq_true, if_false, if_true, reduceIte, List.length_cons, List.length_nil, Nat.reduceAdd, Nat.reduceSub, List.replicate, List.cons_append, List.replicate_succ, List.replicate_zero, Option.map_some, Option.map_none, Bool.not_true, Bool.not_false, List.singleton_append, binD, putAll, D.items, e, cap]
theorem take_ok {T : Nat} {n : Int} {W : Dr} (h : Wd T W) (hT : T ≤ 1099511627776) (hn : 0 < n) (hn2 : n < 1073741824) : ∃ r W', 0 ≤ r ∧ r < n ∧ Wd (T + 1) W' ∧ G__law_take [.drw, .int n] W = .ok (false, .int r) W' := by
  have ht := h.t0; have ht1 := h.t1; have hr := h.rs
  have key : ∀ (W1 : Dr), Wd (T + 1) W1 → G__law_take [.drw, .int n] W = .ok (false, .int (W1.rest % n)) { W1 with rest := W1.rest / n } → ∃ r W', 0 ≤ r ∧ r < n ∧ Wd (T + 1) W' ∧ G__law_take [.drw, .int n] W = .ok (false, .int r) W' := fun W1 h1 e =>
    ⟨W1.rest % n, { W1 with rest := W1.rest / n }, Int.emod_nonneg _ (by omega), Int.emod_lt_of_pos _ hn, ⟨h1.t0, h1.t1, Int.ediv_nonneg h1.rs (by omega), h1.wd, h1.cl⟩, e⟩
  by_cases h0 : W.rest = 0
  · cases hw : W.wide with
    | nil =>
      obtain ⟨r, h1, e⟩ := mixed_ok h hT
      refine key { W with turn := W.turn + 1, rest := r } ⟨by simp only; omega, by simp only; omega, h1, h.wd, h.cl⟩ ?_
      unfold G__law_take Z.run B__law_take
      simp [wip, SOut.wp, vl_int, vl_str, vl_bl, vl_non, nd2, Nat.reduceLeDiff, Nat.reduceEqDiff, not_false_eq_true, and_self, and_true, true_and, putAll, big_eq, ↓evS_for, ↓ev_lc, evS, evT, evA, ev, evL, evO, evI, Out.bind, Out.st, ofS, ofO, D.isBl, vo, put, Vl.isFr, Vl.all, biD, ds, ts, sets, List.flatMap_cons, List.flatMap_nil, List.map_cons, List.map_nil, List.append_nil, List.nil_append, vl_nil, vf_nil, frz_nil, List.getElem?_cons_zero, List.getElem?_cons_succ, List.set_cons_zero, List.set_cons_succ, Bool.false_eq_true, if_false, if_true, reduceIte, List.length_cons, List.length_nil, Nat.reduceAdd, Nat.reduceSub, List.replicate, List.cons_append, List.replicate_succ, List.replicate_zero, Option.map_some, Option.map_none, Bool.not_true, Bool.not_false, List.singleton_append, cmpD, D.eq, D.pyN, PyData.eqv, binD, intD, h0, hw, e, hn, hn2]
    | cons w ws =>
      refine key { W with wide := ws, rest := w } ⟨ht, by simp only; omega, h.wd w (by rw [hw]; simp), fun x hx => h.wd x (by rw [hw]; exact List.mem_cons_of_mem _ hx), h.cl⟩ ?_
      unfold G__law_take Z.run B__law_take
      simp [wip, SOut.wp, vl_int, vl_str, vl_bl, vl_non, nd2, Nat.reduceLeDiff, Nat.reduceEqDiff, not_false_eq_true, and_self, and_true, true_and, putAll, big_eq, ↓evS_for, ↓ev_lc, evS, evT, evA, ev, evL, evO, evI, Out.bind, Out.st, ofS, ofO, D.isBl, vo, put, Vl.isFr, Vl.all, biD, ds, ts, sets, List.flatMap_cons, List.flatMap_nil, List.map_cons, List.map_nil, List.append_nil, List.nil_append, vl_nil, vf_nil, frz_nil, List.getElem?_cons_zero, List.getElem?_cons_succ, List.set_cons_zero, List.set_cons_succ, Bool.false_eq_true, if_false, if_true, reduceIte, List.length_cons, List.length_nil, Nat.reduceAdd, Nat.reduceSub, List.replicate, List.cons_append, List.replicate_succ, List.replicate_zero, Option.map_some, Option.map_none, Bool.not_true, Bool.not_false, List.singleton_append, cmpD, D.eq, D.pyN, PyData.eqv, binD, intD, h0, hw, hn, hn2]
  · refine key W (h.mono (by omega)) ?_
    unfold G__law_take Z.run B__law_take
    simp [wip, SOut.wp, vl_int, vl_str, vl_bl, vl_non, nd2, Nat.reduceLeDiff, Nat.reduceEqDiff, not_false_eq_true, and_self, and_true, true_and, putAll, big_eq, ↓evS_for, ↓ev_lc, evS, evT, evA, ev, evL, evO, evI, Out.bind, Out.st, ofS, ofO, D.isBl, vo, put, Vl.isFr, Vl.all, biD, ds, ts, sets, List.flatMap_cons, List.flatMap_nil, List.map_cons, List.map_nil, List.append_nil, List.nil_append, vl_nil, vf_nil, frz_nil, List.getElem?_cons_zero, List.getElem?_cons_succ, List.set_cons_zero, List.set_cons_succ, Bool.false_eq_true, if_false, if_true, reduceIte, List.length_cons, List.length_nil, Nat.reduceAdd, Nat.reduceSub, List.replicate, List.cons_append, List.replicate_succ, List.replicate_zero, Option.map_some, Option.map_none, Bool.not_true, Bool.not_false, List.singleton_append, cmpD, D.eq, D.pyN, PyData.eqv, binD, intD, h0, hn, hn2]
theorem pick_ok {T : Nat} {xs : List D} {W : Dr} (h : Wd T W) (hT : T ≤ 1099511627776) (hn : xs ≠ []) (hn2 : xs.length < 1073741824) : ∃ x W', x ∈ xs ∧ Wd (T + 1) W' ∧ G__law_pick [.drw, .lst xs] W = .ok (false, x) W' := by
  have hl : 0 < xs.length := List.length_pos_iff.mpr hn
  obtain ⟨r, W', h1, h2, h3, e⟩ := take_ok (n := (xs.length : Int)) h hT (by omega) (by omega)
  obtain ⟨x, hx, e2, _⟩ := atD_mem (xs := xs) h1 h2
  refine ⟨x, W', hx, h3, ?_⟩
  unfold G__law_pick Z.run B__law_pick
  simp [wip, SOut.wp, vl_int, vl_str, vl_bl, vl_non, nd2, Nat.reduceLeDiff, Nat.reduceEqDiff, not_false_eq_true, and_self, and_true, true_and, putAll, big_eq, ↓evS_for, ↓ev_lc, evS, evT, evA, ev, evL, evO, evI, Out.bind, Out.st, ofS, ofO, D.isBl, vo, put, Vl.isFr, Vl.all, biD, ds, ts, sets, List.flatMap_cons, List.flatMap_nil, List.map_cons, List.map_nil, List.append_nil, List.nil_append, vl_nil, vf_nil, frz_nil, List.getElem?_cons_zero, List.getElem?_cons_succ, List.set_cons_zero, List.set_cons_succ, Bool.false_eq_true, if_false, if_true, reduceIte, List.length_cons, List.length_nil, Nat.reduceAdd, Nat.reduceSub, List.replicate, List.cons_append, List.replicate_succ, List.replicate_zero, Option.map_some, Option.map_none, Bool.not_true, Bool.not_false, List.singleton_append, lenD, ixD, e, e2]
theorem perm_erase {α : Type} : ∀ (l : List α) {i : Nat} (h : i < l.length), (l[i] :: l.eraseIdx i).Perm l
  | [], i, h => by simp at h
  | x :: l, 0, h => by simp
  | x :: l, i + 1, h => by
    have h' : i < l.length := by simpa using h
    simp only [List.getElem_cons_succ, List.eraseIdx_cons_succ]
    exact (List.Perm.swap x l[i] (l.eraseIdx i)).trans ((perm_erase l h').cons x)
theorem shuffled_ok {T : Nat} {xs : List D} {W : Dr} (h : Wd T W) (hT : T + xs.length ≤ 1099511627776) (hp : ∀ x ∈ xs, Pd 11 x) (hl : xs.length < 999999) : ∃ ys W', ys.Perm xs ∧ Wd (T + xs.length) W' ∧ G__law_shuffled [.drw, .lst xs] W = .ok (true, .lst ys) W' := by
  obtain ⟨ρ', W', e, left, found, rfl, hn, hperm, hw⟩ := whl_inv (c := evT T__law_shuffled_1) (f := evS 1000000 B__law_shuffled_2)
    (fun n ρ V => ∃ left found, ρ = [.val .drw, .val (.lst xs), .own (.lst left), .own (.lst found)] ∧ left.length = n ∧ (left ++ found).Perm xs ∧ Wd (T + (xs.length - n)) V) (fun n ρ V ⟨left, found, e1, e2, e3, e4⟩ => by
      subst e1
      have hpl : ∀ x ∈ left, Pd 11 x := fun x hx => hp x (e3.subset (List.mem_append_left _ hx))
      have hlen : left.length + found.length = xs.length := by rw [← e3.length_eq, List.length_append]
      have hc : evT T__law_shuffled_1 [.val .drw, .val (.lst xs), .own (.lst left), .own (.lst found)] V = .ok (!left.isEmpty) V := by
        simp [T__law_shuffled_1, wip, SOut.wp, vl_int, vl_str, vl_bl, vl_non, nd2, Nat.reduceLeDiff, Nat.reduceEqDiff, not_false_eq_true, and_self, and_true, true_and, putAll, big_eq, ↓evS_for, ↓ev_lc, evS, evT, evA, ev, evL, evO, evI, Out.bind, Out.st, ofS, ofO, D.isBl, vo, put, Vl.isFr, Vl.all, biD, ds, ts, sets, List.flatMap_cons, List.flatMap_nil, List.map_cons, List.map_nil, List.append_nil, List.nil_append, vl_nil, vf_nil, frz_nil, List.getElem?_cons_zero, List.getElem?_cons_succ, List.set_cons_zero, List.set_cons_succ, Bool.false_eq_true, if_false, if_true, reduceIte, List.length_cons, List.length_nil, Nat.reduceAdd, Nat.reduceSub, List.replicate, List.cons_append, List.replicate_succ, List.replicate_zero, Option.map_some, Option.map_none, Bool.not_true, Bool.not_false, List.singleton_append, cmpD, eq_nil hpl]
      cases left with
      | nil =>
        refine .inl ⟨V, hc, [], found, rfl, rfl, e3, ?_⟩
        simp only [List.length_nil] at e2
        rw [← e2] at e4
        exact e4
      | cons y0 l0 =>
        generalize hL : y0 :: l0 = left at *
        have h0 : 0 < left.length := by rw [← hL]; simp
        refine .inr ⟨n - 1, V, by omega, by rw [hc, ← hL]; rfl, ?_⟩
        obtain ⟨r, W', h1, h2, h3, e⟩ := take_ok (n := (left.length : Int)) e4 (by omega) (by omega) (by omega)
        have hr : r.toNat < left.length := by omega
        refine ⟨[.val .drw, .val (.lst xs), .own (.lst (left.eraseIdx r.toNat)), .own (.lst (found ++ [left[r.toNat]]))], W', .inl ?_, _, _, rfl, ?_, ?_, ?_⟩
        · unfold B__law_shuffled_2
          have hcap : found.length < cap := by unfold cap; omega
          have hb : -9223372036854775808 ≤ r ∧ r < 9223372036854775808 := ⟨by omega, by omega⟩
          simp [wip, SOut.wp, vl_int, vl_str, vl_bl, vl_non, nd2, Nat.reduceLeDiff, Nat.reduceEqDiff, not_false_eq_true, and_self, and_true, true_and, putAll, big_eq, ↓evS_for, ↓ev_lc, evS, evT, evA, ev, evL, evO, evI, Out.bind, Out.st, ofS, ofO, D.isBl, vo, put, Vl.isFr, Vl.all, biD, ds, ts, sets, List.flatMap_cons, List.flatMap_nil, List.map_cons, List.map_nil, List.append_nil, List.nil_append, vl_nil, vf_nil, frz_nil, List.getElem?_cons_zero, List.getElem?_cons_succ, List.set_cons_zero, List.set_cons_succ, Bool.false_eq_true, if_false, if_true, reduceIte, List.length_cons, List.length_nil, Nat.reduceAdd, Nat.reduceSub, List.replicate, List.cons_append, List.replicate_succ, List.replicate_zero, Option.map_some, Option.map_none, Bool.not_true, Bool.not_false, List.singleton_append, lenD, e, popD, ixOf_int h1 h2, List.getElem?_eq_getElem hr, hcap, hb]
        · rw [List.length_eraseIdx_of_lt hr]; omega
        · refine List.Perm.trans ?_ e3
          refine (List.perm_append_comm (l₁ := left.eraseIdx r.toNat)).trans ?_
          rw [List.append_assoc]
          refine (List.perm_append_comm (l₁ := found)).trans ?_
          refine List.Perm.append_right found ?_
          exact perm_erase _ hr
        · exact h3.mono (by omega))
    xs.length 1000000 (ρ := [.val .drw, .val (.lst xs), .own (.lst xs), .own (.lst [])]) (W := W) ⟨xs, [], rfl, rfl, by rw [List.append_nil], h.mono (by omega)⟩ (by omega)
  have : left = [] := List.length_eq_zero_iff.mp hn
  subst this
  refine ⟨found, W', hperm, hw.mono (by omega), ?_⟩
  unfold G__law_shuffled Z.run B__law_shuffled
  simp [wip, SOut.wp, vl_int, vl_str, vl_bl, vl_non, nd2, Nat.reduceLeDiff, Nat.reduceEqDiff, not_false_eq_true, and_self, and_true, true_and, putAll, big_eq, ↓evS_for, ↓ev_lc, evS, evT, evA, ev, evL, evO, evI, Out.bind, Out.st, ofS, ofO, D.isBl, vo, put, Vl.isFr, Vl.all, biD, ds, ts, sets, List.flatMap_cons, List.flatMap_nil, List.map_cons, List.map_nil, List.append_nil, List.nil_append, vl_nil, vf_nil, frz_nil, List.getElem?_cons_zero, List.getElem?_cons_succ, List.set_cons_zero, List.set_cons_succ, Bool.false_eq_true, if_false, if_true, reduceIte, List.length_cons, List.length_nil, Nat.reduceAdd, Nat.reduceSub, List.replicate, List.cons_append, List.replicate_succ, List.replicate_zero, Option.map_some, Option.map_none, Bool.not_true, Bool.not_false, List.singleton_append, listD, putAll, cap, e]
def hues0 : List Str := ["a", "b", "c", "x", "ab", "ba", "zz", "zzzz", "zzzy", "aaab", "aaaa", "q"]
def hues1 : List Str := ["a", "b", "c", "x", "ab", "ba", "zz", "zzzz", "zzzy", "aaab", "aaaa", "q", "d", "e", "f", "g"]
def sts (l : List Str) : List D := l.map .str
def th (l : List Str) : D := .tup (sts l)
theorem sts_mem {l : List Str} {x : D} (h : x ∈ sts l) : ∃ s ∈ l, x = .str s := by
  obtain ⟨s, h1, rfl⟩ := List.mem_map.mp h
  exact ⟨s, h1, rfl⟩
theorem sts_of : ∀ {xs : List D} {l : List Str}, (∀ x ∈ xs, x ∈ sts l) → ∃ k, xs = sts k ∧ ∀ s ∈ k, s ∈ l
  | [], _, _ => ⟨[], rfl, fun _ h => by cases h⟩
  | x :: xs, l, h => by
    obtain ⟨s, hs, rfl⟩ := sts_mem (h x List.mem_cons_self)
    obtain ⟨k, rfl, hk⟩ := sts_of fun y hy => h y (List.mem_cons_of_mem _ hy)
    exact ⟨s :: k, rfl, fun t ht => (List.mem_cons.mp ht).elim (fun e => e ▸ hs) (hk t)⟩
theorem sts_perm {xs : List D} {l : List Str} (h : xs.Perm (sts l)) : ∃ k, xs = sts k ∧ k.Perm l := by
  obtain ⟨k, rfl, hk⟩ := sts_of fun x hx => h.subset hx
  refine ⟨k, rfl, ?_⟩
  have := h.map fun d => match d with | .str s => s | _ => default
  simpa [sts, List.map_map, Function.comp_def] using this
theorem pd_sts {n : Nat} {l : List Str} : ∀ x ∈ sts l, Pd n x := fun x hx => by
  obtain ⟨s, _, rfl⟩ := sts_mem hx
  exact pd_str
theorem imm_th {l : List Str} : (th l).imm = true := by simp only [th, D.imm]; exact imm_strs l
theorem hues_ok {T : Nat} {n : Int} {W : Dr} (h : Wd T W) (hT : T ≤ 1099511627000) (hn : 0 ≤ n) (h2 : n ≤ 12) : ∃ k W', k.length = n.toNat ∧ (∀ s ∈ k, s ∈ hues0) ∧ k.Nodup ∧ Wd (T + 12) W' ∧ G__law_hues [.drw, .int n] W = .ok (true, .lst (sts k)) W' := by
  obtain ⟨ys, W', hp, hw, e⟩ := shuffled_ok (xs := sts hues0) h (by simp [sts, hues0]; omega) pd_sts (by simp [sts, hues0])
  obtain ⟨k, rfl, hk⟩ := sts_perm hp
  refine ⟨k.take n.toNat, W', ?_, fun s hs => hk.subset (List.mem_of_mem_take hs), ?_, by simpa [sts, hues0] using hw, ?_⟩
  · have := hk.length_eq
    simp only [hues0, List.length_cons, List.length_nil] at this
    rw [List.length_take]; omega
  · exact (List.Pairwise.sublist (List.take_sublist _ _) (hk.nodup_iff.mpr (by decide +kernel)))
  · unfold G__law_hues Z.run B__law_hues
    have : sts hues0 = [.str "a", .str "b", .str "c", .str "x", .str "ab", .str "ba", .str "zz", .str "zzzz", .str "zzzy", .str "aaab", .str "aaaa", .str "q"] := rfl
    rw [this] at e
    simp [wip, SOut.wp, vl_int, vl_str, vl_bl, vl_non, nd2, Nat.reduceLeDiff, Nat.reduceEqDiff, not_false_eq_true, and_self, and_true, true_and, putAll, big_eq, ↓evS_for, ↓ev_lc, evS, evT, evA, ev, evL, evO, evI, Out.bind, Out.st, ofS, ofO, D.isBl, vo, put, Vl.isFr, Vl.all, biD, ds, ts, sets, List.flatMap_cons, List.flatMap_nil, List.map_cons, List.map_nil, List.append_nil, List.nil_append, vl_nil, vf_nil, frz_nil, List.getElem?_cons_zero, List.getElem?_cons_succ, List.set_cons_zero, List.set_cons_succ, Bool.false_eq_true, if_false, if_true, reduceIte, List.length_cons, List.length_nil, Nat.reduceAdd, Nat.reduceSub, List.replicate, List.cons_append, List.replicate_succ, List.replicate_zero, Option.map_some, Option.map_none, Bool.not_true, Bool.not_false, List.singleton_append, cap, e, slD, cut_to hn]
    simp [sts, List.map_take]
structure Lns (P : Str → Prop) (most beads : Nat) (ls : List (List Str)) : Prop where
  one : 1 ≤ ls.length
  most : ls.length ≤ most
  ne : ∀ l ∈ ls, l ≠ []
  of : ∀ l ∈ ls, ∀ s ∈ l, P s
  sum : (ls.map List.length).sum ≤ beads
def tD (ls : List (List Str)) : List D := ls.map th
theorem sum_set {ls : List (List Str)} {i : Nat} {l : List Str} (h : i < ls.length) : ((ls.set i l).map List.length).sum + ls[i].length = (ls.map List.length).sum + l.length := by
  induction ls generalizing i with
  | nil => simp at h
  | cons a ls ih =>
    cases i with
    | zero => simp; omega
    | succ i =>
      have := ih (i := i) (by simpa using h)
      simp only [List.set_cons_succ, List.map_cons, List.sum_cons, List.getElem_cons_succ]
      omega
theorem lines1 {T : Nat} {hs : List Str} {m b : D} {n : Int} {s5 s7 : Sl} {x : D} {W : Dr} (h : Wd T W) (hT : T ≤ 1099511627776) (hn : hs ≠ []) (hn2 : hs.length < 1073741824) :
    ∃ s W', s ∈ hs ∧ Wd (T + 1) W' ∧ ev E__law_lines_1 ((wip [.val .drw, .val (.lst (sts hs)), .val m, .val b, .val (.int n), s5, .un, s7] [6]).set 6 (.val x)) W = .ok ⟨th [s], .pl, []⟩ W' := by
  obtain ⟨y, W', h1, h2, e⟩ := pick_ok (xs := sts hs) h hT (by simpa [sts] using hn) (by simpa [sts] using hn2)
  obtain ⟨s, hs, rfl⟩ := sts_mem h1
  refine ⟨s, W', hs, h2, ?_⟩
  have e' : th [s] = .tup [.str s] := rfl
  rw [e']
  unfold E__law_lines_1
  simp [wip, SOut.wp, vl_int, vl_str, vl_bl, vl_non, nd2, Nat.reduceLeDiff, Nat.reduceEqDiff, not_false_eq_true, and_self, and_true, true_and, putAll, big_eq, ↓evS_for, ↓ev_lc, evS, evT, evA, ev, evL, evO, evI, Out.bind, Out.st, ofS, ofO, D.isBl, vo, put, Vl.isFr, Vl.all, biD, ds, ts, sets, List.flatMap_cons, List.flatMap_nil, List.map_cons, List.map_nil, List.append_nil, List.nil_append, vl_nil, vf_nil, frz_nil, List.getElem?_cons_zero, List.getElem?_cons_succ, List.set_cons_zero, List.set_cons_succ, Bool.false_eq_true, if_false, if_true, reduceIte, List.length_cons, List.length_nil, Nat.reduceAdd, Nat.reduceSub, List.replicate, List.cons_append, List.replicate_succ, List.replicate_zero, Option.map_some, Option.map_none, Bool.not_true, Bool.not_false, List.singleton_append, wip, e, cap]
theorem lines2 {T : Nat} {hs : List Str} {m b x : D} {ls : List (List Str)} {s7 : Sl} {s6 : Sl} {W : Dr} (h : Wd T W) (hT : T + 1 ≤ 1099511627776) (hn : hs ≠ []) (hn2 : hs.length < 1073741824) (hl : 1 ≤ ls.length) (hl2 : ls.length < 1000) (hl3 : ∀ l ∈ ls, l.length ≤ 1000) :
    ∃ i s W', ∃ hi : i < ls.length, s ∈ hs ∧ Wd (T + 2) W' ∧ forOne 1000000 B__law_lines_2 (.nm 6) x [.val .drw, .val (.lst (sts hs)), .val m, .val b, .val (.int ls.length), .own (.lst (tD ls)), s6, s7] W =
      .nx [.val .drw, .val (.lst (sts hs)), .val m, .val b, .val (.int ls.length), .own (.lst (tD (ls.set i (ls[i] ++ [s])))), .val x, .val (.int i)] W' := by
  obtain ⟨r, W1, r0, r1, hw, e⟩ := take_ok (n := (ls.length : Int)) h (by omega) (by omega) (by omega)
  obtain ⟨i, rfl⟩ := Int.eq_ofNat_of_zero_le r0
  have hi : i < ls.length := by omega
  obtain ⟨y, W2, h1, h2, e2⟩ := pick_ok (xs := sts hs) hw (by omega) (by simpa [sts] using hn) (by simpa [sts] using hn2)
  obtain ⟨s, hs, rfl⟩ := sts_mem h1
  refine ⟨i, s, W2, hi, hs, h2, ?_⟩
  have hi2 : i < (tD ls).length := by simpa [tD] using hi
  have e3 : ixD (.lst (tD ls)) (.int i) = some (th ls[i]) := by
    simp only [ixD]
    rw [atD_nat hi2]
    simp [tD]
  have hz : ls[i].length + 1 ≤ 16777216 := by have := hl3 ls[i] (List.getElem_mem _); omega
  have e4 : binD .Add (th ls[i]) (.tup [.str s]) = some (false, th (ls[i] ++ [s])) := by
    simp [binD, th, sts, hz]
  have e5 : ixOf (tD ls).length (i : Int) = some i := ixOf_nat hi2
  show evS 1000000 B__law_lines_2 _ _ = _
  unfold B__law_lines_2
  simp [wip, SOut.wp, vl_int, vl_str, vl_bl, vl_non, nd2, Nat.reduceLeDiff, Nat.reduceEqDiff, not_false_eq_true, and_self, and_true, true_and, putAll, big_eq, ↓evS_for, ↓ev_lc, evS, evT, evA, ev, evL, evO, evI, Out.bind, Out.st, ofS, ofO, D.isBl, vo, put, Vl.isFr, Vl.all, biD, ds, ts, sets, List.flatMap_cons, List.flatMap_nil, List.map_cons, List.map_nil, List.append_nil, List.nil_append, vl_nil, vf_nil, frz_nil, List.getElem?_cons_zero, List.getElem?_cons_succ, List.set_cons_zero, List.set_cons_succ, Bool.false_eq_true, if_false, if_true, reduceIte, List.length_cons, List.length_nil, Nat.reduceAdd, Nat.reduceSub, List.replicate, List.cons_append, List.replicate_succ, List.replicate_zero, Option.map_some, Option.map_none, Bool.not_true, Bool.not_false, List.singleton_append, e, e2, e3, e4, e5, cap, imm_th]
  simp [tD, List.map_set]
theorem sum_ge {ls : List (List Str)} {l : List Str} (h : l ∈ ls) : l.length ≤ (ls.map List.length).sum := by
  induction ls with
  | nil => cases h
  | cons a ls ih =>
    rcases List.mem_cons.mp h with rfl | h
    · simp
    · have := ih h
      simp only [List.map_cons, List.sum_cons]
      omega
theorem lines_ok {T most beads : Nat} {hs : List Str} {W : Dr} (h : Wd T W) (hT : T + 200 ≤ 1099511627776) (hn : hs ≠ []) (hn2 : hs.length < 1000) (hm : 1 ≤ most) (hm2 : most ≤ 20) (hb : most ≤ beads) (hb2 : beads ≤ 60) :
    ∃ ls W', Lns (· ∈ hs) most beads ls ∧ Wd (T + 200) W' ∧ G__law_lines [.drw, .lst (sts hs), .int most, .int beads] W = .ok (true, .lst (tD ls)) W' := by
  obtain ⟨r, W1, r0, r1, hw, e1⟩ := take_ok (n := (most : Int)) h (by omega) (by omega) (by omega)
  obtain ⟨n, hnn⟩ := Int.eq_ofNat_of_zero_le (show 0 ≤ 1 + r by omega)
  -- the first beads
  obtain ⟨ys, W2, e2, ls, rfl, l1, l2, hw2⟩ := lc_inv0 (one := lcOne E__law_lines_1 .nil (.nm 6) [6] [.val .drw, .val (.lst (sts hs)), .val (.int most), .val (.int beads), .val (.int n), .un, .un, .un]) (xs := (List.range n).map fun k : Nat => .int (k : Int)) (W := W1)
    (fun k acc V => ∃ ls : List (List Str), acc = tD ls ∧ ls.length = k ∧ (∀ l ∈ ls, ∃ s ∈ hs, l = [s]) ∧ Wd (T + 1 + k) V) ⟨[], rfl, rfl, (fun _ h => by cases h), hw⟩ (by simp [cap]; omega) (fun k x acc V hx ⟨ls, e3, e4, e5, e6⟩ => by
      subst e3
      obtain ⟨rfl, hk⟩ := rng_at hx
      obtain ⟨s, W', hs, h2, e⟩ := lines1 (m := .int most) (b := .int beads) (n := n) (s5 := .un) (s7 := .un) (x := .int k) e6 (by omega) hn (by omega)
      refine .inr ⟨_, W', lcOne_ok e, rfl, ls ++ [[s]], by simp [tD], by simp [e4], fun l hl => ?_, h2.mono (by omega)⟩
      rcases List.mem_append.mp hl with hl | hl
      · exact e5 l hl
      · exact ⟨s, hs, by simpa using hl⟩)
  rw [rng_len] at l1 hw2
  have hsum : (ls.map List.length).sum = n := by
    rw [← l1]
    clear l1 e2
    induction ls with
    | nil => rfl
    | cons a ls ih =>
      obtain ⟨s, _, rfl⟩ := l2 a List.mem_cons_self
      have := ih fun l hl => l2 l (List.mem_cons_of_mem _ hl)
      simp only [List.map_cons, List.sum_cons, this, List.length_cons, List.length_nil]
      omega
  -- the others
  obtain ⟨r2, W3, r20, r21, hw3, e3⟩ := take_ok (n := (beads : Int) - n + 1) hw2 (by omega) (by omega) (by omega)
  obtain ⟨m, rfl⟩ := Int.eq_ofNat_of_zero_le r20
  obtain ⟨ρ', W4, e4, ls', s6, s7, rfl, q1, q2, q3, hw4⟩ := for_inv0 (f := forOne 1000000 B__law_lines_2 (.nm 6)) (xs := (List.range m).map fun k : Nat => .int (k : Int)) (ρ := [.val .drw, .val (.lst (sts hs)), .val (.int most), .val (.int beads), .val (.int n), .own (.lst (tD ls)), .un, .un]) (W := W3)
    (fun k ρ V => ∃ (ls : List (List Str)) (s6 s7 : Sl), ρ = [.val .drw, .val (.lst (sts hs)), .val (.int most), .val (.int beads), .val (.int n), .own (.lst (tD ls)), s6, s7] ∧ ls.length = n ∧ (∀ l ∈ ls, l ≠ [] ∧ ∀ s ∈ l, s ∈ hs) ∧ (ls.map List.length).sum = n + k ∧ Wd (T + 1 + n + 1 + 2 * k) V)
    ⟨ls, .un, .un, rfl, l1, fun l hl => by obtain ⟨s, hs, rfl⟩ := l2 l hl; exact ⟨by simp, fun t ht => by rw [List.mem_singleton.mp ht]; exact hs⟩, hsum, hw3⟩ (fun k x ρ V hx ⟨ls, s6, s7, e5, e6, e7, e8, e9⟩ => by
      subst e5
      obtain ⟨rfl, hk⟩ := rng_at hx
      obtain ⟨i, s, W', hi, hs, h2, e⟩ := lines2 (m := .int most) (b := .int beads) (x := .int k) (ls := ls) (s6 := s6) (s7 := s7) e9 (by omega) hn (by omega) (by omega) (by omega) (fun l hl => by have := sum_ge hl; omega)
      rw [e6] at e
      refine ⟨_, W', .inl e, _, _, _, rfl, by simp [e6], fun l hl => ?_, ?_, h2.mono (by omega)⟩
      · rcases List.mem_or_eq_of_mem_set hl with hl | rfl
        · exact e7 l hl
        · refine ⟨by simp, fun t ht => ?_⟩
          rcases List.mem_append.mp ht with ht | ht
          · exact (e7 _ (List.getElem_mem hi)).2 t ht
          · rw [List.mem_singleton.mp ht]; exact hs
      · have := sum_set (l := ls[i] ++ [s]) hi
        simp only [List.length_append, List.length_cons, List.length_nil] at this
        omega)
  rw [rng_len] at q3 hw4
  refine ⟨ls', W4, ⟨by omega, by omega, fun l hl => (q2 l hl).1, fun l hl => (q2 l hl).2, by omega⟩, hw4.mono (by omega), ?_⟩
  unfold G__law_lines Z.run B__law_lines
  have g1 : rngD [.int n] = some ((List.range n).map fun k : Nat => .int (k : Int)) := by
    have := rngD1 (n := (n : Int)) (by omega) (by omega)
    rwa [Int.toNat_natCast] at this
  have g2 : rngD [.int m] = some ((List.range m).map fun k : Nat => .int (k : Int)) := by
    have := rngD1 (n := (m : Int)) (by omega) (by omega)
    rwa [Int.toNat_natCast] at this
  simp only [wip, SOut.wp, vl_int, vl_str, vl_bl, vl_non, nd2, Nat.reduceLeDiff, Nat.reduceEqDiff, not_false_eq_true, and_self, and_true, true_and, putAll, big_eq, ↓evS_for, ↓ev_lc, evS, evT, evA, ev, evL, evO, evI, Out.bind, Out.st, ofS, ofO, D.isBl, vo, put, Vl.isFr, Vl.all, biD, ds, ts, sets, List.flatMap_cons, List.flatMap_nil, List.map_cons, List.map_nil, List.append_nil, List.nil_append, vl_nil, vf_nil, frz_nil, List.getElem?_cons_zero, List.getElem?_cons_succ, List.set_cons_zero, List.set_cons_succ, Bool.false_eq_true, if_false, if_true, reduceIte, List.length_cons, List.length_nil, Nat.reduceAdd, Nat.reduceSub, List.replicate, List.cons_append, List.replicate_succ, List.replicate_zero, Option.map_some, Option.map_none, Bool.not_true, Bool.not_false, List.singleton_append, binD, e1, hnn, g1, e2, e3, g2, e4]
end Z

namespace Z
open PySem
theorem len_th {l : List Str} : lenD [th l] = some (false, .int l.length) := by simp [lenD, th, sts]
theorem ints_map : ∀ l : List Int, D.ints (l.map .int) = some l
  | [] => rfl
  | x :: l => by simp [D.ints, ints_map l]
theorem lens_eq {el : E} {pt : Pat} {own : List Nat} {ρ : En} {W : Dr} {ls : List (List Str)} (hl : ls.length ≤ cap) (h : ∀ l, lcOne el .nil pt own ρ (th l) W = .ok (some ⟨.int l.length, .pl, []⟩) W) :
    lcGo (lcOne el .nil pt own ρ) (tD ls) [] [] W = .ok ⟨.lst ((ls.map fun l => (l.length : Int)).map .int), .fr, []⟩ W := by
  rw [lc_map (g := fun x => match x with | .tup xs => some (.int xs.length) | _ => none) (tD ls) (by simpa [tD] using hl) fun x hx => ?_]
  · simp [tD, th, sts, List.filterMap_map, Function.comp_def, List.filterMap_eq_map']
  · obtain ⟨l, _, rfl⟩ := List.mem_map.mp hx
    exact ⟨_, h l, by simp [th, sts], fun v hv => by cases hv; rfl⟩
theorem sum_cast : ∀ ls : List (List Str), (ls.map fun l => (l.length : Int)).sum = ((ls.map List.length).sum : Nat)
  | [] => rfl
  | a :: ls => by simp [sum_cast ls]
theorem sealed3 {T : Nat} {b : Nat} {hs : List Str} {ls : List (List Str)} {s3 s4 s5 s6 s7 s8 s9 : Sl} {W : Dr} (h : Wd T W) (hT : T + 100 ≤ 1099511627776) (hn : hs ≠ []) (hn2 : hs.length < 1000) (hh : ∀ s ∈ hs, s ∈ hues1) (hb : b ≤ 60) (hl : Lns (· ∈ hues1) 3 b ls) :
    ∃ ls' s4' s5' s6' s7' s8' s9' W', Lns (· ∈ hues1) 3 b ls' ∧ Wd (T + 100) W' ∧ forOne 1000000 B__law_sealed_lines_3 (.nm 3) (.lst (sts hs)) [.val .drw, .val (.int b), .own (.lst (tD ls)), s3, s4, s5, s6, s7, s8, s9] W =
      .nx [.val .drw, .val (.int b), .own (.lst (tD ls')), .val (.lst (sts hs)), s4', s5', s6', s7', s8', s9'] W' := by
  obtain ⟨r, W1, r0, r1, hw, e1⟩ := take_ok (n := (ls.length : Int)) h (by omega) (by have := hl.one; omega) (by have := hl.most; omega)
  obtain ⟨i, rfl⟩ := Int.eq_ofNat_of_zero_le r0
  have hi : i < ls.length := by omega
  have hi2 : i < (tD ls).length := by simpa [tD] using hi
  have hs1 := hl.sum
  have hcap : ls.length ≤ cap := by have := hl.most; unfold cap; omega
  obtain ⟨room, hroom⟩ : ∃ n : Nat, (b : Int) - ((ls.map List.length).sum : Nat) = n := ⟨b - (ls.map List.length).sum, by omega⟩
  have l1 := lens_eq (ls := ls) (el := E__law_sealed_lines_1) (pt := .nm 9) (own := [9]) (ρ := [.val .drw, .val (.int b), .own (.lst (tD ls)), .val (.lst (sts hs)), s4, s5, s6, s7, s8, s9]) (W := W1) hcap fun l => by
    refine lcOne_ok ?_
    unfold E__law_sealed_lines_1
    simp [wip, SOut.wp, vl_int, vl_str, vl_bl, vl_non, nd2, Nat.reduceLeDiff, Nat.reduceEqDiff, not_false_eq_true, and_self, and_true, true_and, putAll, big_eq, ↓evS_for, ↓ev_lc, evS, evT, evA, ev, evL, evO, evI, Out.bind, Out.st, ofS, ofO, D.isBl, vo, put, Vl.isFr, Vl.all, biD, ds, ts, sets, List.flatMap_cons, List.flatMap_nil, List.map_cons, List.map_nil, List.append_nil, List.nil_append, vl_nil, vf_nil, frz_nil, List.getElem?_cons_zero, List.getElem?_cons_succ, List.set_cons_zero, List.set_cons_succ, Bool.false_eq_true, if_false, if_true, reduceIte, List.length_cons, List.length_nil, Nat.reduceAdd, Nat.reduceSub, List.replicate, List.cons_append, List.replicate_succ, List.replicate_zero, Option.map_some, Option.map_none, Bool.not_true, Bool.not_false, List.singleton_append, wip, len_th]
  obtain ⟨mx, hmx, hmx1, hmx2⟩ : ∃ n : Nat, maxD2 [.int ((room : Int) / 2), .int 1] = some (false, .int n) ∧ 1 ≤ n ∧ (n ≤ room / 2 ∨ n = 1) := by
    by_cases q : (1 : Int) > (room : Int) / 2
    · exact ⟨1, by simp only [maxD2, if_pos q]; rfl, by omega, .inr rfl⟩
    · refine ⟨room / 2, ?_, by omega, .inl (Nat.le_refl _)⟩
      simp only [maxD2, if_neg q]
      rfl
  obtain ⟨r2, W2, r20, r21, hw2, e2⟩ := take_ok (n := (mx : Int)) hw (by omega) (by omega) (by omega)
  obtain ⟨m, rfl⟩ := Int.eq_ofNat_of_zero_le r20
  obtain ⟨ys, W3, e3, run, rfl, hr1, hr2, hw3⟩ := lc_inv0 (one := lcOne E__law_sealed_lines_2 .nil (.nm 8) [8] [.val .drw, .val (.int b), .own (.lst (tD ls)), .val (.lst (sts hs)), .val (.int i), .val (.int room), s6, s7, s8, s9]) (xs := (List.range m).map fun k : Nat => .int (k : Int)) (W := W2)
    (fun k acc V => ∃ l : List Str, acc = sts l ∧ l.length = k ∧ (∀ s ∈ l, s ∈ hs) ∧ Wd (T + 2 + k) V) ⟨[], rfl, rfl, (fun _ h => by cases h), hw2⟩ (by simp [cap]; omega) (fun k x acc V hx ⟨l, e3, e4, e5, e6⟩ => by
      subst e3
      obtain ⟨rfl, hk⟩ := rng_at hx
      obtain ⟨y, W', h1, h2, e⟩ := pick_ok (xs := sts hs) e6 (by omega) (by simpa [sts] using hn) (by simp [sts]; omega)
      obtain ⟨s, hs', rfl⟩ := sts_mem h1
      refine .inr ⟨⟨.str s, .pl, []⟩, W', lcOne_ok ?_, rfl, l ++ [s], by simp [sts], by simp [e4], fun t ht => ?_, h2.mono (by omega)⟩
      · unfold E__law_sealed_lines_2
        simp [wip, SOut.wp, vl_int, vl_str, vl_bl, vl_non, nd2, Nat.reduceLeDiff, Nat.reduceEqDiff, not_false_eq_true, and_self, and_true, true_and, putAll, big_eq, ↓evS_for, ↓ev_lc, evS, evT, evA, ev, evL, evO, evI, Out.bind, Out.st, ofS, ofO, D.isBl, vo, put, Vl.isFr, Vl.all, biD, ds, ts, sets, List.flatMap_cons, List.flatMap_nil, List.map_cons, List.map_nil, List.append_nil, List.nil_append, vl_nil, vf_nil, frz_nil, List.getElem?_cons_zero, List.getElem?_cons_succ, List.set_cons_zero, List.set_cons_succ, Bool.false_eq_true, if_false, if_true, reduceIte, List.length_cons, List.length_nil, Nat.reduceAdd, Nat.reduceSub, List.replicate, List.cons_append, List.replicate_succ, List.replicate_zero, Option.map_some, Option.map_none, Bool.not_true, Bool.not_false, List.singleton_append, wip, e]
      · rcases List.mem_append.mp ht with ht | ht
        · exact e5 t ht
        · rw [List.mem_singleton.mp ht]; exact hs')
  rw [rng_len] at hr1 hw3
  have hli : ls[i] ≠ [] := hl.ne _ (List.getElem_mem hi)
  have hlp : 0 < ls[i].length := List.length_pos_iff.mpr hli
  have hle : ls[i].length ≤ 60 := by have := sum_ge (List.getElem_mem hi (l := ls)); omega
  obtain ⟨r4, W4, r40, r41, hw4, e4⟩ := take_ok (n := (ls[i].length : Int)) hw3 (by omega) (by omega) (by omega)
  obtain ⟨at_, hat⟩ := Int.eq_ofNat_of_zero_le (show 0 ≤ 1 + r4 by omega)
  have e5 : ixD (.lst (tD ls)) (.int i) = some (th ls[i]) := by
    simp only [ixD]
    rw [atD_nat hi2]
    simp [tD]
  have e6 : ixOf (tD ls).length (i : Int) = some i := ixOf_nat hi2
  have c1 : slD (th ls[i]) none (some (at_ : Int)) = some (false, th (ls[i].take at_)) := by
    simp only [slD, th]
    rw [cut_to (by omega)]
    simp [sts, List.map_take]
  have c2 : slD (th ls[i]) (some (at_ : Int)) none = some (false, th (ls[i].drop at_)) := by
    simp only [slD, th]
    rw [cut_from (by omega)]
    simp [sts, List.map_drop]
  have c3 : binD .Add (th (ls[i].take at_)) (th run) = some (false, th (ls[i].take at_ ++ run)) := by
    simp only [binD, th]
    rw [if_pos (by simp [sts]; omega)]
    simp [sts]
  have c4 : binD .Add (th (ls[i].take at_ ++ run)) (th (ls[i].drop at_)) = some (false, th (ls[i].take at_ ++ run ++ ls[i].drop at_)) := by
    simp only [binD, th]
    rw [if_pos (by simp [sts]; omega)]
    simp [sts]
  have g2 := rngN (n := m) (by omega)
  have hlen : (ls[i].take at_ ++ run ++ ls[i].drop at_).length = ls[i].length + m := by
    simp; omega
  refine ⟨ls.set i (ls[i].take at_ ++ run ++ ls[i].drop at_), .val (.int i), .val (.int room), .val (th run), .val (.int at_), s8, s9, W4, ⟨by simpa using hl.one, by simpa using hl.most, fun l hl' => ?_, fun l hl' s hs' => ?_, ?_⟩, hw4.mono (by omega), ?_⟩
  · rcases List.mem_or_eq_of_mem_set hl' with hl' | rfl
    · exact hl.ne l hl'
    · intro z
      have := congrArg List.length z
      rw [hlen, List.length_nil] at this
      omega
  · rcases List.mem_or_eq_of_mem_set hl' with hl' | rfl
    · exact hl.of l hl' s hs'
    · rcases List.mem_append.mp hs' with hs' | hs'
      · rcases List.mem_append.mp hs' with hs' | hs'
        · exact hl.of _ (List.getElem_mem hi) s (List.mem_of_mem_take hs')
        · exact hh s (hr2 s hs')
      · exact hl.of _ (List.getElem_mem hi) s (List.mem_of_mem_drop hs')
  · have := sum_set (l := ls[i].take at_ ++ run ++ ls[i].drop at_) hi
    rw [hlen] at this
    omega
  · have hten : tD (ls.set i (ls[i].take at_ ++ run ++ ls[i].drop at_)) = (tD ls).set i (th (ls[i].take at_ ++ run ++ ls[i].drop at_)) := by simp [tD, List.map_set]
    rw [hten]
    have hlt : (tD ls).length = ls.length := by simp [tD]
    have hb1 : binD .Sub (.int b) (.int ((ls.map List.length).sum : Nat)) = some (false, .int room) := by simp only [binD, hroom]
    have hb2 : binD .FloorDiv (.int room) (.int 2) = some (false, .int ((room : Int) / 2)) := by simp [binD, big_eq]
    have hb3 : binD .Add (.int 1) (.int r4) = some (false, .int at_) := by simp only [binD, hat]
    have hsm : sumD [.lst ((ls.map fun l => (l.length : Int)).map .int)] = some (false, .int ((ls.map List.length).sum : Nat)) := by simp only [sumD, ints_map, Option.map_some, sum_cast]
    have htp : tupleD [.lst (sts run)] = some (false, th run) := rfl
    have hln : lenD [.lst (tD ls)] = some (false, .int ls.length) := by simp [lenD, hlt]
    show evS 1000000 B__law_sealed_lines_3 _ _ = _
    unfold B__law_sealed_lines_3
    simp only [wip, SOut.wp, vl_int, vl_str, vl_bl, vl_non, nd2, Nat.reduceLeDiff, Nat.reduceEqDiff, not_false_eq_true, and_self, and_true, true_and, putAll, big_eq, ↓evS_for, ↓ev_lc, evS, evT, evA, ev, evL, evO, evI, Out.bind, Out.st, ofS, ofO, D.isBl, vo, put, Vl.isFr, Vl.all, biD, ds, ts, sets, List.flatMap_cons, List.flatMap_nil, List.map_cons, List.map_nil, List.append_nil, List.nil_append, vl_nil, vf_nil, frz_nil, List.getElem?_cons_zero, List.getElem?_cons_succ, List.set_cons_zero, List.set_cons_succ, Bool.false_eq_true, if_false, if_true, reduceIte, List.length_cons, List.length_nil, Nat.reduceAdd, Nat.reduceSub, List.replicate, List.cons_append, List.replicate_succ, List.replicate_zero, Option.map_some, Option.map_none, Bool.not_true, Bool.not_false, List.singleton_append, hln, e1, D.items, l1, hsm, hb1, hb2, hmx, e2, g2, e3, htp, e5, len_th, e4, hb3, c1, c2, c3, c4, e6]
theorem Lns.imp {P Q : Str → Prop} {m b m' b' : Nat} {ls : List (List Str)} (h : Lns P m b ls) (k : ∀ s, P s → Q s) (hm : m ≤ m') (hb : b ≤ b') : Lns Q m' b' ls := ⟨h.one, by have := h.most; omega, h.ne, fun l hl s hs => k s (h.of l hl s hs), by have := h.sum; omega⟩
theorem hues01 : ∀ s ∈ hues0, s ∈ hues1 := by decide +kernel
theorem sealed_lines_ok {T b : Nat} {W : Dr} (h : Wd T W) (hT : T + 500 ≤ 1099511627776) (hb : 6 ≤ b) (hb2 : b ≤ 60) :
    ∃ ls W', Lns (· ∈ hues1) 3 b ls ∧ Wd (T + 400) W' ∧ G__law_sealed_lines [.drw, .int b] W = .ok (true, .lst (tD ls)) W' := by
  obtain ⟨ls, W1, l1, hw, e1⟩ := lines_ok (most := 3) (beads := b / 2) (hs := ["a", "b", "x"]) h (by omega) (by simp) (by simp) (by omega) (by omega) (by omega) (by omega)
  obtain ⟨ρ', W2, e2, ls', s3, s4, s5, s6, s7, s8, s9, rfl, l2, hw2⟩ := for_inv0 (f := forOne 1000000 B__law_sealed_lines_3 (.nm 3)) (xs := [.lst (sts ["c", "d"]), .lst (sts ["e", "f", "g"])]) (ρ := [.val .drw, .val (.int b), .own (.lst (tD ls)), .un, .un, .un, .un, .un, .un, .un]) (W := W1)
    (fun k ρ V => ∃ ls s3 s4 s5 s6 s7 s8 s9, ρ = [.val .drw, .val (.int b), .own (.lst (tD ls)), s3, s4, s5, s6, s7, s8, s9] ∧ Lns (· ∈ hues1) 3 b ls ∧ Wd (T + 200 + 100 * k) V)
    ⟨ls, .un, .un, .un, .un, .un, .un, .un, rfl, l1.imp (by decide +kernel) (by omega) (by omega), hw⟩ (fun k x ρ V hx ⟨ls, s3, s4, s5, s6, s7, s8, s9, e, l, hv⟩ => by
      subst e
      have hk : k < 2 := by have := (List.getElem?_eq_some_iff.mp hx).1; simpa using this
      obtain ⟨hs, rfl, h1, h2, h3⟩ : ∃ hs : List Str, x = .lst (sts hs) ∧ hs ≠ [] ∧ hs.length < 1000 ∧ ∀ s ∈ hs, s ∈ hues1 := by
        have := List.mem_of_getElem? hx
        simp only [List.mem_cons, List.not_mem_nil, or_false] at this
        rcases this with rfl | rfl
        · exact ⟨_, rfl, by simp, by simp, by decide +kernel⟩
        · exact ⟨_, rfl, by simp, by simp, by decide +kernel⟩
      obtain ⟨ls', t4, t5, t6, t7, t8, t9, W', q1, q2, q3⟩ := sealed3 (s3 := s3) (s4 := s4) (s5 := s5) (s6 := s6) (s7 := s7) (s8 := s8) (s9 := s9) hv (by omega) h1 h2 h3 hb2 l
      exact ⟨_, W', .inl q3, ls', _, t4, t5, t6, t7, t8, t9, rfl, q1, q2.mono (by omega)⟩)
  simp only [List.length_cons, List.length_nil] at hw2
  refine ⟨ls', W2, l2, hw2.mono (by omega), ?_⟩
  have hb1 : binD .FloorDiv (.int b) (.int 2) = some (false, .int ((b / 2 : Nat) : Int)) := by simp [binD, big_eq]
  have t1 : sts ["a", "b", "x"] = [.str "a", .str "b", .str "x"] := rfl
  have t2 : sts ["c", "d"] = [.str "c", .str "d"] := rfl
  have t3 : sts ["e", "f", "g"] = [.str "e", .str "f", .str "g"] := rfl
  rw [t1] at e1
  rw [t2, t3] at e2
  have e1' : G__law_lines [.drw, .lst [.str "a", .str "b", .str "x"], .int 3, .int ((b / 2 : Nat) : Int)] W = .ok (true, .lst (tD ls)) W1 := e1
  unfold G__law_sealed_lines Z.run B__law_sealed_lines
  simp only [wip, SOut.wp, vl_int, vl_str, vl_bl, vl_non, nd2, Nat.reduceLeDiff, Nat.reduceEqDiff, not_false_eq_true, and_self, and_true, true_and, putAll, big_eq, ↓evS_for, ↓ev_lc, evS, evT, evA, ev, evL, evO, evI, Out.bind, Out.st, ofS, ofO, D.isBl, vo, put, Vl.isFr, Vl.all, biD, ds, ts, sets, List.flatMap_cons, List.flatMap_nil, List.map_cons, List.map_nil, List.append_nil, List.nil_append, vl_nil, vf_nil, frz_nil, List.getElem?_cons_zero, List.getElem?_cons_succ, List.set_cons_zero, List.set_cons_succ, Bool.false_eq_true, if_false, if_true, reduceIte, List.length_cons, List.length_nil, Nat.reduceAdd, Nat.reduceSub, List.replicate, List.cons_append, List.replicate_succ, List.replicate_zero, Option.map_some, Option.map_none, Bool.not_true, Bool.not_false, List.singleton_append, cap, hb1, e1', D.items, e2]
theorem some_lines_ok {T b : Nat} {W : Dr} (h : Wd T W) (hT : T + 1000 ≤ 1099511627776) (hb : 6 ≤ b) (hb2 : b ≤ 60) :
    ∃ ls W', Lns (· ∈ hues1) 3 b ls ∧ Wd (T + 500) W' ∧ G__law_some_lines [.drw, .int b] W = .ok (true, .lst (tD ls)) W' := by
  obtain ⟨r, W1, r0, r1, hw, e1⟩ := take_ok (n := 3) h (by omega) (by omega) (by omega)
  by_cases hr : r = 0
  · subst hr
    obtain ⟨ls, W2, l1, hw2, e2⟩ := sealed_lines_ok hw (by omega) hb hb2
    refine ⟨ls, W2, l1, hw2.mono (by omega), ?_⟩
    have hc : cmpD .Eq (.int 0) (.int 0) = some true := rfl
    unfold G__law_some_lines Z.run B__law_some_lines
    simp only [wip, SOut.wp, vl_int, vl_str, vl_bl, vl_non, nd2, Nat.reduceLeDiff, Nat.reduceEqDiff, not_false_eq_true, and_self, and_true, true_and, putAll, big_eq, ↓evS_for, ↓ev_lc, evS, evT, evA, ev, evL, evO, evI, Out.bind, Out.st, ofS, ofO, D.isBl, vo, put, Vl.isFr, Vl.all, biD, ds, ts, sets, List.flatMap_cons, List.flatMap_nil, List.map_cons, List.map_nil, List.append_nil, List.nil_append, vl_nil, vf_nil, frz_nil, List.getElem?_cons_zero, List.getElem?_cons_succ, List.set_cons_zero, List.set_cons_succ, Bool.false_eq_true, if_false, if_true, reduceIte, List.length_cons, List.length_nil, Nat.reduceAdd, Nat.reduceSub, List.replicate, List.cons_append, List.replicate_succ, List.replicate_zero, Option.map_some, Option.map_none, Bool.not_true, Bool.not_false, List.singleton_append, e1, hc, e2]
  · obtain ⟨r2, W2, r20, r21, hw2, e2⟩ := take_ok (n := 4) hw (by omega) (by omega) (by omega)
    obtain ⟨k, W3, k1, k2, k3, hw3, e3⟩ := hues_ok (n := 1 + r2) hw2 (by omega) (by omega) (by omega)
    obtain ⟨ls, W4, l1, hw4, e4⟩ := lines_ok (most := 3) (beads := b) (hs := k) hw3 (by omega) (fun z => by rw [z, List.length_nil] at k1; omega) (by omega) (by omega) (by omega) (by omega) hb2
    refine ⟨ls, W4, l1.imp (fun s hs => hues01 s (k2 s hs)) (by omega) (by omega), hw4.mono (by omega), ?_⟩
    have hc : cmpD .Eq (.int r) (.int 0) = some false := by simp [cmpD, D.eq, D.pyN, PyData.eqv, hr]
    have hb1 : binD .Add (.int 1) (.int r2) = some (false, .int (1 + r2)) := rfl
    have e4' : G__law_lines [.drw, .lst (sts k), .int 3, .int b] W3 = .ok (true, .lst (tD ls)) W4 := e4
    unfold G__law_some_lines Z.run B__law_some_lines
    simp only [wip, SOut.wp, vl_int, vl_str, vl_bl, vl_non, nd2, Nat.reduceLeDiff, Nat.reduceEqDiff, not_false_eq_true, and_self, and_true, true_and, putAll, big_eq, ↓evS_for, ↓ev_lc, evS, evT, evA, ev, evL, evO, evI, Out.bind, Out.st, ofS, ofO, D.isBl, vo, put, Vl.isFr, Vl.all, biD, ds, ts, sets, List.flatMap_cons, List.flatMap_nil, List.map_cons, List.map_nil, List.append_nil, List.nil_append, vl_nil, vf_nil, frz_nil, List.getElem?_cons_zero, List.getElem?_cons_succ, List.set_cons_zero, List.set_cons_succ, Bool.false_eq_true, if_false, if_true, reduceIte, List.length_cons, List.length_nil, Nat.reduceAdd, Nat.reduceSub, List.replicate, List.cons_append, List.replicate_succ, List.replicate_zero, Option.map_some, Option.map_none, Bool.not_true, Bool.not_false, List.singleton_append, e1, hc, e2, hb1, e3, e4']
end Z

namespace Z
open PySem
def abc : Str := "abcdefghijklmnopqrstuvwxyz"
def isLetter (c : Nat) : Bool := !(Builtin.Str.occurrences abc ⟨#[c]⟩ 0 abc.length 1).isEmpty
def isColor (s : Str) : Bool := decide (1 ≤ s.length) && decide (s.length ≤ 4) && s.cps.toList.all isLetter
theorem hue_color : ∀ s ∈ hues1, isColor s = true := by decide +kernel
mutual
/-- data of the usual kinds, no texts beyond measure -/
def D.gd : D → Bool
  | .str s => decide (s.length ≤ 16777216)
  | .tup xs => D.gdL xs && decide (xs.length ≤ 16777216)
  | .lst xs => D.gdL xs && decide (xs.length ≤ 16777216)
  | .non => true
  | .bl _ => true
  | .int _ => true
  | .dic false _ => true
  | .ins _ _ => true
  | .exc _ [] => true
  | _ => false
def D.gdL : List D → Bool
  | [] => true
  | x :: xs => D.gd x && D.gdL xs
end
theorem gdL_iff : ∀ {xs : List D}, D.gdL xs = true ↔ ∀ x ∈ xs, x.gd = true
  | [] => by simp [D.gdL]
  | x :: xs => by simp [D.gdL, gdL_iff (xs := xs)]
theorem gd_typed {x : D} (h : x.gd = true) : x.typed = true := by
  cases x
  case exc c fs =>
    cases fs with
    | nil => rfl
    | cons _ _ => simp [D.gd] at h
  case dic t kvs =>
    cases t
    · rfl
    · simp [D.gd] at h
  all_goals first | rfl | (simp [D.gd] at h; done)
def isColorD : D → Bool
  | .str s => isColor s
  | _ => false
def isThreadD : D → Bool
  | .tup xs => !xs.isEmpty && xs.all isColorD
  | _ => false
theorem bls_map : ∀ l : List Bool, D.bls (l.map .bl) = some l
  | [] => rfl
  | x :: l => by simp [D.bls, bls_map l]
theorem lc_bools {el : E} {pt : Pat} {own : List Nat} {ρ : En} {W : Dr} {xs : List D} {p : D → Bool} (hl : xs.length ≤ 16777216) (h : ∀ x ∈ xs, lcOne el .nil pt own ρ x W = .ok (some ⟨.bl (p x), .pl, []⟩) W) :
    lcGo (lcOne el .nil pt own ρ) xs [] [] W = .ok ⟨.lst ((xs.map p).map .bl), .fr, []⟩ W := by
  rw [lc_map (g := fun x => some (.bl (p x))) xs (by simpa [cap] using hl) fun x hx => ⟨_, h x hx, rfl, fun v hv => by cases hv; rfl⟩]
  simp [List.filterMap_eq_map', Function.comp_def]
theorem all_map {p : D → Bool} {xs : List D} : allD [.lst ((xs.map p).map .bl)] = some (false, .bl (xs.all p)) := by
  simp only [allD, bls_map, Option.map_some]
  simp [List.all_map, Function.comp_def]
theorem is_color_ok {x : D} {W : Dr} (h : x.gd = true) : G_is_color [x] W = .ok (false, .bl (isColorD x)) W := by
  have ht := gd_typed h
  cases x
  case str s =>
    have hs : s.length ≤ 16777216 := by simpa [D.gd] using h
    have l1 := lc_bools (el := E_is_color_1) (pt := .nm 1) (own := [1]) (ρ := [.val (.str s), .un]) (W := W) (xs := s.cps.toList.map fun c => .str ⟨#[c]⟩) (p := fun d => match d with | .str t => !(Builtin.Str.occurrences abc t 0 abc.length 1).isEmpty | _ => false)
      (by rw [List.length_map]; exact hs) fun y hy => by
        obtain ⟨c, _, rfl⟩ := List.mem_map.mp hy
        refine lcOne_ok ?_
        unfold E_is_color_1
        simp only [wip, SOut.wp, vl_int, vl_str, vl_bl, vl_non, nd2, Nat.reduceLeDiff, Nat.reduceEqDiff, not_false_eq_true, and_self, and_true, true_and, putAll, big_eq, ↓evS_for, ↓ev_lc, evS, evT, evA, ev, evL, evO, evI, Out.bind, Out.st, ofS, ofO, D.isBl, vo, put, Vl.isFr, Vl.all, biD, ds, ts, sets, List.flatMap_cons, List.flatMap_nil, List.map_cons, List.map_nil, List.append_nil, List.nil_append, vl_nil, vf_nil, frz_nil, List.getElem?_cons_zero, List.getElem?_cons_succ, List.set_cons_zero, List.set_cons_succ, Bool.false_eq_true, if_false, if_true, reduceIte, List.length_cons, List.length_nil, Nat.reduceAdd, Nat.reduceSub, List.replicate, List.cons_append, List.replicate_succ, List.replicate_zero, Option.map_some, Option.map_none, Bool.not_true, Bool.not_false, List.singleton_append, wip]
        rfl
    have hc : cmpD .LtE (.int 1) (.int s.length) = some (decide (1 ≤ s.length)) := by
      simp only [cmpD]; congr 1; exact decide_eq_decide.mpr (by omega)
    have hc2 : cmpD .LtE (.int s.length) (.int 4) = some (decide (s.length ≤ 4)) := by
      simp only [cmpD]; congr 1; exact decide_eq_decide.mpr (by omega)
    have hlen : lenD [.str s] = some (false, .int s.length) := by simp only [lenD]; exact if_pos hs
    have hit : (D.str s).items = some (s.cps.toList.map fun c => .str ⟨#[c]⟩) := rfl
    have hall : (s.cps.toList.map fun c => D.str ⟨#[c]⟩).all (fun d => match d with | .str t => !(Builtin.Str.occurrences abc t 0 abc.length 1).isEmpty | _ => false) = s.cps.toList.all isLetter := by
      rw [List.all_map]; rfl
    have hty : [Ty.str].any (isD1 (.str s)) = true := rfl
    unfold G_is_color Z.run B_is_color
    cases h1 : decide (1 ≤ s.length) with
    | false => simp only [wip, SOut.wp, vl_int, vl_str, vl_bl, vl_non, nd2, Nat.reduceLeDiff, Nat.reduceEqDiff, not_false_eq_true, and_self, and_true, true_and, putAll, big_eq, ↓evS_for, ↓ev_lc, evS, evT, evA, ev, evL, evO, evI, Out.bind, Out.st, ofS, ofO, D.isBl, vo, put, Vl.isFr, Vl.all, biD, ds, ts, sets, List.flatMap_cons, List.flatMap_nil, List.map_cons, List.map_nil, List.append_nil, List.nil_append, vl_nil, vf_nil, frz_nil, List.getElem?_cons_zero, List.getElem?_cons_succ, List.set_cons_zero, List.set_cons_succ, Bool.false_eq_true, if_false, if_true, reduceIte, List.length_cons, List.length_nil, Nat.reduceAdd, Nat.reduceSub, List.replicate, List.cons_append, List.replicate_succ, List.replicate_zero, Option.map_some, Option.map_none, Bool.not_true, Bool.not_false, List.singleton_append, ht, hty, hlen, hc, h1, isColorD, isColor, Bool.false_and]
    | true =>
      cases h2 : decide (s.length ≤ 4) with
      | false => simp only [wip, SOut.wp, vl_int, vl_str, vl_bl, vl_non, nd2, Nat.reduceLeDiff, Nat.reduceEqDiff, not_false_eq_true, and_self, and_true, true_and, putAll, big_eq, ↓evS_for, ↓ev_lc, evS, evT, evA, ev, evL, evO, evI, Out.bind, Out.st, ofS, ofO, D.isBl, vo, put, Vl.isFr, Vl.all, biD, ds, ts, sets, List.flatMap_cons, List.flatMap_nil, List.map_cons, List.map_nil, List.append_nil, List.nil_append, vl_nil, vf_nil, frz_nil, List.getElem?_cons_zero, List.getElem?_cons_succ, List.set_cons_zero, List.set_cons_succ, Bool.false_eq_true, if_false, if_true, reduceIte, List.length_cons, List.length_nil, Nat.reduceAdd, Nat.reduceSub, List.replicate, List.cons_append, List.replicate_succ, List.replicate_zero, Option.map_some, Option.map_none, Bool.not_true, Bool.not_false, List.singleton_append, ht, hty, hlen, hc, h1, hc2, h2, isColorD, isColor, Bool.false_and, Bool.and_false]
      | true => simp only [wip, SOut.wp, vl_int, vl_str, vl_bl, vl_non, nd2, Nat.reduceLeDiff, Nat.reduceEqDiff, not_false_eq_true, and_self, and_true, true_and, putAll, big_eq, ↓evS_for, ↓ev_lc, evS, evT, evA, ev, evL, evO, evI, Out.bind, Out.st, ofS, ofO, D.isBl, vo, put, Vl.isFr, Vl.all, biD, ds, ts, sets, List.flatMap_cons, List.flatMap_nil, List.map_cons, List.map_nil, List.append_nil, List.nil_append, vl_nil, vf_nil, frz_nil, List.getElem?_cons_zero, List.getElem?_cons_succ, List.set_cons_zero, List.set_cons_succ, Bool.false_eq_true, if_false, if_true, reduceIte, List.length_cons, List.length_nil, Nat.reduceAdd, Nat.reduceSub, List.replicate, List.cons_append, List.replicate_succ, List.replicate_zero, Option.map_some, Option.map_none, Bool.not_true, Bool.not_false, List.singleton_append, ht, hty, hlen, hc, h1, hc2, h2, hit, l1, all_map, hall, isColorD, isColor, Bool.true_and]
  all_goals
    have hty : ∀ b, [Ty.str].any (isD1 b) = isD1 b .str := fun b => by simp
    unfold G_is_color Z.run B_is_color
    simp only [wip, SOut.wp, vl_int, vl_str, vl_bl, vl_non, nd2, Nat.reduceLeDiff, Nat.reduceEqDiff, not_false_eq_true, and_self, and_true, true_and, putAll, big_eq, ↓evS_for, ↓ev_lc, evS, evT, evA, ev, evL, evO, evI, Out.bind, Out.st, ofS, ofO, D.isBl, vo, put, Vl.isFr, Vl.all, biD, ds, ts, sets, List.flatMap_cons, List.flatMap_nil, List.map_cons, List.map_nil, List.append_nil, List.nil_append, vl_nil, vf_nil, frz_nil, List.getElem?_cons_zero, List.getElem?_cons_succ, List.set_cons_zero, List.set_cons_succ, Bool.false_eq_true, if_false, if_true, reduceIte, List.length_cons, List.length_nil, Nat.reduceAdd, Nat.reduceSub, List.replicate, List.cons_append, List.replicate_succ, List.replicate_zero, Option.map_some, Option.map_none, Bool.not_true, Bool.not_false, List.singleton_append, ht, hty, isD1, isColorD]
theorem is_thread_ok {x : D} {W : Dr} (h : x.gd = true) : G_is_thread [x] W = .ok (false, .bl (isThreadD x)) W := by
  have ht := gd_typed h
  have hty : ∀ b, [Ty.tuple].any (isD1 b) = isD1 b .tuple := fun b => by simp
  cases x
  case tup xs =>
    have h2 := h
    simp only [D.gd, Bool.and_eq_true, gdL_iff, decide_eq_true_eq] at h2
    have l1 := lc_bools (el := E_is_thread_1) (pt := .nm 1) (own := [1]) (ρ := [.val (.tup xs), .un]) (W := W) (xs := xs) (p := isColorD) h2.2 fun y hy => by
      refine lcOne_ok ?_
      unfold E_is_thread_1
      simp only [wip, SOut.wp, vl_int, vl_str, vl_bl, vl_non, nd2, Nat.reduceLeDiff, Nat.reduceEqDiff, not_false_eq_true, and_self, and_true, true_and, putAll, big_eq, ↓evS_for, ↓ev_lc, evS, evT, evA, ev, evL, evO, evI, Out.bind, Out.st, ofS, ofO, D.isBl, vo, put, Vl.isFr, Vl.all, biD, ds, ts, sets, List.flatMap_cons, List.flatMap_nil, List.map_cons, List.map_nil, List.append_nil, List.nil_append, vl_nil, vf_nil, frz_nil, List.getElem?_cons_zero, List.getElem?_cons_succ, List.set_cons_zero, List.set_cons_succ, Bool.false_eq_true, if_false, if_true, reduceIte, List.length_cons, List.length_nil, Nat.reduceAdd, Nat.reduceSub, List.replicate, List.cons_append, List.replicate_succ, List.replicate_zero, Option.map_some, Option.map_none, Bool.not_true, Bool.not_false, List.singleton_append, wip, is_color_ok (h2.1 y hy)]
    have hlen : lenD [.tup xs] = some (false, .int xs.length) := rfl
    have hc : cmpD .Gt (.int xs.length) (.int 0) = some (!xs.isEmpty) := by
      simp only [cmpD]
      cases xs with
      | nil => rfl
      | cons _ _ => simp
    have hit : (D.tup xs).items = some xs := rfl
    unfold G_is_thread Z.run B_is_thread
    cases he : xs.isEmpty with
    | true => simp only [wip, SOut.wp, vl_int, vl_str, vl_bl, vl_non, nd2, Nat.reduceLeDiff, Nat.reduceEqDiff, not_false_eq_true, and_self, and_true, true_and, putAll, big_eq, ↓evS_for, ↓ev_lc, evS, evT, evA, ev, evL, evO, evI, Out.bind, Out.st, ofS, ofO, D.isBl, vo, put, Vl.isFr, Vl.all, biD, ds, ts, sets, List.flatMap_cons, List.flatMap_nil, List.map_cons, List.map_nil, List.append_nil, List.nil_append, vl_nil, vf_nil, frz_nil, List.getElem?_cons_zero, List.getElem?_cons_succ, List.set_cons_zero, List.set_cons_succ, Bool.false_eq_true, if_false, if_true, reduceIte, List.length_cons, List.length_nil, Nat.reduceAdd, Nat.reduceSub, List.replicate, List.cons_append, List.replicate_succ, List.replicate_zero, Option.map_some, Option.map_none, Bool.not_true, Bool.not_false, List.singleton_append, ht, hty, isD1, hlen, hc, he, isThreadD, Bool.false_and]
    | false => simp only [wip, SOut.wp, vl_int, vl_str, vl_bl, vl_non, nd2, Nat.reduceLeDiff, Nat.reduceEqDiff, not_false_eq_true, and_self, and_true, true_and, putAll, big_eq, ↓evS_for, ↓ev_lc, evS, evT, evA, ev, evL, evO, evI, Out.bind, Out.st, ofS, ofO, D.isBl, vo, put, Vl.isFr, Vl.all, biD, ds, ts, sets, List.flatMap_cons, List.flatMap_nil, List.map_cons, List.map_nil, List.append_nil, List.nil_append, vl_nil, vf_nil, frz_nil, List.getElem?_cons_zero, List.getElem?_cons_succ, List.set_cons_zero, List.set_cons_succ, Bool.false_eq_true, if_false, if_true, reduceIte, List.length_cons, List.length_nil, Nat.reduceAdd, Nat.reduceSub, List.replicate, List.cons_append, List.replicate_succ, List.replicate_zero, Option.map_some, Option.map_none, Bool.not_true, Bool.not_false, List.singleton_append, ht, hty, isD1, hlen, hc, he, hit, l1, all_map, isThreadD, Bool.true_and]
  all_goals
    unfold G_is_thread Z.run B_is_thread
    simp only [wip, SOut.wp, vl_int, vl_str, vl_bl, vl_non, nd2, Nat.reduceLeDiff, Nat.reduceEqDiff, not_false_eq_true, and_self, and_true, true_and, putAll, big_eq, ↓evS_for, ↓ev_lc, evS, evT, evA, ev, evL, evO, evI, Out.bind, Out.st, ofS, ofO, D.isBl, vo, put, Vl.isFr, Vl.all, biD, ds, ts, sets, List.flatMap_cons, List.flatMap_nil, List.map_cons, List.map_nil, List.append_nil, List.nil_append, vl_nil, vf_nil, frz_nil, List.getElem?_cons_zero, List.getElem?_cons_succ, List.set_cons_zero, List.set_cons_succ, Bool.false_eq_true, if_false, if_true, reduceIte, List.length_cons, List.length_nil, Nat.reduceAdd, Nat.reduceSub, List.replicate, List.cons_append, List.replicate_succ, List.replicate_zero, Option.map_some, Option.map_none, Bool.not_true, Bool.not_false, List.singleton_append, ht, hty, isD1, isThreadD]
def dlen : D → Nat
  | .tup l => l.length
  | _ => 0
def beadsD (xs : List D) : Nat := (xs.map dlen).sum
theorem beads_sum {xs : List D} : sumD [.lst ((xs.map fun x => (dlen x : Int)).map .int)] = some (false, .int (beadsD xs : Nat)) := by
  have : ∀ xs : List D, (xs.map fun x => (dlen x : Int)).sum = (beadsD xs : Nat) := fun xs => by
    induction xs with
    | nil => rfl
    | cons x xs ih =>
      simp only [beadsD, List.map_cons, List.sum_cons] at ih ⊢
      omega
  simp only [sumD, ints_map, Option.map_some, this]
theorem beads_ok {x : D} {xs : List D} {W : Dr} (hx : x.items = some xs) (hs : ∀ s, x ≠ .str s) (hl : xs.length ≤ 16777216) (h : ∀ y ∈ xs, isThreadD y = true) : G_beads_in [x] W = .ok (false, .int (beadsD xs : Nat)) W := by
  have l1 : lcGo (lcOne E_beads_in_1 .nil (.nm 1) [1] [.val x, .un]) xs [] [] W = .ok ⟨.lst ((xs.map fun x => (dlen x : Int)).map .int), .fr, []⟩ W := by
    rw [lc_map (g := fun y => some (.int (dlen y))) xs (by simpa [cap] using hl) fun y hy => ?_]
    · simp [List.filterMap_eq_map', Function.comp_def]
    · have hy' := h y hy
      cases y <;> simp only [isThreadD] at hy' <;> try (cases hy')
      rename_i l
      refine ⟨_, lcOne_ok (v := ⟨.int l.length, .pl, []⟩) ?_, rfl, fun v hv => by cases hv; rfl⟩
      unfold E_beads_in_1
      have : lenD [.tup l] = some (false, .int l.length) := rfl
      simp only [wip, SOut.wp, vl_int, vl_str, vl_bl, vl_non, nd2, Nat.reduceLeDiff, Nat.reduceEqDiff, not_false_eq_true, and_self, and_true, true_and, putAll, big_eq, ↓evS_for, ↓ev_lc, evS, evT, evA, ev, evL, evO, evI, Out.bind, Out.st, ofS, ofO, D.isBl, vo, put, Vl.isFr, Vl.all, biD, ds, ts, sets, List.flatMap_cons, List.flatMap_nil, List.map_cons, List.map_nil, List.append_nil, List.nil_append, vl_nil, vf_nil, frz_nil, List.getElem?_cons_zero, List.getElem?_cons_succ, List.set_cons_zero, List.set_cons_succ, Bool.false_eq_true, if_false, if_true, reduceIte, List.length_cons, List.length_nil, Nat.reduceAdd, Nat.reduceSub, List.replicate, List.cons_append, List.replicate_succ, List.replicate_zero, Option.map_some, Option.map_none, Bool.not_true, Bool.not_false, List.singleton_append, wip, this]
  unfold G_beads_in Z.run B_beads_in
  simp only [wip, SOut.wp, vl_int, vl_str, vl_bl, vl_non, nd2, Nat.reduceLeDiff, Nat.reduceEqDiff, not_false_eq_true, and_self, and_true, true_and, putAll, big_eq, ↓evS_for, ↓ev_lc, evS, evT, evA, ev, evL, evO, evI, Out.bind, Out.st, ofS, ofO, D.isBl, vo, put, Vl.isFr, Vl.all, biD, ds, ts, sets, List.flatMap_cons, List.flatMap_nil, List.map_cons, List.map_nil, List.append_nil, List.nil_append, vl_nil, vf_nil, frz_nil, List.getElem?_cons_zero, List.getElem?_cons_succ, List.set_cons_zero, List.set_cons_succ, Bool.false_eq_true, if_false, if_true, reduceIte, List.length_cons, List.length_nil, Nat.reduceAdd, Nat.reduceSub, List.replicate, List.cons_append, List.replicate_succ, List.replicate_zero, Option.map_some, Option.map_none, Bool.not_true, Bool.not_false, List.singleton_append, hx, l1, beads_sum]
def areD : D → Bool
  | .lst xs => decide (1 ≤ xs.length) && decide (xs.length ≤ 8) && xs.all isThreadD && decide (beadsD xs ≤ 60)
  | .tup xs => decide (1 ≤ xs.length) && decide (xs.length ≤ 8) && xs.all isThreadD && decide (beadsD xs ≤ 60)
  | _ => false
theorem are_aux {x : D} {xs : List D} {W : Dr} (h : x.gd = true) (hx : x = .lst xs ∨ x = .tup xs) : G_are_threads [x] W = .ok (false, .bl (decide (1 ≤ xs.length) && decide (xs.length ≤ 8) && xs.all isThreadD && decide (beadsD xs ≤ 60))) W := by
  have ht := gd_typed h
  have h2 : (∀ y ∈ xs, y.gd = true) ∧ xs.length ≤ 16777216 := by
    rcases hx with rfl | rfl <;> simpa only [D.gd, Bool.and_eq_true, gdL_iff, decide_eq_true_eq] using h
  have hlen : lenD [x] = some (false, .int xs.length) := by rcases hx with rfl | rfl <;> rfl
  have hit : x.items = some xs := by rcases hx with rfl | rfl <;> rfl
  have hty : [Ty.list, Ty.tuple].any (isD1 x) = true := by rcases hx with rfl | rfl <;> rfl
  have hns : ∀ s, x ≠ .str s := fun s z => by rcases hx with rfl | rfl <;> cases z
  have l1 := lc_bools (el := E_are_threads_1) (pt := .nm 1) (own := [1]) (ρ := [.val x, .un]) (W := W) (xs := xs) (p := isThreadD) h2.2 fun y hy => by
    refine lcOne_ok ?_
    unfold E_are_threads_1
    simp only [wip, SOut.wp, vl_int, vl_str, vl_bl, vl_non, nd2, Nat.reduceLeDiff, Nat.reduceEqDiff, not_false_eq_true, and_self, and_true, true_and, putAll, big_eq, ↓evS_for, ↓ev_lc, evS, evT, evA, ev, evL, evO, evI, Out.bind, Out.st, ofS, ofO, D.isBl, vo, put, Vl.isFr, Vl.all, biD, ds, ts, sets, List.flatMap_cons, List.flatMap_nil, List.map_cons, List.map_nil, List.append_nil, List.nil_append, vl_nil, vf_nil, frz_nil, List.getElem?_cons_zero, List.getElem?_cons_succ, List.set_cons_zero, List.set_cons_succ, Bool.false_eq_true, if_false, if_true, reduceIte, List.length_cons, List.length_nil, Nat.reduceAdd, Nat.reduceSub, List.replicate, List.cons_append, List.replicate_succ, List.replicate_zero, Option.map_some, Option.map_none, Bool.not_true, Bool.not_false, List.singleton_append, wip, is_thread_ok (h2.1 y hy)]
  have hc : cmpD .LtE (.int 1) (.int xs.length) = some (decide (1 ≤ xs.length)) := by
    simp only [cmpD]; congr 1; exact decide_eq_decide.mpr (by omega)
  have hc2 : cmpD .LtE (.int xs.length) (.int 8) = some (decide (xs.length ≤ 8)) := by
    simp only [cmpD]; congr 1; exact decide_eq_decide.mpr (by omega)
  have hc3 : cmpD .LtE (.int (beadsD xs : Nat)) (.int 60) = some (decide (beadsD xs ≤ 60)) := by
    simp only [cmpD]; congr 1; exact decide_eq_decide.mpr (by omega)
  unfold G_are_threads Z.run B_are_threads
  cases h1 : decide (1 ≤ xs.length) with
  | false => simp only [wip, SOut.wp, vl_int, vl_str, vl_bl, vl_non, nd2, Nat.reduceLeDiff, Nat.reduceEqDiff, not_false_eq_true, and_self, and_true, true_and, putAll, big_eq, ↓evS_for, ↓ev_lc, evS, evT, evA, ev, evL, evO, evI, Out.bind, Out.st, ofS, ofO, D.isBl, vo, put, Vl.isFr, Vl.all, biD, ds, ts, sets, List.flatMap_cons, List.flatMap_nil, List.map_cons, List.map_nil, List.append_nil, List.nil_append, vl_nil, vf_nil, frz_nil, List.getElem?_cons_zero, List.getElem?_cons_succ, List.set_cons_zero, List.set_cons_succ, Bool.false_eq_true, if_false, if_true, reduceIte, List.length_cons, List.length_nil, Nat.reduceAdd, Nat.reduceSub, List.replicate, List.cons_append, List.replicate_succ, List.replicate_zero, Option.map_some, Option.map_none, Bool.not_true, Bool.not_false, List.singleton_append, ht, hty, hlen, hc, h1, Bool.false_and]
  | true =>
    cases h3 : decide (xs.length ≤ 8) with
    | false => simp only [wip, SOut.wp, vl_int, vl_str, vl_bl, vl_non, nd2, Nat.reduceLeDiff, Nat.reduceEqDiff, not_false_eq_true, and_self, and_true, true_and, putAll, big_eq, ↓evS_for, ↓ev_lc, evS, evT, evA, ev, evL, evO, evI, Out.bind, Out.st, ofS, ofO, D.isBl, vo, put, Vl.isFr, Vl.all, biD, ds, ts, sets, List.flatMap_cons, List.flatMap_nil, List.map_cons, List.map_nil, List.append_nil, List.nil_append, vl_nil, vf_nil, frz_nil, List.getElem?_cons_zero, List.getElem?_cons_succ, List.set_cons_zero, List.set_cons_succ, Bool.false_eq_true, if_false, if_true, reduceIte, List.length_cons, List.length_nil, Nat.reduceAdd, Nat.reduceSub, List.replicate, List.cons_append, List.replicate_succ, List.replicate_zero, Option.map_some, Option.map_none, Bool.not_true, Bool.not_false, List.singleton_append, ht, hty, hlen, hc, h1, hc2, h3, Bool.false_and, Bool.and_false]
    | true =>
      cases h4 : xs.all isThreadD with
      | false => simp only [wip, SOut.wp, vl_int, vl_str, vl_bl, vl_non, nd2, Nat.reduceLeDiff, Nat.reduceEqDiff, not_false_eq_true, and_self, and_true, true_and, putAll, big_eq, ↓evS_for, ↓ev_lc, evS, evT, evA, ev, evL, evO, evI, Out.bind, Out.st, ofS, ofO, D.isBl, vo, put, Vl.isFr, Vl.all, biD, ds, ts, sets, List.flatMap_cons, List.flatMap_nil, List.map_cons, List.map_nil, List.append_nil, List.nil_append, vl_nil, vf_nil, frz_nil, List.getElem?_cons_zero, List.getElem?_cons_succ, List.set_cons_zero, List.set_cons_succ, Bool.false_eq_true, if_false, if_true, reduceIte, List.length_cons, List.length_nil, Nat.reduceAdd, Nat.reduceSub, List.replicate, List.cons_append, List.replicate_succ, List.replicate_zero, Option.map_some, Option.map_none, Bool.not_true, Bool.not_false, List.singleton_append, ht, hty, hlen, hc, h1, hc2, h3, hit, l1, all_map, h4, Bool.false_and, Bool.and_false]
      | true =>
        have hb := beads_ok (W := W) hit hns h2.2 fun y hy => List.all_eq_true.mp h4 y hy
        simp only [wip, SOut.wp, vl_int, vl_str, vl_bl, vl_non, nd2, Nat.reduceLeDiff, Nat.reduceEqDiff, not_false_eq_true, and_self, and_true, true_and, putAll, big_eq, ↓evS_for, ↓ev_lc, evS, evT, evA, ev, evL, evO, evI, Out.bind, Out.st, ofS, ofO, D.isBl, vo, put, Vl.isFr, Vl.all, biD, ds, ts, sets, List.flatMap_cons, List.flatMap_nil, List.map_cons, List.map_nil, List.append_nil, List.nil_append, vl_nil, vf_nil, frz_nil, List.getElem?_cons_zero, List.getElem?_cons_succ, List.set_cons_zero, List.set_cons_succ, Bool.false_eq_true, if_false, if_true, reduceIte, List.length_cons, List.length_nil, Nat.reduceAdd, Nat.reduceSub, List.replicate, List.cons_append, List.replicate_succ, List.replicate_zero, Option.map_some, Option.map_none, Bool.not_true, Bool.not_false, List.singleton_append, ht, hty, hlen, hc, h1, hc2, h3, hit, l1, all_map, h4, hb, hc3, Bool.true_and]
theorem are_threads_ok {x : D} {W : Dr} (h : x.gd = true) : G_are_threads [x] W = .ok (false, .bl (areD x)) W := by
  have ht := gd_typed h
  cases x
  case lst xs => exact are_aux h (.inl rfl)
  case tup xs => exact are_aux h (.inr rfl)
  all_goals
    have hty : ∀ b, [Ty.list, Ty.tuple].any (isD1 b) = (isD1 b .list || isD1 b .tuple) := fun b => by simp
    unfold G_are_threads Z.run B_are_threads
    simp only [wip, SOut.wp, vl_int, vl_str, vl_bl, vl_non, nd2, Nat.reduceLeDiff, Nat.reduceEqDiff, not_false_eq_true, and_self, and_true, true_and, putAll, big_eq, ↓evS_for, ↓ev_lc, evS, evT, evA, ev, evL, evO, evI, Out.bind, Out.st, ofS, ofO, D.isBl, vo, put, Vl.isFr, Vl.all, biD, ds, ts, sets, List.flatMap_cons, List.flatMap_nil, List.map_cons, List.map_nil, List.append_nil, List.nil_append, vl_nil, vf_nil, frz_nil, List.getElem?_cons_zero, List.getElem?_cons_succ, List.set_cons_zero, List.set_cons_succ, Bool.false_eq_true, if_false, if_true, reduceIte, List.length_cons, List.length_nil, Nat.reduceAdd, Nat.reduceSub, List.replicate, List.cons_append, List.replicate_succ, List.replicate_zero, Option.map_some, Option.map_none, Bool.not_true, Bool.not_false, List.singleton_append, ht, hty, isD1, areD, Bool.or_false]
def stD (xs : List D) : D := .ins "State" [("s_lines", .tup xs)]
theorem State_ok {x : D} {xs : List D} {W : Dr} (h : x.gd = true) (hx : x = .lst xs ∨ x = .tup xs) (ha : areD x = true) : G_State [x] W = .ok (false, stD xs) W := by
  have e := are_threads_ok (W := W) h
  rw [ha] at e
  have ht : tupleD [x] = some (false, .tup xs) := by rcases hx with rfl | rfl <;> rfl
  unfold G_State GI_State Z.runC B_State___init__
  simp only [wip, SOut.wp, vl_int, vl_str, vl_bl, vl_non, nd2, Nat.reduceLeDiff, Nat.reduceEqDiff, not_false_eq_true, and_self, and_true, true_and, putAll, big_eq, ↓evS_for, ↓ev_lc, evS, evT, evA, ev, evL, evO, evI, Out.bind, Out.st, ofS, ofO, D.isBl, vo, put, Vl.isFr, Vl.all, biD, ds, ts, sets, List.flatMap_cons, List.flatMap_nil, List.map_cons, List.map_nil, List.append_nil, List.nil_append, vl_nil, vf_nil, frz_nil, List.getElem?_cons_zero, List.getElem?_cons_succ, List.set_cons_zero, List.set_cons_succ, Bool.false_eq_true, if_false, if_true, reduceIte, List.length_cons, List.length_nil, Nat.reduceAdd, Nat.reduceSub, List.replicate, List.cons_append, List.replicate_succ, List.replicate_zero, Option.map_some, Option.map_none, Bool.not_true, Bool.not_false, List.singleton_append, e, ht, putFD, Sl.noSlf, List.all_cons, List.all_nil, Bool.and_true]
  simp [stD]
theorem State_no {x : D} {W : Dr} (h : x.gd = true) (ha : areD x = false) : G_State [x] W = .ex (.exc "NoState" []) W := by
  have e := are_threads_ok (W := W) h
  rw [ha] at e
  unfold G_State GI_State Z.runC B_State___init__
  simp only [wip, SOut.wp, vl_int, vl_str, vl_bl, vl_non, nd2, Nat.reduceLeDiff, Nat.reduceEqDiff, not_false_eq_true, and_self, and_true, true_and, putAll, big_eq, ↓evS_for, ↓ev_lc, evS, evT, evA, ev, evL, evO, evI, Out.bind, Out.st, ofS, ofO, D.isBl, vo, put, Vl.isFr, Vl.all, biD, ds, ts, sets, List.flatMap_cons, List.flatMap_nil, List.map_cons, List.map_nil, List.append_nil, List.nil_append, vl_nil, vf_nil, frz_nil, List.getElem?_cons_zero, List.getElem?_cons_succ, List.set_cons_zero, List.set_cons_succ, Bool.false_eq_true, if_false, if_true, reduceIte, List.length_cons, List.length_nil, Nat.reduceAdd, Nat.reduceSub, List.replicate, List.cons_append, List.replicate_succ, List.replicate_zero, Option.map_some, Option.map_none, Bool.not_true, Bool.not_false, List.singleton_append, e]
end Z

namespace Z
open PySem
theorem threads_ok {xs : List D} {W : Dr} : G_State_threads [stD xs] W = .ok (true, .lst xs) W := by
  have e : attrD (stD xs) "s_lines" = some (.tup xs) := rfl
  unfold G_State_threads Z.run B_State_threads
  simp only [wip, SOut.wp, vl_int, vl_str, vl_bl, vl_non, nd2, Nat.reduceLeDiff, Nat.reduceEqDiff, not_false_eq_true, and_self, and_true, true_and, putAll, big_eq, ↓evS_for, ↓ev_lc, evS, evT, evA, ev, evL, evO, evI, Out.bind, Out.st, ofS, ofO, D.isBl, vo, put, Vl.isFr, Vl.all, biD, ds, ts, sets, List.flatMap_cons, List.flatMap_nil, List.map_cons, List.map_nil, List.append_nil, List.nil_append, vl_nil, vf_nil, frz_nil, List.getElem?_cons_zero, List.getElem?_cons_succ, List.set_cons_zero, List.set_cons_succ, Bool.false_eq_true, if_false, if_true, reduceIte, List.length_cons, List.length_nil, Nat.reduceAdd, Nat.reduceSub, List.replicate, List.cons_append, List.replicate_succ, List.replicate_zero, Option.map_some, Option.map_none, Bool.not_true, Bool.not_false, List.singleton_append, e, listD]
theorem tD_ix {ls : List (List Str)} {i : Nat} (h : i < ls.length) : ixD (.lst (tD ls)) (.int i) = some (th (ls.getD i [])) := by
  have h2 : i < (tD ls).length := by simpa [tD] using h
  simp only [ixD]
  rw [atD_nat h2]
  simp [tD, h]
theorem th_to {l : List Str} {k : Nat} : slD (th l) none (some (k : Int)) = some (false, th (l.take k)) := by
  simp only [slD, th]
  rw [cut_to (by omega)]
  simp [sts, List.map_take]
theorem th_from {l : List Str} {k : Nat} : slD (th l) (some (k : Int)) none = some (false, th (l.drop k)) := by
  simp only [slD, th]
  rw [cut_from (by omega)]
  simp [sts, List.map_drop]
theorem tD_len {ls : List (List Str)} : (tD ls).length = ls.length := by simp [tD]
theorem th_len {l : List Str} : (sts l).length = l.length := by simp [sts]
theorem immL_tD (ls : List (List Str)) : D.immL (tD ls) = true := (immL_iff _).mpr fun x hx => by
  obtain ⟨l, _, rfl⟩ := List.mem_map.mp hx
  exact imm_th
theorem vf_tD {ls : List (List Str)} {t : List Nat} : vf (.lst (tD ls)) t = ⟨.lst (tD ls), .fr, []⟩ := vf_imm (by simp only [D.kids]; exact immL_tD ls)
abbrev StOk (ls : List (List Str)) : Prop := Lns (fun s => isColor s = true) 8 60 ls
theorem Lns.st {m b : Nat} {ls : List (List Str)} (h : Lns (· ∈ hues1) m b ls) (hm : m ≤ 8) (hb : b ≤ 60) : StOk ls := h.imp hue_color hm hb
theorem color_len {s : Str} (h : isColor s = true) : s.length ≤ 4 := by
  simp only [isColor, Bool.and_eq_true, decide_eq_true_eq] at h
  exact h.1.2
theorem th_gd {l : List Str} (h : ∀ s ∈ l, isColor s = true) (hl : l.length ≤ 60) : (th l).gd = true := by
  simp only [th, D.gd, Bool.and_eq_true, gdL_iff, decide_eq_true_eq]
  refine ⟨fun x hx => ?_, by rw [th_len]; omega⟩
  obtain ⟨s, hs, rfl⟩ := sts_mem hx
  have := color_len (h s hs)
  simp only [D.gd, decide_eq_true_eq]
  omega
theorem StOk.len {ls : List (List Str)} (h : StOk ls) : ∀ l ∈ ls, l.length ≤ 60 := fun l hl => by have := sum_ge hl; have := h.sum; omega
theorem StOk.gdL {ls : List (List Str)} (h : StOk ls) : ∀ x ∈ tD ls, x.gd = true := fun x hx => by
  obtain ⟨l, hl, rfl⟩ := List.mem_map.mp hx
  exact th_gd (h.of l hl) (StOk.len h l hl)
theorem StOk.gd {ls : List (List Str)} (h : StOk ls) : (D.lst (tD ls)).gd = true := by
  simp only [D.gd, Bool.and_eq_true, gdL_iff, decide_eq_true_eq]
  exact ⟨StOk.gdL h, by rw [tD_len]; have := h.most; omega⟩
theorem StOk.are {ls : List (List Str)} (h : StOk ls) : areD (.lst (tD ls)) = true := by
  simp only [areD, Bool.and_eq_true, decide_eq_true_eq, List.all_eq_true]
  have hb : beadsD (tD ls) = (ls.map List.length).sum := by
    simp only [beadsD, tD, List.map_map]
    congr 1
    refine List.map_congr_left fun l _ => ?_
    simp [dlen, th, sts]
  refine ⟨⟨⟨by rw [tD_len]; exact h.one, by rw [tD_len]; exact h.most⟩, fun x hx => ?_⟩, by rw [hb]; exact h.sum⟩
  obtain ⟨l, hl, rfl⟩ := List.mem_map.mp hx
  simp only [isThreadD, th, Bool.and_eq_true, Bool.not_eq_true', List.all_eq_true]
  refine ⟨?_, fun y hy => ?_⟩
  · cases l with
    | nil => exact absurd rfl (h.ne _ hl)
    | cons _ _ => rfl
  · obtain ⟨s, hs, rfl⟩ := sts_mem hy
    exact h.of l hl s hs
theorem StOk.make {ls : List (List Str)} {W : Dr} (h : StOk ls) : G_State [.lst (tD ls)] W = .ok (false, stD (tD ls)) W := State_ok (StOk.gd h) (.inl rfl) (StOk.are h)
end Z

namespace Z
open PySem
theorem eq_same {d : D} (h : Pd 12 d) : D.eq d d = some true := by
  obtain ⟨p, hp⟩ := h
  simp only [D.eq, D.pd, hp, PySem.SeqAt.eqv_refl_plain p (pyN_ok _ _ _ hp).1]
theorem eq_same' {d : D} (h : Pd 12 d) : cmpD .Eq d d = some true := eq_same h
theorem ne_same {d : D} (h : Pd 12 d) : cmpD .NotEq d d = some false := by simp only [cmpD, eq_same h, Option.map_some, Bool.not_true]
theorem pd_th {n : Nat} {l : List Str} : Pd (n + 1) (th l) := pd_tup pd_sts
theorem pd_tD {n : Nat} {ls : List (List Str)} : Pd (n + 2) (.lst (tD ls)) := pd_lst fun x hx => by
  obtain ⟨l, _, rfl⟩ := List.mem_map.mp hx
  exact pd_th
end Z

namespace Z
open PySem
abbrev cl (s : Str) : List Nat := s.cps.toList
theorem cl_ext {a b : Str} (h : cl a = cl b) : a = b := by
  cases a; cases b
  congr 1
  exact Array.toList_inj.mp h
theorem strsD_sts (l : List Str) : strsD (sts l) = some l := strsD_map l
end Z

namespace Z
section
variable {α : Type} [DecidableEq α]
def ded : List α → List α := fun l => l.foldl (fun acc c => if c ∈ acc then acc else acc ++ [c]) []
theorem ded_nil : ded ([] : List α) = [] := rfl
theorem ded_snoc (l : List α) (c : α) : ded (l ++ [c]) = if c ∈ ded l then ded l else ded l ++ [c] := by unfold ded; rw [List.foldl_append]; rfl
theorem snoc_ind {P : List α → Prop} (h0 : P []) (hs : ∀ l c, P l → P (l ++ [c])) (l : List α) : P l := by
  rw [← List.reverse_reverse l]
  induction l.reverse with
  | nil => exact h0
  | cons c r ih => rw [List.reverse_cons]; exact hs _ _ ih
theorem mem_ded {l : List α} {c : α} : c ∈ ded l ↔ c ∈ l := by
  induction l using snoc_ind with
  | h0 => simp [ded]
  | hs l d ih =>
    rw [ded_snoc]
    split
    · rename_i h
      rw [List.mem_append, List.mem_singleton, ih]
      constructor
      · exact .inl
      · rintro (h1 | rfl)
        · exact h1
        · exact ih.mp (by assumption)
    · simp [ih]
theorem nodup_ded (l : List α) : (ded l).Nodup := by
  induction l using snoc_ind with
  | h0 => simp [ded]
  | hs l d ih =>
    rw [ded_snoc]
    split
    · exact ih
    · rename_i h
      exact List.nodup_append.mpr ⟨ih, by simp, fun a ha b hb => by rw [List.mem_singleton.mp hb]; exact fun e => h (e ▸ ha)⟩
def sumOf (f : α → Nat) (l : List α) : Nat := (l.map f).sum
theorem sumOf_app {f : α → Nat} {a b : List α} : sumOf f (a ++ b) = sumOf f a + sumOf f b := by simp [sumOf]
theorem sumOf_add {f g : α → Nat} : ∀ {l : List α}, sumOf (fun x => f x + g x) l = sumOf f l + sumOf g l
  | [] => rfl
  | x :: l => by
    have := sumOf_add (f := f) (g := g) (l := l)
    simp only [sumOf, List.map_cons, List.sum_cons] at this ⊢
    omega
theorem sumOf_le {f g : α → Nat} : ∀ {l : List α}, (∀ x ∈ l, f x ≤ g x) → sumOf f l ≤ sumOf g l ∧ (sumOf f l = sumOf g l → ∀ x ∈ l, f x = g x)
  | [], _ => ⟨Nat.le_refl _, fun _ x hx => by simp at hx⟩
  | x :: l, h => by
    have h1 := h x List.mem_cons_self
    obtain ⟨h2, h3⟩ := sumOf_le (f := f) (g := g) (l := l) fun y hy => h y (List.mem_cons_of_mem _ hy)
    simp only [sumOf, List.map_cons, List.sum_cons] at h2 h3 ⊢
    refine ⟨by omega, fun e y hy => ?_⟩
    rcases List.mem_cons.mp hy with rfl | hy
    · omega
    · exact h3 (by omega) y hy
theorem sumOf_one {d : α} : ∀ {l : List α}, l.Nodup → sumOf (fun x => if x = d then 1 else 0) l = if d ∈ l then 1 else 0
  | [], _ => rfl
  | x :: l, h => by
    obtain ⟨h1, h2⟩ := List.nodup_cons.mp h
    have := sumOf_one (d := d) h2
    simp only [sumOf, List.map_cons, List.sum_cons] at this ⊢
    rw [this]
    by_cases e : x = d
    · subst e; simp [h1]
    · have e' : ¬ d = x := fun z => e z.symm
      simp [e, e']
theorem sum_count (l : List α) : sumOf (fun c => l.count c) (ded l) = l.length := by
  induction l using snoc_ind with
  | h0 => rfl
  | hs l d ih =>
    have e : (fun c => (l ++ [d]).count c) = fun c => l.count c + if c = d then 1 else 0 := by
      funext c
      rw [List.count_append, List.count_singleton]
      by_cases h : c = d
      · subst h; simp
      · have h' : ¬ d = c := fun z => h z.symm
        simp [h, h']
    rw [e, ded_snoc, List.length_append]
    by_cases h : d ∈ ded l
    · rw [if_pos h, sumOf_add, ih, sumOf_one (nodup_ded l), if_pos h]; rfl
    · rw [if_neg h, sumOf_app, sumOf_add, ih, sumOf_one (nodup_ded l), if_neg h]
      have : l.count d = 0 := List.count_eq_zero.mpr fun z => h (mem_ded.mpr z)
      simp [sumOf, this]
end
end Z

namespace Z
open PySem PySem.W PySem.Spec PyProof.Rows L2
theorem leD_eq (a b : D) : leD a b = !PySem.W.dataLt (pdv b) (pdv a) := rfl
theorem leD_trans (a b c : D) (h1 : leD a b = true) (h2 : leD b c = true) : leD a c = true := by
  rw [leD_eq, Bool.not_eq_true'] at h1 h2 ⊢
  cases h : PySem.W.dataLt (pdv c) (pdv a) with
  | false => rfl
  | true =>
    rcases lex_negTrans _ (PySem.W.keyToks (pdv b)) _ h with q | q
    · exact absurd (h2.symm.trans q) (by decide)
    · exact absurd (h1.symm.trans q) (by decide)
theorem leD_total (a b : D) : (leD a b || leD b a) = true := by
  rw [leD_eq, leD_eq]
  cases h1 : PySem.W.dataLt (pdv b) (pdv a) with
  | false => rfl
  | true =>
    cases h2 : PySem.W.dataLt (pdv a) (pdv b) with
    | false => rfl
    | true =>
      have q := lex_trans _ _ _ h1 h2
      rw [lex_irrefl] at q
      cases q
theorem leD_anti {a b : D} (h1 : leD a b = true) (h2 : leD b a = true) : PySem.W.keyToks (pdv a) = PySem.W.keyToks (pdv b) := by
  rw [leD_eq, Bool.not_eq_true'] at h1 h2
  exact lex_total _ _ h2 h1
noncomputable def sortBy {α : Type} (dec : α → D) (xs : List α) : List α := xs.mergeSort fun a b => leD (dec a) (dec b)
theorem sortBy_perm {α : Type} (dec : α → D) (xs : List α) : (sortBy dec xs).Perm xs := List.mergeSort_perm _ _
theorem sortBy_pw {α : Type} (dec : α → D) (xs : List α) : (sortBy dec xs).Pairwise fun a b => leD (dec a) (dec b) = true := List.pairwise_mergeSort (fun a b c => leD_trans (dec a) (dec b) (dec c)) (fun a b => leD_total (dec a) (dec b)) xs
theorem sorted_uniq {α : Type} {dec : α → D} (inj : ∀ a b, PySem.W.keyToks (pdv (dec a)) = PySem.W.keyToks (pdv (dec b)) → a = b) {xs ys : List α} (p : xs.Perm ys) (h1 : xs.Pairwise fun a b => leD (dec a) (dec b) = true) (h2 : ys.Pairwise fun a b => leD (dec a) (dec b) = true) : xs = ys :=
  p.eq_of_pairwise (fun x y _ _ q1 q2 => inj _ _ (leD_anti q1 q2)) h1 h2
theorem sortBy_eq {α : Type} {dec : α → D} (inj : ∀ a b, PySem.W.keyToks (pdv (dec a)) = PySem.W.keyToks (pdv (dec b)) → a = b) {xs ys : List α} (p : xs.Perm ys) (h2 : ys.Pairwise fun a b => leD (dec a) (dec b) = true) : sortBy dec xs = ys :=
  sorted_uniq inj ((sortBy_perm dec xs).trans p) (sortBy_pw dec xs) h2
theorem pdv_str (s : Str) : pdv (.str s) = .str s := by simp [pdv, D.pyN]
theorem toks_str {a b : Str} (h : PySem.W.keyToks (pdv (.str a)) = PySem.W.keyToks (pdv (.str b))) : a = b := by
  rw [pdv_str, pdv_str] at h
  simp only [PySem.W.keyToks, List.cons.injEq, Sum.inr.injEq, and_true] at h
  exact cl_ext h
theorem leD_str (a b : Str) : leD (.str a) (.str b) = decide (cl a ≤ cl b) := by
  have h := congrFun (congrFun (PySem.W.dataLe_str (β := Str) id) a) b
  rw [leD_eq, pdv_str, pdv_str]
  exact h
noncomputable def srt (l : List Str) : List Str := sortBy .str l
theorem srt_perm (l : List Str) : (srt l).Perm l := sortBy_perm _ _
theorem ltC_iff : ∀ (a b : List Nat), ltCps a b = decide (a < b)
  | [], [] => by simp [ltCps]
  | [], _ :: _ => by simp [ltCps]
  | _ :: _, [] => by simp [ltCps]
  | x :: a, y :: b => by
    rw [ltCps, ltC_iff a b]
    by_cases h1 : x < y
    · simp [h1, List.cons_lt_cons_iff]
    · by_cases h2 : x = y
      · subst h2; simp [List.cons_lt_cons_iff]
      · simp [h1, h2, List.cons_lt_cons_iff]
theorem sortS_srt (l : List Str) : sortS l = srt l := by
  refine sortS_eq (srt_perm l) ?_
  have h := sortBy_pw D.str l
  have : ∀ {k : List Str}, (k.Pairwise fun a b => leD (.str a) (.str b) = true) → sortedS k = true := by
    intro k
    cases k with
    | nil => intro _; rfl
    | cons x k =>
      intro h
      show risingS x k = true
      induction k generalizing x with
      | nil => rfl
      | cons y k ih =>
        obtain ⟨h1, h2⟩ := List.pairwise_cons.mp h
        have h3 := h1 y List.mem_cons_self
        rw [leD_str] at h3
        simp only [risingS, Bool.and_eq_true, Bool.not_eq_true', ih _ h2, and_true]
        rw [ltC_iff, decide_eq_false_iff_not, List.not_lt]
        exact of_decide_eq_true h3
  exact this h
def kvS {β : Type} (dec : β → D) (l : List (Str × β)) : List (D × D) := l.map fun p => (.str p.1, dec p.2)
def tab {β : Type} (f : Str → β) (ks : List Str) : List (Str × β) := ks.map fun k => (k, f k)
theorem kvS_len {β : Type} {dec : β → D} {l : List (Str × β)} : (kvS dec l).length = l.length := by simp [kvS]
theorem tab_len {β : Type} {f : Str → β} {ks : List Str} : (tab f ks).length = ks.length := by simp [tab]
theorem keys_tab {β : Type} {f : Str → β} {ks : List Str} {dec : β → D} : (kvS dec (tab f ks)).map (·.1) = sts ks := by simp [kvS, tab, sts, Function.comp_def]
theorem tab_congr {β : Type} {f g : Str → β} {ks : List Str} (h : ∀ k ∈ ks, f k = g k) : tab f ks = tab g ks := List.map_congr_left fun k hk => by rw [h k hk]
open Classical in
theorem dPut_tab {β : Type} {dec : β → D} {f : Str → β} {k : Str} {v : β} {ks : List Str} : dPut (kvS dec (tab f ks)) (.str k) (dec v) = kvS dec (tab (fun x => if x = k then v else f x) (if k ∈ ks then ks else ks ++ [k])) := by
  have ha : ((kvS dec (tab f ks)).any fun p => decide (p.1 = .str k)) = decide (k ∈ ks) := by
    induction ks with
    | nil => simp [kvS, tab]
    | cons x ks ih =>
      simp only [kvS, tab, List.map_cons, List.any_cons] at ih ⊢
      by_cases h : x = k
      · subst h; simp
      · have h' : ¬ k = x := fun z => h z.symm
        simp only [D.str.injEq, h, decide_false, Bool.false_or, ih, List.mem_cons, h', false_or]
  unfold dPut
  by_cases h : k ∈ ks
  · rw [if_pos (by rw [ha]; exact decide_eq_true h), if_pos h]
    simp only [kvS, tab, List.map_map]
    refine List.map_congr_left fun x _ => ?_
    by_cases e : x = k
    · subst e; simp
    · simp [e]
  · rw [if_neg (by rw [ha]; simpa using h), if_neg h]
    simp only [kvS, tab, List.map_append, List.map_map, List.map_cons, List.map_nil]
    congr 1
    · refine List.map_congr_left fun x hx => ?_
      have e : ¬ x = k := fun z => h (z ▸ hx)
      simp [e]
theorem dPut_ded {β : Type} {dec : β → D} {f g : Str → β} {p : List Str} {k : Str} (hk : g k = g k) (h : ∀ x, x ≠ k → f x = g x) : dPut (kvS dec (tab f (ded p))) (.str k) (dec (g k)) = kvS dec (tab g (ded (p ++ [k]))) := by
  rw [dPut_tab]
  have e : (if k ∈ ded p then ded p else ded p ++ [k]) = ded (p ++ [k]) := by rw [ded_snoc]
  rw [e]
  congr 1
  refine tab_congr fun x _ => ?_
  by_cases q : x = k
  · rw [if_pos q, q]
  · rw [if_neg q, h x q]
theorem ded_len (l : List Str) : (ded l).length ≤ l.length := by
  have h := sum_count l
  have h2 := (sumOf_le (f := fun _ => 1) (g := fun c => l.count c) (l := ded l) fun c hc => List.count_pos_iff.mpr (mem_ded.mp hc)).1
  have h3 : sumOf (fun _ : Str => 1) (ded l) = (ded l).length := by
    generalize ded l = k
    induction k with
    | nil => rfl
    | cons x k ih => simp only [sumOf, List.map_cons, List.sum_cons, List.length_cons] at ih ⊢; omega
  omega
theorem newdic {W : Dr} : pureG newDicD [] W = .ok (true, .dic false []) W := rfl
end Z

namespace Z
open PySem
structure Lot (L : D) (lot : List Str) : Prop where
  i : ∀ s, cmpD .In (.str s) L = some (decide (s ∈ lot))
  n : ∀ s, cmpD .NotIn (.str s) L = some (!decide (s ∈ lot))
  wk : L.items = some (sts lot)
theorem lcOne_if {el tst : E} {i : Nat} {own : List Nat} {ρ : En} {x : D} {W : Dr} {b : Bool} {v : Vl} (h1 : evA tst ((wip ρ own).set i (.val x)) W = .ok b W) (h2 : b = true → ev el ((wip ρ own).set i (.val x)) W = .ok v W) : lcOne el tst (.nm i) own ρ x W = .ok (if b = true then some v else none) W := by
  simp only [lcOne, bindP, ofO, h1, Out.bind]
  cases b with
  | false => rfl
  | true => simp only [if_true, h2 rfl, Out.bind]
noncomputable def hues (ls : List (List Str)) : List Str := srt (ded ls.flatten)
theorem trues {p : List Str} {k : Str} : dPut (kvS D.bl (tab (fun _ => true) (ded p))) (.str k) (.bl true) = kvS D.bl (tab (fun _ => true) (ded (p ++ [k]))) := dPut_ded (dec := D.bl) (f := fun _ => true) (g := fun _ => true) rfl fun _ _ => rfl
theorem flat_len {ls : List (List Str)} : ls.flatten.length = (ls.map List.length).sum := by simp [List.length_flatten]
theorem all_hues_ok {ls : List (List Str)} {W : Dr} (h60 : (ls.map List.length).sum ≤ 60) : G__law_all_hues [.lst (tD ls)] W = .ok (true, .lst (sts (hues ls))) W := by
  have e := for_pre0 th (fun q => [.val (.lst (tD ls)), .own (.dic false (kvS D.bl (tab (fun _ => true) (ded q.flatten)))), .un, .un]) (f := forOne 1000000 B__law_all_hues_2 (.nm 2)) (W := W) (xs := ls) fun q l r hx => .inl ?_
  · have hit : (D.lst (tD ls)).items = some (ls.map th) := rfl
    have hs : pureG sortAnyD [.dic false (kvS D.bl (tab (fun _ => true) (ded ls.flatten)))] W = .ok (true, .lst (sts (hues ls))) W := pureG_some (by
      have := ded_len ls.flatten
      rw [flat_len] at this
      simp only [sortAnyD, sortedDD, keys_tab, strsD_sts, Option.bind_some]
      rw [if_pos (by omega), sortS_srt]
      rfl)
    unfold G__law_all_hues Z.run B__law_all_hues
    simp only [List.flatten_nil, ded_nil, tab, List.map_nil, kvS] at e hs
    have hv : ∀ t, vf (.lst (sts (hues ls))) t = ⟨.lst (sts (hues ls)), .fr, []⟩ := fun t => vf_imm (by simp only [D.kids]; exact imm_strs _)
    simp only [wip, SOut.wp, vl_int, vl_str, vl_bl, vl_non, nd2, Nat.reduceLeDiff, Nat.reduceEqDiff, not_false_eq_true, and_self, and_true, true_and, putAll, big_eq, ↓evS_for, ↓ev_lc, evS, evT, evA, ev, evL, evO, evI, Out.bind, Out.st, ofS, ofO, D.isBl, vo, put, Vl.isFr, Vl.all, biD, ds, ts, sets, List.flatMap_cons, List.flatMap_nil, List.map_cons, List.map_nil, List.append_nil, List.nil_append, vl_nil, vf_nil, frz_nil, List.getElem?_cons_zero, List.getElem?_cons_succ, List.set_cons_zero, List.set_cons_succ, Bool.false_eq_true, if_false, if_true, reduceIte, List.length_cons, List.length_nil, Nat.reduceAdd, Nat.reduceSub, List.replicate, List.cons_append, List.replicate_succ, List.replicate_zero, Option.map_some, Option.map_none, Bool.not_true, Bool.not_false, List.singleton_append, newdic, hit, e, hs, hv]
  · have e2 := for_pre0 D.str (fun p => [.val (.lst (tD ls)), .own (.dic false (kvS D.bl (tab (fun _ => true) (ded (q.flatten ++ p))))), .val (th l), .un]) (f := forOne 1000000 B__law_all_hues_1 (.nm 3)) (W := W) (xs := l) fun p s r' hx' => .inl ?_
    · have hit : (th l).items = some (l.map .str) := rfl
      show evS 1000000 B__law_all_hues_2 _ _ = _
      unfold B__law_all_hues_2
      simp only [List.append_nil] at e2
      simp only [wip, SOut.wp, vl_int, vl_str, vl_bl, vl_non, nd2, Nat.reduceLeDiff, Nat.reduceEqDiff, not_false_eq_true, and_self, and_true, true_and, putAll, big_eq, ↓evS_for, ↓ev_lc, evS, evT, evA, ev, evL, evO, evI, Out.bind, Out.st, ofS, ofO, D.isBl, vo, put, Vl.isFr, Vl.all, biD, ds, ts, sets, List.flatMap_cons, List.flatMap_nil, List.map_cons, List.map_nil, List.append_nil, List.nil_append, vl_nil, vf_nil, frz_nil, List.getElem?_cons_zero, List.getElem?_cons_succ, List.set_cons_zero, List.set_cons_succ, Bool.false_eq_true, if_false, if_true, reduceIte, List.length_cons, List.length_nil, Nat.reduceAdd, Nat.reduceSub, List.replicate, List.cons_append, List.replicate_succ, List.replicate_zero, Option.map_some, Option.map_none, Bool.not_true, Bool.not_false, List.singleton_append, hit, e2, List.flatten_append, List.flatten_cons, List.flatten_nil]
    · have hlen : (ded (q.flatten ++ p)).length < cap := by
        have h1 := ded_len (q.flatten ++ p)
        have h2 : (q.flatten ++ p).length ≤ ls.flatten.length := by rw [hx, hx']; simp
        rw [flat_len] at h2
        unfold cap; omega
      have hk : (D.str s).keyOk false = true := rfl
      show evS 1000000 B__law_all_hues_1 _ _ = _
      unfold B__law_all_hues_1
      simp only [wip, SOut.wp, vl_int, vl_str, vl_bl, vl_non, nd2, Nat.reduceLeDiff, Nat.reduceEqDiff, not_false_eq_true, and_self, and_true, true_and, putAll, big_eq, ↓evS_for, ↓ev_lc, evS, evT, evA, ev, evL, evO, evI, Out.bind, Out.st, ofS, ofO, D.isBl, vo, put, Vl.isFr, Vl.all, biD, ds, ts, sets, List.flatMap_cons, List.flatMap_nil, List.map_cons, List.map_nil, List.append_nil, List.nil_append, vl_nil, vf_nil, frz_nil, List.getElem?_cons_zero, List.getElem?_cons_succ, List.set_cons_zero, List.set_cons_succ, Bool.false_eq_true, if_false, if_true, reduceIte, List.length_cons, List.length_nil, Nat.reduceAdd, Nat.reduceSub, List.replicate, List.cons_append, List.replicate_succ, List.replicate_zero, Option.map_some, Option.map_none, Bool.not_true, Bool.not_false, List.singleton_append, hk, kvS_len, tab_len, hlen, trues, List.append_assoc]
end Z

namespace Z
open PySem
def oddL : List D := [.non, .bl true, .bl false, .int (-1), .int (10 ^ 40), .str "", .str "A", .str "abcde", .str "a b", .tup [], .lst [], .dic false [], .tup [.str "A"], .tup [.str "abcde"], .tup [.str "a", .int 1],
  .tup [.non], .lst [.str "a"], .dic false [(.str "a", .int 1)], .tup [.tup []], .lst [.tup []], .lst [.tup [.str "a", .str ""]], .str "1", .tup [.str "a", .tup [.str "a"]], .lst [.str "A"]]
theorem odd_ok {T : Nat} {W : Dr} (h : Wd T W) (hT : T ≤ 1099511627776) : ∃ x W', x ∈ oddL ∧ Wd (T + 1) W' ∧ G__law_odd [.drw] W = .ok (false, x) W' := by
  obtain ⟨x, W', hx, hw, e⟩ := pick_ok (xs := oddL) h hT (by simp [oddL]) (by simp [oddL])
  refine ⟨x, W', hx, hw, ?_⟩
  have hpow : binD .Pow (.int 10) (.int 40) = some (false, .int (10 ^ 40)) := by
    simp only [binD, big_eq]
    rw [if_pos ⟨by omega, by omega, by decide⟩]
    rfl
  have hadd : ∀ a b : List D, a.length + b.length ≤ 16777216 → binD .Add (.lst a) (.lst b) = some (true, .lst (a ++ b)) := fun a b h => by simp only [binD]; rw [if_pos h]
  have v1 : ∀ (l : List D), D.immL l = false → vf (.lst l) [] = ⟨.lst l, .fr, []⟩ := fun l _ => vf_nil
  unfold oddL at e
  unfold G__law_odd Z.run B__law_odd
  simp only [wip, SOut.wp, vl_int, vl_str, vl_bl, vl_non, nd2, Nat.reduceLeDiff, Nat.reduceEqDiff, not_false_eq_true, and_self, and_true, true_and, putAll, big_eq, ↓evS_for, ↓ev_lc, evS, evT, evA, ev, evL, evO, evI, Out.bind, Out.st, ofS, ofO, D.isBl, vo, put, Vl.isFr, Vl.all, biD, ds, ts, sets, List.flatMap_cons, List.flatMap_nil, List.map_cons, List.map_nil, List.append_nil, List.nil_append, vl_nil, vf_nil, frz_nil, List.getElem?_cons_zero, List.getElem?_cons_succ, List.set_cons_zero, List.set_cons_succ, Bool.false_eq_true, if_false, if_true, reduceIte, List.length_cons, List.length_nil, Nat.reduceAdd, Nat.reduceSub, List.replicate, List.cons_append, List.replicate_succ, List.replicate_zero, Option.map_some, Option.map_none, Bool.not_true, Bool.not_false, List.singleton_append, ↓hpow, cap, ite_self]
  rw [hadd _ _ (by simp)]
  simp only [wip, SOut.wp, vl_int, vl_str, vl_bl, vl_non, nd2, Nat.reduceLeDiff, Nat.reduceEqDiff, not_false_eq_true, and_self, and_true, true_and, putAll, big_eq, ↓evS_for, ↓ev_lc, evS, evT, evA, ev, evL, evO, evI, Out.bind, Out.st, ofS, ofO, D.isBl, vo, put, Vl.isFr, Vl.all, biD, ds, ts, sets, List.flatMap_cons, List.flatMap_nil, List.map_cons, List.map_nil, List.append_nil, List.nil_append, vl_nil, vf_nil, frz_nil, List.getElem?_cons_zero, List.getElem?_cons_succ, List.set_cons_zero, List.set_cons_succ, Bool.false_eq_true, if_false, if_true, reduceIte, List.length_cons, List.length_nil, Nat.reduceAdd, Nat.reduceSub, List.replicate, List.cons_append, List.replicate_succ, List.replicate_zero, Option.map_some, Option.map_none, Bool.not_true, Bool.not_false, List.singleton_append, e]
end Z

namespace Z
open PySem
end Z

namespace Z
open PySem
abbrev SlR := List Str × Nat × Nat × Nat
theorem beads_in {l : List Str} {s k : Nat} (h : s + k < l.length) : (l.drop s).take (k + 1) = (l.drop s).take k ++ [l.getD (s + k) ""] := by
  have hk : k < (l.drop s).length := by rw [List.length_drop]; omega
  rw [List.take_succ_eq_append_getElem hk]
  simp [h]
end Z

namespace Z
open PySem
def rR (a b : Str) : Prop := leD (.str a) (.str b) = true ∧ a ≠ b
def SS (l : List Str) : Prop := l.Pairwise rR
theorem SS.nodup {l : List Str} (h : SS l) : l.Nodup := h.imp fun q => q.2
theorem SS.sub {a b : List Str} (h : SS b) (s : a.Sublist b) : SS a := List.Pairwise.sublist s h
end Z

namespace Z
open PySem
section
variable {ρ : Type} (cov : ρ → ρ → Bool)
end
def cov (o r : SlR) : Bool := decide (o.2.1 = r.2.1) && (decide (o.2.2.1 ≤ r.2.2.1) && decide (r.2.2.2 ≤ o.2.2.2))
end Z

namespace Z
open PySem
end Z

namespace Qk02
open PySem Z
theorem is_hue_ok {x : D} {W : Dr} (h : x.gd = true) : G__law_is_hue [x] W = .ok (false, .bl (isColorD x)) W := by
  have ht := gd_typed h
  cases x
  case str s =>
    have hs : s.length ≤ 16777216 := by simpa [D.gd] using h
    have l1 := lc_filter (one := lcOne (.var 1) T__law_is_hue_1 (.nm 1) [1] [.val (.str s), .un]) (fun c => D.str ⟨#[c]⟩) (fun c => !isLetter c) (W := W) (xs := s.cps.toList) hs fun c _ => ⟨⟨.str ⟨#[c]⟩, .pl, []⟩, by
      refine lcOne_if ?_ fun _ => ?_
      · unfold T__law_is_hue_1
        have e : cmpD .NotIn (.str ⟨#[c]⟩) (.str "abcdefghijklmnopqrstuvwxyz") = some (!isLetter c) := rfl
        simp only [wip, SOut.wp, vl_int, vl_str, vl_bl, vl_non, nd2, Nat.reduceLeDiff, Nat.reduceEqDiff, not_false_eq_true, and_self, and_true, true_and, putAll, big_eq, ↓evS_for, ↓ev_lc, evS, evT, evA, ev, evL, evO, evI, Out.bind, Out.st, ofS, ofO, D.isBl, vo, put, Vl.isFr, Vl.all, biD, ds, ts, sets, List.flatMap_cons, List.flatMap_nil, List.map_cons, List.map_nil, List.append_nil, List.nil_append, vl_nil, vf_nil, frz_nil, List.getElem?_cons_zero, List.getElem?_cons_succ, List.set_cons_zero, List.set_cons_succ, Bool.false_eq_true, if_false, if_true, reduceIte, List.length_cons, List.length_nil, Nat.reduceAdd, Nat.reduceSub, List.replicate, List.cons_append, List.replicate_succ, List.replicate_zero, Option.map_some, Option.map_none, Bool.not_true, Bool.not_false, List.singleton_append, wip, e]
        cases isLetter c <;> rfl
      · simp only [wip, SOut.wp, vl_int, vl_str, vl_bl, vl_non, nd2, Nat.reduceLeDiff, Nat.reduceEqDiff, not_false_eq_true, and_self, and_true, true_and, putAll, big_eq, ↓evS_for, ↓ev_lc, evS, evT, evA, ev, evL, evO, evI, Out.bind, Out.st, ofS, ofO, D.isBl, vo, put, Vl.isFr, Vl.all, biD, ds, ts, sets, List.flatMap_cons, List.flatMap_nil, List.map_cons, List.map_nil, List.append_nil, List.nil_append, vl_nil, vf_nil, frz_nil, List.getElem?_cons_zero, List.getElem?_cons_succ, List.set_cons_zero, List.set_cons_succ, Bool.false_eq_true, if_false, if_true, reduceIte, List.length_cons, List.length_nil, Nat.reduceAdd, Nat.reduceSub, List.replicate, List.cons_append, List.replicate_succ, List.replicate_zero, Option.map_some, Option.map_none, Bool.not_true, Bool.not_false, List.singleton_append, wip], rfl, rfl⟩
    have hc : cmpD .LtE (.int 1) (.int s.length) = some (decide (1 ≤ s.length)) := by
      simp only [cmpD]; congr 1; exact decide_eq_decide.mpr (by omega)
    have hc2 : cmpD .LtE (.int s.length) (.int 4) = some (decide (s.length ≤ 4)) := by
      simp only [cmpD]; congr 1; exact decide_eq_decide.mpr (by omega)
    have hlen : lenD [.str s] = some (false, .int s.length) := by simp only [lenD]; exact if_pos hs
    have hit : (D.str s).items = some (s.cps.toList.map fun c => .str ⟨#[c]⟩) := rfl
    have hall : cmpD .Eq (.lst ((s.cps.toList.filter fun c => !isLetter c).map fun c => D.str ⟨#[c]⟩)) (.lst []) = some (s.cps.toList.all isLetter) := by
      rw [show cmpD .Eq (.lst ((s.cps.toList.filter fun c => !isLetter c).map fun c => D.str ⟨#[c]⟩)) (.lst []) = D.eq _ _ from rfl, eq_nil fun y hy => by obtain ⟨c, _, rfl⟩ := List.mem_map.mp hy; exact pd_str]
      congr 1
      induction s.cps.toList with
      | nil => rfl
      | cons c l ih => cases hc : isLetter c <;> simp_all
    have hty : [Ty.str].any (isD1 (.str s)) = true := rfl
    unfold G__law_is_hue Z.run B__law_is_hue
    cases h1 : decide (1 ≤ s.length) with
    | false => simp only [wip, SOut.wp, vl_int, vl_str, vl_bl, vl_non, nd2, Nat.reduceLeDiff, Nat.reduceEqDiff, not_false_eq_true, and_self, and_true, true_and, putAll, big_eq, ↓evS_for, ↓ev_lc, evS, evT, evA, ev, evL, evO, evI, Out.bind, Out.st, ofS, ofO, D.isBl, vo, put, Vl.isFr, Vl.all, biD, ds, ts, sets, List.flatMap_cons, List.flatMap_nil, List.map_cons, List.map_nil, List.append_nil, List.nil_append, vl_nil, vf_nil, frz_nil, List.getElem?_cons_zero, List.getElem?_cons_succ, List.set_cons_zero, List.set_cons_succ, Bool.false_eq_true, if_false, if_true, reduceIte, List.length_cons, List.length_nil, Nat.reduceAdd, Nat.reduceSub, List.replicate, List.cons_append, List.replicate_succ, List.replicate_zero, Option.map_some, Option.map_none, Bool.not_true, Bool.not_false, List.singleton_append, ht, hty, hlen, hc, h1, isColorD, isColor, Bool.false_and]
    | true =>
      cases h2 : decide (s.length ≤ 4) with
      | false => simp only [wip, SOut.wp, vl_int, vl_str, vl_bl, vl_non, nd2, Nat.reduceLeDiff, Nat.reduceEqDiff, not_false_eq_true, and_self, and_true, true_and, putAll, big_eq, ↓evS_for, ↓ev_lc, evS, evT, evA, ev, evL, evO, evI, Out.bind, Out.st, ofS, ofO, D.isBl, vo, put, Vl.isFr, Vl.all, biD, ds, ts, sets, List.flatMap_cons, List.flatMap_nil, List.map_cons, List.map_nil, List.append_nil, List.nil_append, vl_nil, vf_nil, frz_nil, List.getElem?_cons_zero, List.getElem?_cons_succ, List.set_cons_zero, List.set_cons_succ, Bool.false_eq_true, if_false, if_true, reduceIte, List.length_cons, List.length_nil, Nat.reduceAdd, Nat.reduceSub, List.replicate, List.cons_append, List.replicate_succ, List.replicate_zero, Option.map_some, Option.map_none, Bool.not_true, Bool.not_false, List.singleton_append, ht, hty, hlen, hc, h1, hc2, h2, isColorD, isColor, Bool.false_and, Bool.and_false]
      | true => simp only [wip, SOut.wp, vl_int, vl_str, vl_bl, vl_non, nd2, Nat.reduceLeDiff, Nat.reduceEqDiff, not_false_eq_true, and_self, and_true, true_and, putAll, big_eq, ↓evS_for, ↓ev_lc, evS, evT, evA, ev, evL, evO, evI, Out.bind, Out.st, ofS, ofO, D.isBl, vo, put, Vl.isFr, Vl.all, biD, ds, ts, sets, List.flatMap_cons, List.flatMap_nil, List.map_cons, List.map_nil, List.append_nil, List.nil_append, vl_nil, vf_nil, frz_nil, List.getElem?_cons_zero, List.getElem?_cons_succ, List.set_cons_zero, List.set_cons_succ, Bool.false_eq_true, if_false, if_true, reduceIte, List.length_cons, List.length_nil, Nat.reduceAdd, Nat.reduceSub, List.replicate, List.cons_append, List.replicate_succ, List.replicate_zero, Option.map_some, Option.map_none, Bool.not_true, Bool.not_false, List.singleton_append, ht, hty, hlen, hc, h1, hc2, h2, hit, l1, hall, isColorD, isColor, Bool.true_and, Nat.zero_le] <;> try (simp only [wip, SOut.wp, vl_int, vl_str, vl_bl, vl_non, nd2, Nat.reduceLeDiff, Nat.reduceEqDiff, not_false_eq_true, and_self, and_true, true_and, putAll, big_eq, ↓evS_for, ↓ev_lc, evS, evT, evA, ev, evL, evO, evI, Out.bind, Out.st, ofS, ofO, D.isBl, vo, put, Vl.isFr, Vl.all, biD, ds, ts, sets, List.flatMap_cons, List.flatMap_nil, List.map_cons, List.map_nil, List.append_nil, List.nil_append, vl_nil, vf_nil, frz_nil, List.getElem?_cons_zero, List.getElem?_cons_succ, List.set_cons_zero, List.set_cons_succ, Bool.false_eq_true, if_false, if_true, reduceIte, List.length_cons, List.length_nil, Nat.reduceAdd, Nat.reduceSub, List.replicate, List.cons_append, List.replicate_succ, List.replicate_zero, Option.map_some, Option.map_none, Bool.not_true, Bool.not_false, List.singleton_append, ht, hty, hlen, hc, h1, hc2, h2, hit, l1, hall, isColorD, isColor, Bool.true_and, Nat.zero_le] <;> try simp only [wip, SOut.wp, vl_int, vl_str, vl_bl, vl_non, nd2, Nat.reduceLeDiff, Nat.reduceEqDiff, not_false_eq_true, and_self, and_true, true_and, putAll, big_eq, ↓evS_for, ↓ev_lc, evS, evT, evA, ev, evL, evO, evI, Out.bind, Out.st, ofS, ofO, D.isBl, vo, put, Vl.isFr, Vl.all, biD, ds, ts, sets, List.flatMap_cons, List.flatMap_nil, List.map_cons, List.map_nil, List.append_nil, List.nil_append, vl_nil, vf_nil, frz_nil, List.getElem?_cons_zero, List.getElem?_cons_succ, List.set_cons_zero, List.set_cons_succ, Bool.false_eq_true, if_false, if_true, reduceIte, List.length_cons, List.length_nil, Nat.reduceAdd, Nat.reduceSub, List.replicate, List.cons_append, List.replicate_succ, List.replicate_zero, Option.map_some, Option.map_none, Bool.not_true, Bool.not_false, List.singleton_append, ht, hty, hlen, hc, h1, hc2, h2, hit, l1, hall, isColorD, isColor, Bool.true_and, Nat.zero_le])
  all_goals
    have hty : ∀ b, [Ty.str].any (isD1 b) = isD1 b .str := fun b => by simp
    unfold G__law_is_hue Z.run B__law_is_hue
    simp only [wip, SOut.wp, vl_int, vl_str, vl_bl, vl_non, nd2, Nat.reduceLeDiff, Nat.reduceEqDiff, not_false_eq_true, and_self, and_true, true_and, putAll, big_eq, ↓evS_for, ↓ev_lc, evS, evT, evA, ev, evL, evO, evI, Out.bind, Out.st, ofS, ofO, D.isBl, vo, put, Vl.isFr, Vl.all, biD, ds, ts, sets, List.flatMap_cons, List.flatMap_nil, List.map_cons, List.map_nil, List.append_nil, List.nil_append, vl_nil, vf_nil, frz_nil, List.getElem?_cons_zero, List.getElem?_cons_succ, List.set_cons_zero, List.set_cons_succ, Bool.false_eq_true, if_false, if_true, reduceIte, List.length_cons, List.length_nil, Nat.reduceAdd, Nat.reduceSub, List.replicate, List.cons_append, List.replicate_succ, List.replicate_zero, Option.map_some, Option.map_none, Bool.not_true, Bool.not_false, List.singleton_append, ht, hty, isD1, isColorD]
theorem eq_nilTup {xs : List D} (h : ∀ x ∈ xs, Pd 11 x) : D.eq (.tup xs) (.tup []) = some xs.isEmpty := by
  obtain ⟨ps, h1, h2⟩ := pyNL_of h
  simp only [D.eq, D.pd, D.pyN, h1, Option.map_some, D.pyNL]
  cases xs with
  | nil =>
    simp only [List.length_nil, List.length_eq_zero_iff] at h2
    subst h2
    rfl
  | cons x xs =>
    cases ps with
    | nil => simp at h2
    | cons p ps => rfl
def Itm (y : D) : Prop := y.gd = true ∧ ∀ ys, y = .tup ys → ∀ z ∈ ys, Pd 11 z
theorem str_ret {x y : D} {W : Dr} (h : Itm y) :
    if (!isThreadD y) = true then ∃ ρ', forOne 1000000 B__law_are_strands_2 (.nm 1) y [.val x, .un, .un] W = .rt ⟨.bl false, .pl, []⟩ ρ' W else forOne 1000000 B__law_are_strands_2 (.nm 1) y [.val x, .un, .un] W = .nx [.val x, .un, .un] W := by
  obtain ⟨hg, hp⟩ := h
  have ht := gd_typed hg
  have key : ∀ y : D, y.typed = true → isD1 y .tuple = false → ∃ ρ', forOne 1000000 B__law_are_strands_2 (.nm 1) y [.val x, .un, .un] W = .rt ⟨.bl false, .pl, []⟩ ρ' W := fun y ht hf => ⟨[.val x, .val y, .un], by
    have hty : [Ty.tuple].any (isD1 y) = false := by simp [hf]
    unfold forOne B__law_are_strands_2
    simp only [wip, SOut.wp, vl_int, vl_str, vl_bl, vl_non, nd2, Nat.reduceLeDiff, Nat.reduceEqDiff, not_false_eq_true, and_self, and_true, true_and, putAll, big_eq, ↓evS_for, ↓ev_lc, evS, evT, evA, ev, evL, evO, evI, Out.bind, Out.st, ofS, ofO, D.isBl, vo, put, Vl.isFr, Vl.all, biD, ds, ts, sets, List.flatMap_cons, List.flatMap_nil, List.map_cons, List.map_nil, List.append_nil, List.nil_append, vl_nil, vf_nil, frz_nil, List.getElem?_cons_zero, List.getElem?_cons_succ, List.set_cons_zero, List.set_cons_succ, Bool.false_eq_true, if_false, if_true, reduceIte, List.length_cons, List.length_nil, Nat.reduceAdd, Nat.reduceSub, List.replicate, List.cons_append, List.replicate_succ, List.replicate_zero, Option.map_some, Option.map_none, Bool.not_true, Bool.not_false, List.singleton_append, bindP, ht, hty]⟩
  cases y
  case tup ys =>
    clear key
    unfold forOne B__law_are_strands_2
    have h2 : (∀ y ∈ ys, y.gd = true) ∧ ys.length ≤ 16777216 := by simpa only [D.gd, Bool.and_eq_true, gdL_iff, decide_eq_true_eq] using hg
    have hp := hp ys rfl
    have hty : [Ty.tuple].any (isD1 (.tup ys)) = true := rfl
    have hit : (D.tup ys).items = some ys := rfl
    have e1 : cmpD .Eq (.tup ys) (.tup []) = some ys.isEmpty := eq_nilTup hp
    have l1 := lc_filter (one := lcOne (.var 2) T__law_are_strands_1 (.nm 2) [2] [.val x, .val (.tup ys), .un]) id (fun z => !isColorD z) (W := W) (xs := ys) h2.2 fun z hz => ⟨vl z [], by
      refine lcOne_if ?_ fun _ => ?_
      · unfold T__law_are_strands_1
        have e := is_hue_ok (W := W) (h2.1 z hz)
        simp only [wip, SOut.wp, vl_int, vl_str, vl_bl, vl_non, nd2, Nat.reduceLeDiff, Nat.reduceEqDiff, not_false_eq_true, and_self, and_true, true_and, putAll, big_eq, ↓evS_for, ↓ev_lc, evS, evT, evA, ev, evL, evO, evI, Out.bind, Out.st, ofS, ofO, D.isBl, vo, put, Vl.isFr, Vl.all, biD, ds, ts, sets, List.flatMap_cons, List.flatMap_nil, List.map_cons, List.map_nil, List.append_nil, List.nil_append, vl_nil, vf_nil, frz_nil, List.getElem?_cons_zero, List.getElem?_cons_succ, List.set_cons_zero, List.set_cons_succ, Bool.false_eq_true, if_false, if_true, reduceIte, List.length_cons, List.length_nil, Nat.reduceAdd, Nat.reduceSub, List.replicate, List.cons_append, List.replicate_succ, List.replicate_zero, Option.map_some, Option.map_none, Bool.not_true, Bool.not_false, List.singleton_append, wip, id, e]
        cases isColorD z <;> rfl
      · simp only [wip, SOut.wp, vl_int, vl_str, vl_bl, vl_non, nd2, Nat.reduceLeDiff, Nat.reduceEqDiff, not_false_eq_true, and_self, and_true, true_and, putAll, big_eq, ↓evS_for, ↓ev_lc, evS, evT, evA, ev, evL, evO, evI, Out.bind, Out.st, ofS, ofO, D.isBl, vo, put, Vl.isFr, Vl.all, biD, ds, ts, sets, List.flatMap_cons, List.flatMap_nil, List.map_cons, List.map_nil, List.append_nil, List.nil_append, vl_nil, vf_nil, frz_nil, List.getElem?_cons_zero, List.getElem?_cons_succ, List.set_cons_zero, List.set_cons_succ, Bool.false_eq_true, if_false, if_true, reduceIte, List.length_cons, List.length_nil, Nat.reduceAdd, Nat.reduceSub, List.replicate, List.cons_append, List.replicate_succ, List.replicate_zero, Option.map_some, Option.map_none, Bool.not_true, Bool.not_false, List.singleton_append, wip, id], by unfold vl; split <;> rfl, by unfold vl; split <;> rfl⟩
    rw [List.map_id, List.map_id] at l1
    have e2 : cmpD .NotEq (.lst (ys.filter fun z => !isColorD z)) (.lst []) = some (!ys.all isColorD) := by
      simp only [cmpD, eq_nil fun z hz => hp z (List.mem_filter.mp hz).1, Option.map_some]
      congr 2
      clear h2 hp hg ht hty hit e1 l1
      induction ys with
      | nil => rfl
      | cons c l ih => cases hc : isColorD c <;> simp_all
    have hth : isThreadD (.tup ys) = (!ys.isEmpty && ys.all isColorD) := rfl
    rw [hth]
    cases h3 : ys.isEmpty with
    | true =>
      simp only [Bool.not_true, Bool.false_and, Bool.not_false, if_true]
      refine ⟨[.val x, .val (.tup ys), .un], ?_⟩
      simp only [wip, SOut.wp, vl_int, vl_str, vl_bl, vl_non, nd2, Nat.reduceLeDiff, Nat.reduceEqDiff, not_false_eq_true, and_self, and_true, true_and, putAll, big_eq, ↓evS_for, ↓ev_lc, evS, evT, evA, ev, evL, evO, evI, Out.bind, Out.st, ofS, ofO, D.isBl, vo, put, Vl.isFr, Vl.all, biD, ds, ts, sets, List.flatMap_cons, List.flatMap_nil, List.map_cons, List.map_nil, List.append_nil, List.nil_append, vl_nil, vf_nil, frz_nil, List.getElem?_cons_zero, List.getElem?_cons_succ, List.set_cons_zero, List.set_cons_succ, Bool.false_eq_true, if_false, if_true, reduceIte, List.length_cons, List.length_nil, Nat.reduceAdd, Nat.reduceSub, List.replicate, List.cons_append, List.replicate_succ, List.replicate_zero, Option.map_some, Option.map_none, Bool.not_true, Bool.not_false, List.singleton_append, bindP, ht, hty, e1, h3, Nat.zero_le] <;> try (simp only [wip, SOut.wp, vl_int, vl_str, vl_bl, vl_non, nd2, Nat.reduceLeDiff, Nat.reduceEqDiff, not_false_eq_true, and_self, and_true, true_and, putAll, big_eq, ↓evS_for, ↓ev_lc, evS, evT, evA, ev, evL, evO, evI, Out.bind, Out.st, ofS, ofO, D.isBl, vo, put, Vl.isFr, Vl.all, biD, ds, ts, sets, List.flatMap_cons, List.flatMap_nil, List.map_cons, List.map_nil, List.append_nil, List.nil_append, vl_nil, vf_nil, frz_nil, List.getElem?_cons_zero, List.getElem?_cons_succ, List.set_cons_zero, List.set_cons_succ, Bool.false_eq_true, if_false, if_true, reduceIte, List.length_cons, List.length_nil, Nat.reduceAdd, Nat.reduceSub, List.replicate, List.cons_append, List.replicate_succ, List.replicate_zero, Option.map_some, Option.map_none, Bool.not_true, Bool.not_false, List.singleton_append, bindP, ht, hty, e1, h3, Nat.zero_le] <;> try simp only [wip, SOut.wp, vl_int, vl_str, vl_bl, vl_non, nd2, Nat.reduceLeDiff, Nat.reduceEqDiff, not_false_eq_true, and_self, and_true, true_and, putAll, big_eq, ↓evS_for, ↓ev_lc, evS, evT, evA, ev, evL, evO, evI, Out.bind, Out.st, ofS, ofO, D.isBl, vo, put, Vl.isFr, Vl.all, biD, ds, ts, sets, List.flatMap_cons, List.flatMap_nil, List.map_cons, List.map_nil, List.append_nil, List.nil_append, vl_nil, vf_nil, frz_nil, List.getElem?_cons_zero, List.getElem?_cons_succ, List.set_cons_zero, List.set_cons_succ, Bool.false_eq_true, if_false, if_true, reduceIte, List.length_cons, List.length_nil, Nat.reduceAdd, Nat.reduceSub, List.replicate, List.cons_append, List.replicate_succ, List.replicate_zero, Option.map_some, Option.map_none, Bool.not_true, Bool.not_false, List.singleton_append, bindP, ht, hty, e1, h3, Nat.zero_le])
    | false =>
      cases h4 : ys.all isColorD with
      | false =>
        simp only [Bool.not_false, Bool.and_false, if_true]
        refine ⟨[.val x, .val (.tup ys), .un], ?_⟩
        simp only [wip, SOut.wp, vl_int, vl_str, vl_bl, vl_non, nd2, Nat.reduceLeDiff, Nat.reduceEqDiff, not_false_eq_true, and_self, and_true, true_and, putAll, big_eq, ↓evS_for, ↓ev_lc, evS, evT, evA, ev, evL, evO, evI, Out.bind, Out.st, ofS, ofO, D.isBl, vo, put, Vl.isFr, Vl.all, biD, ds, ts, sets, List.flatMap_cons, List.flatMap_nil, List.map_cons, List.map_nil, List.append_nil, List.nil_append, vl_nil, vf_nil, frz_nil, List.getElem?_cons_zero, List.getElem?_cons_succ, List.set_cons_zero, List.set_cons_succ, Bool.false_eq_true, if_false, if_true, reduceIte, List.length_cons, List.length_nil, Nat.reduceAdd, Nat.reduceSub, List.replicate, List.cons_append, List.replicate_succ, List.replicate_zero, Option.map_some, Option.map_none, Bool.not_true, Bool.not_false, List.singleton_append, bindP, ht, hty, e1, h3, hit, l1, e2, h4, Nat.zero_le] <;> try (simp only [wip, SOut.wp, vl_int, vl_str, vl_bl, vl_non, nd2, Nat.reduceLeDiff, Nat.reduceEqDiff, not_false_eq_true, and_self, and_true, true_and, putAll, big_eq, ↓evS_for, ↓ev_lc, evS, evT, evA, ev, evL, evO, evI, Out.bind, Out.st, ofS, ofO, D.isBl, vo, put, Vl.isFr, Vl.all, biD, ds, ts, sets, List.flatMap_cons, List.flatMap_nil, List.map_cons, List.map_nil, List.append_nil, List.nil_append, vl_nil, vf_nil, frz_nil, List.getElem?_cons_zero, List.getElem?_cons_succ, List.set_cons_zero, List.set_cons_succ, Bool.false_eq_true, if_false, if_true, reduceIte, List.length_cons, List.length_nil, Nat.reduceAdd, Nat.reduceSub, List.replicate, List.cons_append, List.replicate_succ, List.replicate_zero, Option.map_some, Option.map_none, Bool.not_true, Bool.not_false, List.singleton_append, bindP, ht, hty, e1, h3, hit, l1, e2, h4, Nat.zero_le] <;> try simp only [wip, SOut.wp, vl_int, vl_str, vl_bl, vl_non, nd2, Nat.reduceLeDiff, Nat.reduceEqDiff, not_false_eq_true, and_self, and_true, true_and, putAll, big_eq, ↓evS_for, ↓ev_lc, evS, evT, evA, ev, evL, evO, evI, Out.bind, Out.st, ofS, ofO, D.isBl, vo, put, Vl.isFr, Vl.all, biD, ds, ts, sets, List.flatMap_cons, List.flatMap_nil, List.map_cons, List.map_nil, List.append_nil, List.nil_append, vl_nil, vf_nil, frz_nil, List.getElem?_cons_zero, List.getElem?_cons_succ, List.set_cons_zero, List.set_cons_succ, Bool.false_eq_true, if_false, if_true, reduceIte, List.length_cons, List.length_nil, Nat.reduceAdd, Nat.reduceSub, List.replicate, List.cons_append, List.replicate_succ, List.replicate_zero, Option.map_some, Option.map_none, Bool.not_true, Bool.not_false, List.singleton_append, bindP, ht, hty, e1, h3, hit, l1, e2, h4, Nat.zero_le])
      | true =>
        simp only [Bool.not_false, Bool.and_true, Bool.not_true, Bool.false_eq_true, if_false]
        simp only [wip, SOut.wp, vl_int, vl_str, vl_bl, vl_non, nd2, Nat.reduceLeDiff, Nat.reduceEqDiff, not_false_eq_true, and_self, and_true, true_and, putAll, big_eq, ↓evS_for, ↓ev_lc, evS, evT, evA, ev, evL, evO, evI, Out.bind, Out.st, ofS, ofO, D.isBl, vo, put, Vl.isFr, Vl.all, biD, ds, ts, sets, List.flatMap_cons, List.flatMap_nil, List.map_cons, List.map_nil, List.append_nil, List.nil_append, vl_nil, vf_nil, frz_nil, List.getElem?_cons_zero, List.getElem?_cons_succ, List.set_cons_zero, List.set_cons_succ, Bool.false_eq_true, if_false, if_true, reduceIte, List.length_cons, List.length_nil, Nat.reduceAdd, Nat.reduceSub, List.replicate, List.cons_append, List.replicate_succ, List.replicate_zero, Option.map_some, Option.map_none, Bool.not_true, Bool.not_false, List.singleton_append, bindP, ht, hty, e1, h3, hit, l1, e2, h4, Nat.zero_le] <;> try (simp only [wip, SOut.wp, vl_int, vl_str, vl_bl, vl_non, nd2, Nat.reduceLeDiff, Nat.reduceEqDiff, not_false_eq_true, and_self, and_true, true_and, putAll, big_eq, ↓evS_for, ↓ev_lc, evS, evT, evA, ev, evL, evO, evI, Out.bind, Out.st, ofS, ofO, D.isBl, vo, put, Vl.isFr, Vl.all, biD, ds, ts, sets, List.flatMap_cons, List.flatMap_nil, List.map_cons, List.map_nil, List.append_nil, List.nil_append, vl_nil, vf_nil, frz_nil, List.getElem?_cons_zero, List.getElem?_cons_succ, List.set_cons_zero, List.set_cons_succ, Bool.false_eq_true, if_false, if_true, reduceIte, List.length_cons, List.length_nil, Nat.reduceAdd, Nat.reduceSub, List.replicate, List.cons_append, List.replicate_succ, List.replicate_zero, Option.map_some, Option.map_none, Bool.not_true, Bool.not_false, List.singleton_append, bindP, ht, hty, e1, h3, hit, l1, e2, h4, Nat.zero_le] <;> try simp only [wip, SOut.wp, vl_int, vl_str, vl_bl, vl_non, nd2, Nat.reduceLeDiff, Nat.reduceEqDiff, not_false_eq_true, and_self, and_true, true_and, putAll, big_eq, ↓evS_for, ↓ev_lc, evS, evT, evA, ev, evL, evO, evI, Out.bind, Out.st, ofS, ofO, D.isBl, vo, put, Vl.isFr, Vl.all, biD, ds, ts, sets, List.flatMap_cons, List.flatMap_nil, List.map_cons, List.map_nil, List.append_nil, List.nil_append, vl_nil, vf_nil, frz_nil, List.getElem?_cons_zero, List.getElem?_cons_succ, List.set_cons_zero, List.set_cons_succ, Bool.false_eq_true, if_false, if_true, reduceIte, List.length_cons, List.length_nil, Nat.reduceAdd, Nat.reduceSub, List.replicate, List.cons_append, List.replicate_succ, List.replicate_zero, Option.map_some, Option.map_none, Bool.not_true, Bool.not_false, List.singleton_append, bindP, ht, hty, e1, h3, hit, l1, e2, h4, Nat.zero_le])
  all_goals
    simp only [isThreadD, Bool.not_false, if_true]
    exact key _ ht rfl
theorem are_aux2 {x : D} {xs : List D} {W : Dr} (h : x.gd = true) (hi : ∀ y ∈ xs, Itm y) (hx : x = .lst xs ∨ x = .tup xs) : G__law_are_strands [x] W = .ok (false, .bl (decide (1 ≤ xs.length) && decide (xs.length ≤ 8) && xs.all isThreadD && decide (beadsD xs ≤ 60))) W := by
  have ht := gd_typed h
  have h2 : xs.length ≤ 16777216 := by
    rcases hx with rfl | rfl <;> (simp only [D.gd, Bool.and_eq_true, gdL_iff, decide_eq_true_eq] at h; exact h.2)
  have hlen : lenD [x] = some (false, .int xs.length) := by rcases hx with rfl | rfl <;> rfl
  have hit : x.items = some xs := by rcases hx with rfl | rfl <;> rfl
  have hty : [Ty.list, Ty.tuple].any (isD1 x) = true := by rcases hx with rfl | rfl <;> rfl
  have hc : cmpD .LtE (.int 1) (.int xs.length) = some (decide (1 ≤ xs.length)) := by
    simp only [cmpD]; congr 1; exact decide_eq_decide.mpr (by omega)
  have hc2 : cmpD .LtE (.int xs.length) (.int 8) = some (decide (xs.length ≤ 8)) := by
    simp only [cmpD]; congr 1; exact decide_eq_decide.mpr (by omega)
  have hc3 : cmpD .LtE (.int (beadsD xs : Nat)) (.int 60) = some (decide (beadsD xs ≤ 60)) := by
    simp only [cmpD]; congr 1; exact decide_eq_decide.mpr (by omega)
  have lp := for_ret id (fun _ => [.val x, .un, .un]) (fun y => !isThreadD y) (fun _ => ⟨.bl false, .pl, []⟩) (f := forOne 1000000 B__law_are_strands_2 (.nm 1)) (W := W) (xs := xs) fun q y r e _ => str_ret (hi y (by rw [e]; simp))
  rw [List.map_id] at lp
  unfold G__law_are_strands Z.run B__law_are_strands
  cases h1 : decide (1 ≤ xs.length) with
  | false => simp only [wip, SOut.wp, vl_int, vl_str, vl_bl, vl_non, nd2, Nat.reduceLeDiff, Nat.reduceEqDiff, not_false_eq_true, and_self, and_true, true_and, putAll, big_eq, ↓evS_for, ↓ev_lc, evS, evT, evA, ev, evL, evO, evI, Out.bind, Out.st, ofS, ofO, D.isBl, vo, put, Vl.isFr, Vl.all, biD, ds, ts, sets, List.flatMap_cons, List.flatMap_nil, List.map_cons, List.map_nil, List.append_nil, List.nil_append, vl_nil, vf_nil, frz_nil, List.getElem?_cons_zero, List.getElem?_cons_succ, List.set_cons_zero, List.set_cons_succ, Bool.false_eq_true, if_false, if_true, reduceIte, List.length_cons, List.length_nil, Nat.reduceAdd, Nat.reduceSub, List.replicate, List.cons_append, List.replicate_succ, List.replicate_zero, Option.map_some, Option.map_none, Bool.not_true, Bool.not_false, List.singleton_append, ht, hty, hlen, hc, h1, Bool.false_and]
  | true =>
    cases h3 : decide (xs.length ≤ 8) with
    | false => simp only [wip, SOut.wp, vl_int, vl_str, vl_bl, vl_non, nd2, Nat.reduceLeDiff, Nat.reduceEqDiff, not_false_eq_true, and_self, and_true, true_and, putAll, big_eq, ↓evS_for, ↓ev_lc, evS, evT, evA, ev, evL, evO, evI, Out.bind, Out.st, ofS, ofO, D.isBl, vo, put, Vl.isFr, Vl.all, biD, ds, ts, sets, List.flatMap_cons, List.flatMap_nil, List.map_cons, List.map_nil, List.append_nil, List.nil_append, vl_nil, vf_nil, frz_nil, List.getElem?_cons_zero, List.getElem?_cons_succ, List.set_cons_zero, List.set_cons_succ, Bool.false_eq_true, if_false, if_true, reduceIte, List.length_cons, List.length_nil, Nat.reduceAdd, Nat.reduceSub, List.replicate, List.cons_append, List.replicate_succ, List.replicate_zero, Option.map_some, Option.map_none, Bool.not_true, Bool.not_false, List.singleton_append, ht, hty, hlen, hc, h1, hc2, h3, Bool.false_and, Bool.and_false]
    | true =>
      cases hf : xs.find? (fun y => !isThreadD y) with
      | some y =>
        rw [hf] at lp
        obtain ⟨ρ', lp⟩ := lp
        have ha : xs.all isThreadD = false := by
          have m := List.mem_of_find?_eq_some hf
          have p := List.find?_some hf
          cases q : xs.all isThreadD with
          | false => rfl
          | true =>
            have := List.all_eq_true.mp q y m
            rw [this] at p
            cases p
        simp only [wip, SOut.wp, vl_int, vl_str, vl_bl, vl_non, nd2, Nat.reduceLeDiff, Nat.reduceEqDiff, not_false_eq_true, and_self, and_true, true_and, putAll, big_eq, ↓evS_for, ↓ev_lc, evS, evT, evA, ev, evL, evO, evI, Out.bind, Out.st, ofS, ofO, D.isBl, vo, put, Vl.isFr, Vl.all, biD, ds, ts, sets, List.flatMap_cons, List.flatMap_nil, List.map_cons, List.map_nil, List.append_nil, List.nil_append, vl_nil, vf_nil, frz_nil, List.getElem?_cons_zero, List.getElem?_cons_succ, List.set_cons_zero, List.set_cons_succ, Bool.false_eq_true, if_false, if_true, reduceIte, List.length_cons, List.length_nil, Nat.reduceAdd, Nat.reduceSub, List.replicate, List.cons_append, List.replicate_succ, List.replicate_zero, Option.map_some, Option.map_none, Bool.not_true, Bool.not_false, List.singleton_append, ht, hty, hlen, hc, h1, hc2, h3, hit, lp, ha, Bool.false_and, Bool.and_false, Bool.true_and]
      | none =>
        rw [hf] at lp
        have hall : ∀ y ∈ xs, isThreadD y = true := fun y hy => by
          have := List.find?_eq_none.mp hf y hy
          simpa using this
        have ha : xs.all isThreadD = true := List.all_eq_true.mpr hall
        have l1 : lcGo (lcOne E__law_are_strands_3 .nil (.nm 1) [1] [.val x, .un, .un]) xs [] [] W = .ok ⟨.lst ((xs.map fun x => (dlen x : Int)).map .int), .fr, []⟩ W := by
          rw [lc_map (g := fun y => some (.int (dlen y))) xs (by simpa [cap] using h2) fun y hy => ?_]
          · simp [List.filterMap_eq_map', Function.comp_def]
          · have hy' := hall y hy
            cases y <;> simp only [isThreadD] at hy' <;> try (cases hy')
            rename_i l
            refine ⟨_, lcOne_ok (v := ⟨.int l.length, .pl, []⟩) ?_, rfl, fun v hv => by cases hv; rfl⟩
            unfold E__law_are_strands_3
            have : lenD [.tup l] = some (false, .int l.length) := rfl
            simp only [wip, SOut.wp, vl_int, vl_str, vl_bl, vl_non, nd2, Nat.reduceLeDiff, Nat.reduceEqDiff, not_false_eq_true, and_self, and_true, true_and, putAll, big_eq, ↓evS_for, ↓ev_lc, evS, evT, evA, ev, evL, evO, evI, Out.bind, Out.st, ofS, ofO, D.isBl, vo, put, Vl.isFr, Vl.all, biD, ds, ts, sets, List.flatMap_cons, List.flatMap_nil, List.map_cons, List.map_nil, List.append_nil, List.nil_append, vl_nil, vf_nil, frz_nil, List.getElem?_cons_zero, List.getElem?_cons_succ, List.set_cons_zero, List.set_cons_succ, Bool.false_eq_true, if_false, if_true, reduceIte, List.length_cons, List.length_nil, Nat.reduceAdd, Nat.reduceSub, List.replicate, List.cons_append, List.replicate_succ, List.replicate_zero, Option.map_some, Option.map_none, Bool.not_true, Bool.not_false, List.singleton_append, wip, this]
        simp only [wip, SOut.wp, vl_int, vl_str, vl_bl, vl_non, nd2, Nat.reduceLeDiff, Nat.reduceEqDiff, not_false_eq_true, and_self, and_true, true_and, putAll, big_eq, ↓evS_for, ↓ev_lc, evS, evT, evA, ev, evL, evO, evI, Out.bind, Out.st, ofS, ofO, D.isBl, vo, put, Vl.isFr, Vl.all, biD, ds, ts, sets, List.flatMap_cons, List.flatMap_nil, List.map_cons, List.map_nil, List.append_nil, List.nil_append, vl_nil, vf_nil, frz_nil, List.getElem?_cons_zero, List.getElem?_cons_succ, List.set_cons_zero, List.set_cons_succ, Bool.false_eq_true, if_false, if_true, reduceIte, List.length_cons, List.length_nil, Nat.reduceAdd, Nat.reduceSub, List.replicate, List.cons_append, List.replicate_succ, List.replicate_zero, Option.map_some, Option.map_none, Bool.not_true, Bool.not_false, List.singleton_append, ht, hty, hlen, hc, h1, hc2, h3, hit, lp, ha, l1, beads_sum, hc3, Bool.false_and, Bool.and_false, Bool.true_and]
theorem are_strands_ok {x : D} {W : Dr} (h : x.gd = true) (hi : ∀ xs, x = .lst xs ∨ x = .tup xs → ∀ y ∈ xs, Itm y) : G__law_are_strands [x] W = .ok (false, .bl (areD x)) W := by
  have ht := gd_typed h
  cases x
  case lst xs => exact are_aux2 h (hi xs (.inl rfl)) (.inl rfl)
  case tup xs => exact are_aux2 h (hi xs (.inr rfl)) (.inr rfl)
  all_goals
    have hty : ∀ b, [Ty.list, Ty.tuple].any (isD1 b) = (isD1 b .list || isD1 b .tuple) := fun b => by simp
    unfold G__law_are_strands Z.run B__law_are_strands
    simp only [wip, SOut.wp, vl_int, vl_str, vl_bl, vl_non, nd2, Nat.reduceLeDiff, Nat.reduceEqDiff, not_false_eq_true, and_self, and_true, true_and, putAll, big_eq, ↓evS_for, ↓ev_lc, evS, evT, evA, ev, evL, evO, evI, Out.bind, Out.st, ofS, ofO, D.isBl, vo, put, Vl.isFr, Vl.all, biD, ds, ts, sets, List.flatMap_cons, List.flatMap_nil, List.map_cons, List.map_nil, List.append_nil, List.nil_append, vl_nil, vf_nil, frz_nil, List.getElem?_cons_zero, List.getElem?_cons_succ, List.set_cons_zero, List.set_cons_succ, Bool.false_eq_true, if_false, if_true, reduceIte, List.length_cons, List.length_nil, Nat.reduceAdd, Nat.reduceSub, List.replicate, List.cons_append, List.replicate_succ, List.replicate_zero, Option.map_some, Option.map_none, Bool.not_true, Bool.not_false, List.singleton_append, ht, hty, isD1, areD, Bool.or_self, Bool.false_or]
theorem thr_of {y : D} (h : isThreadD y = true) : ∃ l : List Str, y = th l ∧ l ≠ [] ∧ ∀ s ∈ l, isColor s = true := by
  cases y <;> simp only [isThreadD] at h <;> try (cases h; done)
  rename_i xs
  rw [Bool.and_eq_true] at h
  have k : ∀ xs : List D, xs.all isColorD = true → ∃ l : List Str, xs = sts l ∧ ∀ s ∈ l, isColor s = true := fun xs => by
    induction xs with
    | nil => exact fun _ => ⟨[], rfl, by simp⟩
    | cons x xs ih =>
      intro h
      rw [List.all_cons, Bool.and_eq_true] at h
      obtain ⟨l, rfl, hl⟩ := ih h.2
      have h1 := h.1
      cases x <;> simp only [isColorD] at h1 <;> try (cases h1; done)
      rename_i s
      exact ⟨s :: l, rfl, fun t ht => (List.mem_cons.mp ht).elim (fun e => e ▸ h1) (hl t)⟩
  obtain ⟨l, rfl, hl⟩ := k xs h.2
  refine ⟨l, rfl, fun z => ?_, hl⟩
  subst z
  exact absurd h.1 (by simp [sts])
theorem thrs_of : ∀ {xs : List D}, xs.all isThreadD = true → ∃ ls : List (List Str), xs = tD ls ∧ (∀ l ∈ ls, l ≠ []) ∧ ∀ l ∈ ls, ∀ s ∈ l, isColor s = true
  | [], _ => ⟨[], rfl, by simp, by simp⟩
  | x :: xs, h => by
    rw [List.all_cons, Bool.and_eq_true] at h
    obtain ⟨ls, rfl, h1, h2⟩ := thrs_of h.2
    obtain ⟨l, rfl, h3, h4⟩ := thr_of h.1
    exact ⟨l :: ls, rfl, fun k hk => (List.mem_cons.mp hk).elim (fun e => e ▸ h3) (h1 k), fun k hk => (List.mem_cons.mp hk).elim (fun e => e ▸ h4) (h2 k)⟩
theorem beads_tD (ls : List (List Str)) : beadsD (tD ls) = (ls.map List.length).sum := by
  unfold beadsD tD
  rw [List.map_map]
  congr 1
  refine List.map_congr_left fun l _ => ?_
  simp [dlen, th, sts]
abbrev Lnc (ls : List (List Str)) : Prop := Lns (fun s => isColor s = true) 8 60 ls
theorem are_of {xs : List D} {x : D} (hx : x = .lst xs ∨ x = .tup xs) (h : areD x = true) : ∃ ls, xs = tD ls ∧ Lnc ls := by
  have h : (decide (1 ≤ xs.length) && decide (xs.length ≤ 8) && xs.all isThreadD && decide (beadsD xs ≤ 60)) = true := by rcases hx with rfl | rfl <;> exact h
  simp only [Bool.and_eq_true, decide_eq_true_eq] at h
  obtain ⟨⟨⟨a1, a2⟩, a3⟩, a4⟩ := h
  obtain ⟨ls, rfl, h1, h2⟩ := thrs_of a3
  rw [beads_tD] at a4
  simp only [tD, List.length_map] at a1 a2
  exact ⟨ls, rfl, a1, a2, h1, h2, a4⟩
theorem are_tD {ls : List (List Str)} (h : Lnc ls) : areD (.lst (tD ls)) = true ∧ areD (.tup (tD ls)) = true ∧ (D.lst (tD ls)).gd = true ∧ (D.tup (tD ls)).gd = true := by
  have a : (tD ls).all isThreadD = true := List.all_eq_true.mpr fun y hy => by
    obtain ⟨l, hl, rfl⟩ := List.mem_map.mp hy
    have h1 := h.ne l hl
    simp only [th, isThreadD, Bool.and_eq_true]
    refine ⟨by cases l <;> simp_all [sts], List.all_eq_true.mpr fun z hz => ?_⟩
    obtain ⟨s, hs, rfl⟩ := List.mem_map.mp hz
    exact h.of l hl s hs
  have b : (decide (1 ≤ (tD ls).length) && decide ((tD ls).length ≤ 8) && (tD ls).all isThreadD && decide (beadsD (tD ls) ≤ 60)) = true := by
    have h1 := h.one
    have h2 := h.most
    have h3 := h.sum
    rw [a, beads_tD]
    simp only [tD, List.length_map, Bool.and_true, Bool.and_eq_true, decide_eq_true_eq]
    exact ⟨⟨h1, h2⟩, h3⟩
  have g : (tD ls).all D.gd = true ∧ (tD ls).length ≤ 16777216 := by
    refine ⟨List.all_eq_true.mpr fun y hy => ?_, by have := h.most; simp only [tD, List.length_map]; omega⟩
    obtain ⟨l, hl, rfl⟩ := List.mem_map.mp hy
    have hs := h.sum
    have hl2 := sum_ge hl
    simp only [th, D.gd, Bool.and_eq_true, gdL_iff, decide_eq_true_eq]
    refine ⟨fun z hz => ?_, by simp only [sts, List.length_map]; omega⟩
    obtain ⟨s, hs, rfl⟩ := List.mem_map.mp hz
    have := h.of l hl s hs
    simp only [isColor, Bool.and_eq_true, decide_eq_true_eq] at this
    simp only [D.gd, decide_eq_true_eq]
    omega
  have g2 : D.gdL (tD ls) = true := gdL_iff.mpr (List.all_eq_true.mp g.1)
  exact ⟨b, b, by simp only [D.gd, g2, g.2, decide_true, Bool.and_self], by simp only [D.gd, g2, g.2, decide_true, Bool.and_self]⟩
end Qk02

namespace Qk02
open PySem Z
theorem grid_tD (ls : List (List Str)) : gridD (tD ls) = some (ls.map sts) := by
  induction ls with
  | nil => rfl
  | cons l ls ih =>
    show gridD (th l :: tD ls) = _
    simp only [gridD, ih, th, itemsD, Option.bind, Option.map_some, List.map_cons]
theorem flat_tD (ls : List (List Str)) : (ls.map sts).flatten = sts ls.flatten := by
  induction ls with
  | nil => rfl
  | cons l ls ih => simp [ih, sts]
theorem strKeys_sts (l : List Str) : strKeys (sts l) = some l := by
  induction l with
  | nil => rfl
  | cons a l ih =>
    show strKeys (.str a :: sts l) = _
    simp only [strKeys, ih, Option.map_some]
theorem hueKvs_ded (l : List Str) : hueKvs l = kvS D.bl (tab (fun _ => true) (ded l)) := by
  refine snocI (P := fun l => hueKvs l = kvS D.bl (tab (fun _ => true) (ded l))) (by simp [hueKvs, tab, kvS, ded_nil]) (fun l x ih => ?_) l
  rw [hueKvs_snoc, ih, trues]
theorem flat_sum (ls : List (List Str)) : ls.flatten.length = (ls.map List.length).sum := by simp [List.length_flatten]
theorem colors_in_ok {ls : List (List Str)} {W : Dr} (h60 : (ls.map List.length).sum ≤ 60) : G_colors_in [.tup (tD ls)] W = .ok (true, .lst (sts (hues ls))) W := by
  have e1 : pureG huesD [.tup (tD ls)] W = .ok (false, .dic false (kvS D.bl (tab (fun _ => true) (ded ls.flatten)))) W := pureG_some (by
    have : ls.flatten.length < cap := by rw [flat_sum]; unfold cap; omega
    simp only [huesD, itemsD, Option.bind, grid_tD, flat_tD, strKeys_sts, if_pos this, hueKvs_ded])
  have hs : pureG sortAnyD [.dic false (kvS D.bl (tab (fun _ => true) (ded ls.flatten)))] W = .ok (true, .lst (sts (hues ls))) W := pureG_some (by
    have := ded_len ls.flatten
    rw [flat_len] at this
    simp only [sortAnyD, sortedDD, keys_tab, strsD_sts, Option.bind_some]
    rw [if_pos (by omega), sortS_srt]
    rfl)
  have hv : ∀ t, vf (.lst (sts (hues ls))) t = ⟨.lst (sts (hues ls)), .fr, []⟩ := fun t => vf_imm (by simp only [D.kids]; exact imm_strs _)
  unfold G_colors_in Z.run B_colors_in
  simp only [wip, SOut.wp, vl_int, vl_str, vl_bl, vl_non, nd2, Nat.reduceLeDiff, Nat.reduceEqDiff, not_false_eq_true, and_self, and_true, true_and, putAll, big_eq, ↓evS_for, ↓ev_lc, evS, evT, evA, ev, evL, evO, evI, Out.bind, Out.st, ofS, ofO, D.isBl, vo, put, Vl.isFr, Vl.all, biD, ds, ts, sets, List.flatMap_cons, List.flatMap_nil, List.map_cons, List.map_nil, List.append_nil, List.nil_append, vl_nil, vf_nil, frz_nil, List.getElem?_cons_zero, List.getElem?_cons_succ, List.set_cons_zero, List.set_cons_succ, Bool.false_eq_true, if_false, if_true, reduceIte, List.length_cons, List.length_nil, Nat.reduceAdd, Nat.reduceSub, List.replicate, List.cons_append, List.replicate_succ, List.replicate_zero, Option.map_some, Option.map_none, Bool.not_true, Bool.not_false, List.singleton_append, e1, hs, hv] <;> try (simp only [wip, SOut.wp, vl_int, vl_str, vl_bl, vl_non, nd2, Nat.reduceLeDiff, Nat.reduceEqDiff, not_false_eq_true, and_self, and_true, true_and, putAll, big_eq, ↓evS_for, ↓ev_lc, evS, evT, evA, ev, evL, evO, evI, Out.bind, Out.st, ofS, ofO, D.isBl, vo, put, Vl.isFr, Vl.all, biD, ds, ts, sets, List.flatMap_cons, List.flatMap_nil, List.map_cons, List.map_nil, List.append_nil, List.nil_append, vl_nil, vf_nil, frz_nil, List.getElem?_cons_zero, List.getElem?_cons_succ, List.set_cons_zero, List.set_cons_succ, Bool.false_eq_true, if_false, if_true, reduceIte, List.length_cons, List.length_nil, Nat.reduceAdd, Nat.reduceSub, List.replicate, List.cons_append, List.replicate_succ, List.replicate_zero, Option.map_some, Option.map_none, Bool.not_true, Bool.not_false, List.singleton_append, e1, hs, hv] <;> try simp only [wip, SOut.wp, vl_int, vl_str, vl_bl, vl_non, nd2, Nat.reduceLeDiff, Nat.reduceEqDiff, not_false_eq_true, and_self, and_true, true_and, putAll, big_eq, ↓evS_for, ↓ev_lc, evS, evT, evA, ev, evL, evO, evI, Out.bind, Out.st, ofS, ofO, D.isBl, vo, put, Vl.isFr, Vl.all, biD, ds, ts, sets, List.flatMap_cons, List.flatMap_nil, List.map_cons, List.map_nil, List.append_nil, List.nil_append, vl_nil, vf_nil, frz_nil, List.getElem?_cons_zero, List.getElem?_cons_succ, List.set_cons_zero, List.set_cons_succ, Bool.false_eq_true, if_false, if_true, reduceIte, List.length_cons, List.length_nil, Nat.reduceAdd, Nat.reduceSub, List.replicate, List.cons_append, List.replicate_succ, List.replicate_zero, Option.map_some, Option.map_none, Bool.not_true, Bool.not_false, List.singleton_append, e1, hs, hv])
theorem colors_ok {ls : List (List Str)} {W : Dr} (h60 : (ls.map List.length).sum ≤ 60) : G_State_colors [stD (tD ls)] W = .ok (true, .lst (sts (hues ls))) W := by
  have ha : attrD (stD (tD ls)) "s_lines" = some (.tup (tD ls)) := rfl
  have hv : ∀ t, vf (.lst (sts (hues ls))) t = ⟨.lst (sts (hues ls)), .fr, []⟩ := fun t => vf_imm (by simp only [D.kids]; exact imm_strs _)
  have e := colors_in_ok (W := W) h60
  unfold G_State_colors Z.run B_State_colors
  simp only [wip, SOut.wp, vl_int, vl_str, vl_bl, vl_non, nd2, Nat.reduceLeDiff, Nat.reduceEqDiff, not_false_eq_true, and_self, and_true, true_and, putAll, big_eq, ↓evS_for, ↓ev_lc, evS, evT, evA, ev, evL, evO, evI, Out.bind, Out.st, ofS, ofO, D.isBl, vo, put, Vl.isFr, Vl.all, biD, ds, ts, sets, List.flatMap_cons, List.flatMap_nil, List.map_cons, List.map_nil, List.append_nil, List.nil_append, vl_nil, vf_nil, frz_nil, List.getElem?_cons_zero, List.getElem?_cons_succ, List.set_cons_zero, List.set_cons_succ, Bool.false_eq_true, if_false, if_true, reduceIte, List.length_cons, List.length_nil, Nat.reduceAdd, Nat.reduceSub, List.replicate, List.cons_append, List.replicate_succ, List.replicate_zero, Option.map_some, Option.map_none, Bool.not_true, Bool.not_false, List.singleton_append, ha, e, hv] <;> try (simp only [wip, SOut.wp, vl_int, vl_str, vl_bl, vl_non, nd2, Nat.reduceLeDiff, Nat.reduceEqDiff, not_false_eq_true, and_self, and_true, true_and, putAll, big_eq, ↓evS_for, ↓ev_lc, evS, evT, evA, ev, evL, evO, evI, Out.bind, Out.st, ofS, ofO, D.isBl, vo, put, Vl.isFr, Vl.all, biD, ds, ts, sets, List.flatMap_cons, List.flatMap_nil, List.map_cons, List.map_nil, List.append_nil, List.nil_append, vl_nil, vf_nil, frz_nil, List.getElem?_cons_zero, List.getElem?_cons_succ, List.set_cons_zero, List.set_cons_succ, Bool.false_eq_true, if_false, if_true, reduceIte, List.length_cons, List.length_nil, Nat.reduceAdd, Nat.reduceSub, List.replicate, List.cons_append, List.replicate_succ, List.replicate_zero, Option.map_some, Option.map_none, Bool.not_true, Bool.not_false, List.singleton_append, ha, e, hv] <;> try simp only [wip, SOut.wp, vl_int, vl_str, vl_bl, vl_non, nd2, Nat.reduceLeDiff, Nat.reduceEqDiff, not_false_eq_true, and_self, and_true, true_and, putAll, big_eq, ↓evS_for, ↓ev_lc, evS, evT, evA, ev, evL, evO, evI, Out.bind, Out.st, ofS, ofO, D.isBl, vo, put, Vl.isFr, Vl.all, biD, ds, ts, sets, List.flatMap_cons, List.flatMap_nil, List.map_cons, List.map_nil, List.append_nil, List.nil_append, vl_nil, vf_nil, frz_nil, List.getElem?_cons_zero, List.getElem?_cons_succ, List.set_cons_zero, List.set_cons_succ, Bool.false_eq_true, if_false, if_true, reduceIte, List.length_cons, List.length_nil, Nat.reduceAdd, Nat.reduceSub, List.replicate, List.cons_append, List.replicate_succ, List.replicate_zero, Option.map_some, Option.map_none, Bool.not_true, Bool.not_false, List.singleton_append, ha, e, hv])
theorem len_ok {ls : List (List Str)} {W : Dr} (h60 : (ls.map List.length).sum ≤ 60) : lenG "State" G_State___len__ [stD (tD ls)] W = .ok (false, .int ((ls.map List.length).sum : Nat)) W := by
  have ha : attrD (stD (tD ls)) "s_lines" = some (.tup (tD ls)) := rfl
  have e1 : pureG flatD [.tup (tD ls)] W = .ok (true, .lst (sts ls.flatten)) W := pureG_some (by
    have : (sts ls.flatten).length < cap := by simp only [sts, List.length_map]; rw [flat_sum]; unfold cap; omega
    simp only [flatD, itemsD, Option.bind, grid_tD, flat_tD, if_pos this])
  have hv : ∀ t, vf (.lst (sts ls.flatten)) t = ⟨.lst (sts ls.flatten), .fr, []⟩ := fun t => vf_imm (by simp only [D.kids]; exact imm_strs _)
  have hl : lenD [.lst (sts ls.flatten)] = some (false, .int ((ls.map List.length).sum : Nat)) := by
    have e : (sts ls.flatten).length = (ls.map List.length).sum := by simp only [sts, List.length_map, flat_sum]
    simp only [lenD, e]
  have e : G_State___len__ [stD (tD ls)] W = .ok (false, .int ((ls.map List.length).sum : Nat)) W := by
    unfold G_State___len__ Z.run B_State___len__
    simp only [wip, SOut.wp, vl_int, vl_str, vl_bl, vl_non, nd2, Nat.reduceLeDiff, Nat.reduceEqDiff, not_false_eq_true, and_self, and_true, true_and, putAll, big_eq, ↓evS_for, ↓ev_lc, evS, evT, evA, ev, evL, evO, evI, Out.bind, Out.st, ofS, ofO, D.isBl, vo, put, Vl.isFr, Vl.all, biD, ds, ts, sets, List.flatMap_cons, List.flatMap_nil, List.map_cons, List.map_nil, List.append_nil, List.nil_append, vl_nil, vf_nil, frz_nil, List.getElem?_cons_zero, List.getElem?_cons_succ, List.set_cons_zero, List.set_cons_succ, Bool.false_eq_true, if_false, if_true, reduceIte, List.length_cons, List.length_nil, Nat.reduceAdd, Nat.reduceSub, List.replicate, List.cons_append, List.replicate_succ, List.replicate_zero, Option.map_some, Option.map_none, Bool.not_true, Bool.not_false, List.singleton_append, ha, e1, hv, hl] <;> try (simp only [wip, SOut.wp, vl_int, vl_str, vl_bl, vl_non, nd2, Nat.reduceLeDiff, Nat.reduceEqDiff, not_false_eq_true, and_self, and_true, true_and, putAll, big_eq, ↓evS_for, ↓ev_lc, evS, evT, evA, ev, evL, evO, evI, Out.bind, Out.st, ofS, ofO, D.isBl, vo, put, Vl.isFr, Vl.all, biD, ds, ts, sets, List.flatMap_cons, List.flatMap_nil, List.map_cons, List.map_nil, List.append_nil, List.nil_append, vl_nil, vf_nil, frz_nil, List.getElem?_cons_zero, List.getElem?_cons_succ, List.set_cons_zero, List.set_cons_succ, Bool.false_eq_true, if_false, if_true, reduceIte, List.length_cons, List.length_nil, Nat.reduceAdd, Nat.reduceSub, List.replicate, List.cons_append, List.replicate_succ, List.replicate_zero, Option.map_some, Option.map_none, Bool.not_true, Bool.not_false, List.singleton_append, ha, e1, hv, hl] <;> try simp only [wip, SOut.wp, vl_int, vl_str, vl_bl, vl_non, nd2, Nat.reduceLeDiff, Nat.reduceEqDiff, not_false_eq_true, and_self, and_true, true_and, putAll, big_eq, ↓evS_for, ↓ev_lc, evS, evT, evA, ev, evL, evO, evI, Out.bind, Out.st, ofS, ofO, D.isBl, vo, put, Vl.isFr, Vl.all, biD, ds, ts, sets, List.flatMap_cons, List.flatMap_nil, List.map_cons, List.map_nil, List.append_nil, List.nil_append, vl_nil, vf_nil, frz_nil, List.getElem?_cons_zero, List.getElem?_cons_succ, List.set_cons_zero, List.set_cons_succ, Bool.false_eq_true, if_false, if_true, reduceIte, List.length_cons, List.length_nil, Nat.reduceAdd, Nat.reduceSub, List.replicate, List.cons_append, List.replicate_succ, List.replicate_zero, Option.map_some, Option.map_none, Bool.not_true, Bool.not_false, List.singleton_append, ha, e1, hv, hl])
  have hi : insD "State" (stD (tD ls)) = true := rfl
  simp only [lenG, hi, if_true, e]
  rw [if_pos (by omega)]
theorem pd_tD (ls : List (List Str)) : ∀ x ∈ tD ls, Pd 11 x := fun x hx => by
  obtain ⟨l, _, rfl⟩ := List.mem_map.mp hx
  exact pd_th
theorem eq_both {xs ys : List D} (hx : ∀ x ∈ xs, Pd 11 x) (hy : ∀ x ∈ ys, Pd 11 x) : ∃ v, cmpD .Eq (.tup xs) (.tup ys) = some v ∧ cmpD .Eq (.lst xs) (.lst ys) = some v := by
  obtain ⟨ps, h1, _⟩ := pyNL_of hx
  obtain ⟨qs, h2, _⟩ := pyNL_of hy
  refine ⟨PyData.eqvAll ps qs, ?_, ?_⟩ <;> simp only [cmpD, D.eq, D.pd, D.pyN, h1, h2, Option.map_some, PyData.eqv]
theorem seq_ok {a b : List (List Str)} {v : Bool} {W : Dr} (h : cmpD .Eq (.tup (tD a)) (.tup (tD b)) = some v) (neg : Bool) : eqG neg "State" G_State___eq__ [stD (tD a), stD (tD b)] W = .ok (false, .bl (v != neg)) W := by
  have e : G_State___eq__ [stD (tD a), stD (tD b)] W = .ok (false, .bl v) W := by
    have ha : attrD (stD (tD a)) "s_lines" = some (.tup (tD a)) := rfl
    have hb : attrD (stD (tD b)) "s_lines" = some (.tup (tD b)) := rfl
    have ht : [Ty_State].any (isD1 (stD (tD b))) = true := rfl
    have hd : (stD (tD b)).typed = true := rfl
    unfold G_State___eq__ Z.run B_State___eq__
    simp only [wip, SOut.wp, vl_int, vl_str, vl_bl, vl_non, nd2, Nat.reduceLeDiff, Nat.reduceEqDiff, not_false_eq_true, and_self, and_true, true_and, putAll, big_eq, ↓evS_for, ↓ev_lc, evS, evT, evA, ev, evL, evO, evI, Out.bind, Out.st, ofS, ofO, D.isBl, vo, put, Vl.isFr, Vl.all, biD, ds, ts, sets, List.flatMap_cons, List.flatMap_nil, List.map_cons, List.map_nil, List.append_nil, List.nil_append, vl_nil, vf_nil, frz_nil, List.getElem?_cons_zero, List.getElem?_cons_succ, List.set_cons_zero, List.set_cons_succ, Bool.false_eq_true, if_false, if_true, reduceIte, List.length_cons, List.length_nil, Nat.reduceAdd, Nat.reduceSub, List.replicate, List.cons_append, List.replicate_succ, List.replicate_zero, Option.map_some, Option.map_none, Bool.not_true, Bool.not_false, List.singleton_append, ha, hb, ht, hd, h]
  have hi : (insD "State" (stD (tD a)) && insD "State" (stD (tD b))) = true := rfl
  simp only [eqG, hi, if_true, e]
theorem anyeq_ok {a : List (List Str)} {y : D} {W : Dr} (hp : plD "State" y = true) (ht : y.typed = true) (hf : [Ty_State].any (isD1 y) = false) (neg : Bool) : eqA neg "State" G_State___eq__ [stD (tD a), y] W = .ok (false, .bl neg) W := by
  have e : G_State___eq__ [stD (tD a), y] W = .ok (false, .bl false) W := by
    unfold G_State___eq__ Z.run B_State___eq__
    simp only [wip, SOut.wp, vl_int, vl_str, vl_bl, vl_non, nd2, Nat.reduceLeDiff, Nat.reduceEqDiff, not_false_eq_true, and_self, and_true, true_and, putAll, big_eq, ↓evS_for, ↓ev_lc, evS, evT, evA, ev, evL, evO, evI, Out.bind, Out.st, ofS, ofO, D.isBl, vo, put, Vl.isFr, Vl.all, biD, ds, ts, sets, List.flatMap_cons, List.flatMap_nil, List.map_cons, List.map_nil, List.append_nil, List.nil_append, vl_nil, vf_nil, frz_nil, List.getElem?_cons_zero, List.getElem?_cons_succ, List.set_cons_zero, List.set_cons_succ, Bool.false_eq_true, if_false, if_true, reduceIte, List.length_cons, List.length_nil, Nat.reduceAdd, Nat.reduceSub, List.replicate, List.cons_append, List.replicate_succ, List.replicate_zero, Option.map_some, Option.map_none, Bool.not_true, Bool.not_false, List.singleton_append, hf, ht]
  have hi : (insD "State" (stD (tD a)) && plD "State" y) = true := by simp only [hp, Bool.and_true]; rfl
  simp only [eqA, hi, if_true, e]
  cases neg <;> rfl
theorem st_ok {ls : List (List Str)} (h : Lnc ls) {W : Dr} : G_State [.lst (tD ls)] W = .ok (false, stD (tD ls)) W ∧ G_State [.tup (tD ls)] W = .ok (false, stD (tD ls)) W := by
  obtain ⟨a, b, g, g2⟩ := are_tD h
  exact ⟨State_ok g (.inl rfl) a, State_ok g2 (.inr rfl) b⟩
theorem lnc_of {ls k : List (List Str)} (h : Lnc ls) (h1 : k.length = ls.length) (h2 : ∀ l ∈ k, l ≠ [] ∧ ∀ s ∈ l, isColor s = true) (h3 : (k.map List.length).sum ≤ 60) : Lnc k :=
  ⟨by rw [h1]; exact h.one, by rw [h1]; exact h.most, fun l hl => (h2 l hl).1, fun l hl => (h2 l hl).2, h3⟩
theorem mth_thr {ls : List (List Str)} {e : E} {ρ : En} {W W' : Dr} {k : Sc} (h : ev e ρ W = .ok ⟨stD (tD ls), k, []⟩ W') : ev (.mth "threads" "State" G_State_threads e .nil) ρ W = .ok ⟨.lst (tD ls), .fr, []⟩ W' := by
  have e1 := threads_ok (xs := tD ls) (W := W')
  have hl : ([("s_lines", D.tup (tD ls))] : List (Str × D)).lookup ("threads" : Str) = none := by
    simp only [List.lookup_cons, List.lookup_nil]
    rw [show (("threads" : Str) == "s_lines") = false from by decide +kernel]
  have hv : ∀ t, vf (.lst (sts (hues ls))) t = ⟨.lst (sts (hues ls)), .fr, []⟩ := fun t => vf_imm (by simp only [D.kids]; exact imm_strs _)
  simp only [stD] at h e1
  simp only [ev, h, Out.bind, evL, hl, and_self, if_true, ds, List.map_nil, e1, vo, ts, List.flatMap_cons, List.flatMap_nil, Vl.all, List.append_nil, vf_tD, hv]
theorem mth_col {ls : List (List Str)} {e : E} {ρ : En} {W W' : Dr} {k : Sc} (h60 : (ls.map List.length).sum ≤ 60) (h : ev e ρ W = .ok ⟨stD (tD ls), k, []⟩ W') : ev (.mth "colors" "State" G_State_colors e .nil) ρ W = .ok ⟨.lst (sts (hues ls)), .fr, []⟩ W' := by
  have e1 := colors_ok (ls := ls) (W := W') h60
  have hl : ([("s_lines", D.tup (tD ls))] : List (Str × D)).lookup ("colors" : Str) = none := by
    simp only [List.lookup_cons, List.lookup_nil]
    rw [show (("colors" : Str) == "s_lines") = false from by decide +kernel]
  have hv : ∀ t, vf (.lst (sts (hues ls))) t = ⟨.lst (sts (hues ls)), .fr, []⟩ := fun t => vf_imm (by simp only [D.kids]; exact imm_strs _)
  simp only [stD] at h e1
  simp only [ev, h, Out.bind, evL, hl, and_self, if_true, ds, List.map_nil, e1, vo, ts, List.flatMap_cons, List.flatMap_nil, Vl.all, List.append_nil, vf_tD, hv]
theorem vfd (d : D) (t : List Nat) : (vf d t).d = d := by unfold vf; split <;> rfl
noncomputable def Rt3 : S := (.seq (.iff (.tv (.cmp .NotEq (.lc (.var 6) (.nm 6) (.wk (.var 5)) T__law_told_right_2 [6]) (.lst .nil))) (.seq (.ret (.cst (.bl false)))
  .skip) .skip)
  (.seq (.tapp (.mth "threads" "State" G_State_threads (.var 2) .nil) (.cst .non))
  (.seq (.tclr (.mth "colors" "State" G_State_colors (.var 2) .nil))
  (.seq (.iff (.or (.tv (.cmp .NotEq (.lst (.cons (.mth "threads" "State" G_State_threads (.var 2) .nil) (.cons (.mth "colors" "State" G_State_colors (.var 2) .nil) .nil))) (.lst (.cons (.bi .list (.cons (.var 0) .nil)) (.cons (.var 3) .nil))))) (.tv (.call (eqG true "State" G_State___eq__) (.cons (.var 2) (.cons (.call G_State (.cons (.bi .tuple (.cons (.var 0) .nil)) .nil)) .nil))))) (.seq (.ret (.cst (.bl false)))
  .skip) .skip)
  (.seq (.ret (.and (.call (eqA true "State" G_State___eq__) (.cons (.var 2) (.cons (.bi .list (.cons (.var 0) .nil)) .nil))) (.and (.not (.call (eqA false "State" G_State___eq__) (.cons (.var 2) (.cons (.bi .tuple (.cons (.var 0) .nil)) .nil)))) (.call (eqA true "State" G_State___eq__) (.cons (.var 2) (.cons (.cst .non) .nil))))))
  .skip)))))
noncomputable def Rt2 : S := (.seq (.asg 5 (.lst (.cons (.call (pureG revLD) (.cons (.bi .list (.cons (.var 0) .nil)) .nil)) (.cons (.bin .Add (.sl (.bi .list (.cons (.var 0) .nil)) (.pt (.cst (.int 1))) .no) (.sl (.bi .list (.cons (.var 0) .nil)) .no (.pt (.cst (.int 1))))) .nil))))
  (.seq (.iff (.and (.tv (.cmp .Gt (.bi .len (.cons (.var 0) .nil)) (.cst (.int 1)))) (.tv (.cmp .Gt (.bi .len (.cons (.ix (.var 0) (.cst (.int 0))) .nil)) (.cst (.int 1))))) (.seq (.app 5 (.bin .Add (.lst (.cons (.sl (.ix (.var 0) (.cst (.int 0))) .no (.pt (.neg (.cst (.int 1))))) (.cons (.bin .Add (.sl (.ix (.var 0) (.cst (.int 0))) (.pt (.neg (.cst (.int 1)))) .no) (.ix (.var 0) (.cst (.int 1)))) .nil))) (.sl (.bi .list (.cons (.var 0) .nil)) (.pt (.cst (.int 2))) .no)))
  .skip) .skip)
  Rt3))
theorem Bt_eq : B__law_told_right = (.seq (.asg 1 (.bi .list (.cons (.var 0) .nil)))
  (.seq (.asg 2 (.callk G_State 1 [0] (.cons (.var 1) .nil)))
  (.seq (.app 1 (.tup (.cons (.cst (.str "zz")) .nil)))
  (.seq (.par [3, 4] (.cons (.call G__law_all_hues (.cons (.var 0) .nil)) (.cons (.bi .sum (.cons (.lc E__law_told_right_1 (.nm 6) (.wk (.var 0)) .nil [6]) .nil)) .nil)))
  (.seq (.iff (.tv (.cmp .NotEq (.lst (.cons (.mth "threads" "State" G_State_threads (.var 2) .nil) (.cons (.mth "colors" "State" G_State_colors (.var 2) .nil) (.cons (.call (lenG "State" G_State___len__) (.cons (.var 2) .nil)) .nil)))) (.lst (.cons (.bi .list (.cons (.var 0) .nil)) (.cons (.var 3) (.cons (.var 4) .nil)))))) (.seq (.ret (.cst (.bl false)))
  .skip) .skip)
  Rt2))))) := rfl
theorem told3 {ls : List (List Str)} {K : List (List (List Str))} {s1 s4 s6 : Sl} {W : Dr} (h : Lnc ls) (hK : ∀ k ∈ K, Lnc k) (hl : K.length ≤ 10) :
    ∃ ρ', evS 1000000 Rt3 [.val (.lst (tD ls)), s1, .val (stD (tD ls)), .own (.lst (sts (hues ls))), s4, .own (.lst (K.map fun k => .lst (tD k))), s6] W = .rt ⟨.bl true, .pl, []⟩ ρ' W := by
  have h60 := h.sum
  have h8 := h.most
  obtain ⟨sl, st⟩ := st_ok h (W := W)
  have gl : listD [.lst (tD ls)] = some (true, .lst (tD ls)) := rfl
  have gt : tupleD [.lst (tD ls)] = some (false, .tup (tD ls)) := rfl
  have cs := colors_ok (W := W) h60
  have th1 := threads_ok (xs := tD ls) (W := W)
  have hv : ∀ t, vf (.lst (sts (hues ls))) t = ⟨.lst (sts (hues ls)), .fr, []⟩ := fun t => vf_imm (by simp only [D.kids]; exact imm_strs _)
  have vst : ∀ ks t, vl (stD (tD ks)) t = ⟨stD (tD ks), .pl, []⟩ := fun ks t => vl_imm (by simp [stD, D.imm, D.immF, immL_tD])
  have vtt : ∀ t, vl (.tup (tD ls)) t = ⟨.tup (tD ls), .pl, []⟩ := fun t => vl_imm (by simp only [D.imm]; exact immL_tD ls)
  have e1 : cmpD .NotEq (.lst [.lst (tD ls), .lst (sts (hues ls))]) (.lst [.lst (tD ls), .lst (sts (hues ls))]) = some false := ne_same (pd_lst fun x hx => by
    simp only [List.mem_cons, List.not_mem_nil, or_false] at hx
    rcases hx with rfl | rfl
    · exact pd_lst fun x hx => by
        obtain ⟨l, _, rfl⟩ := List.mem_map.mp hx
        exact pd_th
    · exact pd_lst pd_sts)
  have hlc : lcGo (lcOne (.var 6) T__law_told_right_2 (.nm 6) [6] [.val (.lst (tD ls)), s1, .val (stD (tD ls)), .own (.lst (sts (hues ls))), s4, .own (.lst (K.map fun k => .lst (tD k))), s6]) (K.map fun k => D.lst (tD k)) [] [] W = .ok ⟨.lst [], .fr, []⟩ W := by
    rw [lc_filter (fun k => D.lst (tD k)) (fun _ => false) (by unfold cap; omega) fun k hk => ⟨⟨.lst (tD k), .pl, []⟩, ?_, rfl, rfl⟩]
    · simp
    · refine lcOne_if ?_ fun z => by cases z
      obtain ⟨sk, _⟩ := st_ok (hK k hk) (W := W)
      obtain ⟨v, v1, v2⟩ := eq_both (pd_tD k) (pd_tD ls)
      have q := seq_ok (W := W) v1 false
      have vb : ∀ b t, vl (.bl b) t = ⟨.bl b, .pl, []⟩ := fun _ _ => vl_bl
      have ne : cmpD .NotEq (.bl (v != false)) (.bl v) = some false := by cases v <;> rfl
      unfold T__law_told_right_2
      simp only [wip, SOut.wp, vl_int, vl_str, vl_bl, vl_non, nd2, Nat.reduceLeDiff, Nat.reduceEqDiff, not_false_eq_true, and_self, and_true, true_and, putAll, big_eq, ↓evS_for, ↓ev_lc, evS, evT, evA, ev, evL, evO, evI, Out.bind, Out.st, ofS, ofO, D.isBl, vo, put, Vl.isFr, Vl.all, biD, ds, ts, sets, List.flatMap_cons, List.flatMap_nil, List.map_cons, List.map_nil, List.append_nil, List.nil_append, vl_nil, vf_nil, frz_nil, List.getElem?_cons_zero, List.getElem?_cons_succ, List.set_cons_zero, List.set_cons_succ, Bool.false_eq_true, if_false, if_true, reduceIte, List.length_cons, List.length_nil, Nat.reduceAdd, Nat.reduceSub, List.replicate, List.cons_append, List.replicate_succ, List.replicate_zero, Option.map_some, Option.map_none, Bool.not_true, Bool.not_false, List.singleton_append, sk, vst, q, gl, vf_tD, v2, ne, pd_tD] <;> try (simp only [wip, SOut.wp, vl_int, vl_str, vl_bl, vl_non, nd2, Nat.reduceLeDiff, Nat.reduceEqDiff, not_false_eq_true, and_self, and_true, true_and, putAll, big_eq, ↓evS_for, ↓ev_lc, evS, evT, evA, ev, evL, evO, evI, Out.bind, Out.st, ofS, ofO, D.isBl, vo, put, Vl.isFr, Vl.all, biD, ds, ts, sets, List.flatMap_cons, List.flatMap_nil, List.map_cons, List.map_nil, List.append_nil, List.nil_append, vl_nil, vf_nil, frz_nil, List.getElem?_cons_zero, List.getElem?_cons_succ, List.set_cons_zero, List.set_cons_succ, Bool.false_eq_true, if_false, if_true, reduceIte, List.length_cons, List.length_nil, Nat.reduceAdd, Nat.reduceSub, List.replicate, List.cons_append, List.replicate_succ, List.replicate_zero, Option.map_some, Option.map_none, Bool.not_true, Bool.not_false, List.singleton_append, sk, vst, q, gl, vf_tD, v2, ne, pd_tD] <;> try simp only [wip, SOut.wp, vl_int, vl_str, vl_bl, vl_non, nd2, Nat.reduceLeDiff, Nat.reduceEqDiff, not_false_eq_true, and_self, and_true, true_and, putAll, big_eq, ↓evS_for, ↓ev_lc, evS, evT, evA, ev, evL, evO, evI, Out.bind, Out.st, ofS, ofO, D.isBl, vo, put, Vl.isFr, Vl.all, biD, ds, ts, sets, List.flatMap_cons, List.flatMap_nil, List.map_cons, List.map_nil, List.append_nil, List.nil_append, vl_nil, vf_nil, frz_nil, List.getElem?_cons_zero, List.getElem?_cons_succ, List.set_cons_zero, List.set_cons_succ, Bool.false_eq_true, if_false, if_true, reduceIte, List.length_cons, List.length_nil, Nat.reduceAdd, Nat.reduceSub, List.replicate, List.cons_append, List.replicate_succ, List.replicate_zero, Option.map_some, Option.map_none, Bool.not_true, Bool.not_false, List.singleton_append, sk, vst, q, gl, vf_tD, v2, ne, pd_tD])
  have hit : (D.lst (K.map fun k => D.lst (tD k))).items = some (K.map fun k => D.lst (tD k)) := rfl
  have e2 : cmpD .NotEq (.lst []) (.lst []) = some false := rfl
  obtain ⟨v, v1, _⟩ := eq_both (pd_tD ls) (pd_tD ls)
  have v1' : cmpD .Eq (.tup (tD ls)) (.tup (tD ls)) = some true := eq_same' (pd_tup fun x hx => by
      obtain ⟨l, _, rfl⟩ := List.mem_map.mp hx
      exact pd_th)
  have q1 := seq_ok (W := W) v1' true
  have a1 := anyeq_ok (a := ls) (y := .lst (tD ls)) (W := W) rfl rfl rfl true
  have a2 := anyeq_ok (a := ls) (y := .tup (tD ls)) (W := W) rfl rfl rfl false
  have a3 := anyeq_ok (a := ls) (y := .non) (W := W) rfl rfl rfl true
  have c0 : 0 ≤ cap := Nat.zero_le _
  have c2 : 2 ≤ cap := by decide
  have hcl : (tD ls).length < cap := by rw [tD_len]; unfold cap; omega
  have m1 : ∀ s0 s1 s3 s4 s5 s6 W, ev (.mth "threads" "State" G_State_threads (.var 2) .nil) [s0, s1, .val (stD (tD ls)), s3, s4, s5, s6] W = .ok ⟨.lst (tD ls), .fr, []⟩ W := fun _ _ _ _ _ _ _ => mth_thr rfl
  have m2 : ∀ s0 s1 s3 s4 s5 s6 W, ev (.mth "colors" "State" G_State_colors (.var 2) .nil) [s0, s1, .val (stD (tD ls)), s3, s4, s5, s6] W = .ok ⟨.lst (sts (hues ls)), .fr, []⟩ W := fun _ _ _ _ _ _ _ => mth_col h60 rfl
  refine ⟨[.val (.lst (tD ls)), s1, .val (stD (tD ls)), .own (.lst (sts (hues ls))), s4, .own (.lst (K.map fun k => .lst (tD k))), s6], ?_⟩
  unfold Rt3
  simp only [wip, SOut.wp, vl_int, vl_str, vl_bl, vl_non, nd2, Nat.reduceLeDiff, Nat.reduceEqDiff, not_false_eq_true, and_self, and_true, true_and, putAll, big_eq, ↓evS_for, ↓ev_lc, evS, evT, evA, ev, evL, evO, evI, Out.bind, Out.st, ofS, ofO, D.isBl, vo, put, Vl.isFr, Vl.all, biD, ds, ts, sets, List.flatMap_cons, List.flatMap_nil, List.map_cons, List.map_nil, List.append_nil, List.nil_append, vl_nil, vf_nil, frz_nil, List.getElem?_cons_zero, List.getElem?_cons_succ, List.set_cons_zero, List.set_cons_succ, Bool.false_eq_true, if_false, if_true, reduceIte, List.length_cons, List.length_nil, Nat.reduceAdd, Nat.reduceSub, List.replicate, List.cons_append, List.replicate_succ, List.replicate_zero, Option.map_some, Option.map_none, Bool.not_true, Bool.not_false, List.singleton_append, ↓m1, ↓m2, vfd, hit, hlc, e2, gl, gt, sl, st, vst, vtt, cs, hv, vf_tD, th1, e1, q1, a1, a2, a3, c0, c2, hcl, Bool.bne_true] <;> try (simp only [wip, SOut.wp, vl_int, vl_str, vl_bl, vl_non, nd2, Nat.reduceLeDiff, Nat.reduceEqDiff, not_false_eq_true, and_self, and_true, true_and, putAll, big_eq, ↓evS_for, ↓ev_lc, evS, evT, evA, ev, evL, evO, evI, Out.bind, Out.st, ofS, ofO, D.isBl, vo, put, Vl.isFr, Vl.all, biD, ds, ts, sets, List.flatMap_cons, List.flatMap_nil, List.map_cons, List.map_nil, List.append_nil, List.nil_append, vl_nil, vf_nil, frz_nil, List.getElem?_cons_zero, List.getElem?_cons_succ, List.set_cons_zero, List.set_cons_succ, Bool.false_eq_true, if_false, if_true, reduceIte, List.length_cons, List.length_nil, Nat.reduceAdd, Nat.reduceSub, List.replicate, List.cons_append, List.replicate_succ, List.replicate_zero, Option.map_some, Option.map_none, Bool.not_true, Bool.not_false, List.singleton_append, ↓m1, ↓m2, vfd, hit, hlc, e2, gl, gt, sl, st, vst, vtt, cs, hv, vf_tD, th1, e1, q1, a1, a2, a3, c0, c2, hcl, Bool.bne_true] <;> try simp only [wip, SOut.wp, vl_int, vl_str, vl_bl, vl_non, nd2, Nat.reduceLeDiff, Nat.reduceEqDiff, not_false_eq_true, and_self, and_true, true_and, putAll, big_eq, ↓evS_for, ↓ev_lc, evS, evT, evA, ev, evL, evO, evI, Out.bind, Out.st, ofS, ofO, D.isBl, vo, put, Vl.isFr, Vl.all, biD, ds, ts, sets, List.flatMap_cons, List.flatMap_nil, List.map_cons, List.map_nil, List.append_nil, List.nil_append, vl_nil, vf_nil, frz_nil, List.getElem?_cons_zero, List.getElem?_cons_succ, List.set_cons_zero, List.set_cons_succ, Bool.false_eq_true, if_false, if_true, reduceIte, List.length_cons, List.length_nil, Nat.reduceAdd, Nat.reduceSub, List.replicate, List.cons_append, List.replicate_succ, List.replicate_zero, Option.map_some, Option.map_none, Bool.not_true, Bool.not_false, List.singleton_append, ↓m1, ↓m2, vfd, hit, hlc, e2, gl, gt, sl, st, vst, vtt, cs, hv, vf_tD, th1, e1, q1, a1, a2, a3, c0, c2, hcl, Bool.bne_true])
  done
theorem cut_to1 {α : Type} {xs : List α} : cutD xs none (some (-1)) = xs.take (xs.length - 1) := by
  unfold cutD
  show (xs.drop 0).take (((-1 : Int) + (xs.length : Int)).toNat - 0) = _
  rw [List.drop_zero]
  congr 1
  omega
theorem cut_from1 {α : Type} {xs : List α} : cutD xs (some (-1)) none = xs.drop (xs.length - 1) := by
  unfold cutD
  show (xs.drop ((-1 : Int) + (xs.length : Int)).toNat).take (xs.length - ((-1 : Int) + (xs.length : Int)).toNat) = _
  rw [show ((-1 : Int) + (xs.length : Int)).toNat = xs.length - 1 by omega]
  exact List.take_of_length_le (by rw [List.length_drop]; omega)
theorem th_to1 {l : List Str} : slD (th l) none (some (-1)) = some (false, th (l.take (l.length - 1))) := by
  simp only [slD, th, cut_to1]
  simp [sts, List.map_take]
theorem th_from1 {l : List Str} : slD (th l) (some (-1)) none = some (false, th (l.drop (l.length - 1))) := by
  simp only [slD, th, cut_from1]
  simp [sts, List.map_drop]
theorem tD_slt {ls : List (List Str)} {k : Nat} : slD (.lst (tD ls)) none (some (k : Int)) = some (true, .lst (tD (ls.take k))) := by
  simp only [slD]
  rw [cut_to (by omega)]
  simp [tD, List.map_take]
theorem tD_slf {ls : List (List Str)} {k : Nat} : slD (.lst (tD ls)) (some (k : Int)) none = some (true, .lst (tD (ls.drop k))) := by
  simp only [slD]
  rw [cut_from (by omega)]
  simp [tD, List.map_drop]
theorem tD_app {a b : List (List Str)} (h : a.length + b.length ≤ 16777216) : binD .Add (.lst (tD a)) (.lst (tD b)) = some (true, .lst (tD (a ++ b))) := by
  simp only [binD, tD, List.length_map]
  rw [if_pos h, List.map_append]
theorem th_app {a b : List Str} (h : a.length + b.length ≤ 16777216) : binD .Add (th a) (th b) = some (false, th (a ++ b)) := by
  simp only [binD, th, sts, List.length_map]
  rw [if_pos h, List.map_append]
theorem told2 {ls : List (List Str)} {s1 s4 s5 s6 : Sl} {W : Dr} (h : Lnc ls) :
    ∃ ρ', evS 1000000 Rt2 [.val (.lst (tD ls)), s1, .val (stD (tD ls)), .own (.lst (sts (hues ls))), s4, s5, s6] W = .rt ⟨.bl true, .pl, []⟩ ρ' W := by
  have h60 := h.sum
  have h8 := h.most
  have h1 := h.one
  have hall : ∀ l ∈ ls, l ≠ [] ∧ ∀ s ∈ l, isColor s = true := fun l hl => ⟨h.ne l hl, h.of l hl⟩
  have k1 : Lnc ls.reverse := lnc_of h (by simp) (fun l hl => hall l (by simpa using hl)) (by rw [List.map_reverse, List.sum_reverse]; exact h60)
  have hsp : ((ls.drop 1).map List.length).sum + ((ls.take 1).map List.length).sum = (ls.map List.length).sum := by
    conv => rhs; rw [← List.take_append_drop 1 ls]
    rw [List.map_append, List.sum_append]; omega
  have k2 : Lnc (ls.drop 1 ++ ls.take 1) := lnc_of h (by simp only [List.length_append, List.length_drop, List.length_take]; omega) (fun l hl => hall l (by
    rcases List.mem_append.mp hl with m | m
    · exact List.mem_of_mem_drop m
    · exact List.mem_of_mem_take m)) (by rw [List.map_append, List.sum_append, hsp]; exact h60)
  have gl : listD [.lst (tD ls)] = some (true, .lst (tD ls)) := rfl
  have hrev : pureG revLD [.lst (tD ls)] W = .ok (true, .lst (tD ls.reverse)) W := pureG_some (by simp only [revLD, tD, List.map_reverse])
  have f1 := tD_slf (ls := ls) (k := 1)
  have t1 := tD_slt (ls := ls) (k := 1)
  have f2 := tD_slf (ls := ls) (k := 2)
  have a1 := tD_app (a := ls.drop 1) (b := ls.take 1) (by simp only [List.length_drop, List.length_take]; omega)
  have c2 : 2 ≤ cap := by decide
  have i0 := tD_ix (ls := ls) (i := 0) (by omega)
  have hlen : lenD [.lst (tD ls)] = some (false, .int ls.length) := by simp only [lenD, tD_len]
  have hc1 : cmpD .Gt (.int ls.length) (.int 1) = some (decide (1 < ls.length)) := by
    simp only [cmpD]; congr 1; exact decide_eq_decide.mpr (by omega)
  have hc2 : cmpD .Gt (.int (ls.getD 0 []).length) (.int 1) = some (decide (1 < (ls.getD 0 []).length)) := by
    simp only [cmpD]; congr 1; exact decide_eq_decide.mpr (by omega)
  have vth : ∀ l t, vl (th l) t = ⟨th l, .pl, []⟩ := fun l t => vl_imm imm_th
  have f1 : slD (.lst (tD ls)) (some 1) none = _ := f1
  have t1 : slD (.lst (tD ls)) none (some 1) = _ := t1
  have f2 : slD (.lst (tD ls)) (some 2) none = _ := f2
  have i0 : ixD (.lst (tD ls)) (.int 0) = _ := i0
  have done2 := told3 (K := [ls.reverse, ls.drop 1 ++ ls.take 1]) (s1 := s1) (s4 := s4) (s6 := s6) (W := W) h (fun k hk => (List.mem_cons.mp hk).elim (fun e => e ▸ k1) fun hk => (List.mem_singleton.mp hk) ▸ k2) (by simp)
  simp only [List.map_cons, List.map_nil] at done2
  unfold Rt2
  by_cases q1 : 1 < ls.length
  · by_cases q2 : 1 < (ls.getD 0 []).length
    · obtain ⟨l0, l1, r, rfl⟩ : ∃ l0 l1 r, ls = l0 :: l1 :: r := by
        match ls, q1 with
        | l0 :: l1 :: r, _ => exact ⟨l0, l1, r, rfl⟩
      have q2 : 1 < l0.length := q2
      have i0 : ixD (.lst (tD (l0 :: l1 :: r))) (.int 0) = some (th l0) := i0
      have i1 : ixD (.lst (tD (l0 :: l1 :: r))) (.int 1) = some (th l1) := tD_ix (ls := l0 :: l1 :: r) (i := 1) (by simp)
      have f2 : slD (.lst (tD (l0 :: l1 :: r))) (some 2) none = some (true, .lst (tD r)) := f2
      have hc2 : cmpD .Gt (.int l0.length) (.int 1) = some (decide (1 < l0.length)) := hc2
      have u1 := th_to1 (l := l0)
      have u2 := th_from1 (l := l0)
      have hs0 : l0.length + (l1.length + (r.map List.length).sum) ≤ 60 := by simpa using h60
      have hal0 : (l0.take (l0.length - 1)).length = l0.length - 1 := by rw [List.length_take]; omega
      have hbl0 : (l0.drop (l0.length - 1)).length = 1 := by rw [List.length_drop]; omega
      have ma : ∀ s ∈ l0.take (l0.length - 1), s ∈ l0 := fun s hs => List.mem_of_mem_take hs
      have mb : ∀ s ∈ l0.drop (l0.length - 1), s ∈ l0 := fun s hs => List.mem_of_mem_drop hs
      generalize l0.take (l0.length - 1) = A at *
      generalize l0.drop (l0.length - 1) = B at *
      have u3 := th_app (a := B) (b := l1) (by omega)
      have u4 : binD .Add (.lst [th A, th (B ++ l1)]) (.lst (tD r)) = some (true, .lst (tD (A :: (B ++ l1) :: r))) := tD_app (a := [A, B ++ l1]) (b := r) (by simp at h8 ⊢; omega)
      have k3 : Lnc (A :: (B ++ l1) :: r) := lnc_of h (by simp) (fun l hl => by
        simp only [List.mem_cons] at hl
        rcases hl with rfl | rfl | hl
        · exact ⟨fun z => by rw [z] at hal0; simp at hal0; omega, fun s hs => (hall l0 (by simp)).2 s (ma s hs)⟩
        · refine ⟨fun z => ?_, fun s hs => ?_⟩
          · have := congrArg List.length z
            simp at this
            rw [this.1] at hbl0
            simp at hbl0
          · rcases List.mem_append.mp hs with m | m
            · exact (hall l0 (by simp)).2 s (mb s m)
            · exact (hall l1 (by simp)).2 s m
        · exact hall l (by simp [hl])) (by simp only [List.map_cons, List.sum_cons, List.length_append]; omega)
      have done3 := told3 (K := [(l0 :: l1 :: r).reverse, (l0 :: l1 :: r).drop 1 ++ (l0 :: l1 :: r).take 1, A :: (B ++ l1) :: r]) (s1 := s1) (s4 := s4) (s6 := s6) (W := W) h (fun k hk => by
        simp only [List.mem_cons, List.not_mem_nil, or_false] at hk
        rcases hk with rfl | rfl | rfl
        · exact k1
        · exact k2
        · exact k3) (by simp)
      simp only [List.map_cons, List.map_nil] at done3
      obtain ⟨ρ', e⟩ := done3
      have c22 : 2 < cap := by decide
      have hgt : cmpD .Gt (.int ((r.length + 1 + 1 : Nat) : Int)) (.int 1) = some true := by
        simp only [cmpD]; congr 1; exact decide_eq_true (by omega)
      have vf2 : ∀ t, vf (.lst [th A, th (B ++ l1)]) t = ⟨.lst [th A, th (B ++ l1)], .fr, []⟩ := fun t => vf_imm (by simp [D.kids, D.immL, imm_th])
      refine ⟨ρ', ?_⟩
      simp only [wip, SOut.wp, vl_int, vl_str, vl_bl, vl_non, nd2, Nat.reduceLeDiff, Nat.reduceEqDiff, not_false_eq_true, and_self, and_true, true_and, putAll, big_eq, ↓evS_for, ↓ev_lc, evS, evT, evA, ev, evL, evO, evI, Out.bind, Out.st, ofS, ofO, D.isBl, vo, put, Vl.isFr, Vl.all, biD, ds, ts, sets, List.flatMap_cons, List.flatMap_nil, List.map_cons, List.map_nil, List.append_nil, List.nil_append, vl_nil, vf_nil, frz_nil, List.getElem?_cons_zero, List.getElem?_cons_succ, List.set_cons_zero, List.set_cons_succ, Bool.false_eq_true, if_false, if_true, reduceIte, List.length_cons, List.length_nil, Nat.reduceAdd, Nat.reduceSub, List.replicate, List.cons_append, List.replicate_succ, List.replicate_zero, Option.map_some, Option.map_none, Bool.not_true, Bool.not_false, List.singleton_append, gl, hrev, vf_tD, f1, t1, a1, c2, c22, hlen, hgt, i0, i1, f2, vth, len_th, hc2, q1, q2, u1, u2, u3, u4, vf2, decide_true, decide_false, vfd, e] <;> try (simp only [wip, SOut.wp, vl_int, vl_str, vl_bl, vl_non, nd2, Nat.reduceLeDiff, Nat.reduceEqDiff, not_false_eq_true, and_self, and_true, true_and, putAll, big_eq, ↓evS_for, ↓ev_lc, evS, evT, evA, ev, evL, evO, evI, Out.bind, Out.st, ofS, ofO, D.isBl, vo, put, Vl.isFr, Vl.all, biD, ds, ts, sets, List.flatMap_cons, List.flatMap_nil, List.map_cons, List.map_nil, List.append_nil, List.nil_append, vl_nil, vf_nil, frz_nil, List.getElem?_cons_zero, List.getElem?_cons_succ, List.set_cons_zero, List.set_cons_succ, Bool.false_eq_true, if_false, if_true, reduceIte, List.length_cons, List.length_nil, Nat.reduceAdd, Nat.reduceSub, List.replicate, List.cons_append, List.replicate_succ, List.replicate_zero, Option.map_some, Option.map_none, Bool.not_true, Bool.not_false, List.singleton_append, gl, hrev, vf_tD, f1, t1, a1, c2, c22, hlen, hgt, i0, i1, f2, vth, len_th, hc2, q1, q2, u1, u2, u3, u4, vf2, decide_true, decide_false, vfd, e] <;> try simp only [wip, SOut.wp, vl_int, vl_str, vl_bl, vl_non, nd2, Nat.reduceLeDiff, Nat.reduceEqDiff, not_false_eq_true, and_self, and_true, true_and, putAll, big_eq, ↓evS_for, ↓ev_lc, evS, evT, evA, ev, evL, evO, evI, Out.bind, Out.st, ofS, ofO, D.isBl, vo, put, Vl.isFr, Vl.all, biD, ds, ts, sets, List.flatMap_cons, List.flatMap_nil, List.map_cons, List.map_nil, List.append_nil, List.nil_append, vl_nil, vf_nil, frz_nil, List.getElem?_cons_zero, List.getElem?_cons_succ, List.set_cons_zero, List.set_cons_succ, Bool.false_eq_true, if_false, if_true, reduceIte, List.length_cons, List.length_nil, Nat.reduceAdd, Nat.reduceSub, List.replicate, List.cons_append, List.replicate_succ, List.replicate_zero, Option.map_some, Option.map_none, Bool.not_true, Bool.not_false, List.singleton_append, gl, hrev, vf_tD, f1, t1, a1, c2, c22, hlen, hgt, i0, i1, f2, vth, len_th, hc2, q1, q2, u1, u2, u3, u4, vf2, decide_true, decide_false, vfd, e])
      done
    · obtain ⟨ρ', e⟩ := done2
      refine ⟨ρ', ?_⟩
      simp only [wip, SOut.wp, vl_int, vl_str, vl_bl, vl_non, nd2, Nat.reduceLeDiff, Nat.reduceEqDiff, not_false_eq_true, and_self, and_true, true_and, putAll, big_eq, ↓evS_for, ↓ev_lc, evS, evT, evA, ev, evL, evO, evI, Out.bind, Out.st, ofS, ofO, D.isBl, vo, put, Vl.isFr, Vl.all, biD, ds, ts, sets, List.flatMap_cons, List.flatMap_nil, List.map_cons, List.map_nil, List.append_nil, List.nil_append, vl_nil, vf_nil, frz_nil, List.getElem?_cons_zero, List.getElem?_cons_succ, List.set_cons_zero, List.set_cons_succ, Bool.false_eq_true, if_false, if_true, reduceIte, List.length_cons, List.length_nil, Nat.reduceAdd, Nat.reduceSub, List.replicate, List.cons_append, List.replicate_succ, List.replicate_zero, Option.map_some, Option.map_none, Bool.not_true, Bool.not_false, List.singleton_append, gl, hrev, vf_tD, f1, t1, a1, c2, hlen, hc1, i0, vth, len_th, hc2, q1, q2, decide_true, decide_false, vfd, e] <;> try (simp only [wip, SOut.wp, vl_int, vl_str, vl_bl, vl_non, nd2, Nat.reduceLeDiff, Nat.reduceEqDiff, not_false_eq_true, and_self, and_true, true_and, putAll, big_eq, ↓evS_for, ↓ev_lc, evS, evT, evA, ev, evL, evO, evI, Out.bind, Out.st, ofS, ofO, D.isBl, vo, put, Vl.isFr, Vl.all, biD, ds, ts, sets, List.flatMap_cons, List.flatMap_nil, List.map_cons, List.map_nil, List.append_nil, List.nil_append, vl_nil, vf_nil, frz_nil, List.getElem?_cons_zero, List.getElem?_cons_succ, List.set_cons_zero, List.set_cons_succ, Bool.false_eq_true, if_false, if_true, reduceIte, List.length_cons, List.length_nil, Nat.reduceAdd, Nat.reduceSub, List.replicate, List.cons_append, List.replicate_succ, List.replicate_zero, Option.map_some, Option.map_none, Bool.not_true, Bool.not_false, List.singleton_append, gl, hrev, vf_tD, f1, t1, a1, c2, hlen, hc1, i0, vth, len_th, hc2, q1, q2, decide_true, decide_false, vfd, e] <;> try simp only [wip, SOut.wp, vl_int, vl_str, vl_bl, vl_non, nd2, Nat.reduceLeDiff, Nat.reduceEqDiff, not_false_eq_true, and_self, and_true, true_and, putAll, big_eq, ↓evS_for, ↓ev_lc, evS, evT, evA, ev, evL, evO, evI, Out.bind, Out.st, ofS, ofO, D.isBl, vo, put, Vl.isFr, Vl.all, biD, ds, ts, sets, List.flatMap_cons, List.flatMap_nil, List.map_cons, List.map_nil, List.append_nil, List.nil_append, vl_nil, vf_nil, frz_nil, List.getElem?_cons_zero, List.getElem?_cons_succ, List.set_cons_zero, List.set_cons_succ, Bool.false_eq_true, if_false, if_true, reduceIte, List.length_cons, List.length_nil, Nat.reduceAdd, Nat.reduceSub, List.replicate, List.cons_append, List.replicate_succ, List.replicate_zero, Option.map_some, Option.map_none, Bool.not_true, Bool.not_false, List.singleton_append, gl, hrev, vf_tD, f1, t1, a1, c2, hlen, hc1, i0, vth, len_th, hc2, q1, q2, decide_true, decide_false, vfd, e])
      done
  · obtain ⟨ρ', e⟩ := done2
    refine ⟨ρ', ?_⟩
    simp only [wip, SOut.wp, vl_int, vl_str, vl_bl, vl_non, nd2, Nat.reduceLeDiff, Nat.reduceEqDiff, not_false_eq_true, and_self, and_true, true_and, putAll, big_eq, ↓evS_for, ↓ev_lc, evS, evT, evA, ev, evL, evO, evI, Out.bind, Out.st, ofS, ofO, D.isBl, vo, put, Vl.isFr, Vl.all, biD, ds, ts, sets, List.flatMap_cons, List.flatMap_nil, List.map_cons, List.map_nil, List.append_nil, List.nil_append, vl_nil, vf_nil, frz_nil, List.getElem?_cons_zero, List.getElem?_cons_succ, List.set_cons_zero, List.set_cons_succ, Bool.false_eq_true, if_false, if_true, reduceIte, List.length_cons, List.length_nil, Nat.reduceAdd, Nat.reduceSub, List.replicate, List.cons_append, List.replicate_succ, List.replicate_zero, Option.map_some, Option.map_none, Bool.not_true, Bool.not_false, List.singleton_append, gl, hrev, vf_tD, f1, t1, a1, c2, hlen, hc1, i0, vth, len_th, hc2, q1, decide_true, decide_false, vfd, e] <;> try (simp only [wip, SOut.wp, vl_int, vl_str, vl_bl, vl_non, nd2, Nat.reduceLeDiff, Nat.reduceEqDiff, not_false_eq_true, and_self, and_true, true_and, putAll, big_eq, ↓evS_for, ↓ev_lc, evS, evT, evA, ev, evL, evO, evI, Out.bind, Out.st, ofS, ofO, D.isBl, vo, put, Vl.isFr, Vl.all, biD, ds, ts, sets, List.flatMap_cons, List.flatMap_nil, List.map_cons, List.map_nil, List.append_nil, List.nil_append, vl_nil, vf_nil, frz_nil, List.getElem?_cons_zero, List.getElem?_cons_succ, List.set_cons_zero, List.set_cons_succ, Bool.false_eq_true, if_false, if_true, reduceIte, List.length_cons, List.length_nil, Nat.reduceAdd, Nat.reduceSub, List.replicate, List.cons_append, List.replicate_succ, List.replicate_zero, Option.map_some, Option.map_none, Bool.not_true, Bool.not_false, List.singleton_append, gl, hrev, vf_tD, f1, t1, a1, c2, hlen, hc1, i0, vth, len_th, hc2, q1, decide_true, decide_false, vfd, e] <;> try simp only [wip, SOut.wp, vl_int, vl_str, vl_bl, vl_non, nd2, Nat.reduceLeDiff, Nat.reduceEqDiff, not_false_eq_true, and_self, and_true, true_and, putAll, big_eq, ↓evS_for, ↓ev_lc, evS, evT, evA, ev, evL, evO, evI, Out.bind, Out.st, ofS, ofO, D.isBl, vo, put, Vl.isFr, Vl.all, biD, ds, ts, sets, List.flatMap_cons, List.flatMap_nil, List.map_cons, List.map_nil, List.append_nil, List.nil_append, vl_nil, vf_nil, frz_nil, List.getElem?_cons_zero, List.getElem?_cons_succ, List.set_cons_zero, List.set_cons_succ, Bool.false_eq_true, if_false, if_true, reduceIte, List.length_cons, List.length_nil, Nat.reduceAdd, Nat.reduceSub, List.replicate, List.cons_append, List.replicate_succ, List.replicate_zero, Option.map_some, Option.map_none, Bool.not_true, Bool.not_false, List.singleton_append, gl, hrev, vf_tD, f1, t1, a1, c2, hlen, hc1, i0, vth, len_th, hc2, q1, decide_true, decide_false, vfd, e])
    done
theorem told_right_ok {ls : List (List Str)} {W : Dr} (h : Lnc ls) : G__law_told_right [.lst (tD ls)] W = .ok (false, .bl true) W := by
  have h60 := h.sum
  have h8 := h.most
  have h1 := h.one
  obtain ⟨sl, st⟩ := st_ok h (W := W)
  have gl : listD [.lst (tD ls)] = some (true, .lst (tD ls)) := rfl
  have ah := all_hues_ok (W := W) h60
  have ln := len_ok (W := W) h60
  have l1 := lens_eq (el := E__law_told_right_1) (pt := .nm 6) (own := [6]) (ρ := [.val (.lst (tD ls)), .own (.lst (tD ls ++ [.tup [.str "zz"]])), .val (stD (tD ls)), .un, .un, .un, .un]) (W := W) (ls := ls) (by unfold cap; omega) fun l => by
    refine lcOne_ok ?_
    unfold E__law_told_right_1
    simp only [wip, SOut.wp, vl_int, vl_str, vl_bl, vl_non, nd2, Nat.reduceLeDiff, Nat.reduceEqDiff, not_false_eq_true, and_self, and_true, true_and, putAll, big_eq, ↓evS_for, ↓ev_lc, evS, evT, evA, ev, evL, evO, evI, Out.bind, Out.st, ofS, ofO, D.isBl, vo, put, Vl.isFr, Vl.all, biD, ds, ts, sets, List.flatMap_cons, List.flatMap_nil, List.map_cons, List.map_nil, List.append_nil, List.nil_append, vl_nil, vf_nil, frz_nil, List.getElem?_cons_zero, List.getElem?_cons_succ, List.set_cons_zero, List.set_cons_succ, Bool.false_eq_true, if_false, if_true, reduceIte, List.length_cons, List.length_nil, Nat.reduceAdd, Nat.reduceSub, List.replicate, List.cons_append, List.replicate_succ, List.replicate_zero, Option.map_some, Option.map_none, Bool.not_true, Bool.not_false, List.singleton_append, wip, len_th]
  have hsum : sumD [.lst ((ls.map fun l => (l.length : Int)).map .int)] = some (false, .int ((ls.map List.length).sum : Nat)) := by simp only [sumD, ints_map, Option.map_some, sum_cast]
  have hit : (D.lst (tD ls)).items = some (tD ls) := rfl
  have hv : ∀ t, vf (.lst (sts (hues ls))) t = ⟨.lst (sts (hues ls)), .fr, []⟩ := fun t => vf_imm (by simp only [D.kids]; exact imm_strs _)
  have e1 : cmpD .NotEq (.lst [.lst (tD ls), .lst (sts (hues ls)), .int ((ls.map List.length).sum : Nat)]) (.lst [.lst (tD ls), .lst (sts (hues ls)), .int ((ls.map List.length).sum : Nat)]) = some false := ne_same (pd_lst fun x hx => by
    simp only [List.mem_cons, List.not_mem_nil, or_false] at hx
    rcases hx with rfl | rfl | rfl
    · exact pd_lst fun x hx => by
        obtain ⟨l, _, rfl⟩ := List.mem_map.mp hx
        exact pd_th
    · exact pd_lst pd_sts
    · exact pd_int)
  have vst : ∀ ks t, vl (stD (tD ks)) t = ⟨stD (tD ks), .pl, []⟩ := fun ks t => vl_imm (by simp [stD, D.imm, D.immF, immL_tD])
  have pk : ∀ d : D, pick [0] [d] = [d] := fun _ => rfl
  have c1 : 1 ≤ cap := by decide
  have c3 : 3 ≤ cap := by decide
  have hcl : (tD ls).length < cap := by rw [tD_len]; unfold cap; omega
  have m1 : ∀ s0 s1 s3 s4 s5 s6 W, ev (.mth "threads" "State" G_State_threads (.var 2) .nil) [s0, s1, .val (stD (tD ls)), s3, s4, s5, s6] W = .ok ⟨.lst (tD ls), .fr, []⟩ W := fun _ _ _ _ _ _ _ => mth_thr rfl
  have m2 : ∀ s0 s1 s3 s4 s5 s6 W, ev (.mth "colors" "State" G_State_colors (.var 2) .nil) [s0, s1, .val (stD (tD ls)), s3, s4, s5, s6] W = .ok ⟨.lst (sts (hues ls)), .fr, []⟩ W := fun _ _ _ _ _ _ _ => mth_col h60 rfl
  obtain ⟨ρ', e⟩ := told2 (s1 := .own (.lst (tD ls ++ [.tup [.str "zz"]]))) (s4 := .val (.int ((ls.map List.length).sum : Nat))) (s5 := .un) (s6 := .un) (W := W) h
  unfold G__law_told_right Z.run
  rw [Bt_eq]
  simp only [wip, SOut.wp, vl_int, vl_str, vl_bl, vl_non, nd2, Nat.reduceLeDiff, Nat.reduceEqDiff, not_false_eq_true, and_self, and_true, true_and, putAll, big_eq, ↓evS_for, ↓ev_lc, evS, evT, evA, ev, evL, evO, evI, Out.bind, Out.st, ofS, ofO, D.isBl, vo, put, Vl.isFr, Vl.all, biD, ds, ts, sets, List.flatMap_cons, List.flatMap_nil, List.map_cons, List.map_nil, List.append_nil, List.nil_append, vl_nil, vf_nil, frz_nil, List.getElem?_cons_zero, List.getElem?_cons_succ, List.set_cons_zero, List.set_cons_succ, Bool.false_eq_true, if_false, if_true, reduceIte, List.length_cons, List.length_nil, Nat.reduceAdd, Nat.reduceSub, List.replicate, List.cons_append, List.replicate_succ, List.replicate_zero, Option.map_some, Option.map_none, Bool.not_true, Bool.not_false, List.singleton_append, ↓m1, ↓m2, vfd, gl, sl, vst, ah, l1, hsum, hit, hv, vf_tD, ln, e1, pk, c1, c3, hcl, e] <;> try (simp only [wip, SOut.wp, vl_int, vl_str, vl_bl, vl_non, nd2, Nat.reduceLeDiff, Nat.reduceEqDiff, not_false_eq_true, and_self, and_true, true_and, putAll, big_eq, ↓evS_for, ↓ev_lc, evS, evT, evA, ev, evL, evO, evI, Out.bind, Out.st, ofS, ofO, D.isBl, vo, put, Vl.isFr, Vl.all, biD, ds, ts, sets, List.flatMap_cons, List.flatMap_nil, List.map_cons, List.map_nil, List.append_nil, List.nil_append, vl_nil, vf_nil, frz_nil, List.getElem?_cons_zero, List.getElem?_cons_succ, List.set_cons_zero, List.set_cons_succ, Bool.false_eq_true, if_false, if_true, reduceIte, List.length_cons, List.length_nil, Nat.reduceAdd, Nat.reduceSub, List.replicate, List.cons_append, List.replicate_succ, List.replicate_zero, Option.map_some, Option.map_none, Bool.not_true, Bool.not_false, List.singleton_append, ↓m1, ↓m2, vfd, gl, sl, vst, ah, l1, hsum, hit, hv, vf_tD, ln, e1, pk, c1, c3, hcl, e] <;> try simp only [wip, SOut.wp, vl_int, vl_str, vl_bl, vl_non, nd2, Nat.reduceLeDiff, Nat.reduceEqDiff, not_false_eq_true, and_self, and_true, true_and, putAll, big_eq, ↓evS_for, ↓ev_lc, evS, evT, evA, ev, evL, evO, evI, Out.bind, Out.st, ofS, ofO, D.isBl, vo, put, Vl.isFr, Vl.all, biD, ds, ts, sets, List.flatMap_cons, List.flatMap_nil, List.map_cons, List.map_nil, List.append_nil, List.nil_append, vl_nil, vf_nil, frz_nil, List.getElem?_cons_zero, List.getElem?_cons_succ, List.set_cons_zero, List.set_cons_succ, Bool.false_eq_true, if_false, if_true, reduceIte, List.length_cons, List.length_nil, Nat.reduceAdd, Nat.reduceSub, List.replicate, List.cons_append, List.replicate_succ, List.replicate_zero, Option.map_some, Option.map_none, Bool.not_true, Bool.not_false, List.singleton_append, ↓m1, ↓m2, vfd, gl, sl, vst, ah, l1, hsum, hit, hv, vf_tD, ln, e1, pk, c1, c3, hcl, e])
end Qk02

namespace Qk02
open PySem Z
structure Good (x : D) : Prop where
  gd : x.gd = true
  it : ∀ xs, x = .lst xs ∨ x = .tup xs → ∀ y ∈ xs, Itm y
theorem itm_th {l : List Str} (h : l.length ≤ 16777216) (hc : ∀ s ∈ l, isColor s = true) : Itm (th l) := by
  refine ⟨?_, fun ys e z hz => ?_⟩
  · simp only [th, D.gd, Bool.and_eq_true, gdL_iff, decide_eq_true_eq]
    refine ⟨fun z hz => ?_, by simpa [sts] using h⟩
    obtain ⟨s, hs, rfl⟩ := List.mem_map.mp hz
    have := hc s hs
    simp only [isColor, Bool.and_eq_true, decide_eq_true_eq] at this
    simp only [D.gd, decide_eq_true_eq]
    omega
  · cases e
    exact pd_sts z hz
theorem good_lst {xs : List D} (h : ∀ y ∈ xs, Itm y) (hl : xs.length ≤ 16777216) : Good (.lst xs) ∧ Good (.tup xs) := by
  have g : D.gdL xs = true := gdL_iff.mpr fun y hy => (h y hy).1
  refine ⟨⟨by simp only [D.gd, g, hl, decide_true, Bool.and_self], fun ys e => ?_⟩, ⟨by simp only [D.gd, g, hl, decide_true, Bool.and_self], fun ys e => ?_⟩⟩
  · rcases e with e | e <;> cases e
    exact h
  · rcases e with e | e <;> cases e
    exact h
theorem good_str {s : Str} (h : s.length ≤ 16777216) : Good (.str s) := ⟨by simpa [D.gd] using h, fun xs e => by rcases e with e | e <;> cases e⟩
def hue10 : List D := [.str "A", .str "", .str "abcde", .str "a1", .non, .int 5, .bl true, .tup [.str "a"], .str "abcd", .str "zzzz"]
theorem hue10_ok : ∀ x ∈ hue10, x.gd = true ∧ Pd 11 x ∧ x.imm = true := by
  intro x hx
  simp only [hue10, List.mem_cons, List.not_mem_nil, or_false] at hx
  rcases hx with rfl | rfl | rfl | rfl | rfl | rfl | rfl | rfl | rfl | rfl
  all_goals first
    | exact ⟨by decide +kernel, pd_str, rfl⟩
    | exact ⟨rfl, pd_non, rfl⟩
    | exact ⟨rfl, pd_int, rfl⟩
    | exact ⟨rfl, pd_bl, rfl⟩
    | exact ⟨by decide +kernel, pd_tup fun y hy => by simp only [List.mem_cons, List.not_mem_nil, or_false] at hy; subst hy; exact pd_str, rfl⟩
theorem itm_mix {a b : List Str} {x : D} (ha : ∀ s ∈ a, isColor s = true) (hb : ∀ s ∈ b, isColor s = true) (hx : x.gd = true ∧ Pd 11 x) (hl : a.length + b.length ≤ 1000) : Itm (.tup (sts a ++ [x] ++ sts b)) := by
  have k : ∀ l : List Str, (∀ s ∈ l, isColor s = true) → ∀ z ∈ sts l, z.gd = true ∧ Pd 11 z := fun l hl z hz => by
    obtain ⟨s, hs, rfl⟩ := List.mem_map.mp hz
    have := hl s hs
    simp only [isColor, Bool.and_eq_true, decide_eq_true_eq] at this
    exact ⟨by simp only [D.gd, decide_eq_true_eq]; omega, pd_str⟩
  have all : ∀ z ∈ sts a ++ [x] ++ sts b, z.gd = true ∧ Pd 11 z := fun z hz => by
    rcases List.mem_append.mp hz with hz | hz
    · rcases List.mem_append.mp hz with hz | hz
      · exact k a ha z hz
      · rw [List.mem_singleton.mp hz]; exact hx
    · exact k b hb z hz
  refine ⟨?_, fun ys e z hz => ?_⟩
  · simp only [D.gd, Bool.and_eq_true, gdL_iff, decide_eq_true_eq]
    refine ⟨fun z hz => (all z hz).1, ?_⟩
    simp only [sts, List.length_append, List.length_map, List.length_cons, List.length_nil]
    omega
  · cases e
    exact (all z hz).2
theorem itm_set {xs : List D} {i : Nat} {y : D} (h : ∀ x ∈ xs, Itm x) (hy : Itm y) : ∀ x ∈ xs.set i y, Itm x := fun x hx => by
  rcases List.mem_or_eq_of_mem_set hx with h1 | rfl
  · exact h x h1
  · exact hy
theorem mem_rep {α : Type} {n : Nat} {xs : List α} {x : α} (h : x ∈ (List.replicate n xs).flatten) : x ∈ xs := by
  obtain ⟨l, hl, hx⟩ := List.mem_flatten.mp h
  rw [(List.mem_replicate.mp hl).2] at hx
  exact hx
theorem vlk (d : D) (t : List Nat) : (vl d t).k = .pl := by unfold vl; split <;> rfl
theorem vld (d : D) (t : List Nat) : (vl d t).d = d := by unfold vl; split <;> rfl
theorem rep_tD (n : Nat) (ls : List (List Str)) : (List.replicate n (tD ls)).flatten = tD (List.replicate n ls).flatten := by
  unfold tD
  rw [List.map_flatten, List.map_replicate]
theorem rep_sts (n : Nat) (l : List Str) : (List.replicate n (sts l)).flatten = sts (List.replicate n l).flatten := by
  unfold sts
  rw [List.map_flatten, List.map_replicate]
theorem bent_ok {T : Nat} {ls : List (List Str)} {W : Dr} (h : Wd T W) (hT : T + 100 ≤ 1099511627776) (hls : Lnc ls) : ∃ b x W', Good x ∧ Wd (T + 10) W' ∧ G__law_bent [.drw, .lst (tD ls)] W = .ok (b, x) W' ∧ (b = true → ∃ xs, x = .lst xs) := by
  have h60 := hls.sum
  have h8 := hls.most
  have h1 := hls.one
  obtain ⟨r, W1, r0, r1, hw1, e1⟩ := take_ok (n := (ls.length : Int)) h (by omega) (by omega) (by omega)
  obtain ⟨i, rfl⟩ := Int.eq_ofNat_of_zero_le r0
  have hi : i < ls.length := by omega
  obtain ⟨k, W2, k0, k1, hw2, e2⟩ := take_ok (n := 8) hw1 (by omega) (by omega) (by omega)
  have hl : ls.getD i [] ∈ ls := by rw [List.getD_eq_getElem?_getD, List.getElem?_eq_getElem hi]; exact List.getElem_mem hi
  have hne := hls.ne _ hl
  have hof := hls.of _ hl
  have hsl := sum_ge hl
  have i0 := tD_ix (ls := ls) (i := i) hi
  generalize ls.getD i [] = l at *
  have hlp : 0 < l.length := List.length_pos_iff.mpr hne
  obtain ⟨p, W3, p0, p1, hw3, e3⟩ := take_ok (n := (l.length : Int)) hw2 (by omega) (by omega) (by omega)
  obtain ⟨p, rfl⟩ := Int.eq_ofNat_of_zero_le p0
  obtain ⟨x, W4, hx, hw4, e4⟩ := pick_ok (xs := hue10) hw3 (by omega) (by simp [hue10]) (by simp [hue10])
  obtain ⟨x1, x2, x3⟩ := hue10_ok x hx
  have gl : listD [.lst (tD ls)] = some (true, .lst (tD ls)) := rfl
  have hlen : lenD [.lst (tD ls)] = some (false, .int ls.length) := by simp only [lenD, tD_len]
  have vth : ∀ l t, vl (th l) t = ⟨th l, .pl, []⟩ := fun l t => vl_imm imm_th
  have vx : ∀ t, vl x t = ⟨x, .pl, []⟩ := fun t => vl_imm x3
  have c10 : 10 ≤ cap := by decide
  have c1 : 1 ≤ cap := by decide
  have nd3 : [2, 3, 4].Nodup := by decide
  have io : ixOf (tD ls).length (i : Int) = some i := ixOf_nat (by rw [tD_len]; exact hi)
  have itms : ∀ y ∈ tD ls, Itm y := fun y hy => by
    obtain ⟨k, hk, rfl⟩ := List.mem_map.mp hy
    have := sum_ge hk
    exact itm_th (by omega) (hls.of k hk)
  unfold hue10 at e4
  have t1 := th_to (l := l) (k := p)
  by_cases q3 : k < 3
  · obtain ⟨kn, rfl⟩ := Int.eq_ofNat_of_zero_le k0
    have lt : cmpD .Lt (.int (kn : Int)) (.int 3) = some true := by simp only [cmpD]; rw [decide_eq_true q3]
    have hm : binD .Mod (.int (kn : Int)) (.int 2) = some (false, .int ((kn % 2 : Nat) : Int)) := by simp only [binD]; rw [if_pos (by omega)]; rfl
    have ha : binD .Add (.int (p : Int)) (.int ((kn % 2 : Nat) : Int)) = some (false, .int ((p + kn % 2 : Nat) : Int)) := rfl
    have t2 := th_from (l := l) (k := p + kn % 2)
    have b1 : binD .Add (th (l.take p)) (.tup [x]) = some (false, .tup (sts (l.take p) ++ [x])) := by
      simp only [binD, th]
      rw [if_pos (by simp only [sts, List.length_map, List.length_take, List.length_cons, List.length_nil]; omega)]
    have b2 : binD .Add (.tup (sts (l.take p) ++ [x])) (th (l.drop (p + kn % 2))) = some (false, .tup (sts (l.take p) ++ [x] ++ sts (l.drop (p + kn % 2)))) := by
      simp only [binD, th]
      rw [if_pos (by simp only [sts, List.length_append, List.length_map, List.length_take, List.length_drop, List.length_cons, List.length_nil]; omega)]
    have im1 : (D.tup (sts (l.take p) ++ [x])).imm = true := by
      simp only [D.imm]
      refine (immL_iff _).mpr fun z hz => ?_
      rcases List.mem_append.mp hz with hz | hz
      · obtain ⟨s, _, rfl⟩ := List.mem_map.mp hz; rfl
      · rw [List.mem_singleton.mp hz]; exact x3
    have im2 : (D.tup (sts (l.take p) ++ [x] ++ sts (l.drop (p + kn % 2)))).imm = true := by
      simp only [D.imm]
      refine (immL_iff _).mpr fun z hz => ?_
      rcases List.mem_append.mp hz with hz | hz
      · exact (immL_iff _).mp (by simpa only [D.imm] using im1) z hz
      · obtain ⟨s, _, rfl⟩ := List.mem_map.mp hz; rfl
    have v0 : ∀ t, vl (.tup [x]) t = ⟨.tup [x], .pl, []⟩ := fun t => vl_imm (by simp [D.imm, D.immL, x3])
    have v1 : ∀ t, vl (.tup (sts (l.take p) ++ [x])) t = ⟨_, .pl, []⟩ := fun t => vl_imm im1
    have v2 : ∀ t, vl (.tup (sts (l.take p) ++ [x] ++ sts (l.drop (p + kn % 2)))) t = ⟨_, .pl, []⟩ := fun t => vl_imm im2
    have good : ∀ y ∈ (tD ls).set i (.tup (sts (l.take p) ++ [x] ++ sts (l.drop (p + kn % 2)))), Itm y := itm_set itms (itm_mix (fun s hs => hof s (List.mem_of_mem_take hs)) (fun s hs => hof s (List.mem_of_mem_drop hs)) ⟨x1, x2⟩ (by simp only [List.length_take, List.length_drop]; omega))
    refine ⟨true, .lst ((tD ls).set i (.tup (sts (l.take p) ++ [x] ++ sts (l.drop (p + kn % 2))))), W4, (good_lst good (by rw [List.length_set, tD_len]; omega)).1, hw4.mono (by omega), ?_, fun _ => ⟨_, rfl⟩⟩
    unfold G__law_bent Z.run B__law_bent
    generalize sts (l.take p) ++ [x] ++ sts (l.drop (p + kn % 2)) = Z at *
    simp only [wip, SOut.wp, vl_int, vl_str, vl_bl, vl_non, nd2, Nat.reduceLeDiff, Nat.reduceEqDiff, not_false_eq_true, and_self, and_true, true_and, putAll, big_eq, ↓evS_for, ↓ev_lc, evS, evT, evA, ev, evL, evO, evI, Out.bind, Out.st, ofS, ofO, D.isBl, vo, put, Vl.isFr, Vl.all, biD, ds, ts, sets, List.flatMap_cons, List.flatMap_nil, List.map_cons, List.map_nil, List.append_nil, List.nil_append, vl_nil, vf_nil, frz_nil, List.getElem?_cons_zero, List.getElem?_cons_succ, List.set_cons_zero, List.set_cons_succ, Bool.false_eq_true, if_false, if_true, reduceIte, List.length_cons, List.length_nil, Nat.reduceAdd, Nat.reduceSub, List.replicate, List.cons_append, List.replicate_succ, List.replicate_zero, Option.map_some, Option.map_none, Bool.not_true, Bool.not_false, List.singleton_append, nd3, gl, hlen, e1, e2, e3, e4, i0, vth, len_th, vx, c10, c1, lt, hm, ha, t1, t2, v0, v1, v2, b1, b2, io, vf_tD] <;> try (simp only [wip, SOut.wp, vl_int, vl_str, vl_bl, vl_non, nd2, Nat.reduceLeDiff, Nat.reduceEqDiff, not_false_eq_true, and_self, and_true, true_and, putAll, big_eq, ↓evS_for, ↓ev_lc, evS, evT, evA, ev, evL, evO, evI, Out.bind, Out.st, ofS, ofO, D.isBl, vo, put, Vl.isFr, Vl.all, biD, ds, ts, sets, List.flatMap_cons, List.flatMap_nil, List.map_cons, List.map_nil, List.append_nil, List.nil_append, vl_nil, vf_nil, frz_nil, List.getElem?_cons_zero, List.getElem?_cons_succ, List.set_cons_zero, List.set_cons_succ, Bool.false_eq_true, if_false, if_true, reduceIte, List.length_cons, List.length_nil, Nat.reduceAdd, Nat.reduceSub, List.replicate, List.cons_append, List.replicate_succ, List.replicate_zero, Option.map_some, Option.map_none, Bool.not_true, Bool.not_false, List.singleton_append, nd3, gl, hlen, e1, e2, e3, e4, i0, vth, len_th, vx, c10, c1, lt, hm, ha, t1, t2, v0, v1, v2, b1, b2, io, vf_tD] <;> try simp only [wip, SOut.wp, vl_int, vl_str, vl_bl, vl_non, nd2, Nat.reduceLeDiff, Nat.reduceEqDiff, not_false_eq_true, and_self, and_true, true_and, putAll, big_eq, ↓evS_for, ↓ev_lc, evS, evT, evA, ev, evL, evO, evI, Out.bind, Out.st, ofS, ofO, D.isBl, vo, put, Vl.isFr, Vl.all, biD, ds, ts, sets, List.flatMap_cons, List.flatMap_nil, List.map_cons, List.map_nil, List.append_nil, List.nil_append, vl_nil, vf_nil, frz_nil, List.getElem?_cons_zero, List.getElem?_cons_succ, List.set_cons_zero, List.set_cons_succ, Bool.false_eq_true, if_false, if_true, reduceIte, List.length_cons, List.length_nil, Nat.reduceAdd, Nat.reduceSub, List.replicate, List.cons_append, List.replicate_succ, List.replicate_zero, Option.map_some, Option.map_none, Bool.not_true, Bool.not_false, List.singleton_append, nd3, gl, hlen, e1, e2, e3, e4, i0, vth, len_th, vx, c10, c1, lt, hm, ha, t1, t2, v0, v1, v2, b1, b2, io, vf_tD])
  · have kk : k = 3 ∨ k = 4 ∨ k = 5 ∨ k = 6 ∨ k = 7 := by omega
    have c5 : 5 ≤ cap := by decide
    have c0 : 0 ≤ cap := Nat.zero_le _
    have vls : ∀ t, vf (.lst (sts l)) t = ⟨.lst (sts l), .fr, []⟩ := fun t => vf_imm (by simp only [D.kids]; exact imm_strs _)
    rcases kk with rfl | rfl | rfl | rfl | rfl
    · have lt : cmpD .Lt (.int 3) (.int 3) = some false := rfl
      have q1 : cmpD .Eq (.int 3) (.int 3) = some true := rfl
      have t2 := th_from (l := l) (k := p)
      have gl2 : listD [th l] = some (true, .lst (sts l)) := rfl
      obtain ⟨y, W5, hy, hw5, e5⟩ := pick_ok (xs := [.tup [], .lst (sts l), .str "ab", .non, th (l.drop p)]) hw4 (by omega) (by simp) (by simp)
      have iy : Itm y := by
        simp only [List.mem_cons, List.not_mem_nil, or_false] at hy
        rcases hy with rfl | rfl | rfl | rfl | rfl
        · exact ⟨rfl, fun ys e z hz => by cases e; simp at hz⟩
        · refine ⟨?_, fun ys e => by cases e⟩
          have := (itm_th (l := l) (by omega) hof).1
          simpa only [th, D.gd] using this
        · exact ⟨by decide +kernel, fun ys e => by cases e⟩
        · exact ⟨rfl, fun ys e => by cases e⟩
        · exact itm_th (by simp only [List.length_drop]; omega) fun s hs => hof s (List.mem_of_mem_drop hs)
      refine ⟨true, .lst ((tD ls).set i y), W5, (good_lst (itm_set itms iy) (by rw [List.length_set, tD_len]; omega)).1, hw5.mono (by omega), ?_, fun _ => ⟨_, rfl⟩⟩
      unfold G__law_bent Z.run B__law_bent
      simp only [wip, SOut.wp, vl_int, vl_str, vl_bl, vl_non, nd2, Nat.reduceLeDiff, Nat.reduceEqDiff, not_false_eq_true, and_self, and_true, true_and, putAll, big_eq, ↓evS_for, ↓ev_lc, evS, evT, evA, ev, evL, evO, evI, Out.bind, Out.st, ofS, ofO, D.isBl, vo, put, Vl.isFr, Vl.all, biD, ds, ts, sets, List.flatMap_cons, List.flatMap_nil, List.map_cons, List.map_nil, List.append_nil, List.nil_append, vl_nil, vf_nil, frz_nil, List.getElem?_cons_zero, List.getElem?_cons_succ, List.set_cons_zero, List.set_cons_succ, Bool.false_eq_true, if_false, if_true, reduceIte, List.length_cons, List.length_nil, Nat.reduceAdd, Nat.reduceSub, List.replicate, List.cons_append, List.replicate_succ, List.replicate_zero, Option.map_some, Option.map_none, Bool.not_true, Bool.not_false, List.singleton_append, nd3, gl, gl2, hlen, e1, e2, e3, e4, e5, i0, vth, len_th, vx, c10, c5, c1, c0, lt, q1, t2, io, vf_tD, vls, vfd] <;> try (simp only [wip, SOut.wp, vl_int, vl_str, vl_bl, vl_non, nd2, Nat.reduceLeDiff, Nat.reduceEqDiff, not_false_eq_true, and_self, and_true, true_and, putAll, big_eq, ↓evS_for, ↓ev_lc, evS, evT, evA, ev, evL, evO, evI, Out.bind, Out.st, ofS, ofO, D.isBl, vo, put, Vl.isFr, Vl.all, biD, ds, ts, sets, List.flatMap_cons, List.flatMap_nil, List.map_cons, List.map_nil, List.append_nil, List.nil_append, vl_nil, vf_nil, frz_nil, List.getElem?_cons_zero, List.getElem?_cons_succ, List.set_cons_zero, List.set_cons_succ, Bool.false_eq_true, if_false, if_true, reduceIte, List.length_cons, List.length_nil, Nat.reduceAdd, Nat.reduceSub, List.replicate, List.cons_append, List.replicate_succ, List.replicate_zero, Option.map_some, Option.map_none, Bool.not_true, Bool.not_false, List.singleton_append, nd3, gl, gl2, hlen, e1, e2, e3, e4, e5, i0, vth, len_th, vx, c10, c5, c1, c0, lt, q1, t2, io, vf_tD, vls, vfd] <;> try simp only [wip, SOut.wp, vl_int, vl_str, vl_bl, vl_non, nd2, Nat.reduceLeDiff, Nat.reduceEqDiff, not_false_eq_true, and_self, and_true, true_and, putAll, big_eq, ↓evS_for, ↓ev_lc, evS, evT, evA, ev, evL, evO, evI, Out.bind, Out.st, ofS, ofO, D.isBl, vo, put, Vl.isFr, Vl.all, biD, ds, ts, sets, List.flatMap_cons, List.flatMap_nil, List.map_cons, List.map_nil, List.append_nil, List.nil_append, vl_nil, vf_nil, frz_nil, List.getElem?_cons_zero, List.getElem?_cons_succ, List.set_cons_zero, List.set_cons_succ, Bool.false_eq_true, if_false, if_true, reduceIte, List.length_cons, List.length_nil, Nat.reduceAdd, Nat.reduceSub, List.replicate, List.cons_append, List.replicate_succ, List.replicate_zero, Option.map_some, Option.map_none, Bool.not_true, Bool.not_false, List.singleton_append, nd3, gl, gl2, hlen, e1, e2, e3, e4, e5, i0, vth, len_th, vx, c10, c5, c1, c0, lt, q1, t2, io, vf_tD, vls, vfd])
    · have lt : cmpD .Lt (.int 4) (.int 3) = some false := rfl
      have q1 : cmpD .Eq (.int 4) (.int 3) = some false := rfl
      have q2 : cmpD .Eq (.int 4) (.int 4) = some true := rfl
      obtain ⟨r3, W5, r30, r31, hw5, e5⟩ := take_ok (n := 3) hw4 (by omega) (by omega) (by omega)
      obtain ⟨r3, rfl⟩ := Int.eq_ofNat_of_zero_le r30
      have m1 : binD .Mult (.lst (tD ls)) (.int 9) = some (true, .lst (tD (List.replicate 9 ls).flatten)) := by
        rw [← rep_tD]
        simp only [binD, big_eq]
        rw [if_pos ⟨by omega, by omega, by rw [tD_len]; simp; omega⟩]
        rfl
      have a1 : binD .Add (.int 7) (.int (r3 : Int)) = some (false, .int ((7 + r3 : Nat) : Int)) := rfl
      have s1 := tD_slt (ls := (List.replicate 9 ls).flatten) (k := 7 + r3)
      refine ⟨true, .lst (tD ((List.replicate 9 ls).flatten.take (7 + r3))), W5, (good_lst (fun y hy => ?_) (by rw [tD_len, List.length_take]; omega)).1, hw5.mono (by omega), ?_, fun _ => ⟨_, rfl⟩⟩
      · obtain ⟨k, hk, rfl⟩ := List.mem_map.mp hy
        exact itms _ (List.mem_map.mpr ⟨k, mem_rep (List.mem_of_mem_take hk), rfl⟩)
      · generalize (List.replicate 9 ls).flatten = Y9 at *
        unfold G__law_bent Z.run B__law_bent
        simp only [wip, SOut.wp, vl_int, vl_str, vl_bl, vl_non, nd2, Nat.reduceLeDiff, Nat.reduceEqDiff, not_false_eq_true, and_self, and_true, true_and, putAll, big_eq, ↓evS_for, ↓ev_lc, evS, evT, evA, ev, evL, evO, evI, Out.bind, Out.st, ofS, ofO, D.isBl, vo, put, Vl.isFr, Vl.all, biD, ds, ts, sets, List.flatMap_cons, List.flatMap_nil, List.map_cons, List.map_nil, List.append_nil, List.nil_append, vl_nil, vf_nil, frz_nil, List.getElem?_cons_zero, List.getElem?_cons_succ, List.set_cons_zero, List.set_cons_succ, Bool.false_eq_true, if_false, if_true, reduceIte, List.length_cons, List.length_nil, Nat.reduceAdd, Nat.reduceSub, List.replicate, List.cons_append, List.replicate_succ, List.replicate_zero, Option.map_some, Option.map_none, Bool.not_true, Bool.not_false, List.singleton_append, nd3, gl, hlen, e1, e2, e3, e4, e5, i0, vth, len_th, vx, c10, c1, c0, lt, q1, q2, m1, a1, s1, vf_tD, vfd] <;> try (simp only [wip, SOut.wp, vl_int, vl_str, vl_bl, vl_non, nd2, Nat.reduceLeDiff, Nat.reduceEqDiff, not_false_eq_true, and_self, and_true, true_and, putAll, big_eq, ↓evS_for, ↓ev_lc, evS, evT, evA, ev, evL, evO, evI, Out.bind, Out.st, ofS, ofO, D.isBl, vo, put, Vl.isFr, Vl.all, biD, ds, ts, sets, List.flatMap_cons, List.flatMap_nil, List.map_cons, List.map_nil, List.append_nil, List.nil_append, vl_nil, vf_nil, frz_nil, List.getElem?_cons_zero, List.getElem?_cons_succ, List.set_cons_zero, List.set_cons_succ, Bool.false_eq_true, if_false, if_true, reduceIte, List.length_cons, List.length_nil, Nat.reduceAdd, Nat.reduceSub, List.replicate, List.cons_append, List.replicate_succ, List.replicate_zero, Option.map_some, Option.map_none, Bool.not_true, Bool.not_false, List.singleton_append, nd3, gl, hlen, e1, e2, e3, e4, e5, i0, vth, len_th, vx, c10, c1, c0, lt, q1, q2, m1, a1, s1, vf_tD, vfd] <;> try simp only [wip, SOut.wp, vl_int, vl_str, vl_bl, vl_non, nd2, Nat.reduceLeDiff, Nat.reduceEqDiff, not_false_eq_true, and_self, and_true, true_and, putAll, big_eq, ↓evS_for, ↓ev_lc, evS, evT, evA, ev, evL, evO, evI, Out.bind, Out.st, ofS, ofO, D.isBl, vo, put, Vl.isFr, Vl.all, biD, ds, ts, sets, List.flatMap_cons, List.flatMap_nil, List.map_cons, List.map_nil, List.append_nil, List.nil_append, vl_nil, vf_nil, frz_nil, List.getElem?_cons_zero, List.getElem?_cons_succ, List.set_cons_zero, List.set_cons_succ, Bool.false_eq_true, if_false, if_true, reduceIte, List.length_cons, List.length_nil, Nat.reduceAdd, Nat.reduceSub, List.replicate, List.cons_append, List.replicate_succ, List.replicate_zero, Option.map_some, Option.map_none, Bool.not_true, Bool.not_false, List.singleton_append, nd3, gl, hlen, e1, e2, e3, e4, e5, i0, vth, len_th, vx, c10, c1, c0, lt, q1, q2, m1, a1, s1, vf_tD, vfd])
    · have lt : cmpD .Lt (.int 5) (.int 3) = some false := rfl
      have q1 : cmpD .Eq (.int 5) (.int 3) = some false := rfl
      have q2 : cmpD .Eq (.int 5) (.int 4) = some false := rfl
      have q4 : cmpD .Eq (.int 5) (.int 5) = some true := rfl
      obtain ⟨r3, W5, r30, r31, hw5, e5⟩ := take_ok (n := 5) hw4 (by omega) (by omega) (by omega)
      obtain ⟨r3, rfl⟩ := Int.eq_ofNat_of_zero_le r30
      have m1 : binD .Mult (th l) (.int 60) = some (false, th (List.replicate 60 l).flatten) := by
        unfold th
        rw [← rep_sts]
        simp only [binD]
        rw [if_pos ⟨by simpa [sts] using hne, by omega, by omega, by simp only [sts, List.length_map]; omega⟩]
        rfl
      have a1 : binD .Add (.int 58) (.int (r3 : Int)) = some (false, .int ((58 + r3 : Nat) : Int)) := rfl
      have s1 := th_to (l := (List.replicate 60 l).flatten) (k := 58 + r3)
      refine ⟨true, .lst ((tD ls).set i (th ((List.replicate 60 l).flatten.take (58 + r3)))), W5, (good_lst (itm_set itms (itm_th (by rw [List.length_take]; omega) fun s hs => hof s (mem_rep (List.mem_of_mem_take hs)))) (by rw [List.length_set, tD_len]; omega)).1, hw5.mono (by omega), ?_, fun _ => ⟨_, rfl⟩⟩
      generalize (List.replicate 60 l).flatten = Y9 at *
      unfold G__law_bent Z.run B__law_bent
      simp only [wip, SOut.wp, vl_int, vl_str, vl_bl, vl_non, nd2, Nat.reduceLeDiff, Nat.reduceEqDiff, not_false_eq_true, and_self, and_true, true_and, putAll, big_eq, ↓evS_for, ↓ev_lc, evS, evT, evA, ev, evL, evO, evI, Out.bind, Out.st, ofS, ofO, D.isBl, vo, put, Vl.isFr, Vl.all, biD, ds, ts, sets, List.flatMap_cons, List.flatMap_nil, List.map_cons, List.map_nil, List.append_nil, List.nil_append, vl_nil, vf_nil, frz_nil, List.getElem?_cons_zero, List.getElem?_cons_succ, List.set_cons_zero, List.set_cons_succ, Bool.false_eq_true, if_false, if_true, reduceIte, List.length_cons, List.length_nil, Nat.reduceAdd, Nat.reduceSub, List.replicate, List.cons_append, List.replicate_succ, List.replicate_zero, Option.map_some, Option.map_none, Bool.not_true, Bool.not_false, List.singleton_append, nd3, gl, hlen, e1, e2, e3, e4, e5, i0, vth, len_th, vx, c10, c1, c0, lt, q1, q2, q4, m1, a1, s1, io, vf_tD, vfd] <;> try (simp only [wip, SOut.wp, vl_int, vl_str, vl_bl, vl_non, nd2, Nat.reduceLeDiff, Nat.reduceEqDiff, not_false_eq_true, and_self, and_true, true_and, putAll, big_eq, ↓evS_for, ↓ev_lc, evS, evT, evA, ev, evL, evO, evI, Out.bind, Out.st, ofS, ofO, D.isBl, vo, put, Vl.isFr, Vl.all, biD, ds, ts, sets, List.flatMap_cons, List.flatMap_nil, List.map_cons, List.map_nil, List.append_nil, List.nil_append, vl_nil, vf_nil, frz_nil, List.getElem?_cons_zero, List.getElem?_cons_succ, List.set_cons_zero, List.set_cons_succ, Bool.false_eq_true, if_false, if_true, reduceIte, List.length_cons, List.length_nil, Nat.reduceAdd, Nat.reduceSub, List.replicate, List.cons_append, List.replicate_succ, List.replicate_zero, Option.map_some, Option.map_none, Bool.not_true, Bool.not_false, List.singleton_append, nd3, gl, hlen, e1, e2, e3, e4, e5, i0, vth, len_th, vx, c10, c1, c0, lt, q1, q2, q4, m1, a1, s1, io, vf_tD, vfd] <;> try simp only [wip, SOut.wp, vl_int, vl_str, vl_bl, vl_non, nd2, Nat.reduceLeDiff, Nat.reduceEqDiff, not_false_eq_true, and_self, and_true, true_and, putAll, big_eq, ↓evS_for, ↓ev_lc, evS, evT, evA, ev, evL, evO, evI, Out.bind, Out.st, ofS, ofO, D.isBl, vo, put, Vl.isFr, Vl.all, biD, ds, ts, sets, List.flatMap_cons, List.flatMap_nil, List.map_cons, List.map_nil, List.append_nil, List.nil_append, vl_nil, vf_nil, frz_nil, List.getElem?_cons_zero, List.getElem?_cons_succ, List.set_cons_zero, List.set_cons_succ, Bool.false_eq_true, if_false, if_true, reduceIte, List.length_cons, List.length_nil, Nat.reduceAdd, Nat.reduceSub, List.replicate, List.cons_append, List.replicate_succ, List.replicate_zero, Option.map_some, Option.map_none, Bool.not_true, Bool.not_false, List.singleton_append, nd3, gl, hlen, e1, e2, e3, e4, e5, i0, vth, len_th, vx, c10, c1, c0, lt, q1, q2, q4, m1, a1, s1, io, vf_tD, vfd])
    · have lt : cmpD .Lt (.int 6) (.int 3) = some false := rfl
      have q1 : cmpD .Eq (.int 6) (.int 3) = some false := rfl
      have q2 : cmpD .Eq (.int 6) (.int 4) = some false := rfl
      have q4 : cmpD .Eq (.int 6) (.int 5) = some false := rfl
      have q5 : cmpD .Eq (.int 6) (.int 6) = some true := rfl
      obtain ⟨l0, dh⟩ : ∃ l0, ∀ W, pureG dicHeadD [.lst (tD ls)] W = .ok (false, .dic false [(.int 0, th l0)]) W := by
        match ls, h1 with
        | l0 :: r, _ => exact ⟨l0, fun W => pureG_some rfl⟩
      have gt : tupleD [.lst (tD ls)] = some (false, .tup (tD ls)) := rfl
      have vtt : ∀ t, vl (.tup (tD ls)) t = ⟨.tup (tD ls), .pl, []⟩ := fun t => vl_imm (by simp only [D.imm]; exact immL_tD _)
      obtain ⟨y, W5, hy, hw5, e5⟩ := pick_ok (xs := [.tup (tD ls), .dic false [(.int 0, th l0)], th l, .str "ab", .lst []]) hw4 (by omega) (by simp) (by simp)
      have gy : Good y := by
        have gb := good_lst itms (by rw [tD_len]; omega)
        simp only [List.mem_cons, List.not_mem_nil, or_false] at hy
        rcases hy with rfl | rfl | rfl | rfl | rfl
        · exact gb.2
        · exact ⟨rfl, fun xs e => by rcases e with e | e <;> cases e⟩
        · refine ⟨(itm_th (by omega) hof).1, fun xs e => ?_⟩
          rcases e with e | e <;> cases e
          intro y hy
          obtain ⟨s, hs, rfl⟩ := List.mem_map.mp hy
          have := hof s hs
          simp only [isColor, Bool.and_eq_true, decide_eq_true_eq] at this
          exact ⟨by simp only [D.gd, decide_eq_true_eq]; omega, fun ys e => by cases e⟩
        · exact good_str (by decide +kernel)
        · exact (good_lst (xs := []) (by simp) (by simp)).1
      refine ⟨false, y, W5, gy, hw5.mono (by omega), ?_, fun z => by cases z⟩
      unfold G__law_bent Z.run B__law_bent
      simp only [wip, SOut.wp, vl_int, vl_str, vl_bl, vl_non, nd2, Nat.reduceLeDiff, Nat.reduceEqDiff, not_false_eq_true, and_self, and_true, true_and, putAll, big_eq, ↓evS_for, ↓ev_lc, evS, evT, evA, ev, evL, evO, evI, Out.bind, Out.st, ofS, ofO, D.isBl, vo, put, Vl.isFr, Vl.all, biD, ds, ts, sets, List.flatMap_cons, List.flatMap_nil, List.map_cons, List.map_nil, List.append_nil, List.nil_append, vl_nil, vf_nil, frz_nil, List.getElem?_cons_zero, List.getElem?_cons_succ, List.set_cons_zero, List.set_cons_succ, Bool.false_eq_true, if_false, if_true, reduceIte, List.length_cons, List.length_nil, Nat.reduceAdd, Nat.reduceSub, List.replicate, List.cons_append, List.replicate_succ, List.replicate_zero, Option.map_some, Option.map_none, Bool.not_true, Bool.not_false, List.singleton_append, nd3, gl, gt, vtt, dh, hlen, e1, e2, e3, e4, e5, i0, vth, len_th, vx, c10, c5, c1, c0, lt, q1, q2, q4, q5, vf_tD, vfd, vld, vlk] <;> try (simp only [wip, SOut.wp, vl_int, vl_str, vl_bl, vl_non, nd2, Nat.reduceLeDiff, Nat.reduceEqDiff, not_false_eq_true, and_self, and_true, true_and, putAll, big_eq, ↓evS_for, ↓ev_lc, evS, evT, evA, ev, evL, evO, evI, Out.bind, Out.st, ofS, ofO, D.isBl, vo, put, Vl.isFr, Vl.all, biD, ds, ts, sets, List.flatMap_cons, List.flatMap_nil, List.map_cons, List.map_nil, List.append_nil, List.nil_append, vl_nil, vf_nil, frz_nil, List.getElem?_cons_zero, List.getElem?_cons_succ, List.set_cons_zero, List.set_cons_succ, Bool.false_eq_true, if_false, if_true, reduceIte, List.length_cons, List.length_nil, Nat.reduceAdd, Nat.reduceSub, List.replicate, List.cons_append, List.replicate_succ, List.replicate_zero, Option.map_some, Option.map_none, Bool.not_true, Bool.not_false, List.singleton_append, nd3, gl, gt, vtt, dh, hlen, e1, e2, e3, e4, e5, i0, vth, len_th, vx, c10, c5, c1, c0, lt, q1, q2, q4, q5, vf_tD, vfd, vld, vlk] <;> try simp only [wip, SOut.wp, vl_int, vl_str, vl_bl, vl_non, nd2, Nat.reduceLeDiff, Nat.reduceEqDiff, not_false_eq_true, and_self, and_true, true_and, putAll, big_eq, ↓evS_for, ↓ev_lc, evS, evT, evA, ev, evL, evO, evI, Out.bind, Out.st, ofS, ofO, D.isBl, vo, put, Vl.isFr, Vl.all, biD, ds, ts, sets, List.flatMap_cons, List.flatMap_nil, List.map_cons, List.map_nil, List.append_nil, List.nil_append, vl_nil, vf_nil, frz_nil, List.getElem?_cons_zero, List.getElem?_cons_succ, List.set_cons_zero, List.set_cons_succ, Bool.false_eq_true, if_false, if_true, reduceIte, List.length_cons, List.length_nil, Nat.reduceAdd, Nat.reduceSub, List.replicate, List.cons_append, List.replicate_succ, List.replicate_zero, Option.map_some, Option.map_none, Bool.not_true, Bool.not_false, List.singleton_append, nd3, gl, gt, vtt, dh, hlen, e1, e2, e3, e4, e5, i0, vth, len_th, vx, c10, c5, c1, c0, lt, q1, q2, q4, q5, vf_tD, vfd, vld, vlk])
    · have lt : cmpD .Lt (.int 7) (.int 3) = some false := rfl
      have q1 : cmpD .Eq (.int 7) (.int 3) = some false := rfl
      have q2 : cmpD .Eq (.int 7) (.int 4) = some false := rfl
      have q4 : cmpD .Eq (.int 7) (.int 5) = some false := rfl
      have q5 : cmpD .Eq (.int 7) (.int 6) = some false := rfl
      have s1 := tD_slt (ls := ls) (k := i)
      have a1 : binD .Add (.int (i : Int)) (.int 1) = some (false, .int ((i + 1 : Nat) : Int)) := rfl
      have s2 := tD_slf (ls := ls) (k := i + 1)
      have a2 := tD_app (a := ls.take i) (b := ls.drop (i + 1)) (by simp only [List.length_take, List.length_drop]; omega)
      refine ⟨true, .lst (tD (ls.take i ++ ls.drop (i + 1))), W4, (good_lst (fun y hy => ?_) (by rw [tD_len]; simp only [List.length_append, List.length_take, List.length_drop]; omega)).1, hw4.mono (by omega), ?_, fun _ => ⟨_, rfl⟩⟩
      · obtain ⟨k, hk, rfl⟩ := List.mem_map.mp hy
        refine itms _ (List.mem_map.mpr ⟨k, ?_, rfl⟩)
        rcases List.mem_append.mp hk with m | m
        · exact List.mem_of_mem_take m
        · exact List.mem_of_mem_drop m
      · unfold G__law_bent Z.run B__law_bent
        simp only [wip, SOut.wp, vl_int, vl_str, vl_bl, vl_non, nd2, Nat.reduceLeDiff, Nat.reduceEqDiff, not_false_eq_true, and_self, and_true, true_and, putAll, big_eq, ↓evS_for, ↓ev_lc, evS, evT, evA, ev, evL, evO, evI, Out.bind, Out.st, ofS, ofO, D.isBl, vo, put, Vl.isFr, Vl.all, biD, ds, ts, sets, List.flatMap_cons, List.flatMap_nil, List.map_cons, List.map_nil, List.append_nil, List.nil_append, vl_nil, vf_nil, frz_nil, List.getElem?_cons_zero, List.getElem?_cons_succ, List.set_cons_zero, List.set_cons_succ, Bool.false_eq_true, if_false, if_true, reduceIte, List.length_cons, List.length_nil, Nat.reduceAdd, Nat.reduceSub, List.replicate, List.cons_append, List.replicate_succ, List.replicate_zero, Option.map_some, Option.map_none, Bool.not_true, Bool.not_false, List.singleton_append, nd3, gl, hlen, e1, e2, e3, e4, i0, vth, len_th, vx, c10, c1, c0, lt, q1, q2, q4, q5, s1, a1, s2, a2, vf_tD, vfd] <;> try (simp only [wip, SOut.wp, vl_int, vl_str, vl_bl, vl_non, nd2, Nat.reduceLeDiff, Nat.reduceEqDiff, not_false_eq_true, and_self, and_true, true_and, putAll, big_eq, ↓evS_for, ↓ev_lc, evS, evT, evA, ev, evL, evO, evI, Out.bind, Out.st, ofS, ofO, D.isBl, vo, put, Vl.isFr, Vl.all, biD, ds, ts, sets, List.flatMap_cons, List.flatMap_nil, List.map_cons, List.map_nil, List.append_nil, List.nil_append, vl_nil, vf_nil, frz_nil, List.getElem?_cons_zero, List.getElem?_cons_succ, List.set_cons_zero, List.set_cons_succ, Bool.false_eq_true, if_false, if_true, reduceIte, List.length_cons, List.length_nil, Nat.reduceAdd, Nat.reduceSub, List.replicate, List.cons_append, List.replicate_succ, List.replicate_zero, Option.map_some, Option.map_none, Bool.not_true, Bool.not_false, List.singleton_append, nd3, gl, hlen, e1, e2, e3, e4, i0, vth, len_th, vx, c10, c1, c0, lt, q1, q2, q4, q5, s1, a1, s2, a2, vf_tD, vfd] <;> try simp only [wip, SOut.wp, vl_int, vl_str, vl_bl, vl_non, nd2, Nat.reduceLeDiff, Nat.reduceEqDiff, not_false_eq_true, and_self, and_true, true_and, putAll, big_eq, ↓evS_for, ↓ev_lc, evS, evT, evA, ev, evL, evO, evI, Out.bind, Out.st, ofS, ofO, D.isBl, vo, put, Vl.isFr, Vl.all, biD, ds, ts, sets, List.flatMap_cons, List.flatMap_nil, List.map_cons, List.map_nil, List.append_nil, List.nil_append, vl_nil, vf_nil, frz_nil, List.getElem?_cons_zero, List.getElem?_cons_succ, List.set_cons_zero, List.set_cons_succ, Bool.false_eq_true, if_false, if_true, reduceIte, List.length_cons, List.length_nil, Nat.reduceAdd, Nat.reduceSub, List.replicate, List.cons_append, List.replicate_succ, List.replicate_zero, Option.map_some, Option.map_none, Bool.not_true, Bool.not_false, List.singleton_append, nd3, gl, hlen, e1, e2, e3, e4, i0, vth, len_th, vx, c10, c1, c0, lt, q1, q2, q4, q5, s1, a1, s2, a2, vf_tD, vfd])
end Qk02

namespace Qk02
open PySem Z
def okRow (y : D) : Bool := y.gd && (match y with | .tup ys => ys.all fun z => (D.pyN 11 z).isSome | _ => true)
def okB (x : D) : Bool := x.gd && (match x with | .lst xs => xs.all okRow | .tup xs => xs.all okRow | _ => true)
theorem okRow_itm {y : D} (h : okRow y = true) : Itm y := by
  simp only [okRow, Bool.and_eq_true] at h
  refine ⟨h.1, fun ys e z hz => ?_⟩
  subst e
  exact Option.isSome_iff_exists.mp (List.all_eq_true.mp h.2 z hz)
theorem okB_good {x : D} (h : okB x = true) : Good x := by
  simp only [okB, Bool.and_eq_true] at h
  refine ⟨h.1, fun xs e y hy => ?_⟩
  rcases e with rfl | rfl <;> exact okRow_itm (List.all_eq_true.mp h.2 y hy)
theorem odd_good : ∀ x ∈ oddL, okB x = true := by decide +kernel
theorem repr2 (b : Bool) : ∃ z : Str, ∀ W, pureG reprAnyD [.lst [.bl b, .bl b]] W = .ok (false, .str z) W :=
  ⟨(PyData.list [.bool b, .bool b]).shown, fun W => pureG_some (by
    have e : pdOf (.lst [.bl b, .bl b]) = some (PyData.list [.bool b, .bool b]) := rfl
    simp only [reprAnyD, e, Option.bind_some]
    rw [if_pos ⟨by cases b <;> decide +kernel, by cases b <;> decide +kernel, by cases b <;> decide +kernel⟩])⟩
theorem each1 {y : D} {s0 s1 s2 s3 s4 s5 s6 s7 s8 : Sl} {W : Dr} (h : y.gd = true) : forOne 1000000 B_law_2 (.nm 8) y [s0, s1, s2, s3, s4, s5, s6, s7, s8] W = .nx [s0, s1, s2, s3, s4, s5, s6, s7, .un] W := by
  have e1 := is_color_ok (W := W) h
  have e2 := is_hue_ok (W := W) h
  have pk : ∀ d : D, pick [0] [d] = [d] := fun _ => rfl
  have c1 : 1 ≤ cap := by decide
  have c2 : 2 ≤ cap := by decide
  generalize isColorD y = b at *
  obtain ⟨z, hz⟩ := repr2 b
  have m : binD .Mult (.lst [.bl b]) (.int 2) = some (true, .lst [.bl b, .bl b]) := by
    simp only [binD, big_eq]
    rw [if_pos ⟨by omega, by omega, by simp⟩]
    rfl
  have ne : cmpD .NotEq (.str z) (.str z) = some false := ne_same pd_str
  unfold forOne B_law_2
  simp only [wip, SOut.wp, vl_int, vl_str, vl_bl, vl_non, nd2, Nat.reduceLeDiff, Nat.reduceEqDiff, not_false_eq_true, and_self, and_true, true_and, putAll, big_eq, ↓evS_for, ↓ev_lc, evS, evT, evA, ev, evL, evO, evI, Out.bind, Out.st, ofS, ofO, D.isBl, vo, put, Vl.isFr, Vl.all, biD, ds, ts, sets, List.flatMap_cons, List.flatMap_nil, List.map_cons, List.map_nil, List.append_nil, List.nil_append, vl_nil, vf_nil, frz_nil, List.getElem?_cons_zero, List.getElem?_cons_succ, List.set_cons_zero, List.set_cons_succ, Bool.false_eq_true, if_false, if_true, reduceIte, List.length_cons, List.length_nil, Nat.reduceAdd, Nat.reduceSub, List.replicate, List.cons_append, List.replicate_succ, List.replicate_zero, Option.map_some, Option.map_none, Bool.not_true, Bool.not_false, List.singleton_append, bindP, e1, e2, pk, c1, c2, m, hz, ne, vfd] <;> try (simp only [wip, SOut.wp, vl_int, vl_str, vl_bl, vl_non, nd2, Nat.reduceLeDiff, Nat.reduceEqDiff, not_false_eq_true, and_self, and_true, true_and, putAll, big_eq, ↓evS_for, ↓ev_lc, evS, evT, evA, ev, evL, evO, evI, Out.bind, Out.st, ofS, ofO, D.isBl, vo, put, Vl.isFr, Vl.all, biD, ds, ts, sets, List.flatMap_cons, List.flatMap_nil, List.map_cons, List.map_nil, List.append_nil, List.nil_append, vl_nil, vf_nil, frz_nil, List.getElem?_cons_zero, List.getElem?_cons_succ, List.set_cons_zero, List.set_cons_succ, Bool.false_eq_true, if_false, if_true, reduceIte, List.length_cons, List.length_nil, Nat.reduceAdd, Nat.reduceSub, List.replicate, List.cons_append, List.replicate_succ, List.replicate_zero, Option.map_some, Option.map_none, Bool.not_true, Bool.not_false, List.singleton_append, bindP, e1, e2, pk, c1, c2, m, hz, ne, vfd] <;> try simp only [wip, SOut.wp, vl_int, vl_str, vl_bl, vl_non, nd2, Nat.reduceLeDiff, Nat.reduceEqDiff, not_false_eq_true, and_self, and_true, true_and, putAll, big_eq, ↓evS_for, ↓ev_lc, evS, evT, evA, ev, evL, evO, evI, Out.bind, Out.st, ofS, ofO, D.isBl, vo, put, Vl.isFr, Vl.all, biD, ds, ts, sets, List.flatMap_cons, List.flatMap_nil, List.map_cons, List.map_nil, List.append_nil, List.nil_append, vl_nil, vf_nil, frz_nil, List.getElem?_cons_zero, List.getElem?_cons_succ, List.set_cons_zero, List.set_cons_succ, Bool.false_eq_true, if_false, if_true, reduceIte, List.length_cons, List.length_nil, Nat.reduceAdd, Nat.reduceSub, List.replicate, List.cons_append, List.replicate_succ, List.replicate_zero, Option.map_some, Option.map_none, Bool.not_true, Bool.not_false, List.singleton_append, bindP, e1, e2, pk, c1, c2, m, hz, ne, vfd])
def letters : List Nat := abc.cps.toList
theorem letter_ok : ∀ c ∈ letters, isColor ⟨#[c]⟩ = true ∧ isColor (repS ⟨#[c]⟩ 4) = true := by decide +kernel
theorem letter_ded : ∀ c ∈ letters, ded [⟨#[c]⟩, repS ⟨#[c]⟩ 4] = [⟨#[c]⟩, repS ⟨#[c]⟩ 4] := by decide +kernel
theorem letter_le : ∀ c ∈ letters, leD (.str ⟨#[c]⟩) (.str (repS ⟨#[c]⟩ 4)) = true := by decide +kernel
theorem letter_hues {c : Nat} (hc : c ∈ letters) : hues [[⟨#[c]⟩, repS ⟨#[c]⟩ 4]] = [⟨#[c]⟩, repS ⟨#[c]⟩ 4] := by
  have h1 := letter_ded c hc
  have h2 := letter_le c hc
  have e : ([[⟨#[c]⟩, repS ⟨#[c]⟩ 4]] : List (List Str)).flatten = [⟨#[c]⟩, repS ⟨#[c]⟩ 4] := rfl
  unfold hues srt
  rw [e, h1]
  exact sortBy_eq (dec := D.str) (fun a b h => toks_str h) (List.Perm.refl _) (List.pairwise_cons.mpr ⟨fun b hb => by rw [List.mem_singleton.mp hb]; exact h2, List.pairwise_cons.mpr ⟨fun b hb => by simp at hb, List.Pairwise.nil⟩⟩)
theorem pick_letter {T : Nat} {W : Dr} (h : Wd T W) (hT : T ≤ 1099511627776) : ∃ c W', c ∈ letters ∧ Wd (T + 1) W' ∧ G__law_pick [.drw, .str "abcdefghijklmnopqrstuvwxyz"] W = .ok (false, .str ⟨#[c]⟩) W' := by
  have hll : letters.length = 26 := by decide +kernel
  obtain ⟨r, W1, r0, r1, hw, e1⟩ := take_ok (n := 26) h hT (by omega) (by omega)
  obtain ⟨i, rfl⟩ := Int.eq_ofNat_of_zero_le r0
  have hi : i < letters.length := by omega
  have hlen : lenD [.str "abcdefghijklmnopqrstuvwxyz"] = some (false, .int 26) := by
    have : (Str.ofString "abcdefghijklmnopqrstuvwxyz").length = 26 := by decide +kernel
    simp only [lenD, this]
    rfl
  have hix : ixD (.str "abcdefghijklmnopqrstuvwxyz") (.int (i : Int)) = some (.str ⟨#[letters[i]]⟩) := by
    simp only [ixD]
    rw [if_pos (by decide +kernel), show (Str.ofString "abcdefghijklmnopqrstuvwxyz").cps.toList = letters from rfl, atD_nat hi]
    rfl
  refine ⟨letters[i], W1, List.getElem_mem hi, hw, ?_⟩
  unfold G__law_pick Z.run B__law_pick
  simp only [wip, SOut.wp, vl_int, vl_str, vl_bl, vl_non, nd2, Nat.reduceLeDiff, Nat.reduceEqDiff, not_false_eq_true, and_self, and_true, true_and, putAll, big_eq, ↓evS_for, ↓ev_lc, evS, evT, evA, ev, evL, evO, evI, Out.bind, Out.st, ofS, ofO, D.isBl, vo, put, Vl.isFr, Vl.all, biD, ds, ts, sets, List.flatMap_cons, List.flatMap_nil, List.map_cons, List.map_nil, List.append_nil, List.nil_append, vl_nil, vf_nil, frz_nil, List.getElem?_cons_zero, List.getElem?_cons_succ, List.set_cons_zero, List.set_cons_succ, Bool.false_eq_true, if_false, if_true, reduceIte, List.length_cons, List.length_nil, Nat.reduceAdd, Nat.reduceSub, List.replicate, List.cons_append, List.replicate_succ, List.replicate_zero, Option.map_some, Option.map_none, Bool.not_true, Bool.not_false, List.singleton_append, hlen, e1, hix] <;> try (simp only [wip, SOut.wp, vl_int, vl_str, vl_bl, vl_non, nd2, Nat.reduceLeDiff, Nat.reduceEqDiff, not_false_eq_true, and_self, and_true, true_and, putAll, big_eq, ↓evS_for, ↓ev_lc, evS, evT, evA, ev, evL, evO, evI, Out.bind, Out.st, ofS, ofO, D.isBl, vo, put, Vl.isFr, Vl.all, biD, ds, ts, sets, List.flatMap_cons, List.flatMap_nil, List.map_cons, List.map_nil, List.append_nil, List.nil_append, vl_nil, vf_nil, frz_nil, List.getElem?_cons_zero, List.getElem?_cons_succ, List.set_cons_zero, List.set_cons_succ, Bool.false_eq_true, if_false, if_true, reduceIte, List.length_cons, List.length_nil, Nat.reduceAdd, Nat.reduceSub, List.replicate, List.cons_append, List.replicate_succ, List.replicate_zero, Option.map_some, Option.map_none, Bool.not_true, Bool.not_false, List.singleton_append, hlen, e1, hix] <;> try simp only [wip, SOut.wp, vl_int, vl_str, vl_bl, vl_non, nd2, Nat.reduceLeDiff, Nat.reduceEqDiff, not_false_eq_true, and_self, and_true, true_and, putAll, big_eq, ↓evS_for, ↓ev_lc, evS, evT, evA, ev, evL, evO, evI, Out.bind, Out.st, ofS, ofO, D.isBl, vo, put, Vl.isFr, Vl.all, biD, ds, ts, sets, List.flatMap_cons, List.flatMap_nil, List.map_cons, List.map_nil, List.append_nil, List.nil_append, vl_nil, vf_nil, frz_nil, List.getElem?_cons_zero, List.getElem?_cons_succ, List.set_cons_zero, List.set_cons_succ, Bool.false_eq_true, if_false, if_true, reduceIte, List.length_cons, List.length_nil, Nat.reduceAdd, Nat.reduceSub, List.replicate, List.cons_append, List.replicate_succ, List.replicate_zero, Option.map_some, Option.map_none, Bool.not_true, Bool.not_false, List.singleton_append, hlen, e1, hix])
def S3 (d : D) (s : Sl) : Prop := s = .own d ∨ s = .val d
theorem tail3 {ls : List (List Str)} {x : D} {c : Nat} {s0 s2 s3 s4 s5 s8 : Sl} {W : Dr} (hls : Lnc ls) (h3 : S3 (.lst (tD ls)) s3) (hx : okB x = true) (hc : c ∈ letters) :
    evS 1000000 B_law_3 [s0, .val .drw, s2, s3, s4, s5, .val x, .val (.str ⟨#[c]⟩), s8] W = .nx [s0, .val .drw, s2, .un, s4, s5, .val x, .un, .un] W := by
  have gx := okB_good hx
  have h1 := hls.one
  obtain ⟨a, l, r, rfl⟩ : ∃ a l r, ls = (a :: l) :: r := by
    match ls, h1, hls.ne with
    | l0 :: r, _, ne =>
      match l0, ne l0 (by simp) with
      | a :: l, _ => exact ⟨a, l, r, rfl⟩
  have ca := hls.of (a :: l) (by simp) a (by simp)
  have i0 : ixD (.lst (tD ((a :: l) :: r))) (.int 0) = some (th (a :: l)) := tD_ix (ls := (a :: l) :: r) (i := 0) (by simp)
  have i1 : ixD (th (a :: l)) (.int 0) = some (.str a) := by
    show ixD (.tup (sts (a :: l))) (.int ((0 : Nat) : Int)) = _
    simp only [ixD]
    rw [atD_nat (by simp [sts])]
    rfl
  have vth : ∀ l t, vl (th l) t = ⟨th l, .pl, []⟩ := fun l t => vl_imm imm_th
  have gstr : ∀ s : Str, isColor s = true → (D.str s).gd = true := fun s hs => by
    simp only [isColor, Bool.and_eq_true, decide_eq_true_eq] at hs
    simp only [D.gd, decide_eq_true_eq]; omega
  have cl := (letter_ok c hc).1
  have b1 : binD .Add (.str ⟨#[c]⟩) (.str "h") = some (false, .str (⟨#[c]⟩ ++ "h")) := by
    simp only [binD]
    rw [if_pos (by rw [show (⟨#[c]⟩ : Str).length = 1 from rfl, show (Str.ofString "h").length = 1 by decide +kernel]; omega)]
  have l2 : ((⟨#[c]⟩ : Str) ++ Str.ofString "h").length = 2 := rfl
  have b2 : binD .Add (.str (⟨#[c]⟩ ++ "h")) (.str ⟨#[c]⟩) = some (false, .str (⟨#[c]⟩ ++ "h" ++ ⟨#[c]⟩)) := by
    simp only [binD]
    rw [if_pos (by rw [l2, show (⟨#[c]⟩ : Str).length = 1 from rfl]; omega)]
  have g3 : (D.str (⟨#[c]⟩ ++ "h" ++ ⟨#[c]⟩)).gd = true := by
    simp only [D.gd, decide_eq_true_eq]
    show 3 ≤ 16777216
    omega
  have c7 : 7 ≤ cap := by decide
  have hall : ∀ y ∈ [x, .str a, .str "abcd", .str "abcde", .str "zzzz", .str ⟨#[c]⟩, .str (⟨#[c]⟩ ++ "h" ++ ⟨#[c]⟩)], y.gd = true := fun y hy => by
    simp only [List.mem_cons, List.not_mem_nil, or_false] at hy
    rcases hy with rfl | rfl | rfl | rfl | rfl | rfl | rfl
    · exact gx.gd
    · exact gstr a ca
    · decide +kernel
    · decide +kernel
    · decide +kernel
    · exact gstr _ cl
    · exact g3
  have lp : ∀ s3, forGo (forOne 1000000 B_law_2 (.nm 8)) [x, .str a, .str "abcd", .str "abcde", .str "zzzz", .str ⟨#[c]⟩, .str (⟨#[c]⟩ ++ "h" ++ ⟨#[c]⟩)] [s0, .val .drw, s2, s3, s4, s5, .val x, .val (.str ⟨#[c]⟩), .un] W = .nx [s0, .val .drw, s2, s3, s4, s5, .val x, .val (.str ⟨#[c]⟩), .un] W := fun s3 => by
    have := for_pre0 id (fun _ => [s0, .val .drw, s2, s3, s4, s5, .val x, .val (.str ⟨#[c]⟩), .un]) (f := forOne 1000000 B_law_2 (.nm 8)) (W := W) (xs := [x, .str a, .str "abcd", .str "abcde", .str "zzzz", .str ⟨#[c]⟩, .str (⟨#[c]⟩ ++ "h" ++ ⟨#[c]⟩)]) fun q y r e => .inl (each1 (hall y (by rw [e]; simp)))
    rwa [List.map_id] at this
  have hit : ∀ xs : List D, (D.lst xs).items = some xs := fun _ => rfl
  have es := are_strands_ok (W := W) gx.gd gx.it
  generalize hz : (⟨#[c]⟩ : Str) ++ Str.ofString "h" ++ ⟨#[c]⟩ = Z3 at *
  have tt : (D.exc "NoState" []).typed = true := rfl
  have t2 : [Ty_NoState].any (isD1 (.exc "NoState" [])) = true := by simp [isD1, Ty_NoState]
  have key : (if areD x = true then True else G_State [x] W = .ex (.exc "NoState" []) W) := by
    cases ha : areD x with
    | true => simp
    | false => simpa using State_no gx.gd ha
  cases ha : areD x with
  | true =>
    rw [ha] at es
    rcases h3 with rfl | rfl
    · unfold B_law_3
      simp only [wip, SOut.wp, vl_int, vl_str, vl_bl, vl_non, nd2, Nat.reduceLeDiff, Nat.reduceEqDiff, not_false_eq_true, and_self, and_true, true_and, putAll, big_eq, ↓evS_for, ↓ev_lc, evS, evT, evA, ev, evL, evO, evI, Out.bind, Out.st, ofS, ofO, D.isBl, vo, put, Vl.isFr, Vl.all, biD, ds, ts, sets, List.flatMap_cons, List.flatMap_nil, List.map_cons, List.map_nil, List.append_nil, List.nil_append, vl_nil, vf_nil, frz_nil, List.getElem?_cons_zero, List.getElem?_cons_succ, List.set_cons_zero, List.set_cons_succ, Bool.false_eq_true, if_false, if_true, reduceIte, List.length_cons, List.length_nil, Nat.reduceAdd, Nat.reduceSub, List.replicate, List.cons_append, List.replicate_succ, List.replicate_zero, Option.map_some, Option.map_none, Bool.not_true, Bool.not_false, List.singleton_append, i0, i1, vth, b1, b2, c7, vf_nil, hit, lp, es] <;> try (simp only [wip, SOut.wp, vl_int, vl_str, vl_bl, vl_non, nd2, Nat.reduceLeDiff, Nat.reduceEqDiff, not_false_eq_true, and_self, and_true, true_and, putAll, big_eq, ↓evS_for, ↓ev_lc, evS, evT, evA, ev, evL, evO, evI, Out.bind, Out.st, ofS, ofO, D.isBl, vo, put, Vl.isFr, Vl.all, biD, ds, ts, sets, List.flatMap_cons, List.flatMap_nil, List.map_cons, List.map_nil, List.append_nil, List.nil_append, vl_nil, vf_nil, frz_nil, List.getElem?_cons_zero, List.getElem?_cons_succ, List.set_cons_zero, List.set_cons_succ, Bool.false_eq_true, if_false, if_true, reduceIte, List.length_cons, List.length_nil, Nat.reduceAdd, Nat.reduceSub, List.replicate, List.cons_append, List.replicate_succ, List.replicate_zero, Option.map_some, Option.map_none, Bool.not_true, Bool.not_false, List.singleton_append, i0, i1, vth, b1, b2, c7, vf_nil, hit, lp, es] <;> try simp only [wip, SOut.wp, vl_int, vl_str, vl_bl, vl_non, nd2, Nat.reduceLeDiff, Nat.reduceEqDiff, not_false_eq_true, and_self, and_true, true_and, putAll, big_eq, ↓evS_for, ↓ev_lc, evS, evT, evA, ev, evL, evO, evI, Out.bind, Out.st, ofS, ofO, D.isBl, vo, put, Vl.isFr, Vl.all, biD, ds, ts, sets, List.flatMap_cons, List.flatMap_nil, List.map_cons, List.map_nil, List.append_nil, List.nil_append, vl_nil, vf_nil, frz_nil, List.getElem?_cons_zero, List.getElem?_cons_succ, List.set_cons_zero, List.set_cons_succ, Bool.false_eq_true, if_false, if_true, reduceIte, List.length_cons, List.length_nil, Nat.reduceAdd, Nat.reduceSub, List.replicate, List.cons_append, List.replicate_succ, List.replicate_zero, Option.map_some, Option.map_none, Bool.not_true, Bool.not_false, List.singleton_append, i0, i1, vth, b1, b2, c7, vf_nil, hit, lp, es])
    · unfold B_law_3
      simp only [wip, SOut.wp, vl_int, vl_str, vl_bl, vl_non, nd2, Nat.reduceLeDiff, Nat.reduceEqDiff, not_false_eq_true, and_self, and_true, true_and, putAll, big_eq, ↓evS_for, ↓ev_lc, evS, evT, evA, ev, evL, evO, evI, Out.bind, Out.st, ofS, ofO, D.isBl, vo, put, Vl.isFr, Vl.all, biD, ds, ts, sets, List.flatMap_cons, List.flatMap_nil, List.map_cons, List.map_nil, List.append_nil, List.nil_append, vl_nil, vf_nil, frz_nil, List.getElem?_cons_zero, List.getElem?_cons_succ, List.set_cons_zero, List.set_cons_succ, Bool.false_eq_true, if_false, if_true, reduceIte, List.length_cons, List.length_nil, Nat.reduceAdd, Nat.reduceSub, List.replicate, List.cons_append, List.replicate_succ, List.replicate_zero, Option.map_some, Option.map_none, Bool.not_true, Bool.not_false, List.singleton_append, i0, i1, vth, b1, b2, c7, vf_nil, hit, lp, es] <;> try (simp only [wip, SOut.wp, vl_int, vl_str, vl_bl, vl_non, nd2, Nat.reduceLeDiff, Nat.reduceEqDiff, not_false_eq_true, and_self, and_true, true_and, putAll, big_eq, ↓evS_for, ↓ev_lc, evS, evT, evA, ev, evL, evO, evI, Out.bind, Out.st, ofS, ofO, D.isBl, vo, put, Vl.isFr, Vl.all, biD, ds, ts, sets, List.flatMap_cons, List.flatMap_nil, List.map_cons, List.map_nil, List.append_nil, List.nil_append, vl_nil, vf_nil, frz_nil, List.getElem?_cons_zero, List.getElem?_cons_succ, List.set_cons_zero, List.set_cons_succ, Bool.false_eq_true, if_false, if_true, reduceIte, List.length_cons, List.length_nil, Nat.reduceAdd, Nat.reduceSub, List.replicate, List.cons_append, List.replicate_succ, List.replicate_zero, Option.map_some, Option.map_none, Bool.not_true, Bool.not_false, List.singleton_append, i0, i1, vth, b1, b2, c7, vf_nil, hit, lp, es] <;> try simp only [wip, SOut.wp, vl_int, vl_str, vl_bl, vl_non, nd2, Nat.reduceLeDiff, Nat.reduceEqDiff, not_false_eq_true, and_self, and_true, true_and, putAll, big_eq, ↓evS_for, ↓ev_lc, evS, evT, evA, ev, evL, evO, evI, Out.bind, Out.st, ofS, ofO, D.isBl, vo, put, Vl.isFr, Vl.all, biD, ds, ts, sets, List.flatMap_cons, List.flatMap_nil, List.map_cons, List.map_nil, List.append_nil, List.nil_append, vl_nil, vf_nil, frz_nil, List.getElem?_cons_zero, List.getElem?_cons_succ, List.set_cons_zero, List.set_cons_succ, Bool.false_eq_true, if_false, if_true, reduceIte, List.length_cons, List.length_nil, Nat.reduceAdd, Nat.reduceSub, List.replicate, List.cons_append, List.replicate_succ, List.replicate_zero, Option.map_some, Option.map_none, Bool.not_true, Bool.not_false, List.singleton_append, i0, i1, vth, b1, b2, c7, vf_nil, hit, lp, es])
  | false =>
    rw [ha] at es
    have no := State_no (W := W) gx.gd ha
    rcases h3 with rfl | rfl
    · unfold B_law_3
      simp only [wip, SOut.wp, vl_int, vl_str, vl_bl, vl_non, nd2, Nat.reduceLeDiff, Nat.reduceEqDiff, not_false_eq_true, and_self, and_true, true_and, putAll, big_eq, ↓evS_for, ↓ev_lc, evS, evT, evA, ev, evL, evO, evI, Out.bind, Out.st, ofS, ofO, D.isBl, vo, put, Vl.isFr, Vl.all, biD, ds, ts, sets, List.flatMap_cons, List.flatMap_nil, List.map_cons, List.map_nil, List.append_nil, List.nil_append, vl_nil, vf_nil, frz_nil, List.getElem?_cons_zero, List.getElem?_cons_succ, List.set_cons_zero, List.set_cons_succ, Bool.false_eq_true, if_false, if_true, reduceIte, List.length_cons, List.length_nil, Nat.reduceAdd, Nat.reduceSub, List.replicate, List.cons_append, List.replicate_succ, List.replicate_zero, Option.map_some, Option.map_none, Bool.not_true, Bool.not_false, List.singleton_append, i0, i1, vth, b1, b2, c7, vf_nil, hit, lp, es, no, tt, t2] <;> try (simp only [wip, SOut.wp, vl_int, vl_str, vl_bl, vl_non, nd2, Nat.reduceLeDiff, Nat.reduceEqDiff, not_false_eq_true, and_self, and_true, true_and, putAll, big_eq, ↓evS_for, ↓ev_lc, evS, evT, evA, ev, evL, evO, evI, Out.bind, Out.st, ofS, ofO, D.isBl, vo, put, Vl.isFr, Vl.all, biD, ds, ts, sets, List.flatMap_cons, List.flatMap_nil, List.map_cons, List.map_nil, List.append_nil, List.nil_append, vl_nil, vf_nil, frz_nil, List.getElem?_cons_zero, List.getElem?_cons_succ, List.set_cons_zero, List.set_cons_succ, Bool.false_eq_true, if_false, if_true, reduceIte, List.length_cons, List.length_nil, Nat.reduceAdd, Nat.reduceSub, List.replicate, List.cons_append, List.replicate_succ, List.replicate_zero, Option.map_some, Option.map_none, Bool.not_true, Bool.not_false, List.singleton_append, i0, i1, vth, b1, b2, c7, vf_nil, hit, lp, es, no, tt, t2] <;> try simp only [wip, SOut.wp, vl_int, vl_str, vl_bl, vl_non, nd2, Nat.reduceLeDiff, Nat.reduceEqDiff, not_false_eq_true, and_self, and_true, true_and, putAll, big_eq, ↓evS_for, ↓ev_lc, evS, evT, evA, ev, evL, evO, evI, Out.bind, Out.st, ofS, ofO, D.isBl, vo, put, Vl.isFr, Vl.all, biD, ds, ts, sets, List.flatMap_cons, List.flatMap_nil, List.map_cons, List.map_nil, List.append_nil, List.nil_append, vl_nil, vf_nil, frz_nil, List.getElem?_cons_zero, List.getElem?_cons_succ, List.set_cons_zero, List.set_cons_succ, Bool.false_eq_true, if_false, if_true, reduceIte, List.length_cons, List.length_nil, Nat.reduceAdd, Nat.reduceSub, List.replicate, List.cons_append, List.replicate_succ, List.replicate_zero, Option.map_some, Option.map_none, Bool.not_true, Bool.not_false, List.singleton_append, i0, i1, vth, b1, b2, c7, vf_nil, hit, lp, es, no, tt, t2])
    · unfold B_law_3
      simp only [wip, SOut.wp, vl_int, vl_str, vl_bl, vl_non, nd2, Nat.reduceLeDiff, Nat.reduceEqDiff, not_false_eq_true, and_self, and_true, true_and, putAll, big_eq, ↓evS_for, ↓ev_lc, evS, evT, evA, ev, evL, evO, evI, Out.bind, Out.st, ofS, ofO, D.isBl, vo, put, Vl.isFr, Vl.all, biD, ds, ts, sets, List.flatMap_cons, List.flatMap_nil, List.map_cons, List.map_nil, List.append_nil, List.nil_append, vl_nil, vf_nil, frz_nil, List.getElem?_cons_zero, List.getElem?_cons_succ, List.set_cons_zero, List.set_cons_succ, Bool.false_eq_true, if_false, if_true, reduceIte, List.length_cons, List.length_nil, Nat.reduceAdd, Nat.reduceSub, List.replicate, List.cons_append, List.replicate_succ, List.replicate_zero, Option.map_some, Option.map_none, Bool.not_true, Bool.not_false, List.singleton_append, i0, i1, vth, b1, b2, c7, vf_nil, hit, lp, es, no, tt, t2] <;> try (simp only [wip, SOut.wp, vl_int, vl_str, vl_bl, vl_non, nd2, Nat.reduceLeDiff, Nat.reduceEqDiff, not_false_eq_true, and_self, and_true, true_and, putAll, big_eq, ↓evS_for, ↓ev_lc, evS, evT, evA, ev, evL, evO, evI, Out.bind, Out.st, ofS, ofO, D.isBl, vo, put, Vl.isFr, Vl.all, biD, ds, ts, sets, List.flatMap_cons, List.flatMap_nil, List.map_cons, List.map_nil, List.append_nil, List.nil_append, vl_nil, vf_nil, frz_nil, List.getElem?_cons_zero, List.getElem?_cons_succ, List.set_cons_zero, List.set_cons_succ, Bool.false_eq_true, if_false, if_true, reduceIte, List.length_cons, List.length_nil, Nat.reduceAdd, Nat.reduceSub, List.replicate, List.cons_append, List.replicate_succ, List.replicate_zero, Option.map_some, Option.map_none, Bool.not_true, Bool.not_false, List.singleton_append, i0, i1, vth, b1, b2, c7, vf_nil, hit, lp, es, no, tt, t2] <;> try simp only [wip, SOut.wp, vl_int, vl_str, vl_bl, vl_non, nd2, Nat.reduceLeDiff, Nat.reduceEqDiff, not_false_eq_true, and_self, and_true, true_and, putAll, big_eq, ↓evS_for, ↓ev_lc, evS, evT, evA, ev, evL, evO, evI, Out.bind, Out.st, ofS, ofO, D.isBl, vo, put, Vl.isFr, Vl.all, biD, ds, ts, sets, List.flatMap_cons, List.flatMap_nil, List.map_cons, List.map_nil, List.append_nil, List.nil_append, vl_nil, vf_nil, frz_nil, List.getElem?_cons_zero, List.getElem?_cons_succ, List.set_cons_zero, List.set_cons_succ, Bool.false_eq_true, if_false, if_true, reduceIte, List.length_cons, List.length_nil, Nat.reduceAdd, Nat.reduceSub, List.replicate, List.cons_append, List.replicate_succ, List.replicate_zero, Option.map_some, Option.map_none, Bool.not_true, Bool.not_false, List.singleton_append, i0, i1, vth, b1, b2, c7, vf_nil, hit, lp, es, no, tt, t2])
end Qk02

namespace Qk02
open PySem Z
theorem tail4 {T : Nat} {ls : List (List Str)} {s0 s2 s3 s4 s5 s6 s7 s8 : Sl} {W : Dr} (h : Wd T W) (hT : T + 10 ≤ 1099511627776) (hls : Lnc ls) (h3 : S3 (.lst (tD ls)) s3) :
    ∃ W' x, Wd (T + 2) W' ∧ evS 1000000 B_law_4 [s0, .val .drw, s2, s3, s4, s5, s6, s7, s8] W = .nx [s0, .val .drw, s2, .un, s4, s5, .val x, .un, .un] W' := by
  obtain ⟨x, W1, hx, hw1, e1⟩ := odd_ok h (by omega)
  obtain ⟨c, W2, hc, hw2, e2⟩ := pick_letter hw1 (by omega)
  have hb := odd_good x hx
  obtain ⟨c1', c2'⟩ := letter_ok c hc
  have hr : pureG repSD [.str ⟨#[c]⟩, .int 4] W2 = .ok (false, .str (repS ⟨#[c]⟩ 4)) W2 := pureG_some rfl
  have hh := letter_hues hc
  generalize repS ⟨#[c]⟩ 4 = a4 at *
  have l4 : Lnc [[⟨#[c]⟩, a4]] := ⟨by simp, by simp, by simp, fun l hl s hs => by
    rw [List.mem_singleton.mp hl] at hs
    simp only [List.mem_cons, List.not_mem_nil, or_false] at hs
    rcases hs with rfl | rfl
    · exact c1'
    · exact c2', by simp⟩
  obtain ⟨sl, _⟩ := st_ok l4 (W := W2)
  have et : tD [[⟨#[c]⟩, a4]] = [.tup [.str ⟨#[c]⟩, .str a4]] := rfl
  have cc := colors_ok (ls := [[⟨#[c]⟩, a4]]) (W := W2) (by simp)
  rw [hh] at cc
  have k1 : 1 ≤ cap := by decide
  have k2 : 2 ≤ cap := by decide
  have vst : ∀ t, vl (stD (tD [[⟨#[c]⟩, a4]])) t = ⟨stD (tD [[⟨#[c]⟩, a4]]), .pl, []⟩ := fun t => vl_imm (by simp [stD, D.imm, D.immF, immL_tD])
  have es : ∀ ρ, ρ[7]? = some (.val (.str ⟨#[c]⟩)) → ev (.call G_State (.cons (.lst (.cons (.tup (.cons (.var 7) (.cons (.call (pureG repSD) (.cons (.var 7) (.cons (.cst (.int 4)) .nil))) .nil))) .nil)) .nil)) ρ W2 = .ok ⟨stD (tD [[⟨#[c]⟩, a4]]), .pl, []⟩ W2 := fun ρ hρ => by
    rw [et] at sl vst
    rw [et]
    simp only [wip, SOut.wp, vl_int, vl_str, vl_bl, vl_non, nd2, Nat.reduceLeDiff, Nat.reduceEqDiff, not_false_eq_true, and_self, and_true, true_and, putAll, big_eq, ↓evS_for, ↓ev_lc, evS, evT, evA, ev, evL, evO, evI, Out.bind, Out.st, ofS, ofO, D.isBl, vo, put, Vl.isFr, Vl.all, biD, ds, ts, sets, List.flatMap_cons, List.flatMap_nil, List.map_cons, List.map_nil, List.append_nil, List.nil_append, vl_nil, vf_nil, frz_nil, List.getElem?_cons_zero, List.getElem?_cons_succ, List.set_cons_zero, List.set_cons_succ, Bool.false_eq_true, if_false, if_true, reduceIte, List.length_cons, List.length_nil, Nat.reduceAdd, Nat.reduceSub, List.replicate, List.cons_append, List.replicate_succ, List.replicate_zero, Option.map_some, Option.map_none, Bool.not_true, Bool.not_false, List.singleton_append, hρ, hr, k1, k2, sl, vst, vld, vfd] <;> try (simp only [wip, SOut.wp, vl_int, vl_str, vl_bl, vl_non, nd2, Nat.reduceLeDiff, Nat.reduceEqDiff, not_false_eq_true, and_self, and_true, true_and, putAll, big_eq, ↓evS_for, ↓ev_lc, evS, evT, evA, ev, evL, evO, evI, Out.bind, Out.st, ofS, ofO, D.isBl, vo, put, Vl.isFr, Vl.all, biD, ds, ts, sets, List.flatMap_cons, List.flatMap_nil, List.map_cons, List.map_nil, List.append_nil, List.nil_append, vl_nil, vf_nil, frz_nil, List.getElem?_cons_zero, List.getElem?_cons_succ, List.set_cons_zero, List.set_cons_succ, Bool.false_eq_true, if_false, if_true, reduceIte, List.length_cons, List.length_nil, Nat.reduceAdd, Nat.reduceSub, List.replicate, List.cons_append, List.replicate_succ, List.replicate_zero, Option.map_some, Option.map_none, Bool.not_true, Bool.not_false, List.singleton_append, hρ, hr, k1, k2, sl, vst, vld, vfd] <;> try simp only [wip, SOut.wp, vl_int, vl_str, vl_bl, vl_non, nd2, Nat.reduceLeDiff, Nat.reduceEqDiff, not_false_eq_true, and_self, and_true, true_and, putAll, big_eq, ↓evS_for, ↓ev_lc, evS, evT, evA, ev, evL, evO, evI, Out.bind, Out.st, ofS, ofO, D.isBl, vo, put, Vl.isFr, Vl.all, biD, ds, ts, sets, List.flatMap_cons, List.flatMap_nil, List.map_cons, List.map_nil, List.append_nil, List.nil_append, vl_nil, vf_nil, frz_nil, List.getElem?_cons_zero, List.getElem?_cons_succ, List.set_cons_zero, List.set_cons_succ, Bool.false_eq_true, if_false, if_true, reduceIte, List.length_cons, List.length_nil, Nat.reduceAdd, Nat.reduceSub, List.replicate, List.cons_append, List.replicate_succ, List.replicate_zero, Option.map_some, Option.map_none, Bool.not_true, Bool.not_false, List.singleton_append, hρ, hr, k1, k2, sl, vst, vld, vfd])
  have mc : ∀ ρ, ρ[7]? = some (.val (.str ⟨#[c]⟩)) → ev (.mth "colors" "State" G_State_colors (.call G_State (.cons (.lst (.cons (.tup (.cons (.var 7) (.cons (.call (pureG repSD) (.cons (.var 7) (.cons (.cst (.int 4)) .nil))) .nil))) .nil)) .nil)) .nil) ρ W2 = .ok ⟨.lst [.str ⟨#[c]⟩, .str a4], .fr, []⟩ W2 := fun ρ hρ => by
    have := mth_col (W := W2) (W' := W2) (by simp) (es ρ hρ)
    rwa [hh] at this
  have ne : cmpD .NotEq (.lst [.str ⟨#[c]⟩, .str a4]) (.lst [.str ⟨#[c]⟩, .str a4]) = some false := ne_same (pd_lst fun y hy => by
    simp only [List.mem_cons, List.not_mem_nil, or_false] at hy
    rcases hy with rfl | rfl <;> exact pd_str)
  have vr : ∀ t, vl (.str a4) t = ⟨.str a4, .pl, []⟩ := fun t => vl_str
  have key : ∀ t3, S3 (.lst (tD ls)) t3 → ∀ s8, evS 1000000 B_law_3 [s0, .val .drw, s2, t3, s4, s5, .val x, .val (.str ⟨#[c]⟩), s8] W2 = .nx [s0, .val .drw, s2, .un, s4, s5, .val x, .un, .un] W2 := fun t3 ht s8 => tail3 hls ht hb hc
  have m0 : ∀ s0 s1 s2 s3 s4 s5 s6 s8, ev (.mth "colors" "State" G_State_colors (.call G_State (.cons (.lst (.cons (.tup (.cons (.var 7) (.cons (.call (pureG repSD) (.cons (.var 7) (.cons (.cst (.int 4)) .nil))) .nil))) .nil)) .nil)) .nil) [s0, s1, s2, s3, s4, s5, s6, .val (.str ⟨#[c]⟩), s8] W2 = .ok ⟨.lst [.str ⟨#[c]⟩, .str a4], .fr, []⟩ W2 := fun _ _ _ _ _ _ _ _ => mc _ rfl
  have k3 := key s3 h3 s8
  refine ⟨W2, x, hw2, ?_⟩
  unfold B_law_4
  simp only [wip, SOut.wp, vl_int, vl_str, vl_bl, vl_non, nd2, Nat.reduceLeDiff, Nat.reduceEqDiff, not_false_eq_true, and_self, and_true, true_and, putAll, big_eq, ↓evS_for, ↓ev_lc, evS, evT, evA, ev, evL, evO, evI, Out.bind, Out.st, ofS, ofO, D.isBl, vo, put, Vl.isFr, Vl.all, biD, ds, ts, sets, List.flatMap_cons, List.flatMap_nil, List.map_cons, List.map_nil, List.append_nil, List.nil_append, vl_nil, vf_nil, frz_nil, List.getElem?_cons_zero, List.getElem?_cons_succ, List.set_cons_zero, List.set_cons_succ, Bool.false_eq_true, if_false, if_true, reduceIte, List.length_cons, List.length_nil, Nat.reduceAdd, Nat.reduceSub, List.replicate, List.cons_append, List.replicate_succ, List.replicate_zero, Option.map_some, Option.map_none, Bool.not_true, Bool.not_false, List.singleton_append, ↓m0, e1, e2, k2, hr, vr, ne, vl_nil, vfd, k3] <;> try (simp only [wip, SOut.wp, vl_int, vl_str, vl_bl, vl_non, nd2, Nat.reduceLeDiff, Nat.reduceEqDiff, not_false_eq_true, and_self, and_true, true_and, putAll, big_eq, ↓evS_for, ↓ev_lc, evS, evT, evA, ev, evL, evO, evI, Out.bind, Out.st, ofS, ofO, D.isBl, vo, put, Vl.isFr, Vl.all, biD, ds, ts, sets, List.flatMap_cons, List.flatMap_nil, List.map_cons, List.map_nil, List.append_nil, List.nil_append, vl_nil, vf_nil, frz_nil, List.getElem?_cons_zero, List.getElem?_cons_succ, List.set_cons_zero, List.set_cons_succ, Bool.false_eq_true, if_false, if_true, reduceIte, List.length_cons, List.length_nil, Nat.reduceAdd, Nat.reduceSub, List.replicate, List.cons_append, List.replicate_succ, List.replicate_zero, Option.map_some, Option.map_none, Bool.not_true, Bool.not_false, List.singleton_append, ↓m0, e1, e2, k2, hr, vr, ne, vl_nil, vfd, k3] <;> try simp only [wip, SOut.wp, vl_int, vl_str, vl_bl, vl_non, nd2, Nat.reduceLeDiff, Nat.reduceEqDiff, not_false_eq_true, and_self, and_true, true_and, putAll, big_eq, ↓evS_for, ↓ev_lc, evS, evT, evA, ev, evL, evO, evI, Out.bind, Out.st, ofS, ofO, D.isBl, vo, put, Vl.isFr, Vl.all, biD, ds, ts, sets, List.flatMap_cons, List.flatMap_nil, List.map_cons, List.map_nil, List.append_nil, List.nil_append, vl_nil, vf_nil, frz_nil, List.getElem?_cons_zero, List.getElem?_cons_succ, List.set_cons_zero, List.set_cons_succ, Bool.false_eq_true, if_false, if_true, reduceIte, List.length_cons, List.length_nil, Nat.reduceAdd, Nat.reduceSub, List.replicate, List.cons_append, List.replicate_succ, List.replicate_zero, Option.map_some, Option.map_none, Bool.not_true, Bool.not_false, List.singleton_append, ↓m0, e1, e2, k2, hr, vr, ne, vl_nil, vfd, k3])
theorem put4 {ls : List (List Str)} {x : D} {b : Bool} {s0 s2 s3 s4 s5 s6 s7 s8 : Sl} {W W' : Dr} (h3 : S3 (.lst (tD ls)) s3) (e : G__law_bent [.drw, .lst (tD ls)] W = .ok (b, x) W') :
    ∃ t3 t4, S3 (.lst (tD ls)) t3 ∧ S3 x t4 ∧ evS 1000000 (.asg 4 (.call G__law_bent (.cons (.var 1) (.cons (.var 3) .nil)))) [s0, .val .drw, s2, s3, s4, s5, s6, s7, s8] W = .nx [s0, .val .drw, s2, t3, t4, s5, s6, s7, s8] W' := by
  have fz : frz [s0, .val .drw, s2, .own (.lst (tD ls)), s4, s5, s6, s7, s8] [3] = [s0, .val .drw, s2, .val (.lst (tD ls)), s4, s5, s6, s7, s8] := frz_one rfl
  rcases h3 with rfl | rfl
  · cases b with
    | true =>
      by_cases q : x.kids = true
      · have v : vf x [3] = ⟨x, .fr, []⟩ := vf_imm q
        refine ⟨.own (.lst (tD ls)), .own x, .inl rfl, .inl rfl, ?_⟩
        simp only [wip, SOut.wp, vl_int, vl_str, vl_bl, vl_non, nd2, Nat.reduceLeDiff, Nat.reduceEqDiff, not_false_eq_true, and_self, and_true, true_and, putAll, big_eq, ↓evS_for, ↓ev_lc, evS, evT, evA, ev, evL, evO, evI, Out.bind, Out.st, ofS, ofO, D.isBl, vo, put, Vl.isFr, Vl.all, biD, ds, ts, sets, List.flatMap_cons, List.flatMap_nil, List.map_cons, List.map_nil, List.append_nil, List.nil_append, vl_nil, vf_nil, frz_nil, List.getElem?_cons_zero, List.getElem?_cons_succ, List.set_cons_zero, List.set_cons_succ, Bool.false_eq_true, if_false, if_true, reduceIte, List.length_cons, List.length_nil, Nat.reduceAdd, Nat.reduceSub, List.replicate, List.cons_append, List.replicate_succ, List.replicate_zero, Option.map_some, Option.map_none, Bool.not_true, Bool.not_false, List.singleton_append, e, v] <;> try (simp only [wip, SOut.wp, vl_int, vl_str, vl_bl, vl_non, nd2, Nat.reduceLeDiff, Nat.reduceEqDiff, not_false_eq_true, and_self, and_true, true_and, putAll, big_eq, ↓evS_for, ↓ev_lc, evS, evT, evA, ev, evL, evO, evI, Out.bind, Out.st, ofS, ofO, D.isBl, vo, put, Vl.isFr, Vl.all, biD, ds, ts, sets, List.flatMap_cons, List.flatMap_nil, List.map_cons, List.map_nil, List.append_nil, List.nil_append, vl_nil, vf_nil, frz_nil, List.getElem?_cons_zero, List.getElem?_cons_succ, List.set_cons_zero, List.set_cons_succ, Bool.false_eq_true, if_false, if_true, reduceIte, List.length_cons, List.length_nil, Nat.reduceAdd, Nat.reduceSub, List.replicate, List.cons_append, List.replicate_succ, List.replicate_zero, Option.map_some, Option.map_none, Bool.not_true, Bool.not_false, List.singleton_append, e, v] <;> try simp only [wip, SOut.wp, vl_int, vl_str, vl_bl, vl_non, nd2, Nat.reduceLeDiff, Nat.reduceEqDiff, not_false_eq_true, and_self, and_true, true_and, putAll, big_eq, ↓evS_for, ↓ev_lc, evS, evT, evA, ev, evL, evO, evI, Out.bind, Out.st, ofS, ofO, D.isBl, vo, put, Vl.isFr, Vl.all, biD, ds, ts, sets, List.flatMap_cons, List.flatMap_nil, List.map_cons, List.map_nil, List.append_nil, List.nil_append, vl_nil, vf_nil, frz_nil, List.getElem?_cons_zero, List.getElem?_cons_succ, List.set_cons_zero, List.set_cons_succ, Bool.false_eq_true, if_false, if_true, reduceIte, List.length_cons, List.length_nil, Nat.reduceAdd, Nat.reduceSub, List.replicate, List.cons_append, List.replicate_succ, List.replicate_zero, Option.map_some, Option.map_none, Bool.not_true, Bool.not_false, List.singleton_append, e, v])
      · have v : vf x [3] = ⟨x, .fr, [3]⟩ := by unfold vf; rw [if_neg q]
        refine ⟨.val (.lst (tD ls)), .own x, .inr rfl, .inl rfl, ?_⟩
        simp only [wip, SOut.wp, vl_int, vl_str, vl_bl, vl_non, nd2, Nat.reduceLeDiff, Nat.reduceEqDiff, not_false_eq_true, and_self, and_true, true_and, putAll, big_eq, ↓evS_for, ↓ev_lc, evS, evT, evA, ev, evL, evO, evI, Out.bind, Out.st, ofS, ofO, D.isBl, vo, put, Vl.isFr, Vl.all, biD, ds, ts, sets, List.flatMap_cons, List.flatMap_nil, List.map_cons, List.map_nil, List.append_nil, List.nil_append, vl_nil, vf_nil, frz_nil, List.getElem?_cons_zero, List.getElem?_cons_succ, List.set_cons_zero, List.set_cons_succ, Bool.false_eq_true, if_false, if_true, reduceIte, List.length_cons, List.length_nil, Nat.reduceAdd, Nat.reduceSub, List.replicate, List.cons_append, List.replicate_succ, List.replicate_zero, Option.map_some, Option.map_none, Bool.not_true, Bool.not_false, List.singleton_append, e, v, fz] <;> try (simp only [wip, SOut.wp, vl_int, vl_str, vl_bl, vl_non, nd2, Nat.reduceLeDiff, Nat.reduceEqDiff, not_false_eq_true, and_self, and_true, true_and, putAll, big_eq, ↓evS_for, ↓ev_lc, evS, evT, evA, ev, evL, evO, evI, Out.bind, Out.st, ofS, ofO, D.isBl, vo, put, Vl.isFr, Vl.all, biD, ds, ts, sets, List.flatMap_cons, List.flatMap_nil, List.map_cons, List.map_nil, List.append_nil, List.nil_append, vl_nil, vf_nil, frz_nil, List.getElem?_cons_zero, List.getElem?_cons_succ, List.set_cons_zero, List.set_cons_succ, Bool.false_eq_true, if_false, if_true, reduceIte, List.length_cons, List.length_nil, Nat.reduceAdd, Nat.reduceSub, List.replicate, List.cons_append, List.replicate_succ, List.replicate_zero, Option.map_some, Option.map_none, Bool.not_true, Bool.not_false, List.singleton_append, e, v, fz] <;> try simp only [wip, SOut.wp, vl_int, vl_str, vl_bl, vl_non, nd2, Nat.reduceLeDiff, Nat.reduceEqDiff, not_false_eq_true, and_self, and_true, true_and, putAll, big_eq, ↓evS_for, ↓ev_lc, evS, evT, evA, ev, evL, evO, evI, Out.bind, Out.st, ofS, ofO, D.isBl, vo, put, Vl.isFr, Vl.all, biD, ds, ts, sets, List.flatMap_cons, List.flatMap_nil, List.map_cons, List.map_nil, List.append_nil, List.nil_append, vl_nil, vf_nil, frz_nil, List.getElem?_cons_zero, List.getElem?_cons_succ, List.set_cons_zero, List.set_cons_succ, Bool.false_eq_true, if_false, if_true, reduceIte, List.length_cons, List.length_nil, Nat.reduceAdd, Nat.reduceSub, List.replicate, List.cons_append, List.replicate_succ, List.replicate_zero, Option.map_some, Option.map_none, Bool.not_true, Bool.not_false, List.singleton_append, e, v, fz])
    | false =>
      by_cases q : x.imm = true
      · have v : vl x [3] = ⟨x, .pl, []⟩ := vl_imm q
        refine ⟨.own (.lst (tD ls)), .val x, .inl rfl, .inr rfl, ?_⟩
        simp only [wip, SOut.wp, vl_int, vl_str, vl_bl, vl_non, nd2, Nat.reduceLeDiff, Nat.reduceEqDiff, not_false_eq_true, and_self, and_true, true_and, putAll, big_eq, ↓evS_for, ↓ev_lc, evS, evT, evA, ev, evL, evO, evI, Out.bind, Out.st, ofS, ofO, D.isBl, vo, put, Vl.isFr, Vl.all, biD, ds, ts, sets, List.flatMap_cons, List.flatMap_nil, List.map_cons, List.map_nil, List.append_nil, List.nil_append, vl_nil, vf_nil, frz_nil, List.getElem?_cons_zero, List.getElem?_cons_succ, List.set_cons_zero, List.set_cons_succ, Bool.false_eq_true, if_false, if_true, reduceIte, List.length_cons, List.length_nil, Nat.reduceAdd, Nat.reduceSub, List.replicate, List.cons_append, List.replicate_succ, List.replicate_zero, Option.map_some, Option.map_none, Bool.not_true, Bool.not_false, List.singleton_append, e, v] <;> try (simp only [wip, SOut.wp, vl_int, vl_str, vl_bl, vl_non, nd2, Nat.reduceLeDiff, Nat.reduceEqDiff, not_false_eq_true, and_self, and_true, true_and, putAll, big_eq, ↓evS_for, ↓ev_lc, evS, evT, evA, ev, evL, evO, evI, Out.bind, Out.st, ofS, ofO, D.isBl, vo, put, Vl.isFr, Vl.all, biD, ds, ts, sets, List.flatMap_cons, List.flatMap_nil, List.map_cons, List.map_nil, List.append_nil, List.nil_append, vl_nil, vf_nil, frz_nil, List.getElem?_cons_zero, List.getElem?_cons_succ, List.set_cons_zero, List.set_cons_succ, Bool.false_eq_true, if_false, if_true, reduceIte, List.length_cons, List.length_nil, Nat.reduceAdd, Nat.reduceSub, List.replicate, List.cons_append, List.replicate_succ, List.replicate_zero, Option.map_some, Option.map_none, Bool.not_true, Bool.not_false, List.singleton_append, e, v] <;> try simp only [wip, SOut.wp, vl_int, vl_str, vl_bl, vl_non, nd2, Nat.reduceLeDiff, Nat.reduceEqDiff, not_false_eq_true, and_self, and_true, true_and, putAll, big_eq, ↓evS_for, ↓ev_lc, evS, evT, evA, ev, evL, evO, evI, Out.bind, Out.st, ofS, ofO, D.isBl, vo, put, Vl.isFr, Vl.all, biD, ds, ts, sets, List.flatMap_cons, List.flatMap_nil, List.map_cons, List.map_nil, List.append_nil, List.nil_append, vl_nil, vf_nil, frz_nil, List.getElem?_cons_zero, List.getElem?_cons_succ, List.set_cons_zero, List.set_cons_succ, Bool.false_eq_true, if_false, if_true, reduceIte, List.length_cons, List.length_nil, Nat.reduceAdd, Nat.reduceSub, List.replicate, List.cons_append, List.replicate_succ, List.replicate_zero, Option.map_some, Option.map_none, Bool.not_true, Bool.not_false, List.singleton_append, e, v])
      · have v : vl x [3] = ⟨x, .pl, [3]⟩ := by unfold vl; rw [if_neg q]
        refine ⟨.val (.lst (tD ls)), .val x, .inr rfl, .inr rfl, ?_⟩
        simp only [wip, SOut.wp, vl_int, vl_str, vl_bl, vl_non, nd2, Nat.reduceLeDiff, Nat.reduceEqDiff, not_false_eq_true, and_self, and_true, true_and, putAll, big_eq, ↓evS_for, ↓ev_lc, evS, evT, evA, ev, evL, evO, evI, Out.bind, Out.st, ofS, ofO, D.isBl, vo, put, Vl.isFr, Vl.all, biD, ds, ts, sets, List.flatMap_cons, List.flatMap_nil, List.map_cons, List.map_nil, List.append_nil, List.nil_append, vl_nil, vf_nil, frz_nil, List.getElem?_cons_zero, List.getElem?_cons_succ, List.set_cons_zero, List.set_cons_succ, Bool.false_eq_true, if_false, if_true, reduceIte, List.length_cons, List.length_nil, Nat.reduceAdd, Nat.reduceSub, List.replicate, List.cons_append, List.replicate_succ, List.replicate_zero, Option.map_some, Option.map_none, Bool.not_true, Bool.not_false, List.singleton_append, e, v, fz] <;> try (simp only [wip, SOut.wp, vl_int, vl_str, vl_bl, vl_non, nd2, Nat.reduceLeDiff, Nat.reduceEqDiff, not_false_eq_true, and_self, and_true, true_and, putAll, big_eq, ↓evS_for, ↓ev_lc, evS, evT, evA, ev, evL, evO, evI, Out.bind, Out.st, ofS, ofO, D.isBl, vo, put, Vl.isFr, Vl.all, biD, ds, ts, sets, List.flatMap_cons, List.flatMap_nil, List.map_cons, List.map_nil, List.append_nil, List.nil_append, vl_nil, vf_nil, frz_nil, List.getElem?_cons_zero, List.getElem?_cons_succ, List.set_cons_zero, List.set_cons_succ, Bool.false_eq_true, if_false, if_true, reduceIte, List.length_cons, List.length_nil, Nat.reduceAdd, Nat.reduceSub, List.replicate, List.cons_append, List.replicate_succ, List.replicate_zero, Option.map_some, Option.map_none, Bool.not_true, Bool.not_false, List.singleton_append, e, v, fz] <;> try simp only [wip, SOut.wp, vl_int, vl_str, vl_bl, vl_non, nd2, Nat.reduceLeDiff, Nat.reduceEqDiff, not_false_eq_true, and_self, and_true, true_and, putAll, big_eq, ↓evS_for, ↓ev_lc, evS, evT, evA, ev, evL, evO, evI, Out.bind, Out.st, ofS, ofO, D.isBl, vo, put, Vl.isFr, Vl.all, biD, ds, ts, sets, List.flatMap_cons, List.flatMap_nil, List.map_cons, List.map_nil, List.append_nil, List.nil_append, vl_nil, vf_nil, frz_nil, List.getElem?_cons_zero, List.getElem?_cons_succ, List.set_cons_zero, List.set_cons_succ, Bool.false_eq_true, if_false, if_true, reduceIte, List.length_cons, List.length_nil, Nat.reduceAdd, Nat.reduceSub, List.replicate, List.cons_append, List.replicate_succ, List.replicate_zero, Option.map_some, Option.map_none, Bool.not_true, Bool.not_false, List.singleton_append, e, v, fz])
  · cases b with
    | true =>
      refine ⟨.val (.lst (tD ls)), .own x, .inr rfl, .inl rfl, ?_⟩
      simp only [wip, SOut.wp, vl_int, vl_str, vl_bl, vl_non, nd2, Nat.reduceLeDiff, Nat.reduceEqDiff, not_false_eq_true, and_self, and_true, true_and, putAll, big_eq, ↓evS_for, ↓ev_lc, evS, evT, evA, ev, evL, evO, evI, Out.bind, Out.st, ofS, ofO, D.isBl, vo, put, Vl.isFr, Vl.all, biD, ds, ts, sets, List.flatMap_cons, List.flatMap_nil, List.map_cons, List.map_nil, List.append_nil, List.nil_append, vl_nil, vf_nil, frz_nil, List.getElem?_cons_zero, List.getElem?_cons_succ, List.set_cons_zero, List.set_cons_succ, Bool.false_eq_true, if_false, if_true, reduceIte, List.length_cons, List.length_nil, Nat.reduceAdd, Nat.reduceSub, List.replicate, List.cons_append, List.replicate_succ, List.replicate_zero, Option.map_some, Option.map_none, Bool.not_true, Bool.not_false, List.singleton_append, e, vf_nil] <;> try (simp only [wip, SOut.wp, vl_int, vl_str, vl_bl, vl_non, nd2, Nat.reduceLeDiff, Nat.reduceEqDiff, not_false_eq_true, and_self, and_true, true_and, putAll, big_eq, ↓evS_for, ↓ev_lc, evS, evT, evA, ev, evL, evO, evI, Out.bind, Out.st, ofS, ofO, D.isBl, vo, put, Vl.isFr, Vl.all, biD, ds, ts, sets, List.flatMap_cons, List.flatMap_nil, List.map_cons, List.map_nil, List.append_nil, List.nil_append, vl_nil, vf_nil, frz_nil, List.getElem?_cons_zero, List.getElem?_cons_succ, List.set_cons_zero, List.set_cons_succ, Bool.false_eq_true, if_false, if_true, reduceIte, List.length_cons, List.length_nil, Nat.reduceAdd, Nat.reduceSub, List.replicate, List.cons_append, List.replicate_succ, List.replicate_zero, Option.map_some, Option.map_none, Bool.not_true, Bool.not_false, List.singleton_append, e, vf_nil] <;> try simp only [wip, SOut.wp, vl_int, vl_str, vl_bl, vl_non, nd2, Nat.reduceLeDiff, Nat.reduceEqDiff, not_false_eq_true, and_self, and_true, true_and, putAll, big_eq, ↓evS_for, ↓ev_lc, evS, evT, evA, ev, evL, evO, evI, Out.bind, Out.st, ofS, ofO, D.isBl, vo, put, Vl.isFr, Vl.all, biD, ds, ts, sets, List.flatMap_cons, List.flatMap_nil, List.map_cons, List.map_nil, List.append_nil, List.nil_append, vl_nil, vf_nil, frz_nil, List.getElem?_cons_zero, List.getElem?_cons_succ, List.set_cons_zero, List.set_cons_succ, Bool.false_eq_true, if_false, if_true, reduceIte, List.length_cons, List.length_nil, Nat.reduceAdd, Nat.reduceSub, List.replicate, List.cons_append, List.replicate_succ, List.replicate_zero, Option.map_some, Option.map_none, Bool.not_true, Bool.not_false, List.singleton_append, e, vf_nil])
    | false =>
      refine ⟨.val (.lst (tD ls)), .val x, .inr rfl, .inr rfl, ?_⟩
      simp only [wip, SOut.wp, vl_int, vl_str, vl_bl, vl_non, nd2, Nat.reduceLeDiff, Nat.reduceEqDiff, not_false_eq_true, and_self, and_true, true_and, putAll, big_eq, ↓evS_for, ↓ev_lc, evS, evT, evA, ev, evL, evO, evI, Out.bind, Out.st, ofS, ofO, D.isBl, vo, put, Vl.isFr, Vl.all, biD, ds, ts, sets, List.flatMap_cons, List.flatMap_nil, List.map_cons, List.map_nil, List.append_nil, List.nil_append, vl_nil, vf_nil, frz_nil, List.getElem?_cons_zero, List.getElem?_cons_succ, List.set_cons_zero, List.set_cons_succ, Bool.false_eq_true, if_false, if_true, reduceIte, List.length_cons, List.length_nil, Nat.reduceAdd, Nat.reduceSub, List.replicate, List.cons_append, List.replicate_succ, List.replicate_zero, Option.map_some, Option.map_none, Bool.not_true, Bool.not_false, List.singleton_append, e, vl_nil] <;> try (simp only [wip, SOut.wp, vl_int, vl_str, vl_bl, vl_non, nd2, Nat.reduceLeDiff, Nat.reduceEqDiff, not_false_eq_true, and_self, and_true, true_and, putAll, big_eq, ↓evS_for, ↓ev_lc, evS, evT, evA, ev, evL, evO, evI, Out.bind, Out.st, ofS, ofO, D.isBl, vo, put, Vl.isFr, Vl.all, biD, ds, ts, sets, List.flatMap_cons, List.flatMap_nil, List.map_cons, List.map_nil, List.append_nil, List.nil_append, vl_nil, vf_nil, frz_nil, List.getElem?_cons_zero, List.getElem?_cons_succ, List.set_cons_zero, List.set_cons_succ, Bool.false_eq_true, if_false, if_true, reduceIte, List.length_cons, List.length_nil, Nat.reduceAdd, Nat.reduceSub, List.replicate, List.cons_append, List.replicate_succ, List.replicate_zero, Option.map_some, Option.map_none, Bool.not_true, Bool.not_false, List.singleton_append, e, vl_nil] <;> try simp only [wip, SOut.wp, vl_int, vl_str, vl_bl, vl_non, nd2, Nat.reduceLeDiff, Nat.reduceEqDiff, not_false_eq_true, and_self, and_true, true_and, putAll, big_eq, ↓evS_for, ↓ev_lc, evS, evT, evA, ev, evL, evO, evI, Out.bind, Out.st, ofS, ofO, D.isBl, vo, put, Vl.isFr, Vl.all, biD, ds, ts, sets, List.flatMap_cons, List.flatMap_nil, List.map_cons, List.map_nil, List.append_nil, List.nil_append, vl_nil, vf_nil, frz_nil, List.getElem?_cons_zero, List.getElem?_cons_succ, List.set_cons_zero, List.set_cons_succ, Bool.false_eq_true, if_false, if_true, reduceIte, List.length_cons, List.length_nil, Nat.reduceAdd, Nat.reduceSub, List.replicate, List.cons_append, List.replicate_succ, List.replicate_zero, Option.map_some, Option.map_none, Bool.not_true, Bool.not_false, List.singleton_append, e, vl_nil])
theorem tail5 {T : Nat} {ls : List (List Str)} {s0 s2 s3 s4 s5 s6 s7 s8 : Sl} {W : Dr} (h : Wd T W) (hT : T + 200 ≤ 1099511627776) (hls : Lnc ls) (h3 : S3 (.lst (tD ls)) s3) :
    ∃ W' ρ', Wd (T + 12) W' ∧ evS 1000000 B_law_5 [s0, .val .drw, s2, s3, s4, s5, s6, s7, s8] W = .nx ρ' W' ∧ wip ρ' [8, 5, 7, 6, 3, 4, 2] = [s0, .val .drw, .un, .un, .un, .un, .un, .un, .un] := by
  obtain ⟨b, x, W1, gx, hw1, e1, _⟩ := bent_ok h (by omega) hls
  obtain ⟨t3, t4, h3', h4', e2⟩ := put4 (s0 := s0) (s2 := s2) (s4 := s4) (s5 := s5) (s6 := s6) (s7 := s7) (s8 := s8) h3 e1
  have es := are_strands_ok (W := W1) gx.gd gx.it
  unfold B_law_5
  cases ha : areD x with
  | false =>
    rw [ha] at es
    have no := State_no (W := W1) gx.gd ha
    have tt : (D.exc "NoState" []).typed = true := rfl
    have t2 : [Ty_NoState].any (isD1 (.exc "NoState" [])) = true := by simp [isD1, Ty_NoState]
    obtain ⟨W2, y, hw2, e3⟩ := tail4 (s0 := s0) (s2 := s2) (s4 := t4) (s5 := .val (.exc "NoState" [])) (s6 := s6) (s7 := s7) (s8 := s8) hw1 (by omega) hls h3'
    refine ⟨W2, [s0, .val .drw, s2, .un, t4, .val (.exc "NoState" []), .val y, .un, .un], hw2, ?_, rfl⟩
    rcases h4' with rfl | rfl <;> rcases h3' with rfl | rfl <;> simp only [wip, SOut.wp, vl_int, vl_str, vl_bl, vl_non, nd2, Nat.reduceLeDiff, Nat.reduceEqDiff, not_false_eq_true, and_self, and_true, true_and, putAll, big_eq, ↓evS_for, ↓ev_lc, evS, evT, evA, ev, evL, evO, evI, Out.bind, Out.st, ofS, ofO, D.isBl, vo, put, Vl.isFr, Vl.all, biD, ds, ts, sets, List.flatMap_cons, List.flatMap_nil, List.map_cons, List.map_nil, List.append_nil, List.nil_append, vl_nil, vf_nil, frz_nil, List.getElem?_cons_zero, List.getElem?_cons_succ, List.set_cons_zero, List.set_cons_succ, Bool.false_eq_true, if_false, if_true, reduceIte, List.length_cons, List.length_nil, Nat.reduceAdd, Nat.reduceSub, List.replicate, List.cons_append, List.replicate_succ, List.replicate_zero, Option.map_some, Option.map_none, Bool.not_true, Bool.not_false, List.singleton_append, ↓e2, no, es, tt, t2, e3] <;> try (simp only [wip, SOut.wp, vl_int, vl_str, vl_bl, vl_non, nd2, Nat.reduceLeDiff, Nat.reduceEqDiff, not_false_eq_true, and_self, and_true, true_and, putAll, big_eq, ↓evS_for, ↓ev_lc, evS, evT, evA, ev, evL, evO, evI, Out.bind, Out.st, ofS, ofO, D.isBl, vo, put, Vl.isFr, Vl.all, biD, ds, ts, sets, List.flatMap_cons, List.flatMap_nil, List.map_cons, List.map_nil, List.append_nil, List.nil_append, vl_nil, vf_nil, frz_nil, List.getElem?_cons_zero, List.getElem?_cons_succ, List.set_cons_zero, List.set_cons_succ, Bool.false_eq_true, if_false, if_true, reduceIte, List.length_cons, List.length_nil, Nat.reduceAdd, Nat.reduceSub, List.replicate, List.cons_append, List.replicate_succ, List.replicate_zero, Option.map_some, Option.map_none, Bool.not_true, Bool.not_false, List.singleton_append, ↓e2, no, es, tt, t2, e3] <;> try simp only [wip, SOut.wp, vl_int, vl_str, vl_bl, vl_non, nd2, Nat.reduceLeDiff, Nat.reduceEqDiff, not_false_eq_true, and_self, and_true, true_and, putAll, big_eq, ↓evS_for, ↓ev_lc, evS, evT, evA, ev, evL, evO, evI, Out.bind, Out.st, ofS, ofO, D.isBl, vo, put, Vl.isFr, Vl.all, biD, ds, ts, sets, List.flatMap_cons, List.flatMap_nil, List.map_cons, List.map_nil, List.append_nil, List.nil_append, vl_nil, vf_nil, frz_nil, List.getElem?_cons_zero, List.getElem?_cons_succ, List.set_cons_zero, List.set_cons_succ, Bool.false_eq_true, if_false, if_true, reduceIte, List.length_cons, List.length_nil, Nat.reduceAdd, Nat.reduceSub, List.replicate, List.cons_append, List.replicate_succ, List.replicate_zero, Option.map_some, Option.map_none, Bool.not_true, Bool.not_false, List.singleton_append, ↓e2, no, es, tt, t2, e3])
  | true =>
    rw [ha] at es
    obtain ⟨k, hk, gk⟩ : ∃ k, (x = .lst (tD k) ∨ x = .tup (tD k)) ∧ Lnc k := by
      cases x
      case lst xs => obtain ⟨k, rfl, hk⟩ := are_of (.inl rfl) ha; exact ⟨k, .inl rfl, hk⟩
      case tup xs => obtain ⟨k, rfl, hk⟩ := are_of (.inr rfl) ha; exact ⟨k, .inr rfl, hk⟩
      all_goals simp [areD] at ha
    have ge : listD [x] = some (true, .lst (tD k)) := by rcases hk with rfl | rfl <;> rfl
    have sk : G_State [x] W1 = .ok (false, stD (tD k)) W1 := by
      rcases hk with rfl | rfl
      · exact (st_ok gk).1
      · exact (st_ok gk).2
    have sl := (st_ok hls (W := W1)).1
    have tr := told_right_ok (W := W1) gk
    obtain ⟨v, v1, v2⟩ := eq_both (pd_tD k) (pd_tD ls)
    have q := seq_ok (W := W1) v1 false
    have ne : cmpD .NotEq (.bl (v != false)) (.bl v) = some false := by cases v <;> rfl
    have nn : cmpD .IsNot .non .non = some false := rfl
    have vst : ∀ ks t, vl (stD (tD ks)) t = ⟨stD (tD ks), .pl, []⟩ := fun ks t => vl_imm (by simp [stD, D.imm, D.immF, immL_tD])
    obtain ⟨W2, y, hw2, e3⟩ := tail4 (s0 := s0) (s2 := s2) (s4 := t4) (s5 := .val .non) (s6 := s6) (s7 := s7) (s8 := s8) hw1 (by omega) hls h3'
    refine ⟨W2, [s0, .val .drw, s2, .un, t4, .val .non, .val y, .un, .un], hw2, ?_, rfl⟩
    unfold B_law_1
    clear ha
    rcases h4' with rfl | rfl <;> rcases h3' with rfl | rfl <;> simp only [wip, SOut.wp, vl_int, vl_str, vl_bl, vl_non, nd2, Nat.reduceLeDiff, Nat.reduceEqDiff, not_false_eq_true, and_self, and_true, true_and, putAll, big_eq, ↓evS_for, ↓ev_lc, evS, evT, evA, ev, evL, evO, evI, Out.bind, Out.st, ofS, ofO, D.isBl, vo, put, Vl.isFr, Vl.all, biD, ds, ts, sets, List.flatMap_cons, List.flatMap_nil, List.map_cons, List.map_nil, List.append_nil, List.nil_append, vl_nil, vf_nil, frz_nil, List.getElem?_cons_zero, List.getElem?_cons_succ, List.set_cons_zero, List.set_cons_succ, Bool.false_eq_true, if_false, if_true, reduceIte, List.length_cons, List.length_nil, Nat.reduceAdd, Nat.reduceSub, List.replicate, List.cons_append, List.replicate_succ, List.replicate_zero, Option.map_some, Option.map_none, Bool.not_true, Bool.not_false, List.singleton_append, ↓e2, sk, sl, es, ge, tr, q, v2, ne, nn, vst, vf_tD, vfd, e3] <;> try (simp only [wip, SOut.wp, vl_int, vl_str, vl_bl, vl_non, nd2, Nat.reduceLeDiff, Nat.reduceEqDiff, not_false_eq_true, and_self, and_true, true_and, putAll, big_eq, ↓evS_for, ↓ev_lc, evS, evT, evA, ev, evL, evO, evI, Out.bind, Out.st, ofS, ofO, D.isBl, vo, put, Vl.isFr, Vl.all, biD, ds, ts, sets, List.flatMap_cons, List.flatMap_nil, List.map_cons, List.map_nil, List.append_nil, List.nil_append, vl_nil, vf_nil, frz_nil, List.getElem?_cons_zero, List.getElem?_cons_succ, List.set_cons_zero, List.set_cons_succ, Bool.false_eq_true, if_false, if_true, reduceIte, List.length_cons, List.length_nil, Nat.reduceAdd, Nat.reduceSub, List.replicate, List.cons_append, List.replicate_succ, List.replicate_zero, Option.map_some, Option.map_none, Bool.not_true, Bool.not_false, List.singleton_append, ↓e2, sk, sl, es, ge, tr, q, v2, ne, nn, vst, vf_tD, vfd, e3] <;> try simp only [wip, SOut.wp, vl_int, vl_str, vl_bl, vl_non, nd2, Nat.reduceLeDiff, Nat.reduceEqDiff, not_false_eq_true, and_self, and_true, true_and, putAll, big_eq, ↓evS_for, ↓ev_lc, evS, evT, evA, ev, evL, evO, evI, Out.bind, Out.st, ofS, ofO, D.isBl, vo, put, Vl.isFr, Vl.all, biD, ds, ts, sets, List.flatMap_cons, List.flatMap_nil, List.map_cons, List.map_nil, List.append_nil, List.nil_append, vl_nil, vf_nil, frz_nil, List.getElem?_cons_zero, List.getElem?_cons_succ, List.set_cons_zero, List.set_cons_succ, Bool.false_eq_true, if_false, if_true, reduceIte, List.length_cons, List.length_nil, Nat.reduceAdd, Nat.reduceSub, List.replicate, List.cons_append, List.replicate_succ, List.replicate_zero, Option.map_some, Option.map_none, Bool.not_true, Bool.not_false, List.singleton_append, ↓e2, sk, sl, es, ge, tr, q, v2, ne, nn, vst, vf_tD, vfd, e3])
theorem turn {T : Nat} {ns : List Int} {x : D} {W : Dr} (h : Wd T W) (hT : T + 3000 ≤ 1099511627000) :
    ∃ W', Wd (T + 3000) W' ∧ (forOne 1000000 B_law_6 (.nm 2) x [.val (.scr ns), .val .drw, .un, .un, .un, .un, .un, .un, .un] W = .nx [.val (.scr ns), .val .drw, .un, .un, .un, .un, .un, .un, .un] W') := by
  obtain ⟨ls, W1, hl, hw1, e1⟩ := some_lines_ok (b := 12) h (by omega) (by omega) (by omega)
  have e1 : G__law_some_lines [.drw, .int 12] W = _ := e1
  have hls : Lnc ls := hl.imp (fun s hs => hue_color s hs) (by omega) (by omega)
  have tr := told_right_ok (W := W1) hls
  obtain ⟨W2, ρ', hw2, e2, e3⟩ := tail5 (s0 := .val (.scr ns)) (s2 := .val x) (s3 := .own (.lst (tD ls))) (s4 := .un) (s5 := .un) (s6 := .un) (s7 := .un) (s8 := .un) hw1 (by omega) hls (.inl rfl)
  refine ⟨W2, hw2.mono (by omega), ?_⟩
  unfold forOne B_law_6
  simp only [wip, SOut.wp, vl_int, vl_str, vl_bl, vl_non, nd2, Nat.reduceLeDiff, Nat.reduceEqDiff, not_false_eq_true, and_self, and_true, true_and, putAll, big_eq, ↓evS_for, ↓ev_lc, evS, evT, evA, ev, evL, evO, evI, Out.bind, Out.st, ofS, ofO, D.isBl, vo, put, Vl.isFr, Vl.all, biD, ds, ts, sets, List.flatMap_cons, List.flatMap_nil, List.map_cons, List.map_nil, List.append_nil, List.nil_append, vl_nil, vf_nil, frz_nil, List.getElem?_cons_zero, List.getElem?_cons_succ, List.set_cons_zero, List.set_cons_succ, Bool.false_eq_true, if_false, if_true, reduceIte, List.length_cons, List.length_nil, Nat.reduceAdd, Nat.reduceSub, List.replicate, List.cons_append, List.replicate_succ, List.replicate_zero, Option.map_some, Option.map_none, Bool.not_true, Bool.not_false, List.singleton_append, ↓e3, bindP, e1, tr, vf_tD, vfd, e2] <;> try simp only [wip, SOut.wp, vl_int, vl_str, vl_bl, vl_non, nd2, Nat.reduceLeDiff, Nat.reduceEqDiff, not_false_eq_true, and_self, and_true, true_and, putAll, big_eq, ↓evS_for, ↓ev_lc, evS, evT, evA, ev, evL, evO, evI, Out.bind, Out.st, ofS, ofO, D.isBl, vo, put, Vl.isFr, Vl.all, biD, ds, ts, sets, List.flatMap_cons, List.flatMap_nil, List.map_cons, List.map_nil, List.append_nil, List.nil_append, vl_nil, vf_nil, frz_nil, List.getElem?_cons_zero, List.getElem?_cons_succ, List.set_cons_zero, List.set_cons_succ, Bool.false_eq_true, if_false, if_true, reduceIte, List.length_cons, List.length_nil, Nat.reduceAdd, Nat.reduceSub, List.replicate, List.cons_append, List.replicate_succ, List.replicate_zero, Option.map_some, Option.map_none, Bool.not_true, Bool.not_false, List.singleton_append, ↓e3, bindP, e1, tr, vf_tD, vfd, e2]
theorem run_ok : RunOk := by
  intro ns hns
  obtain ⟨m, hm, hm1⟩ : ∃ m : Nat, minD2 [.int ns.length, .int 40] = some (false, .int m) ∧ m ≤ 40 := by
    by_cases q : (40 : Int) < ns.length
    · exact ⟨40, by simp only [minD2, if_pos q]; rfl, by omega⟩
    · exact ⟨ns.length, by simp only [minD2, if_neg q], by omega⟩
  have hadd : binD .Add (.int 8) (.int m) = some (false, .int ((8 + m : Nat) : Int)) := by simp only [binD]; rw [Int.natCast_add]; rfl
  have g1 := rngN (n := 8 + m) (by omega)
  have hln : lenD [.scr ns] = some (false, .int ns.length) := rfl
  obtain ⟨ρ', W', e, rfl, hw⟩ := for_inv0 (f := forOne 1000000 B_law_6 (.nm 2)) (xs := (List.range (8 + m)).map fun k : Nat => .int (k : Int)) (ρ := [.val (.scr ns), .val .drw, .un, .un, .un, .un, .un, .un, .un]) (W := dr0 ns)
    (fun k ρ V => ρ = [.val (.scr ns), .val .drw, .un, .un, .un, .un, .un, .un, .un] ∧ Wd (3000 * k) V) ⟨rfl, wd0 ns⟩ (fun k x ρ V hx ⟨q0, q1⟩ => by
      subst q0
      obtain ⟨rfl, hk⟩ := rng_at hx
      obtain ⟨V', p1, p2⟩ := turn (ns := ns) (x := .int k) q1 (by omega)
      exact ⟨_, V', .inl p2, rfl, p1.mono (by omega)⟩)
  refine ⟨[.un, .un, .un, .un, .un, .un, .un, .un, .un], W', ?_⟩
  unfold B_law law0
  simp only [wip, SOut.wp, vl_int, vl_str, vl_bl, vl_non, nd2, Nat.reduceLeDiff, Nat.reduceEqDiff, not_false_eq_true, and_self, and_true, true_and, putAll, big_eq, ↓evS_for, ↓ev_lc, evS, evT, evA, ev, evL, evO, evI, Out.bind, Out.st, ofS, ofO, D.isBl, vo, put, Vl.isFr, Vl.all, biD, ds, ts, sets, List.flatMap_cons, List.flatMap_nil, List.map_cons, List.map_nil, List.append_nil, List.nil_append, vl_nil, vf_nil, frz_nil, List.getElem?_cons_zero, List.getElem?_cons_succ, List.set_cons_zero, List.set_cons_succ, Bool.false_eq_true, if_false, if_true, reduceIte, List.length_cons, List.length_nil, Nat.reduceAdd, Nat.reduceSub, List.replicate, List.cons_append, List.replicate_succ, List.replicate_zero, Option.map_some, Option.map_none, Bool.not_true, Bool.not_false, List.singleton_append, List.set_cons_succ, hln, hm, hadd, g1, e] <;> try simp only [wip, SOut.wp, vl_int, vl_str, vl_bl, vl_non, nd2, Nat.reduceLeDiff, Nat.reduceEqDiff, not_false_eq_true, and_self, and_true, true_and, putAll, big_eq, ↓evS_for, ↓ev_lc, evS, evT, evA, ev, evL, evO, evI, Out.bind, Out.st, ofS, ofO, D.isBl, vo, put, Vl.isFr, Vl.all, biD, ds, ts, sets, List.flatMap_cons, List.flatMap_nil, List.map_cons, List.map_nil, List.append_nil, List.nil_append, vl_nil, vf_nil, frz_nil, List.getElem?_cons_zero, List.getElem?_cons_succ, List.set_cons_zero, List.set_cons_succ, Bool.false_eq_true, if_false, if_true, reduceIte, List.length_cons, List.length_nil, Nat.reduceAdd, Nat.reduceSub, List.replicate, List.cons_append, List.replicate_succ, List.replicate_zero, Option.map_some, Option.map_none, Bool.not_true, Bool.not_false, List.singleton_append, List.set_cons_succ, hln, hm, hadd, g1, e]
end Qk02

namespace Qk02
open PySem PySem.Spec PyProof.Rows L2 Z
def loose0 : List Str := ["ThreadError", "NoState", "LETTERS", "MOST_LETTERS", "MOST_THREADS", "MOST_BEADS", "is_color", "is_thread", "beads_in", "are_threads", "colors_in", "State", "_law_begun", "_law_mixed", "_law_take", "_law_pick", "_law_shuffled", "_law_caught", "_law_odd", "_law_hues"]
def loose1 : List Str := ["_law_lines", "_law_sealed_lines", "_law_some_lines", "_law_all_hues", "_law_is_hue", "_law_are_strands", "_law_bent", "_law_told_right"]
def loose : List Str := loose0 ++ loose1
abbrev R : PySem.W.OpenRow := PySem.W.OpenLaw.row PySem.Challenge.rw_tradedtails_k02_states_made_or_refused
abbrev hk : PySem.W.Hook := He.hookX 5 fa fn [] tf ex
def ob (s : PySem.W.SharedT) : He.AlX := He.obsX 5 fa fn [] tf ex (HandSHeadRun.getT s)
theorem ob_eq (s : PySem.W.SharedT) : ob s = hk.obs s.abs := He.obsX_eq (HandSHeadRun.getT_eq s)
set_option maxHeartbeats 0 in
theorem run (w : World) : HandSHeadRun.RunEq R (PySem.W.view R.prog [31]) hk ob 3000 loose w := by
  intro os
  kernel_rfl
end Qk02
open PySem PySem.W PySem.Calls PyProof.Rows
set_option maxRecDepth 100000 in
set_option maxHeartbeats 0 in
theorem PySem.Challenge.cw_tradedtails_k02_states_made_or_refused_holds : PySem.Challenge.rw_tradedtails_k02_states_made_or_refused.Holds := by
  w_on; o_law
  refine HandSHeadRun.head_any (r := OpenLaw.row PySem.Challenge.rw_tradedtails_k02_states_made_or_refused) (q := view (OpenLaw.row PySem.Challenge.rw_tradedtails_k02_states_made_or_refused).prog [31]) (H := Qk02.hk) (ob := Qk02.ob) (M := 3000) (loose := Qk02.loose) (d := HandSHeadRun.topDef (OpenLaw.row PySem.Challenge.rw_tradedtails_k02_states_made_or_refused).prog 31) (kwd := []) Qk02.ob_eq
    (by kernel_rfl) (fun s => by kernel_rfl) Qk02.run (by kernel_rfl) (by kernel_rfl) (by kernel_rfl) (by rfl) (by first | assumption | decide +kernel) (by decide +kernel) ⟨rfl, rfl, rfl, rfl, rfl, by decide +kernel⟩ ?hw ?hc
  case hw => w_witness2
  case hc =>
    refine Z.law_endG (l := PySem.Challenge.rw_tradedtails_k02_states_made_or_refused) (k := 7) (x := "_law_script") Qk02.cas Qk02.cxs rfl (by kernel_rfl) ⟨rfl, by decide, by decide⟩ fun w mg fl h K KX c G hmg0 => ?_
    have hmg : mg ("law" : PySem.Str) = some (.ref fl) := by
      have e : (HandSHeadRun.topDef (OpenLaw.row PySem.Challenge.rw_tradedtails_k02_states_made_or_refused).prog 31).name = ("law" : PySem.Str) := by kernel_rfl
      rw [← e]
      exact hmg0
    exact Qk02.law_at KX G hmg c.t.d c.more Qk02.run_ok

