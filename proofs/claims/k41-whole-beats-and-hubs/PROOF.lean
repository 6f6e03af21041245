import PyProof.Rows.All
import Wide.All
import OpenK.AllK
import Wide.FinOn
import HandS.ForMost
import HandS.Wide
import HandS.Exc
import HandS.ExcOwn
import HandS.CallSlots
import HandS.TupLe
import HandS.TupMul
import HandS.Deep
import HandS.IsInst
import HandS.Style
import HandS.Flow
import HandS.SortInts
import HandS.Sort
import HandS.Walk
import HandS.Rev
import HandS.Zip
import HandS.HeadHook2
import HandS.WordsDict
import HandS.TupLen
import PyProof.Rows.ReprR
import HandS.Conv
import HandS.NamedTupSort
import HandS.Gcd
import HandS.Small
import HandS.Defaults
import HandS.HeadHook4
import HandS.HeadEnd
import HandS.Head0
import HandS.Head1
import HandS.Head2
import HandS.Head3
import HandS.HeadHook1
import PySem.Challenge.RW_pacedprices_k41_whole_beats_and_hubs
set_option Elab.async false
set_option linter.all false
set_option maxRecDepth 100000
set_option maxHeartbeats 0
/-! Pv, part A: own syntax, plain data, the evaluator. -/
namespace Pv
open PySem L2

abbrev PD := PyData

/-- a slot's value: plain data, or a list | a dict that its slot alone owns (it may be written) -/
inductive D where
  | p (d : PD)
  | own (l : List PD)
  | own2 (l : List (List PD))
  | odk (l : List (Key × PD))
  | odt (l : List (List Key × PD))
  | frl (l : List Int)

def kPD : Key → PD
  | .inl i => .int i
  | .inr s => .str s

/-- let go: what was owned is plain from now on -/
def D.fz : D → D
  | .p d => .p d
  | .own l => .p (.list l)
  | .own2 l => .p (.list (l.map .list))
  | .odk l => .p (.dict (l.map fun q => (kPD q.1, q.2)))
  | .odt l => .p (.dict (l.map fun q => (.tuple (q.1.map kPD), q.2)))
  | .frl l => .frl l
def D.isOwn : D → Bool
  | .p _ => false
  | .frl _ => false
  | _ => true
def D.pd? : D → Option PD
  | .p d => some d
  | _ => none

abbrev Env := List (Option D)

structure Exn where
  cls : Str
  fs : List (Str × PD)

inductive Rs (α : Type) where
  | ok (a : α) (ρ : Env)
  | exc (x : Exn) (ρ : Env)
  | bad
def Rs.bind {α β : Type} (r : Rs α) (f : α → Env → Rs β) : Rs β := match r with
  | .ok a ρ => f a ρ
  | .exc x ρ => .exc x ρ
  | .bad => .bad
def Rs.ofO {α : Type} (o : Option α) (ρ : Env) : Rs α := match o with
  | some a => .ok a ρ
  | none => .bad

/-- what a call gives: its value, its parameters' values behind it -/
inductive CR where
  | ok (d : D) (as : List D)
  | exc (x : Exn) (as : List D)
  | bad

/-! ### own syntax -/
inductive Bf where
  | len | abs | max | min | sum | all | any | int | list | tuple | sorted | repr | divmod | bool
  deriving DecidableEq
inductive Ty where
  | int | bool | str | tuple | list | dict
  deriving DecidableEq
def Ty.nm : Ty → String
  | .int => "int" | .bool => "bool" | .str => "str" | .tuple => "tuple" | .list => "list" | .dict => "dict"
inductive Prim where
  | bin (op : Operator)
  | neg
  | cmp (op : CmpOp)
  | idx
  | rev
  | bf (f : Bf)
  | isi (t : Ty)
  | inr (neg : Bool)
  | gcd
  | lrg
  deriving DecidableEq

inductive T where
  | v (i : Nat)
  | nil
  | cons (t : T) (ts : T)
  deriving DecidableEq

mutual
inductive E where
  | var (i : Nat)
  | mv (i : Nat)
  | non
  | bl (b : Bool)
  | int (i : Int)
  | str (s : Str)
  | glb (x : Str) (d : PD)
  | prim (p : Prim) (es : Es)
  | idx2 (i : Nat) (a b : E)
  | sl (a : E) (lo hi : Es)
  | tup (es : Es)
  | lst (es : Es)
  | dnew (t : Bool)
  | dlit (k v : E)
  | bop (op : BoolOp) (es : Es)
  | nt (a : E)
  | ite (c a b : E)
  | chain (o1 o2 : CmpOp) (a b c : E)
  | call (f : Nat) (src : List (Option PD)) (es kes : Es)
  | lc (elt : E) (tg : T) (it : It) (ifs : Es) (own : List Nat)
  | pop (i : Nat)
  | popAt (i : Nat) (e : E)
inductive Es where
  | nil
  | cons (e : E) (es : Es)
inductive It where
  | seq (e : E)
  | range (es : Es)
  | enum (e : E)
  | zip (a b : E)
  | rev (e : E)
end

inductive Tg where
  | v (i : Nat)
  | ix (i : Nat) (k : E)
  | nil
  | cons (t : Tg) (ts : Tg)

mutual
inductive S where
  | asg (t : Tg) (e : E)
  | par (is : List Nat) (es : Es)
  | set2 (i : Nat) (a b : E) (e : E)
  | aug (i : Nat) (op : Operator) (e : E)
  | app (i : Nat) (e : E)
  | ext (i : Nat) (e : E)
  | expr (e : E)
  | ife (c : E) (a b : Ss)
  | fore (t : T) (it : It) (b : Ss)
  | whl (c : E) (b : Ss)
  | ret (e : E)
  | retz (e : E)
  | retn
  | pass | brk | cont
  | never
inductive Ss where
  | nil
  | cons (s : S) (ss : Ss)
end

def Es.len : Es → Nat
  | .nil => 0
  | .cons _ es => es.len + 1

/-! ### plain operations -/
abbrev line : Nat := 16777216
def truthP : PD → Option Bool
  | .none => some false
  | .bool b => some b
  | .int i => some (i != 0)
  | .str s => if s.length ≤ line then some (s.length != 0) else none
  | .list l => some (!l.isEmpty)
  | .tuple l => some (!l.isEmpty)
  | .dict _ => none
def truthD : D → Option Bool
  | .p d => truthP d
  | .own l => some (!l.isEmpty)
  | .own2 l => some (!l.isEmpty)
  | .odk l => some (!l.isEmpty)
  | .odt _ => none
  | .frl l => some (!l.isEmpty)

def powOk (i j : Int) : Bool := decide (0 ≤ j ∧ (Builtin.Int.intBits i : Int) * j ≤ 2 ^ 27)
def mulOk (i j : Int) : Bool := decide (i.natAbs.log2 + j.natAbs.log2 < 1000000)
def cut {α : Type} (xs : List α) (lo hi : Option Int) : List α := (xs.drop (HT.sIx xs.length 0 lo)).take (HT.sIx xs.length xs.length hi - HT.sIx xs.length 0 lo)
def rep {α : Type} (xs : List α) (k : Int) : List α := (List.replicate k.toNat xs).flatten

/-- a list's items, where they are plain -/
def lstD : D → Option (List PD)
  | .p (.list l) => some l
  | .own l => some l
  | _ => none
/-- a tuple's, a list's items -/
def seqD : D → Option (List PD)
  | .p (.list l) => some l
  | .p (.tuple l) => some l
  | .own l => some l
  | _ => none
def intsP : List PD → Option (List Int)
  | [] => some []
  | .int i :: r => (intsP r).map (i :: ·)
  | _ => none
def boolsP : List PD → Option (List Bool)
  | [] => some []
  | .bool b :: r => (boolsP r).map (b :: ·)
  | _ => none

def binI (op : Operator) (i j : Int) : Option Int := match op with
  | .Add => some (i + j)
  | .Sub => some (i - j)
  | .Mult => if mulOk i j then some (i * j) else none
  | .FloorDiv => if 0 < j ∧ j.natAbs.log2 < 9000 then some (i / j) else if j ≠ 0 ∧ j.natAbs < 1073741824 then some (i.fdiv j) else none
  | .Mod => if 0 < j then some (i % j) else if j ≠ 0 then some (i.fmod j) else none
  | .Pow => if powOk i j then some (i ^ j.toNat) else none
  | .LShift => if 0 ≤ j ∧ j ≤ 1000000 ∧ i.natAbs < 2 ^ 64 then some (i * 2 ^ j.toNat) else none
  | .RShift => if 0 ≤ j then some (i / 2 ^ j.toNat) else none
  | .BitAnd => some (Builtin.bitAnd i j)
  | .BitOr => some (Builtin.bitOr i j)
  | .BitXor => some (Builtin.bitXor i j)
  | _ => none
def binL (op : Operator) (x : List PD) (b : D) : Option D := match b with
  | .p (.int k) => if op = .Mult ∧ -(2 ^ 63) ≤ k ∧ k < 2 ^ 63 ∧ x.length * k.toNat ≤ line then some (.own (rep x k)) else none
  | b => match lstD b with
    | some y => if op = .Add ∧ x.length + y.length ≤ line then some (.own (x ++ y)) else none
    | none => none
def binT (op : Operator) (x : List PD) (b : D) : Option D := match b with
  | .p (.tuple y) => if op = .Add ∧ x.length + y.length ≤ line then some (.p (.tuple (x ++ y))) else none
  | .p (.int k) => if op = .Mult ∧ x ≠ [] ∧ 2 ≤ k ∧ k ≤ 1000 ∧ x.length ≤ 1000 then some (.p (.tuple (rep x k))) else if op = .Mult ∧ k = 1 then some (.p (.tuple x)) else none
  | _ => none
def binD (op : Operator) (a b : D) : Option D := match a with
  | .p (.int i) => match b with
    | .p (.int j) => (binI op i j).map fun k => .p (.int k)
    | _ => none
  | .p (.str x) => match b with
    | .p (.str y) => if op = .Add ∧ x.length + y.length ≤ line then some (.p (.str (x ++ y))) else none
    | _ => none
  | .p (.tuple x) => binT op x b
  | .p (.list x) => binL op x b
  | .own x => binL op x b
  | _ => none

def D.toPD : D → Option PD
  | .frl _ => none
  | d => d.fz.pd?
def eqD (a b : D) : Option Bool := match a.toPD, b.toPD with
  | some x, some y => if SeqAt.shaped x = true ∧ SeqAt.shaped y = true then some (PyData.eqv x y) else none
  | _, _ => none
/-- tuples of intsP by their order -/
abbrev ltL : List Int → List Int → Bool := HT.lexLt
def lookD {κ : Type} [DecidableEq κ] (l : List (κ × PD)) (k : κ) : Option PD := (l.find? fun q => decide (q.1 = k)).map (·.2)
def putD {κ : Type} [DecidableEq κ] (l : List (κ × PD)) (k : κ) (d : PD) : List (κ × PD) :=
  if (l.any fun q => decide (q.1 = k)) = true then l.map fun q => if q.1 = k then (q.1, d) else q else l ++ [(k, d)]
def keyP : PD → Option Key
  | .int i => some (.inl i)
  | .str s => some (.inr s)
  | _ => none
def keysP : List PD → Option (List Key)
  | [] => some []
  | d :: r => match keyP d, keysP r with
    | some k, some ks => some (k :: ks)
    | _, _ => none
def isStrP : PD → Bool
  | .str _ => true
  | _ => false
def is01 : PD → PD → Bool
  | .int a, .int b => (a == 0 || a == 1) && b == 1
  | _, _ => false
/-- may be a tuple that the module's top made: (0, 1), (1, 1), or one of texts *)-/
def kCon (l : List PD) : Bool := match l with
  | [] => false
  | [a, b] => is01 a b || (isStrP a && isStrP b)
  | a :: r => isStrP a && r.all isStrP
def isNonP : PD → Bool
  | .none => true
  | _ => false
def isD (a b : D) : Option Bool := match b with
  | .p .none => match a with
    | .p d => some (isNonP d)
    | .frl _ => none
    | .own _ => some false
    | .own2 _ => some false
    | .odk _ => some false
    | .odt _ => some false
  | .p (.bool y) => match a with
    | .p (.bool x) => some (x == y)
    | _ => none
  | _ => none
def inD (a b : D) : Option Bool := match a with
  | .p x => match seqD b with
    | some l => if SeqAt.shaped x = true ∧ SeqAt.shaped (.list l) = true then some (l.any fun y => PyData.eqv y x) else none
    | none => match b with
      | .odk l => (keyP x).map fun k => (lookD l k).isSome
      | .odt l => match x with
        | .tuple y => if kCon y then none else (keysP y).map fun k => (lookD l k).isSome
        | _ => none
      | _ => none
  | _ => none
def cmpD (op : CmpOp) (a b : D) : Option Bool := match op with
  | .Eq => eqD a b
  | .NotEq => (eqD a b).map (!·)
  | .Is => isD a b
  | .IsNot => (isD a b).map (!·)
  | .Lt => match a, b with
    | .p (.int i), .p (.int j) => some (decide (i < j))
    | .p (.tuple x), .p (.tuple y) => match intsP x, intsP y with
      | some x, some y => some (ltL x y)
      | _, _ => none
    | _, _ => none
  | .LtE => match a, b with
    | .p (.int i), .p (.int j) => some (decide (i ≤ j))
    | .p (.tuple x), .p (.tuple y) => match intsP x, intsP y with
      | some x, some y => some (!ltL y x)
      | _, _ => none
    | _, _ => none
  | .Gt => match a, b with
    | .p (.int i), .p (.int j) => some (decide (j < i))
    | _, _ => none
  | .GtE => match a, b with
    | .p (.int i), .p (.int j) => some (decide (j ≤ i))
    | _, _ => none
  | .In => inD a b
  | .NotIn => (inD a b).map (!·)
def idxD (a b : D) : Option D := match a, b with
  | .frl l, .p (.int i) => (atI l i).map fun k => .p (.int k)
  | .odk l, .p k => match keyP k with
    | some k => (lookD l k).map .p
    | none => none
  | .odt l, .p (.tuple k) => if kCon k then none else match keysP k with
    | some k => (lookD l k).map .p
    | none => none
  | .p (.str z), .p (.int i) => if z.length ≤ line then (atI z.cps.toList i).map fun c => .p (.str ⟨#[c]⟩) else none
  | a, .p (.int i) => match seqD a with
    | some l => (atI l i).map .p
    | none => none
  | _, _ => none
def slD (a : D) (lo hi : Option Int) : Option D := match a with
  | .p (.tuple l) => some (.p (.tuple (cut l lo hi)))
  | .p (.list l) => some (.own (cut l lo hi))
  | .own l => some (.own (cut l lo hi))
  | _ => none
def intD : D → Option Int
  | .p (.int i) => some i
  | _ => none
def insG {α : Type} (lt : α → α → Bool) (x : α) : List α → List α
  | [] => [x]
  | y :: r => if lt x y then x :: y :: r else y :: insG lt x r
def sortG {α : Type} (lt : α → α → Bool) (l : List α) : List α := l.foldl (fun acc x => insG lt x acc) []
/-- sorted, of tuples of ints (equal ones are alike), of ints -/
def sortI (l : List (List Int)) : List (List Int) := sortG ltL l
def sortZ (l : List Int) : List Int := sortG (fun x y => decide (x < y)) l
def tupsI : List PD → Option (List (List Int))
  | [] => some []
  | .tuple x :: r => match intsP x, tupsI r with
    | some (y :: ys), some r => some ((y :: ys) :: r)
    | _, _ => none
  | _ => none
def sortP (l : List PD) : Option (List PD) := match intsP l with
  | some ns => some ((sortZ ns).map .int)
  | none => match tupsI l with
    | some xs => some ((sortI xs).map fun x => .tuple (x.map .int))
    | none => none
def isiP (t : Ty) : PD → Bool
  | .none => false
  | .bool _ => decide (t = .bool ∨ t = .int)
  | .int _ => decide (t = .int)
  | .str _ => decide (t = .str)
  | .list _ => decide (t = .list)
  | .tuple _ => decide (t = .tuple)
  | .dict _ => decide (t = .dict)
def un (g : D → Option D) : List D → Option D
  | [a] => g a
  | _ => none
def lenD : D → Option D
  | .frl l => some (.p (.int l.length))
  | .own2 l => some (.p (.int l.length))
  | .odk l => some (.p (.int l.length))
  | .odt l => some (.p (.int l.length))
  | .p (.str z) => if z.length ≤ line then some (.p (.int z.length)) else none
  | a => (seqD a).map fun l => .p (.int l.length)
def absD : D → Option D
  | .p (.int i) => some (.p (.int (if i < 0 then -i else i)))
  | _ => none
def maxL : List Int → Option D
  | i :: r => some (.p (.int (r.foldl (fun a b => if b > a then b else a) i)))
  | [] => none
def minL : List Int → Option D
  | i :: r => some (.p (.int (r.foldl (fun a b => if b < a then b else a) i)))
  | [] => none
def maxD : List D → Option D
  | [a] => (lstD a).bind fun l => (intsP l).bind maxL
  | [.p (.int i), .p (.int j)] => some (.p (.int (if j > i then j else i)))
  | _ => none
def minD : List D → Option D
  | [a] => (lstD a).bind fun l => (intsP l).bind minL
  | [.p (.int i), .p (.int j)] => some (.p (.int (if j < i then j else i)))
  | _ => none
def sumD (a : D) : Option D := (lstD a).bind fun l => (intsP l).map fun ns => .p (.int ns.sum)
def allD (a : D) : Option D := (lstD a).bind fun l => (boolsP l).map fun bs => .p (.bool (bs.all id))
def anyD (a : D) : Option D := (lstD a).bind fun l => (boolsP l).map fun bs => .p (.bool (bs.any id))
def toInt : D → Option D
  | .p (.int i) => some (.p (.int i))
  | .p (.bool b) => some (.p (.int (if b then 1 else 0)))
  | _ => none
def toList : D → Option D
  | .odt l => some (.own (l.map fun q => .tuple (q.1.map kPD)))
  | a => (seqD a).map .own
def toTup (a : D) : Option D := (seqD a).map fun l => .p (.tuple l)
def sortD : D → Option D
  | .odt l => (sortP (l.map fun q => .tuple (q.1.map kPD))).map .own
  | a => (lstD a).bind fun l => (sortP l).map .own
def reprD (a : D) : Option D := a.toPD.bind fun d => if SeqAt.shaped d = true ∧ d.showable = true ∧ d.shown.length ≤ line then some (.p (.str d.shown)) else none
def dmD : List D → Option D
  | [.p (.int i), .p (.int j)] => if 0 < j ∧ j < 1073741824 then some (.p (.tuple [.int (i / j), .int (i % j)])) else none
  | _ => none
def bfD (f : Bf) (as : List D) : Option D := match f with
  | .len => un lenD as
  | .abs => un absD as
  | .max => maxD as
  | .min => minD as
  | .sum => un sumD as
  | .all => un allD as
  | .any => un anyD as
  | .int => un toInt as
  | .list => un toList as
  | .tuple => un toTup as
  | .sorted => un sortD as
  | .repr => un reprD as
  | .divmod => dmD as
  | .bool => none
def revD : D → Option D
  | .p (.list l) => some (.own l.reverse)
  | .own l => some (.own l.reverse)
  | _ => none
def rangeL (lo hi : Int) : List PD := (List.range (hi - lo).toNat).map fun k => .int (lo + (k : Nat))
def small (i : Int) : Bool := decide (-(2 ^ 62) ≤ i ∧ i < 2 ^ 62)
def rgB (a b : Int) : Bool := small a && small b && decide ((b - a).toNat ≤ 16777216)
def prD (p : Prim) (as : List D) : Option D := match p, as with
  | .bin op, [a, b] => binD op a b
  | .neg, [.p (.int i)] => some (.p (.int (-i)))
  | .cmp op, [a, b] => (cmpD op a b).map fun c => .p (.bool c)
  | .idx, [a, b] => idxD a b
  | .rev, [a] => revD a
  | .bf f, as => bfD f as
  | .isi t, [.p d] => some (.p (.bool (isiP t d)))
  | .isi t, [.own _] => some (.p (.bool (decide (t = .list))))
  | .lrg, [.p (.int n)] => if rgB 0 n then some (.own (rangeL 0 n)) else none
  | .lrg, [.p (.int a), .p (.int b)] => if rgB a b then some (.own (rangeL a b)) else none
  | .gcd, [.p (.int a), .p (.int b)] => some (.p (.int ((Nat.gcd a.natAbs b.natAbs : Nat) : Int)))
  | .inr neg, [.p (.int i), .p (.int a), .p (.int b)] => some (.p (.bool (if neg then !decide (a ≤ i ∧ i < b) else decide (a ≤ i ∧ i < b))))
  | _, _ => none

/-! ### slots -/
def Env.at_ (ρ : Env) (i : Nat) : Option D := (ρ[i]?).join
def Env.put (ρ : Env) (i : Nat) (d : D) : Env := ρ.set i (some d)
def wipeE (ρ : Env) : List Nat → Env
  | [] => ρ
  | v :: vs => (wipeE ρ vs).set v none
/-- the slots vs as in ρ₀ -/
def backE (ρ0 ρ : Env) : List Nat → Env
  | [] => ρ
  | v :: vs => (backE ρ0 ρ vs).set v (ρ0.at_ v)
/-- an argument: a value, or what a slot holds when all are reckoned -/
inductive Arg where
  | v (d : D)
  | s (i : Nat)
def Arg.get (ρ : Env) : Arg → Option D
  | .v d => some d
  | .s i => ρ.at_ i
def argsGet (ρ : Env) : List Arg → Option (List D)
  | [] => some []
  | a :: r => match a.get ρ, argsGet ρ r with
    | some d, some ds => some (d :: ds)
    | _, _ => none
/-- a list made of these items -/
def allP : List D → Option (List PD)
  | [] => some []
  | .p d :: r => (allP r).map (d :: ·)
  | _ => none
def allO : List D → Option (List (List PD))
  | [] => some []
  | .own l :: r => (allO r).map (l :: ·)
  | _ => none
def fzAll : List D → Option (List PD)
  | [] => some []
  | d :: r => match d.toPD, fzAll r with
    | some x, some xs => some (x :: xs)
    | _, _ => none
def mkL (ds : List D) : Option D := match allP ds with
  | some l => some (.own l)
  | none => match allO ds with
    | some l => some (.own2 l)
    | none => (fzAll ds).map .own
/-- a comprehension's list; its first slot told twice: rows are let go -/
def mkR (own : List Nat) (ds : List D) : Option D := match own with
  | a :: b :: _ => if a = b then (fzAll ds).map .own else mkL ds
  | _ => mkL ds
def T.isL : T → Bool
  | .v _ => false
  | _ => true
/-- targets -/
def asgT : T → PD → Env → Option Env
  | .v i, d, ρ => if i < ρ.length then some (ρ.put i (.p d)) else none
  | .nil, d, ρ => match d with
    | .tuple [] => some ρ
    | _ => none
  | .cons t ts, d, ρ => match d with
    | .tuple (x :: xs) => if ts.isL then match asgT t x ρ with
      | some ρ1 => asgT ts (.tuple xs) ρ1
      | none => none
      else none
    | _ => none

/-- bor: the slots that were lent to us; B: the defs, from their parameters' values -/
structure Ctx where
  bor : Nat → Bool
  B : Nat → List D → CR

/-- the parameters' values: written ones, defaults between them -/
def fill0 : List (Option PD) → List D → Option (List D)
  | [], [] => some []
  | none :: s, d :: ds => (fill0 s ds).map (d :: ·)
  | some x :: s, ds => (fill0 s ds).map (.p x :: ·)
  | _, _ => none
def unfill0 : List (Option PD) → List D → List D
  | none :: s, e :: es => e :: unfill0 s es
  | some _ :: s, _ :: es => unfill0 s es
  | _, _ => []
/-- keywords in another order: the i-th parameter is the j-th that is written: (j,) in its place -/
def markOf : Option PD → Option Nat
  | some (.tuple [.int j]) => some j.toNat
  | _ => none
def marks : List (Option PD) → Option (List Nat)
  | [] => some []
  | o :: r => match markOf o, marks r with
    | some j, some js => some (j :: js)
    | _, _ => none
def permOf : List (Option PD) → Option (List Nat)
  | [] => none
  | o :: r => marks (o :: r)
def D.isP : D → Bool
  | .p _ => true
  | _ => false
def pickD (ds : List D) : List Nat → Option (List D)
  | [] => some []
  | j :: js => match ds[j]?, pickD ds js with
    | some d, some r => some (d :: r)
    | _, _ => none
def fill (src : List (Option PD)) (ds : List D) : Option (List D) := match permOf src with
  | some js => if ds.all D.isP && decide (js.length = ds.length) then pickD ds js else none
  | none => fill0 src ds
def unfill (src : List (Option PD)) (es : List D) : List D := match permOf src with
  | some _ => es
  | none => unfill0 src es
/-- the slots that are lent -/
def lent (ρ : Env) : List Arg → List (Option Nat)
  | [] => []
  | .v _ :: r => none :: lent ρ r
  | .s i :: r => (match ρ.at_ i with
    | some d => if d.isOwn then some i else none
    | none => none) :: lent ρ r
/-- the callee's parameters go back to the slots that lent them -/
def giveBack : List (Option Nat) → List D → Env → Env
  | some i :: ls, d :: ds, ρ => giveBack ls ds (ρ.put i d)
  | none :: ls, _ :: ds, ρ => giveBack ls ds ρ
  | _, _, ρ => ρ
/-- no number twice -/
def nodupB : List Nat → Bool
  | [] => true
  | i :: r => !r.contains i && nodupB r
def doCall (C : Ctx) (f : Nat) (src : List (Option PD)) (as : List Arg) (ρ : Env) : Rs D := match argsGet ρ as with
  | none => .bad
  | some ds => match fill src ds with
    | none => .bad
    | some ps => if nodupB ((lent ρ as).filterMap id) then match C.B f ps with
      | .ok d es => .ok d (giveBack (lent ρ as) (unfill src es) (wipeE ρ ((lent ρ as).filterMap id)))
      | .exc x es => .exc x (giveBack (lent ρ as) (unfill src es) (wipeE ρ ((lent ρ as).filterMap id)))
      | .bad => .bad
      else .bad

def lcLoop (step : PD → Env → Rs (Option D)) : List PD → Env → Rs (List D)
  | [], ρ => .ok [] ρ
  | x :: xs, ρ => match step x ρ with
    | .ok o ρ1 => match lcLoop step xs ρ1 with
      | .ok ds ρ2 => .ok (match o with | some d => d :: ds | none => ds) ρ2
      | r => r
    | .exc _ _ => .bad
    | .bad => .bad

def enumL : Nat → List PD → List PD
  | _, [] => []
  | k, x :: xs => .tuple [.int (k : Nat), x] :: enumL (k + 1) xs

def tupD : D → Option (List PD)
  | .p (.tuple l) => some l
  | _ => none
def pairUp (l m : List PD) : List PD := (l.zip m).map fun q => .tuple [q.1, q.2]
/-- two lists, two tuples, side by side -/
def zipD (x y : D) : Option (List PD) := match lstD x, lstD y with
  | some l, some m => some (pairUp l m)
  | _, _ => match tupD x, tupD y with
    | some l, some m => some (pairUp l m)
    | _, _ => none

/-- a slot is read for good: what it owned is plain from now on -/
def readVar (ρ : Env) (i : Nat) : Rs D := match ρ.at_ i with
  | some d => .ok d.fz (if d.isOwn then ρ.put i d.fz else ρ)
  | none => .bad

/-- x[a][b], x a list of rows -/
def two (ρ : Env) (o : Option D) (r u : Rs D) : Rs D := match o, r, u with
  | some (.own2 l), .ok (.p (.int x)) _, .ok (.p (.int y)) _ => match (atI l x).bind fun r => atI r y with
    | some d => .ok (.p d) ρ
    | none => .bad
  | _, _, _ => .bad
mutual
def ev (C : Ctx) : E → Env → Rs D
  | .var i, ρ => readVar ρ i
  | .mv i, ρ => match ρ.at_ i with
    | some d => if C.bor i then .bad else .ok d (ρ.set i none)
    | none => .bad
  | .non, ρ => .ok (.p .none) ρ
  | .bl b, ρ => .ok (.p (.bool b)) ρ
  | .int i, ρ => .ok (.p (.int i)) ρ
  | .str s, ρ => .ok (.p (.str s)) ρ
  | .glb _ d, ρ => .ok (.p d) ρ
  | .prim p es, ρ => (evA C es ρ).bind fun as ρ1 => match argsGet ρ1 as with
    | some ds => Rs.ofO (prD p ds) ρ1
    | none => .bad
  | .idx2 i a b, ρ => two ρ (ρ.at_ i) (ev C a ρ) (ev C b ρ)
  | .sl a lo hi, ρ => (match a with
      | .var i => if (ρ.at_ i).isSome then .ok (.s i) ρ else .bad
      | a => (ev C a ρ).bind fun d ρ1 => .ok (.v d) ρ1 : Rs Arg).bind fun x ρ1 => (evO C lo ρ1).bind fun l ρ2 => (evO C hi ρ2).bind fun h ρ3 => match x.get ρ3 with
      | some d => Rs.ofO (slD d l h) ρ3
      | none => .bad
  | .tup es, ρ => (evL C es ρ).bind fun ds ρ1 => match fzAll ds with
    | some l => if l.length ≤ line then .ok (.p (.tuple l)) ρ1 else .bad
    | none => .bad
  | .lst es, ρ => (evL C es ρ).bind fun ds ρ1 => if ds.length ≤ line then Rs.ofO (mkL ds) ρ1 else .bad
  | .dnew t, ρ => .ok (if t then .odt [] else .odk []) ρ
  | .dlit k v, ρ => (ev C k ρ).bind fun kd ρ1 => (ev C v ρ1).bind fun vd ρ2 => match kd with
    | .p kp => match keyP kp, vd.toPD with
      | some key, some d => .ok (.odk [(key, d)]) ρ2
      | _, _ => .bad
    | _ => .bad
  | .bop op es, ρ => evB C op es ρ
  | .nt a, ρ => (ev C a ρ).bind fun d ρ1 => Rs.ofO ((truthD d).map fun b => .p (.bool (!b))) ρ1
  | .ite c a b, ρ => (ev C c ρ).bind fun d ρ1 => match truthD d with
    | some true => ev C a ρ1
    | some false => ev C b ρ1
    | none => .bad
  | .chain o1 o2 a b c, ρ => (ev C a ρ).bind fun da ρ1 => (ev C b ρ1).bind fun db ρ2 => match cmpD o1 da db with
    | some true => (ev C c ρ2).bind fun dc ρ3 => Rs.ofO ((cmpD o2 db dc).map fun b => .p (.bool b)) ρ3
    | some false => .ok (.p (.bool false)) ρ2
    | none => .bad
  | .call f src es kes, ρ => (evA C es ρ).bind fun as ρ1 => (evA C kes ρ1).bind fun bs ρ2 => doCall C f src (as ++ bs) ρ2
  | .lc elt tg it ifs own, ρ => (evI C it ρ).bind fun xs ρ1 =>
      if own.all (fun v => !C.bor v && (match ρ1.at_ v with | some d => !d.isOwn | none => true)) = false then .bad else
      match lcLoop (fun x ρ => match asgT tg x (wipeE ρ own) with
        | some ρ2 => (evC C ifs ρ2).bind fun b ρ3 => if b then (ev C elt ρ3).bind fun d ρ4 => .ok (some d) ρ4 else .ok none ρ3
        | none => .bad) xs ρ1 with
      | .ok ds ρ2 => if ds.length ≤ line then Rs.ofO (mkR own ds) (backE ρ1 ρ2 own) else .bad
      | .exc x ρ2 => .exc x ρ2
      | .bad => .bad
  | .pop i, ρ => match ρ.at_ i with
    | some (.own l) => match l.getLast? with
      | some d => .ok (.p d) (ρ.put i (.own l.dropLast))
      | none => .bad
    | _ => .bad
  | .popAt i e, ρ => (ev C e ρ).bind fun k ρ1 => match ρ1.at_ i, k with
    | some (.own l), .p (.int k) => if small k then match ixN l.length k with
      | some j => match l[j]? with
        | some d => .ok (.p d) (ρ1.put i (.own (l.eraseIdx j)))
        | none => .bad
      | none => .bad
      else .bad
    | _, _ => .bad
def evA (C : Ctx) : Es → Env → Rs (List Arg)
  | .nil, ρ => .ok [] ρ
  | .cons e es, ρ => match e with
    | .var i => if (ρ.at_ i).isSome then (evA C es ρ).bind fun as ρ1 => .ok (.s i :: as) ρ1 else .bad
    | e => (ev C e ρ).bind fun d ρ1 => (evA C es ρ1).bind fun as ρ2 => .ok (.v d :: as) ρ2
def evO (C : Ctx) : Es → Env → Rs (Option Int)
  | .nil, ρ => .ok none ρ
  | .cons e _, ρ => (ev C e ρ).bind fun d ρ1 => match d with
    | .p (.int i) => .ok (some i) ρ1
    | _ => .bad
def evL (C : Ctx) : Es → Env → Rs (List D)
  | .nil, ρ => .ok [] ρ
  | .cons e es, ρ => (ev C e ρ).bind fun d ρ1 => (evL C es ρ1).bind fun ds ρ2 => .ok (d :: ds) ρ2
def evB (C : Ctx) (op : BoolOp) : Es → Env → Rs D
  | .nil, _ => .bad
  | .cons e es, ρ => match es with
    | .nil => ev C e ρ
    | es => (ev C e ρ).bind fun d ρ1 => match truthD d with
      | some b => if b = (match op with | .And => true | .Or => false) then evB C op es ρ1 else .ok d ρ1
      | none => .bad
def evC (C : Ctx) : Es → Env → Rs Bool
  | .nil, ρ => .ok true ρ
  | .cons e es, ρ => (ev C e ρ).bind fun d ρ1 => match truthD d with
    | some true => evC C es ρ1
    | some false => .ok false ρ1
    | none => .bad
def evI (C : Ctx) : It → Env → Rs (List PD)
  | .seq e, ρ => (ev C e ρ).bind fun d ρ1 => Rs.ofO (seqD d) ρ1
  | .range es, ρ => (evA C es ρ).bind fun as ρ1 => match argsGet ρ1 as with
    | some [.p (.int n)] => if small n then .ok (rangeL 0 n) ρ1 else .bad
    | some [.p (.int a), .p (.int b)] => if small a && small b then .ok (rangeL a b) ρ1 else .bad
    | _ => .bad
  | .enum e, ρ => (ev C e ρ).bind fun d ρ1 => Rs.ofO ((lstD d).map (enumL 0)) ρ1
  | .zip a b, ρ => (ev C a ρ).bind fun x ρ1 => (ev C b ρ1).bind fun y ρ2 => Rs.ofO (zipD x y) ρ2
  | .rev e, ρ => (ev C e ρ).bind fun d ρ1 => Rs.ofO ((lstD d).map List.reverse) ρ1
end

end Pv

/-! Pv, part B: statements, defs. -/
namespace Pv
open PySem L2

inductive Fl where
  | nx (ρ : Env)
  | rt (d : D) (ρ : Env)
  | bk (ρ : Env)
  | ct (ρ : Env)
  | exc (x : Exn) (ρ : Env)
  | bad
def Rs.fl {α : Type} (r : Rs α) (f : α → Env → Fl) : Fl := match r with
  | .ok a ρ => f a ρ
  | .exc x ρ => .exc x ρ
  | .bad => .bad
def Fl.seq (r : Fl) (f : Env → Fl) : Fl := match r with
  | .nx ρ => f ρ
  | r => r

/-- x[k] = v, x an owned list | dict -/
def setD (x : D) (k : D) (v : D) : Option D := match x, k with
  | .own l, .p (.int i) => match ixN l.length i, v.toPD with
    | some j, some d => some (.own (l.set j d))
    | _, _ => none
  | .odk l, .p k => match keyP k, v.toPD with
    | some k, some d => if l.length < line then some (.odk (putD l k d)) else none
    | _, _ => none
  | .odt l, .p (.tuple k) => if kCon k then none else match keysP k, v.toPD with
    | some k, some d => if l.length < line then some (.odt (putD l k d)) else none
    | _, _ => none
  | _, _ => none
/-- x[a][b] = v, x a list of owned lists -/
def set2D (x : D) (a b : D) (v : D) : Option D := match x, a, b with
  | .own2 l, .p (.int i), .p (.int j) => match ixN l.length i with
    | some m => match l[m]? with
      | some r => match ixN r.length j, v.toPD with
        | some n, some d => some (.own2 (l.set m (r.set n d)))
        | _, _ => none
      | none => none
    | none => none
  | _, _, _ => none
def two2 (ρ1 : Env) (i : Nat) (v : D) (o : Option D) (r u : Rs D) : Fl := match o, r, u with
  | some d, .ok x _, .ok y _ => match set2D d x y v with
    | some d' => .nx (ρ1.put i d')
    | none => .bad
  | _, _, _ => .bad
def appD (x : D) (v : D) : Option D := match x, v with
  | .own [], .own r => some (.own2 [r])
  | .own l, v => match v.toPD with
    | some d => if l.length < line then some (.own (l ++ [d])) else none
    | none => none
  | .own2 l, .own r => if l.length < line then some (.own2 (l ++ [r])) else none
  | _, _ => none
def extD (x : D) (v : D) : Option D := match x with
  | .own l => match lstD v with
    | some m => if l.length + m.length ≤ line then some (.own (l ++ m)) else none
    | none => none
  | _ => none

def Tg.len : Tg → Nat
  | .cons _ ts => ts.len + 1
  | _ => 0
def Tg.isL : Tg → Bool
  | .nil => true
  | .cons _ _ => true
  | _ => false
/-- a slot is given a value: not a parameter that was lent -/
def putS (C : Ctx) (i : Nat) (d : D) (ρ : Env) : Option Env := if C.bor i = false ∧ i < ρ.length then some (ρ.put i d) else none

def asgG (C : Ctx) : Tg → D → Env → Rs Unit
  | .v i, d, ρ => match putS C i d ρ with
    | some ρ1 => .ok () ρ1
    | none => .bad
  | .ix i k, d, ρ => if (ρ.at_ i).isSome then (ev C k ρ).bind fun kd ρ1 => match ρ1.at_ i with
    | some x => match setD x kd d with
      | some y => .ok () (ρ1.put i y)
      | none => .bad
    | none => .bad
    else .bad
  | .nil, d, ρ => match d with
    | .p (.tuple []) => .ok () ρ
    | _ => .bad
  | .cons t ts, d, ρ => match d with
    | .p (.tuple (x :: xs)) => if ts.isL && xs.length == ts.len then (asgG C t (.p x) ρ).bind fun _ ρ1 => asgG C ts (.p (.tuple xs)) ρ1 else .bad
    | _ => .bad

def putAll (C : Ctx) : List Nat → List D → Env → Option Env
  | [], [], ρ => some ρ
  | i :: is, d :: ds, ρ => match putS C i d ρ with
    | some ρ1 => putAll C is ds ρ1
    | none => none
  | _, _, _ => none

def forL (C : Ctx) (t : T) (b : Env → Fl) : List PD → Env → Fl
  | [], ρ => .nx ρ
  | x :: xs, ρ => match asgF C t x ρ with
    | none => .bad
    | some ρ1 => match b ρ1 with
      | .nx ρ2 => forL C t b xs ρ2
      | .ct ρ2 => forL C t b xs ρ2
      | .bk ρ2 => .nx ρ2
      | r => r
where asgF (C : Ctx) (t : T) (x : PD) (ρ : Env) : Option Env := if okT C t then asgT t x ρ else none
      okT (C : Ctx) : T → Bool
        | .v i => !C.bor i
        | .nil => true
        | .cons t ts => okT C t && okT C ts

def wN (c : Env → Rs Bool) (b : Env → Fl) : Nat → Env → Option Fl
  | 0, _ => none
  | n + 1, ρ => match c ρ with
    | .ok false ρ1 => some (.nx ρ1)
    | .ok true ρ1 => match b ρ1 with
      | .nx ρ2 => wN c b n ρ2
      | .ct ρ2 => wN c b n ρ2
      | .bk ρ2 => some (.nx ρ2)
      | r => some r
    | .exc x ρ1 => some (.exc x ρ1)
    | .bad => some .bad
theorem wN_mono {c : Env → Rs Bool} {b : Env → Fl} : ∀ {n m : Nat} {ρ : Env} {r : Fl}, wN c b n ρ = some r → n ≤ m → wN c b m ρ = some r
  | 0, _, _, _, h, _ => by cases h
  | n + 1, 0, _, _, _, h => by omega
  | n + 1, m + 1, ρ, r, h, hm => by
    unfold wN at h ⊢
    split at h <;> try assumption
    split at h <;> try assumption
    all_goals first
      | exact wN_mono h (by omega)
open Classical in
/-- a while: what comes, if it ends -/
noncomputable def wS (c : Env → Rs Bool) (b : Env → Fl) (ρ : Env) : Fl := if h : ∃ r n, wN c b n ρ = some r then h.choose else .bad
theorem wS_of {c : Env → Rs Bool} {b : Env → Fl} {n : Nat} {ρ : Env} {r : Fl} (h : wN c b n ρ = some r) : wS c b ρ = r := by
  have hx : ∃ r n, wN c b n ρ = some r := ⟨r, n, h⟩
  unfold wS
  rw [dif_pos hx]
  obtain ⟨m, hm⟩ := hx.choose_spec
  have h1 := wN_mono h (Nat.le_max_left n m)
  have h2 := wN_mono hm (Nat.le_max_right n m)
  rw [h1] at h2
  exact (Option.some.inj h2).symm
theorem wS_some {c : Env → Rs Bool} {b : Env → Fl} {ρ : Env} (h : wS c b ρ ≠ .bad) : ∃ n, wN c b n ρ = some (wS c b ρ) := by
  unfold wS at h ⊢
  split at h
  · rename_i hx
    rw [dif_pos hx]
    exact hx.choose_spec
  · exact absurd rfl h
/-- one turn -/
theorem wS_step {c : Env → Rs Bool} {b : Env → Fl} {ρ : Env} : wS c b ρ = (match c ρ with
    | .ok false ρ1 => .nx ρ1
    | .ok true ρ1 => match b ρ1 with
      | .nx ρ2 => wS c b ρ2
      | .ct ρ2 => wS c b ρ2
      | .bk ρ2 => .nx ρ2
      | r => r
    | .exc x ρ1 => .exc x ρ1
    | .bad => .bad) := by
  have key : ∀ ρ1 ρ2, c ρ = .ok true ρ1 → (b ρ1 = .nx ρ2 ∨ b ρ1 = .ct ρ2) → wS c b ρ = wS c b ρ2 := by
    intro ρ1 ρ2 h1 h2
    by_cases hx : ∃ r n, wN c b n ρ2 = some r
    · obtain ⟨r, n, h⟩ := hx
      rw [wS_of h]
      refine wS_of (n := n + 1) ?_
      unfold wN
      rw [h1]
      rcases h2 with h2 | h2 <;> simp only [h2, h]
    · have e2 : wS c b ρ2 = .bad := by unfold wS; rw [dif_neg hx]
      rw [e2]
      unfold wS
      rw [dif_neg]
      rintro ⟨r, n, h⟩
      cases n with
      | zero => cases h
      | succ n =>
        unfold wN at h
        rw [h1] at h
        rcases h2 with h2 | h2 <;> simp only [h2] at h <;> exact hx ⟨r, n, h⟩
  cases h : c ρ with
  | bad => exact wS_of (n := 1) (by unfold wN; rw [h])
  | exc x ρ1 => exact wS_of (n := 1) (by unfold wN; rw [h])
  | ok t ρ1 =>
    cases t with
    | false => exact wS_of (n := 1) (by unfold wN; rw [h])
    | true =>
      cases h2 : b ρ1 with
      | nx ρ2 => simp only [h2]; exact key ρ1 ρ2 h (.inl h2)
      | ct ρ2 => simp only [h2]; exact key ρ1 ρ2 h (.inr h2)
      | bk ρ2 => simp only [h2]; exact wS_of (n := 1) (by unfold wN; rw [h]; simp only [h2])
      | rt d ρ2 => simp only [h2]; exact wS_of (n := 1) (by unfold wN; rw [h]; simp only [h2])
      | exc x ρ2 => simp only [h2]; exact wS_of (n := 1) (by unfold wN; rw [h]; simp only [h2])
      | bad => simp only [h2]; exact wS_of (n := 1) (by unfold wN; rw [h]; simp only [h2])

def isLst : Option D → Bool
  | some (.own _) => true
  | some (.own2 _) => true
  | _ => false
/-- a condition -/
def evT (C : Ctx) (e : E) (ρ : Env) : Rs Bool := (ev C e ρ).bind fun d ρ1 => Rs.ofO (truthD d) ρ1

mutual
noncomputable def ex (C : Ctx) : S → Env → Fl
  | .asg t e, ρ => (ev C e ρ).fl fun d ρ1 => (asgG C t d ρ1).fl fun _ ρ2 => .nx ρ2
  | .par is es, ρ => (evL C es ρ).fl fun ds ρ1 => match putAll C is ds ρ1 with
    | some ρ2 => .nx ρ2
    | none => .bad
  | .set2 i a b e, ρ => (ev C e ρ).fl fun v ρ1 => two2 ρ1 i v (ρ1.at_ i) (ev C a ρ1) (ev C b ρ1)
  | .aug i op e, ρ => match ρ.at_ i with
    | some (.p (.int n)) => (ev C e ρ).fl fun d ρ1 => match d with
      | .p (.int m) => match op with
        | .Add => (match putS C i (.p (.int (n + m))) ρ1 with | some ρ2 => .nx ρ2 | none => .bad)
        | .Sub => (match putS C i (.p (.int (n - m))) ρ1 with | some ρ2 => .nx ρ2 | none => .bad)
        | _ => .bad
      | _ => .bad
    | _ => .bad
  | .app i e, ρ => if isLst (ρ.at_ i) = false then .bad else (ev C e ρ).fl fun v ρ1 => match ρ1.at_ i with
    | some d => match appD d v with
      | some d' => .nx (ρ1.put i d')
      | none => .bad
    | none => .bad
  | .ext i e, ρ => if isLst (ρ.at_ i) = false then .bad else (ev C e ρ).fl fun v ρ1 => match ρ1.at_ i with
    | some d => match extD d v with
      | some d' => .nx (ρ1.put i d')
      | none => .bad
    | none => .bad
  | .expr e, ρ => (ev C e ρ).fl fun _ ρ1 => .nx ρ1
  | .ife c a b, ρ => (evT C c ρ).fl fun t ρ1 => if t then exs C a ρ1 else exs C b ρ1
  | .fore t it b, ρ => (evI C it ρ).fl fun xs ρ1 => forL C t (exs C b) xs ρ1
  | .whl c b, ρ => wS (evT C c) (exs C b) ρ
  | .ret e, ρ => match e with
    | .var i => match ρ.at_ i with
      | some d => if C.bor i then .rt d.fz (if d.isOwn then ρ.put i d.fz else ρ) else .rt d (if d.isOwn then ρ.set i none else ρ)
      | none => .bad
    | e => (ev C e ρ).fl fun d ρ1 => .rt d ρ1
  | .retz e, ρ => (ev C e ρ).fl fun d ρ1 => .rt d ρ1
  | .retn, ρ => .rt (.p .none) ρ
  | .pass, ρ => .nx ρ
  | .brk, ρ => .bk ρ
  | .cont, ρ => .ct ρ
  | .never, _ => .bad
noncomputable def exs (C : Ctx) : Ss → Env → Fl
  | .nil, ρ => .nx ρ
  | .cons s ss, ρ => (ex C s ρ).seq (exs C ss)
end

/-! ### defs -/
structure Fn where
  name : Str
  params : List Str
  names : List Str
  body : Ss

def start (f : Fn) (ds : List D) : Env := ds.map some ++ List.replicate (f.names.length - ds.length) none
def takeD : Nat → Env → List D
  | 0, _ => []
  | n + 1, ρ => ((ρ.at_ 0).getD (.p .none)) :: takeD n ρ.tail
def borOf (ds : List D) : Nat → Bool := fun i => match ds[i]? with
  | some d => d.isOwn
  | none => false
/-- a def's run: from its parameters -/
noncomputable def runB (B : Nat → List D → CR) (f : Fn) (ds : List D) : CR :=
  if ds.length = f.params.length ∧ ds.length ≤ f.names.length then
  match exs ⟨borOf ds, B⟩ f.body (start f ds) with
  | .nx ρ => .ok (.p .none) (takeD ds.length ρ)
  | .rt d ρ => .ok d (takeD ds.length ρ)
  | .exc x ρ => .exc x (takeD ds.length ρ)
  | _ => .bad
  else .bad
/-- calls, k deep -/
noncomputable def run (prog : Nat → Option Fn) : Nat → Nat → List D → CR
  | 0, _, _ => .bad
  | k + 1, f, ds => match prog f with
    | none => .bad
    | some fn => runB (run prog k) fn ds
end Pv

/-! Pv, part C: how plain data lies in the abstract heap. -/
namespace Pv
open PySem PySem.Spec L2
open PyProof.Rows hiding St

/-- a tuple that the module's top made -/
def TupK (K : PySem.W.Frag) (a : Addr) (xs : List V) : Prop := ∃ (o : Obj) (its : Array Value) (n : Nat), K.lookup a = some o ∧ o.cls = .type "tuple" ∧ o.data = .seq its n ∧ its.size ≤ sizeLine ∧ Vals xs its.toList
section
variable (K : PySem.W.Frag)
mutual
/-- v stands for the plain data d; O: the addresses that somebody owns (none of them is met) -/
inductive Rp (H : Hp) (O : Addr → Prop) : V → PD → Prop
  | non : Rp H O .non .none
  | bl (b : Bool) : Rp H O (.bl b) (.bool b)
  | int (i : Int) : Rp H O (.int i) (.int i)
  | str (x : Str) : Rp H O (.str x) (.str x)
  | lst {a : Addr} {xs : List V} {ds : List PD} : H a = some (.lst xs) → ¬ O a → RpAll H O xs ds → Rp H O (.ref a) (.list ds)
  | tup {a : Addr} {xs : List V} {ds : List PD} : H a = some (.tup xs) → RpAll H O xs ds → Rp H O (.ref a) (.tuple ds)
  | tupK {a : Addr} {xs : List V} {ds : List PD} : TupK K a xs → kCon ds = true → RpAll H O xs ds → Rp H O (.ref a) (.tuple ds)
  | dk {a : Addr} {kvs : List (Key × V)} {l : List (Key × PD)} : H a = some (.dK kvs) → ¬ O a → kvs.map (·.1) = l.map (·.1) → RpAll H O (kvs.map (·.2)) (l.map (·.2)) → Rp H O (.ref a) (.dict (l.map fun q => (kPD q.1, q.2)))
  | dt {a : Addr} {kvs : List (List Key × V)} {l : List (List Key × PD)} : H a = some (.dT kvs) → ¬ O a → kvs.map (·.1) = l.map (·.1) → RpAll H O (kvs.map (·.2)) (l.map (·.2)) → Rp H O (.ref a) (.dict (l.map fun q => (.tuple (q.1.map kPD), q.2)))
inductive RpAll (H : Hp) (O : Addr → Prop) : List V → List PD → Prop
  | nil : RpAll H O [] []
  | cons {v : V} {vs : List V} {d : PD} {ds : List PD} : Rp H O v d → RpAll H O vs ds → RpAll H O (v :: vs) (d :: ds)
end
/-- a list of owned lists -/
inductive RwL (H : Hp) (O : Addr → Prop) : List V → List (List PD) → List Addr → Prop
  | nil : RwL H O [] [] []
  | cons {a : Addr} {xs vs : List V} {ds : List PD} {dss : List (List PD)} {F : List Addr} : H a = some (.lst xs) → O a → RpAll K H O xs ds → RwL H O vs dss F → RwL H O (.ref a :: vs) (ds :: dss) (a :: F)
/-- the script (or a list of the module): never written -/
def FrL (H : Hp) (a : Addr) (xs : List V) : Prop := (∃ o, H a = some (.frz o (.lst xs))) ∨
    ∃ (o : Obj) (its : Array Value) (n : Nat), K.lookup a = some o ∧ o.cls = .type "list" ∧ o.dict = none ∧ o.data = .seq its n ∧ its.size ≤ sizeLine ∧ Vals xs its.toList
/-- a slot's value; F: the addresses that it owns -/
inductive Rw (H : Hp) (O : Addr → Prop) : V → D → List Addr → Prop
  | p {v : V} {d : PD} : Rp K H O v d → Rw H O v (.p d) []
  | own {a : Addr} {xs : List V} {ds : List PD} : H a = some (.lst xs) → O a → RpAll K H O xs ds → Rw H O (.ref a) (.own ds) [a]
  | own2 {a : Addr} {xs : List V} {dss : List (List PD)} {F : List Addr} : H a = some (.lst xs) → O a → RwL K H O xs dss F → Rw H O (.ref a) (.own2 dss) (a :: F)
  | odk {a : Addr} {kvs : List (Key × V)} {l : List (Key × PD)} : H a = some (.dK kvs) → O a → kvs.map (·.1) = l.map (·.1) → RpAll K H O (kvs.map (·.2)) (l.map (·.2)) → Rw H O (.ref a) (.odk l) [a]
  | odt {a : Addr} {kvs : List (List Key × V)} {l : List (List Key × PD)} : H a = some (.dT kvs) → O a → kvs.map (·.1) = l.map (·.1) → RpAll K H O (kvs.map (·.2)) (l.map (·.2)) → Rw H O (.ref a) (.odt l) [a]
  | frl {a : Addr} {ns : List Int} : FrL K H a (ns.map V.int) → Rw H O (.ref a) (.frl ns) []
end

theorem FrL.sq {K : PySem.W.Frag} {H : Hp} {a : Addr} {xs : List V} (h : FrL K H a xs) : SqL K H a xs := by
  rcases h with ⟨o, h⟩ | h
  · exact .inl (.inr ⟨o, h⟩)
  · exact .inr h

/-- who is owned is a list or a dict -/
def Wok (H : Hp) (O : Addr → Prop) : Prop := ∀ a, O a → (∃ xs, H a = some (.lst xs)) ∨ (∃ kvs, H a = some (.dK kvs)) ∨ ∃ kvs, H a = some (.dT kvs)
/-- what may come: F may change, all else is kept -/
structure Le (F : Addr → Prop) (H : Hp) (O : Addr → Prop) (H' : Hp) (O' : Addr → Prop) : Prop where
  ext : ∀ a o, H a = some o → ¬ F a → H' a = some o
  thr : ∀ a o, H a = some o → ∃ o', H' a = some o'
  tup : ∀ a xs, H a = some (.tup xs) → H' a = some (.tup xs)
  frz : ∀ a o u, H a = some (.frz o u) → H' a = some (.frz o u)
  own : ∀ a, O a → ¬ F a → O' a
  new : ∀ a, O' a → O a ∨ H a = none
theorem Le.refl {F : Addr → Prop} {H : Hp} {O : Addr → Prop} : Le F H O H O := ⟨fun _ _ h _ => h, fun _ o h => ⟨o, h⟩, fun _ _ h => h, fun _ _ _ h => h, fun _ h _ => h, fun _ h => .inl h⟩
theorem none_of_thr {H H' : Hp} (thr : ∀ a o, H a = some o → ∃ o', H' a = some o') {a : Addr} (h : H' a = none) : H a = none := by
  cases q : H a with
  | none => rfl
  | some o =>
    obtain ⟨o', e⟩ := thr a o q
    rw [h] at e; cases e
theorem Le.trans {F F1 : Addr → Prop} {H H1 H2 : Hp} {O O1 O2 : Addr → Prop} (a : Le F H O H1 O1) (b : Le F1 H1 O1 H2 O2) (hs : ∀ x, F1 x → F x ∨ H x = none) (w : Wok H O) : Le F H O H2 O2 where
  ext := fun x o h hf => b.ext x o (a.ext x o h hf) fun z => (hs x z).elim hf fun q => by rw [h] at q; cases q
  thr := fun x o h => let ⟨o1, h1⟩ := a.thr x o h; b.thr x o1 h1
  tup := fun x xs h => b.tup x xs (a.tup x xs h)
  frz := fun x o u h => b.frz x o u (a.frz x o u h)
  own := fun x h hf => b.own x (a.own x h hf) fun z => (hs x z).elim hf fun q => by
    rcases w x h with ⟨_, e⟩ | ⟨_, e⟩ | ⟨_, e⟩ <;> (rw [e] at q; cases q)
  new := fun x h => by
    rcases b.new x h with h1 | h1
    · exact a.new x h1
    · exact .inr (none_of_thr a.thr h1)
theorem Le.mono {F F' : Addr → Prop} {H H' : Hp} {O O' : Addr → Prop} (l : Le F H O H' O') (h : ∀ a, F a → F' a) : Le F' H O H' O' :=
  ⟨fun a o e nf => l.ext a o e fun z => nf (h a z), l.thr, l.tup, l.frz, fun a e nf => l.own a e fun z => nf (h a z), l.new⟩

section
variable {K : PySem.W.Frag} {H H' : Hp} {O O' F : Addr → Prop}
theorem sqT_mono (l : Le F H O H' O') {a : Addr} {xs : List V} (h : SqT K H a xs) : SqT K H' a xs := by
  rcases h with (h | ⟨o, h⟩) | h
  · exact .inl (.inl (l.tup _ _ h))
  · exact .inl (.inr ⟨o, l.frz _ _ _ h⟩)
  · exact .inr h
theorem not_own (l : Le F H O H' O') {a : Addr} {o : HO} (h : H a = some o) (n : ¬ O a) : ¬ O' a := fun z => by
  rcases l.new a z with q | q
  · exact n q
  · rw [h] at q; cases q
mutual
theorem Rp.mono (l : Le F H O H' O') (hf : ∀ a, F a → O a) : ∀ {v : V} {d : PD}, Rp K H O v d → Rp K H' O' v d
  | _, _, .non => .non
  | _, _, .bl b => .bl b
  | _, _, .int i => .int i
  | _, _, .str x => .str x
  | _, _, .lst h n r => .lst (l.ext _ _ h fun z => n (hf _ z)) (not_own l h n) (RpAll.mono l hf r)
  | _, _, .tup h r => .tup (l.tup _ _ h) (RpAll.mono l hf r)
  | _, _, .tupK h c r => .tupK h c (RpAll.mono l hf r)
  | _, _, .dk h n e r => .dk (l.ext _ _ h fun z => n (hf _ z)) (not_own l h n) e (RpAll.mono l hf r)
  | _, _, .dt h n e r => .dt (l.ext _ _ h fun z => n (hf _ z)) (not_own l h n) e (RpAll.mono l hf r)
theorem RpAll.mono (l : Le F H O H' O') (hf : ∀ a, F a → O a) : ∀ {vs : List V} {ds : List PD}, RpAll K H O vs ds → RpAll K H' O' vs ds
  | _, _, .nil => .nil
  | _, _, .cons r t => .cons (Rp.mono l hf r) (RpAll.mono l hf t)
end
theorem RwL.mono (l : Le F H O H' O') (hf : ∀ a, F a → O a) : ∀ {vs : List V} {dss : List (List PD)} {G : List Addr}, RwL K H O vs dss G → (∀ a ∈ G, ¬ F a) → RwL K H' O' vs dss G
  | _, _, _, .nil, _ => .nil
  | _, _, _, .cons h o r t, n => .cons (l.ext _ _ h (n _ List.mem_cons_self)) (l.own _ o (n _ List.mem_cons_self)) (RpAll.mono l hf r) (RwL.mono l hf t fun a ha => n a (List.mem_cons_of_mem _ ha))
theorem FrL.mono (l : Le F H O H' O') {a : Addr} {xs : List V} (h : FrL K H a xs) : FrL K H' a xs := by
  rcases h with ⟨o, h⟩ | h
  · exact .inl ⟨o, l.frz _ _ _ h⟩
  · exact .inr h
theorem Rw.mono (l : Le F H O H' O') (hf : ∀ a, F a → O a) {v : V} {d : D} {G : List Addr} (r : Rw K H O v d G) (n : ∀ a ∈ G, ¬ F a) : Rw K H' O' v d G := by
  cases r with
  | p r => exact .p (r.mono l hf)
  | own h o r => exact .own (l.ext _ _ h (n _ List.mem_cons_self)) (l.own _ o (n _ List.mem_cons_self)) (r.mono l hf)
  | own2 h o r => exact .own2 (l.ext _ _ h (n _ List.mem_cons_self)) (l.own _ o (n _ List.mem_cons_self)) (r.mono l hf fun a ha => n a (List.mem_cons_of_mem _ ha))
  | odk h o e r => exact .odk (l.ext _ _ h (n _ List.mem_cons_self)) (l.own _ o (n _ List.mem_cons_self)) e (r.mono l hf)
  | odt h o e r => exact .odt (l.ext _ _ h (n _ List.mem_cons_self)) (l.own _ o (n _ List.mem_cons_self)) e (r.mono l hf)
  | frl h => exact .frl (h.mono l)
theorem RwL.own : ∀ {vs : List V} {dss : List (List PD)} {G : List Addr}, RwL K H O vs dss G → ∀ a ∈ G, O a
  | _, _, _, .nil, a, h => by cases h
  | _, _, _, .cons _ o _ t, a, h => by
    rcases List.mem_cons.mp h with rfl | h
    · exact o
    · exact RwL.own t a h
theorem Rw.own_mem {v : V} {d : D} {G : List Addr} (r : Rw K H O v d G) : ∀ a ∈ G, O a := by
  cases r with
  | p _ => intro a h; cases h
  | own _ o _ => intro a h; rw [List.mem_singleton.mp h]; exact o
  | own2 _ o r => intro a h; rcases List.mem_cons.mp h with rfl | h; exact o; exact r.own a h
  | odk _ o _ _ => intro a h; rw [List.mem_singleton.mp h]; exact o
  | odt _ o _ _ => intro a h; rw [List.mem_singleton.mp h]; exact o
  | frl _ => intro a h; cases h
theorem RpAll.length : ∀ {vs : List V} {ds : List PD}, RpAll K H O vs ds → vs.length = ds.length
  | _, _, .nil => rfl
  | _, _, .cons _ t => congrArg (· + 1) (RpAll.length t)
theorem RwL.length : ∀ {vs : List V} {dss : List (List PD)} {G : List Addr}, RwL K H O vs dss G → vs.length = dss.length
  | _, _, _, .nil => rfl
  | _, _, _, .cons _ _ _ t => congrArg (· + 1) (RwL.length t)
end

/-! ### slots -/
abbrev Fp := Nat → List Addr
def FF (fp : Fp) : Addr → Prop := fun a => ∃ i, a ∈ fp i
/-- the slots σ hold what ρ says; fp: what each owns -/
structure Sl (K : PySem.W.Frag) (H : Hp) (O : Addr → Prop) (σ : St) (ρ : Env) (fp : Fp) : Prop where
  len : σ.length = ρ.length
  rep : ∀ i d, ρ.at_ i = some d → ∃ v, σ[i]? = some (some v) ∧ Rw K H O v d (fp i)
  emp : ∀ i, ρ.at_ i = none → fp i = []
  nd : ∀ i, (fp i).Nodup
  dj : ∀ i j, i ≠ j → ∀ a, a ∈ fp i → a ∉ fp j
section
variable {K : PySem.W.Frag} {H H' : Hp} {O O' F : Addr → Prop} {σ : St} {ρ : Env} {fp : Fp}
theorem Sl.own (s : Sl K H O σ ρ fp) : ∀ a, FF fp a → O a := fun a ⟨i, h⟩ => by
  cases e : ρ.at_ i with
  | none => rw [s.emp i e] at h; cases h
  | some d =>
    obtain ⟨v, _, r⟩ := s.rep i d e
    exact r.own_mem a h
theorem Sl.mono (s : Sl K H O σ ρ fp) (l : Le F H O H' O') (hf : ∀ a, F a → O a) (n : ∀ a, FF fp a → ¬ F a) : Sl K H' O' σ ρ fp :=
  ⟨s.len, fun i d e => let ⟨v, e1, r⟩ := s.rep i d e; ⟨v, e1, r.mono l hf fun a ha => n a ⟨i, ha⟩⟩, s.emp, s.nd, s.dj⟩
theorem at_lt {ρ : Env} {i : Nat} {d : D} (h : ρ.at_ i = some d) : i < ρ.length := by
  unfold Env.at_ at h
  cases e : ρ[i]? with
  | none => rw [e] at h; cases h
  | some o => exact (List.getElem?_eq_some_iff.mp e).1
theorem at_set_self {ρ : Env} {i : Nat} {o : Option D} (h : i < ρ.length) : Env.at_ (ρ.set i o) i = o := by
  unfold Env.at_
  rw [List.getElem?_set_self h]
  rfl
theorem at_set_ne {ρ : Env} {i j : Nat} {o : Option D} (h : i ≠ j) : Env.at_ (ρ.set i o) j = ρ.at_ j := by
  unfold Env.at_
  rw [List.getElem?_set_ne h]
theorem at_put_self {ρ : Env} {i : Nat} {d : D} (h : i < ρ.length) : Env.at_ (ρ.put i d) i = some d := at_set_self h
theorem at_put_ne {ρ : Env} {i j : Nat} {d : D} (h : i ≠ j) : Env.at_ (ρ.put i d) j = ρ.at_ j := at_set_ne h
def fpSet (fp : Fp) (i : Nat) (F : List Addr) : Fp := fun j => if j = i then F else fp j
theorem fpSet_self {fp : Fp} {i : Nat} {F : List Addr} : fpSet fp i F i = F := if_pos rfl
theorem fpSet_ne {fp : Fp} {i j : Nat} {F : List Addr} (h : j ≠ i) : fpSet fp i F j = fp j := if_neg h
/-- a slot is given another value (stored, or changed where it lies) -/
theorem Sl.set {i : Nat} {v : V} {d : D} {F : List Addr} (s : Sl K H O σ ρ fp) (hi : i < ρ.length) (r : Rw K H O v d F) (nd : F.Nodup) (dj : ∀ j, j ≠ i → ∀ a, a ∈ F → a ∉ fp j) :
    Sl K H O (σ.set i (some v)) (ρ.put i d) (fpSet fp i F) where
  len := by unfold Env.put; rw [List.length_set, List.length_set]; exact s.len
  rep := fun j e h => by
    by_cases hj : j = i
    · subst hj
      rw [at_put_self hi] at h
      cases h
      exact ⟨v, List.getElem?_set_self (by rw [s.len]; exact hi), by rw [fpSet_self]; exact r⟩
    · rw [at_put_ne (Ne.symm hj)] at h
      obtain ⟨w, e1, q⟩ := s.rep j e h
      exact ⟨w, by rw [List.getElem?_set_ne (Ne.symm hj)]; exact e1, by rw [fpSet_ne hj]; exact q⟩
  emp := fun j h => by
    by_cases hj : j = i
    · subst hj
      rw [at_put_self hi] at h
      cases h
    · rw [at_put_ne (Ne.symm hj)] at h
      rw [fpSet_ne hj]
      exact s.emp j h
  nd := fun j => by
    by_cases hj : j = i
    · subst hj; rw [fpSet_self]; exact nd
    · rw [fpSet_ne hj]; exact s.nd j
  dj := fun j k hjk a ha => by
    by_cases hj : j = i
    · subst hj
      rw [fpSet_self] at ha
      rw [fpSet_ne (Ne.symm hjk)]
      exact dj k (Ne.symm hjk) a ha
    · rw [fpSet_ne hj] at ha
      by_cases hk : k = i
      · subst hk
        rw [fpSet_self]
        exact fun z => dj j hj a z ha
      · rw [fpSet_ne hk]
        exact s.dj j k hjk a ha
/-- a slot is emptied (for us) -/
theorem Sl.drop {i : Nat} (s : Sl K H O σ ρ fp) : Sl K H O σ (ρ.set i none) (fpSet fp i []) where
  len := by rw [List.length_set]; exact s.len
  rep := fun j e h => by
    by_cases hj : j = i
    · subst hj
      by_cases hl : j < ρ.length
      · rw [at_set_self hl] at h; cases h
      · have := at_lt h; rw [List.length_set] at this; exact absurd this hl
    · rw [at_set_ne (Ne.symm hj)] at h
      obtain ⟨w, e1, q⟩ := s.rep j e h
      exact ⟨w, e1, by rw [fpSet_ne hj]; exact q⟩
  emp := fun j h => by
    by_cases hj : j = i
    · subst hj; exact fpSet_self
    · rw [at_set_ne (Ne.symm hj)] at h
      rw [fpSet_ne hj]
      exact s.emp j h
  nd := fun j => by
    by_cases hj : j = i
    · subst hj; rw [fpSet_self]; exact List.nodup_nil
    · rw [fpSet_ne hj]; exact s.nd j
  dj := fun j k hjk a ha => by
    by_cases hj : j = i
    · subst hj
      rw [fpSet_self] at ha
      cases ha
    · rw [fpSet_ne hj] at ha
      by_cases hk : k = i
      · subst hk
        rw [fpSet_self]
        exact fun z => nomatch z
      · rw [fpSet_ne hk]
        exact s.dj j k hjk a ha
theorem FF_set {i : Nat} {G : List Addr} {a : Addr} (h : FF (fpSet fp i G) a) : a ∈ G ∨ ∃ j, j ≠ i ∧ a ∈ fp j := by
  obtain ⟨j, h⟩ := h
  by_cases hj : j = i
  · subst hj; rw [fpSet_self] at h; exact .inl h
  · rw [fpSet_ne hj] at h; exact .inr ⟨j, hj, h⟩
end

/-! ### new things, writes -/
section
variable {K : PySem.W.Frag} {H : Hp} {O : Addr → Prop}
theorem Le.new_plain {p : Addr} {o : HO} {F : Addr → Prop} (hp : H p = none) : Le F H O (upd H p o) O where
  ext := fun a u h _ => by rw [upd_ne (ne_of_none h hp)]; exact h
  thr := fun a u h => ⟨u, by rw [upd_ne (ne_of_none h hp)]; exact h⟩
  tup := fun a xs h => by rw [upd_ne (ne_of_none h hp)]; exact h
  frz := fun a u x h => by rw [upd_ne (ne_of_none h hp)]; exact h
  own := fun a h _ => h
  new := fun a h => .inl h
def addO (O : Addr → Prop) (p : Addr) : Addr → Prop := fun a => O a ∨ a = p
theorem Le.new_own {p : Addr} {o : HO} {F : Addr → Prop} (hp : H p = none) : Le F H O (upd H p o) (addO O p) where
  ext := fun a u h _ => by rw [upd_ne (ne_of_none h hp)]; exact h
  thr := fun a u h => ⟨u, by rw [upd_ne (ne_of_none h hp)]; exact h⟩
  tup := fun a xs h => by rw [upd_ne (ne_of_none h hp)]; exact h
  frz := fun a u x h => by rw [upd_ne (ne_of_none h hp)]; exact h
  own := fun a h _ => .inl h
  new := fun a h => h.elim .inl fun e => .inr (by rw [e]; exact hp)
/-- what may be owned -/
def MutO : HO → Prop
  | .lst _ => True
  | .dK _ => True
  | .dT _ => True
  | _ => False
theorem Wok.upd_keep {p : Addr} {o : HO} (w : Wok H O) (hn : H p = none ∨ MutO o) : Wok (upd H p o) O := fun a h => by
  by_cases e : a = p
  · subst e
    rcases hn with hn | hn
    · rcases w a h with ⟨_, z⟩ | ⟨_, z⟩ | ⟨_, z⟩ <;> (rw [hn] at z; cases z)
    · rw [upd_same]
      cases o with
      | lst xs => exact .inl ⟨xs, rfl⟩
      | dK kvs => exact .inr (.inl ⟨kvs, rfl⟩)
      | dT kvs => exact .inr (.inr ⟨kvs, rfl⟩)
      | _ => exact hn.elim
  · rw [upd_ne e]
    exact w a h
theorem Wok.upd_add {p : Addr} {o : HO} (w : Wok H O) (hp : H p = none) (hn : MutO o) : Wok (upd H p o) (addO O p) := fun a h => by
  by_cases e : a = p
  · subst e
    rw [upd_same]
    cases o with
    | lst xs => exact .inl ⟨xs, rfl⟩
    | dK kvs => exact .inr (.inl ⟨kvs, rfl⟩)
    | dT kvs => exact .inr (.inr ⟨kvs, rfl⟩)
    | _ => exact hn.elim
  · rw [upd_ne e]
    rcases h with h | h
    · exact w a h
    · exact absurd h e
/-- an owned thing is written -/
theorem Le.write {p : Addr} {o u : HO} {F : Addr → Prop} (hp : H p = some u) (mu : MutO u) (hf : F p) : Le F H O (upd H p o) O where
  ext := fun a x h nf => by
    have : a ≠ p := fun e => nf (by rw [e]; exact hf)
    rw [upd_ne this]; exact h
  thr := fun a x h => by
    by_cases e : a = p
    · subst e; exact ⟨o, upd_same⟩
    · exact ⟨x, by rw [upd_ne e]; exact h⟩
  tup := fun a xs h => by
    have : a ≠ p := fun e => by subst e; rw [hp] at h; cases h; exact mu.elim
    rw [upd_ne this]; exact h
  frz := fun a x y h => by
    have : a ≠ p := fun e => by subst e; rw [hp] at h; cases h; exact mu.elim
    rw [upd_ne this]; exact h
  own := fun a h _ => h
  new := fun a h => .inl h
/-- F is owned by nobody from now on -/
def offO (O : Addr → Prop) (G : List Addr) : Addr → Prop := fun a => O a ∧ a ∉ G
theorem Le.off {G : List Addr} {F : Addr → Prop} (h : ∀ a ∈ G, F a) : Le F H O H (offO O G) where
  ext := fun a o e _ => e
  thr := fun a o e => ⟨o, e⟩
  tup := fun _ _ e => e
  frz := fun _ _ _ e => e
  own := fun a e nf => ⟨e, fun z => nf (h a z)⟩
  new := fun a e => .inl e.1
theorem Wok.off {G : List Addr} (w : Wok H O) : Wok H (offO O G) := fun a h => w a h.1
/-- what a value owned is plain -/
theorem RpAll.off {G : List Addr} {vs : List V} {ds : List PD} (r : RpAll K H O vs ds) : RpAll K H (offO O G) vs ds :=
  RpAll.mono (F := fun a => a ∈ G ∧ O a) ⟨fun a o e _ => e, fun a o e => ⟨o, e⟩, fun _ _ e => e, fun _ _ _ e => e, fun a e nf => ⟨e, fun z => nf ⟨z, e⟩⟩, fun a e => .inl e.1⟩ (fun a h => h.2) r
theorem RwL.fz {G : List Addr} : ∀ {vs : List V} {dss : List (List PD)} {F : List Addr}, RwL K H O vs dss F → (∀ a ∈ F, a ∈ G) → RpAll K H (offO O G) vs (dss.map .list)
  | _, _, _, .nil, _ => .nil
  | _, _, _, .cons h o r t, hs => .cons (.lst h (fun z => z.2 (hs _ List.mem_cons_self)) (RpAll.off r)) (RwL.fz t fun a ha => hs a (List.mem_cons_of_mem _ ha))
theorem Rw.fz {v : V} {d : D} {G : List Addr} (r : Rw K H O v d G) : Rw K H (offO O G) v d.fz [] := by
  cases r with
  | p r =>
    refine .p ?_
    exact Rp.mono (F := fun _ => False) ⟨fun a o e _ => e, fun a o e => ⟨o, e⟩, fun _ _ e => e, fun _ _ _ e => e, fun a e _ => ⟨e, fun z => nomatch z⟩, fun a e => .inl e.1⟩ (fun a h => h.elim) r
  | own h o r => exact .p (.lst h (fun z => z.2 List.mem_cons_self) r.off)
  | own2 h o r => exact .p (.lst h (fun z => z.2 List.mem_cons_self) (r.fz fun a ha => List.mem_cons_of_mem _ ha))
  | odk h o e r => exact .p (.dk h (fun z => z.2 List.mem_cons_self) e r.off)
  | odt h o e r => exact .p (.dt h (fun z => z.2 List.mem_cons_self) e r.off)
  | frl h => exact .frl h
end
end Pv

/-! Pv, part D: the operations by values. -/
namespace Pv
open PySem PySem.Spec L2
open PyProof.Rows hiding St

section
variable {K : PySem.W.Frag} {H : Hp} {O : Addr → Prop}
/-- what follows an operation: its value is new, or plain -/
def NewP (K : PySem.W.Frag) (H : Hp) (O : Addr → Prop) (d : D) (Q : VK) : Prop :=
  ∀ v H' O' Fd, Le (fun _ => False) H O H' O' → Wok H' O' → Rw K H' O' v d Fd → Fd.Nodup → (∀ a ∈ Fd, H a = none) → Q v H'
abbrev AllRw (K : PySem.W.Frag) (H : Hp) (O : Addr → Prop) : List V → List D → Prop := Paired fun v d => ∃ F, Rw K H O v d F
/-- an operation by values does what f says -/
def VOk (K : PySem.W.Frag) (r : List V → Hp → VK → Prop) (f : List D → Option D) : Prop :=
  ∀ (H : Hp) (O : Addr → Prop) (vs : List V) (ds : List D) (d : D) (Q : VK), Wok H O → AllRw K H O vs ds → f ds = some d → NewP K H O d Q → r vs H Q
theorem NewP.plain {d : PD} {Q : VK} {v : V} (w : Wok H O) (n : NewP K H O (.p d) Q) (r : Rp K H O v d) : Q v H := n v H O [] Le.refl w (.p r) List.nodup_nil fun _ z => nomatch z
theorem NewP.lst {ds : List PD} {Q : VK} {ys : List V} (w : Wok H O) (n : NewP K H O (.own ds) Q) (r : RpAll K H O ys ds) (p : Addr) (hp : H p = none) : Q (.ref p) (upd H p (.lst ys)) := by
  refine n (.ref p) _ (addO O p) [p] (Le.new_own hp) (w.upd_add hp trivial) (.own upd_same (.inr rfl) ?_) (List.nodup_cons.mpr ⟨List.not_mem_nil, List.nodup_nil⟩) fun a h => by rw [List.mem_singleton.mp h]; exact hp
  exact RpAll.mono (F := fun _ => False) (Le.new_own hp) (fun _ z => z.elim) r
theorem NewP.tup {ds : List PD} {Q : VK} {ys : List V} (w : Wok H O) (n : NewP K H O (.p (.tuple ds)) Q) (r : RpAll K H O ys ds) (p : Addr) (hp : H p = none) : Q (.ref p) (upd H p (.tup ys)) := by
  refine n (.ref p) _ O [] (Le.new_plain hp) (w.upd_keep (.inl hp)) (.p (.tup upd_same ?_)) List.nodup_nil fun _ z => nomatch z
  exact RpAll.mono (F := fun _ => False) (Le.new_plain hp) (fun _ z => z.elim) r
end

section
variable {K : PySem.W.Frag} {H : Hp} {O : Addr → Prop} {v : V} {F : List Addr}
theorem rw_int {i : Int} (r : Rw K H O v (.p (.int i)) F) : v = .int i := by cases r with | p r => cases r; rfl
theorem rw_str {i : Str} (r : Rw K H O v (.p (.str i)) F) : v = .str i := by cases r with | p r => cases r; rfl
theorem rw_bl {i : Bool} (r : Rw K H O v (.p (.bool i)) F) : v = .bl i := by cases r with | p r => cases r; rfl
theorem rw_non (r : Rw K H O v (.p .none) F) : v = .non := by cases r with | p r => cases r; rfl
theorem rw_tup {l : List PD} (r : Rw K H O v (.p (.tuple l)) F) : ∃ a xs, v = .ref a ∧ SqT K H a xs ∧ RpAll K H O xs l := by
  cases r with
  | p r =>
    cases r with
    | tup h t => exact ⟨_, _, rfl, SqT.of h, t⟩
    | tupK h _ t => exact ⟨_, _, rfl, .inr h, t⟩
theorem rw_rp {d : PD} (r : Rw K H O v (.p d) F) : Rp K H O v d := by cases r with | p r => exact r
theorem rw_lstD {d : D} {l : List PD} (r : Rw K H O v d F) (h : lstD d = some l) : ∃ a xs, v = .ref a ∧ H a = some (.lst xs) ∧ RpAll K H O xs l := by
  cases r with
  | p r =>
    cases r with
    | lst h1 _ t => cases h; exact ⟨_, _, rfl, h1, t⟩
    | _ => cases h
  | own h1 _ t => cases h; exact ⟨_, _, rfl, h1, t⟩
  | _ => cases h
theorem rw_seqD {d : D} {l : List PD} (r : Rw K H O v d F) (h : seqD d = some l) : ∃ a xs, v = .ref a ∧ (H a = some (.lst xs) ∨ SqT K H a xs) ∧ RpAll K H O xs l := by
  cases r with
  | p r =>
    cases r with
    | lst h1 _ t => cases h; exact ⟨_, _, rfl, .inl h1, t⟩
    | tup h1 t => cases h; exact ⟨_, _, rfl, .inr (SqT.of h1), t⟩
    | tupK h1 _ t => cases h; exact ⟨_, _, rfl, .inr (.inr h1), t⟩
    | _ => cases h
  | own h1 _ t => cases h; exact ⟨_, _, rfl, .inl h1, t⟩
  | _ => cases h
theorem RpAll.append : ∀ {xs ys : List V} {l m : List PD}, RpAll K H O xs l → RpAll K H O ys m → RpAll K H O (xs ++ ys) (l ++ m)
  | _, _, _, _, .nil, s => s
  | _, _, _, _, .cons r t, s => .cons r (RpAll.append t s)
theorem RpAll.take : ∀ {xs : List V} {l : List PD} (n : Nat), RpAll K H O xs l → RpAll K H O (xs.take n) (l.take n)
  | _, _, 0, _ => .nil
  | _, _, _ + 1, .nil => .nil
  | _, _, n + 1, .cons r t => .cons r (RpAll.take n t)
theorem RpAll.drop : ∀ {xs : List V} {l : List PD} (n : Nat), RpAll K H O xs l → RpAll K H O (xs.drop n) (l.drop n)
  | _, _, 0, r => r
  | _, _, _ + 1, .nil => .nil
  | _, _, n + 1, .cons _ t => RpAll.drop n t
theorem RpAll.get : ∀ {xs : List V} {l : List PD} {i : Nat} {d : PD}, RpAll K H O xs l → l[i]? = some d → ∃ v, xs[i]? = some v ∧ Rp K H O v d
  | _, _, _, _, .nil, h => by simp at h
  | _, _, 0, _, .cons r t, h => by simp at h; subst h; exact ⟨_, rfl, r⟩
  | _, _, i + 1, _, .cons r t, h => by
    obtain ⟨v, h1, h2⟩ := RpAll.get (i := i) t (by simpa using h)
    exact ⟨v, by simpa using h1, h2⟩
theorem RpAll.set {v : V} {d : PD} (r : Rp K H O v d) : ∀ {xs : List V} {l : List PD} (i : Nat), RpAll K H O xs l → RpAll K H O (xs.set i v) (l.set i d)
  | _, _, _, .nil => .nil
  | _, _, 0, .cons _ t => .cons r t
  | _, _, i + 1, .cons q t => .cons q (RpAll.set r i t)
theorem RpAll.reverse {xs : List V} {l : List PD} (r : RpAll K H O xs l) : RpAll K H O xs.reverse l.reverse := by
  induction xs generalizing l with
  | nil => cases r; exact .nil
  | cons x xs ih =>
    cases r with
    | cons q t =>
      rw [List.reverse_cons, List.reverse_cons]
      exact (ih t).append (.cons q .nil)
theorem RpAll.dropLast {xs : List V} {l : List PD} (r : RpAll K H O xs l) : RpAll K H O xs.dropLast l.dropLast := by
  rw [List.dropLast_eq_take, List.dropLast_eq_take, r.length]
  exact r.take _
theorem RpAll.eraseIdx : ∀ {xs : List V} {l : List PD} (i : Nat), RpAll K H O xs l → RpAll K H O (xs.eraseIdx i) (l.eraseIdx i)
  | _, _, _, .nil => .nil
  | _, _, 0, .cons _ t => t
  | _, _, i + 1, .cons q t => .cons q (RpAll.eraseIdx i t)
theorem RpAll.rep {xs : List V} {l : List PD} (r : RpAll K H O xs l) : ∀ k : Nat, RpAll K H O (List.replicate k xs).flatten (List.replicate k l).flatten
  | 0 => .nil
  | k + 1 => by
    rw [List.replicate_succ, List.replicate_succ, List.flatten_cons, List.flatten_cons]
    exact r.append (RpAll.rep r k)
theorem RpAll.ofInts : ∀ (ns : List Int), RpAll K H O (ns.map V.int) (ns.map .int)
  | [] => .nil
  | n :: r => .cons (.int n) (RpAll.ofInts r)
theorem RpAll.ints : ∀ {xs : List V} {l : List PD} {ns : List Int}, RpAll K H O xs l → intsP l = some ns → xs = ns.map V.int
  | _, _, _, .nil, h => by cases h; rfl
  | _, _, ns, .cons r t, h => by
    cases r with
    | int i =>
      obtain ⟨ms, e1, e2⟩ := Option.map_eq_some_iff.mp (show (intsP _).map (i :: ·) = some ns from h)
      subst e2
      rw [RpAll.ints t e1]; rfl
    | _ => cases h
theorem RpAll.bools : ∀ {xs : List V} {l : List PD} {ns : List Bool}, RpAll K H O xs l → boolsP l = some ns → xs = ns.map V.bl
  | _, _, _, .nil, h => by cases h; rfl
  | _, _, ns, .cons r t, h => by
    cases r with
    | bl i =>
      obtain ⟨ms, e1, e2⟩ := Option.map_eq_some_iff.mp (show (boolsP _).map (i :: ·) = some ns from h)
      subst e2
      rw [RpAll.bools t e1]; rfl
    | _ => cases h
theorem cut_eq {xs : List V} {l : List PD} (r : RpAll K H O xs l) (lo hi : Option Int) : RpAll K H O (cutV xs lo hi) (cut l lo hi) := by
  unfold cutV cut
  rw [r.length]
  exact (r.drop _).take _
mutual
/-- plain data as the layer's Dp, dicts left out -/
theorem Rp.dp : ∀ {v : V} {d : PD}, Rp K H O v d → d.canLay0 = true → Dp K H v d
  | _, _, .non, _ => .non
  | _, _, .bl b, _ => .bl b
  | _, _, .int i, _ => .int i
  | _, _, .str x, _ => .str x
  | _, _, .lst h _ r, c => .lst (SqL.of h) (RpAll.dp r (by simpa [PyData.canLay0] using c))
  | _, _, .tup h r, c => .tup (SqT.of h) (RpAll.dp r (by simpa [PyData.canLay0] using c))
  | _, _, .tupK h _ r, c => .tup (.inr h) (RpAll.dp r (by simpa [PyData.canLay0] using c))
  | _, _, .dk _ _ _ _, c => by simp [PyData.canLay0] at c
  | _, _, .dt _ _ _ _, c => by simp [PyData.canLay0] at c
theorem RpAll.dp : ∀ {vs : List V} {ds : List PD}, RpAll K H O vs ds → PyData.canLayAll0 ds = true → DpAll K H vs ds
  | _, _, .nil, _ => .nil
  | _, _, .cons r t, c => by
    rw [PyData.canLayAll0, Bool.and_eq_true] at c
    exact .cons (Rp.dp r c.1) (RpAll.dp t c.2)
end
theorem RwL.dp : ∀ {vs : List V} {dss : List (List PD)} {G : List Addr}, RwL K H O vs dss G → PyData.canLayAll0 (dss.map .list) = true → DpAll K H vs (dss.map .list)
  | _, _, _, .nil, _ => .nil
  | _, _, _, .cons h _ r t, c => by
    rw [List.map_cons, PyData.canLayAll0, Bool.and_eq_true] at c
    exact .cons (.lst (SqL.of h) (RpAll.dp r (by simpa [PyData.canLay0] using c.1))) (RwL.dp t c.2)
theorem rw_dp {d : D} {x : PD} (r : Rw K H O v d F) (h : d.toPD = some x) (c : x.canLay0 = true) : Dp K H v x := by
  cases r with
  | p r => cases h; exact r.dp c
  | own h1 _ r => cases h; exact .lst (SqL.of h1) (r.dp (by simpa [PyData.canLay0] using c))
  | own2 h1 _ r => cases h; exact .lst (SqL.of h1) (r.dp (by simpa [PyData.canLay0] using c))
  | odk h1 _ _ r => cases h; simp [PyData.canLay0] at c
  | odt h1 _ _ r => cases h; simp [PyData.canLay0] at c
  | frl _ => cases h
end

/-! ### + - * // % ** & | ^ << >> -/
def CPowB (i j : Int) : Prop := 0 ≤ j ∧ (Builtin.Int.intBits i : Int) * j ≤ 2 ^ 27
def rCatT0 (K : PySem.W.Frag) : R2 := fun x y H Q => ∃ a b ys, x = .ref a ∧ y = .ref b ∧ SqT K H a [] ∧ SqT K H b ys ∧ Q (.ref b) H
def rRepT1 (K : PySem.W.Frag) : R2 := fun x y H Q => ∃ a xs, x = .ref a ∧ y = .int 1 ∧ SqT K H a xs ∧ Q (.ref a) H
def rBin (K : PySem.W.Frag) : Operator → R2
  | .Add => fun x y H Q => rI0 (fun i j => .int (i + j)) x y H Q ∨ (∃ i j, x = .str i ∧ y = .str j ∧ i.length + j.length ≤ sizeLine ∧ Q (.str (i ++ j)) H) ∨ rCatT K x y H Q ∨ rCatT0 K x y H Q ∨ rCat x y H Q
  | .Sub => rI0 fun i j => .int (i - j)
  | .Mult => fun x y H Q => rI CMulW (fun i j => .int (i * j)) x y H Q ∨ rRepT K x y H Q ∨ rRepT1 K x y H Q ∨ rRep x y H Q
  | .FloorDiv => fun x y H Q => rI CDivW (fun i j => .int (i / j)) x y H Q ∨ rI CDivN (fun i j => .int (i.fdiv j)) x y H Q
  | .Mod => fun x y H Q => rI (fun _ j => 0 < j) (fun i j => .int (i % j)) x y H Q ∨ rI (fun _ j => j ≠ 0) (fun i j => .int (i.fmod j)) x y H Q
  | .Pow => rI CPowB fun i j => .int (i ^ j.toNat)
  | .LShift => rI CPow fun i j => .int (i * 2 ^ j.toNat)
  | .RShift => rI (fun _ j => 0 ≤ j) fun i j => .int (i / 2 ^ j.toNat)
  | .BitAnd => rI0 fun i j => .int (Builtin.bitAnd i j)
  | .BitOr => rI0 fun i j => .int (Builtin.bitOr i j)
  | .BitXor => rI0 fun i j => .int (Builtin.bitXor i j)
  | _ => fun _ _ _ _ => False

theorem catT0 {prog : Program} {w : World} {A : Around} {E : Value → Shared → Prop} {s : Shared} {t b : Addr} {ws : List Value} {Q : Value → Shared → Prop} (ht : IsTup s.heap t #[]) (hb : IsTup s.heap b ws.toArray)
    (h1 : Q (.ref b) s) : wpAny (model prog w) A (binaryOp .Add (.ref t) (.ref b)) Q E s := by
  obtain ⟨⟨cls, dd, data, sl⟩, ho, hc, n, hd⟩ := id ht
  obtain ⟨⟨cls2, dd2, data2, sl2⟩, ho2, hc2, n2, hd2⟩ := id hb
  simp only at hc hd hc2 hd2
  subst hc hd hc2 hd2
  exact concat_meets ⟨_, ho, rfl⟩ ⟨_, ho2, rfl⟩ noFill_tuple_add seq_tuple_add PySem.F.slot_tuple_add PySem.F.entry_tuple_add (PySem.F.args_tuple_add_2 _ _)
      (tuple_addW0 t b #[] ws.toArray n n2 dd dd2 sl sl2 (by rfl)) ⟨ho, ho2, h1⟩

section
variable {X : Cx}
theorem op_catT0 : OpR X (binaryOp .Add) (rCatT0 X.K) := by
  intro pins s σ H x y v u Q I rx ry h
  obtain ⟨a, b, ys, rfl, rfl, ha, hb, q⟩ := h
  cases rx
  cases ry
  obtain ⟨its, r1, p1, _⟩ := I.tuple ha
  obtain ⟨its2, r2, p2, _⟩ := I.tuple hb
  have e : its = [] := by cases r1; rfl
  subst e
  exact catT0 p1 p2 ⟨.ref b, H, I, rfl, q⟩
theorem tuple_mul1 (l : Addr) (items : Array Value) (n : Nat) (dd : Option Addr) (sl : Array (Option Value)) (u : Tok) :
    Meets (Builtin.«tuple.__mul__» ⟨[.ref l, .int 1 u], []⟩) (fun _ R s => s.heap.get? l = some { cls := .type "tuple", dict := dd, data := .seq items n, slots := sl } ∧ R (.ok (.ret (Value.ref l))) s) :=
  .of_wp fun prog w A R s h => by
    obtain ⟨hp, g, d, tk, os⟩ := s
    obtain ⟨hl, h⟩ := h
    have f1 := AutoSeq1.idx_int
    wp_walk using PySem.AutoSeq1.wpAny_loadPart' hl
    repeat (first
      | (refine wpAny_ite_false (by simp) ?_; wp_walk using PySem.AutoSeq1.wpAny_loadPart' hl)
      | (refine wpAny_ite_true (by simp) ?_; wp_walk using PySem.AutoSeq1.wpAny_loadPart' hl))
    exact ⟨_, rfl, h⟩
theorem op_repT1 : OpR X (binaryOp .Mult) (rRepT1 X.K) := by
  intro pins s σ H x y v u Q I rx ry h
  obtain ⟨l, xs, rfl, rfl, hT, q⟩ := h
  cases rx
  obtain ⟨t, rfl⟩ := ry
  obtain ⟨its, r, ⟨⟨cls, dd, data, sl⟩, ho, hc, n, hd⟩, hs⟩ := I.tuple hT
  simp only at hc hd
  subst hc hd
  exact wpAny_binaryOp_repeat_ref (T := "tuple") (U := "int") (by decide) ⟨_, ho, rfl⟩ (fun s' => typeIs_int s' 1 t) noFill_tuple_mul F.fills_int_mul F.slot_int_rmul repeat_tuple F.slot_int_index.lookup
    (call_meets F.slot_int_rmul (typeIs_int s 1 t) F.entry_int_rmul (F.args_int_rmul_2 _ _) (int_rmul_tuple 1 t l its.toArray n dd sl)
      ⟨ho, rfl, ⟨_, ho, rfl⟩, call_meets F.slot_tuple_mul ⟨_, ho, rfl⟩ F.entry_tuple_mul (F.args_tuple_mul_2 _ _) (tuple_mul1 l its.toArray n dd sl t) ⟨ho, ⟨.ref l, H, I, rfl, q⟩⟩⟩)
theorem op_bin (op : Operator) : OpR X (binaryOp op) (rBin X.K op) := by
  cases op with
  | Add => exact op_add.or (op_add_str.or (op_catT.or (op_catT0.or op_cat)))
  | Sub => exact op_sub
  | Mult => exact op_mulW.or (op_repT.or (op_repT1.or op_rep))
  | FloorDiv => exact op_fdivW.or op_fdivN
  | Mod => exact op_mod.or op_modN
  | Pow => exact opI fun _ _ _ _ _ _ _ hc q => pow_int hc.1 hc.2 q
  | LShift => exact op_shl
  | RShift => exact op_shr
  | BitAnd => exact op_and
  | BitOr => exact op_or
  | BitXor => exact op_xor
  | _ => exact fun _ _ _ _ _ _ _ _ _ _ _ _ h => h.elim
end
/-- two values -/
def r2 (r : R2) : List V → Hp → VK → Prop := fun vs H Q => ∃ x y, vs = [x, y] ∧ r x y H Q
def r1 (r : V → Hp → VK → Prop) : List V → Hp → VK → Prop := fun vs H Q => ∃ x, vs = [x] ∧ r x H Q
theorem all2 {K : PySem.W.Frag} {H : Hp} {O : Addr → Prop} {vs : List V} {a b : D} (r : AllRw K H O vs [a, b]) : ∃ x y F G, vs = [x, y] ∧ Rw K H O x a F ∧ Rw K H O y b G := by
  cases r with
  | cons p q =>
    cases q with
    | cons p' q' =>
      cases q'
      obtain ⟨F, h⟩ := p
      obtain ⟨G, h'⟩ := p'
      exact ⟨_, _, F, G, rfl, h, h'⟩
theorem all1 {K : PySem.W.Frag} {H : Hp} {O : Addr → Prop} {vs : List V} {a : D} (r : AllRw K H O vs [a]) : ∃ x F, vs = [x] ∧ Rw K H O x a F := by
  cases r with
  | cons p q =>
    cases q
    obtain ⟨F, h⟩ := p
    exact ⟨_, F, rfl, h⟩
theorem all3 {K : PySem.W.Frag} {H : Hp} {O : Addr → Prop} {vs : List V} {a b c : D} (r : AllRw K H O vs [a, b, c]) : ∃ x y z F G J, vs = [x, y, z] ∧ Rw K H O x a F ∧ Rw K H O y b G ∧ Rw K H O z c J := by
  cases r with
  | cons p q =>
    obtain ⟨y, z, G, J, e, h1, h2⟩ := all2 q
    obtain ⟨F, h⟩ := p
    subst e
    exact ⟨_, _, _, F, G, J, rfl, h, h1, h2⟩
section
variable {K : PySem.W.Frag}
theorem line_eq : sizeLine = line := sizeLine_eq
theorem binI_ok {op : Operator} {i j k : Int} (e : binI op i j = some k) {H : Hp} {Q : VK} (q : Q (.int k) H) : rBin K op (.int i) (.int j) H Q := by
  cases op with
  | Add => cases e; exact .inl ⟨i, j, rfl, rfl, q⟩
  | Sub => cases e; exact ⟨i, j, rfl, rfl, q⟩
  | Mult =>
    change (if mulOk i j = true then some (i * j) else none) = some k at e
    by_cases h : mulOk i j = true
    · rw [if_pos h] at e; cases e
      exact .inl ⟨i, j, rfl, rfl, of_decide_eq_true (p := i.natAbs.log2 + j.natAbs.log2 < 1000000) h, q⟩
    · rw [if_neg h] at e; cases e
  | FloorDiv =>
    change (if 0 < j ∧ j.natAbs.log2 < 9000 then some (i / j) else if j ≠ 0 ∧ j.natAbs < 1073741824 then some (i.fdiv j) else none) = some k at e
    by_cases h : 0 < j ∧ j.natAbs.log2 < 9000
    · rw [if_pos h] at e; cases e
      exact .inl ⟨i, j, rfl, rfl, h, q⟩
    · rw [if_neg h] at e
      by_cases h : j ≠ 0 ∧ j.natAbs < 1073741824
      · rw [if_pos h] at e; cases e
        exact .inr ⟨i, j, rfl, rfl, h, q⟩
      · rw [if_neg h] at e; cases e
  | Mod =>
    change (if 0 < j then some (i % j) else if j ≠ 0 then some (i.fmod j) else none) = some k at e
    by_cases h : 0 < j
    · rw [if_pos h] at e; cases e
      exact .inl ⟨i, j, rfl, rfl, h, q⟩
    · rw [if_neg h] at e
      by_cases h : j ≠ 0
      · rw [if_pos h] at e; cases e
        exact .inr ⟨i, j, rfl, rfl, h, q⟩
      · rw [if_neg h] at e; cases e
  | Pow =>
    change (if powOk i j = true then some (i ^ j.toNat) else none) = some k at e
    by_cases h : powOk i j = true
    · rw [if_pos h] at e; cases e
      exact ⟨i, j, rfl, rfl, of_decide_eq_true (p := 0 ≤ j ∧ (Builtin.Int.intBits i : Int) * j ≤ 2 ^ 27) h, q⟩
    · rw [if_neg h] at e; cases e
  | LShift =>
    change (if 0 ≤ j ∧ j ≤ 1000000 ∧ i.natAbs < 2 ^ 64 then some (i * 2 ^ j.toNat) else none) = some k at e
    by_cases h : 0 ≤ j ∧ j ≤ 1000000 ∧ i.natAbs < 2 ^ 64
    · rw [if_pos h] at e; cases e
      exact ⟨i, j, rfl, rfl, h, q⟩
    · rw [if_neg h] at e; cases e
  | RShift =>
    change (if 0 ≤ j then some (i / 2 ^ j.toNat) else none) = some k at e
    by_cases h : 0 ≤ j
    · rw [if_pos h] at e; cases e
      exact ⟨i, j, rfl, rfl, h, q⟩
    · rw [if_neg h] at e; cases e
  | BitAnd => cases e; exact ⟨i, j, rfl, rfl, q⟩
  | BitOr => cases e; exact ⟨i, j, rfl, rfl, q⟩
  | BitXor => cases e; exact ⟨i, j, rfl, rfl, q⟩
  | _ => cases e
theorem binL_ok {op : Operator} {x : List PD} {b d : D} {H : Hp} {O : Addr → Prop} {p : Addr} {xs : List V} {y : V} {G : List Addr} {Q : VK} (e : binL op x b = some d) (w : Wok H O) (h1 : H p = some (.lst xs)) (t1 : RpAll K H O xs x) (rb : Rw K H O y b G) (n : NewP K H O d Q) : rBin K op (.ref p) y H Q := by
  unfold binL at e
  split at e
  · have ey := rw_int rb
    subst ey
    split at e
    · rename_i hc
      cases e
      obtain ⟨rfl, hk, hk2, hz⟩ := hc
      exact .inr (.inr (.inr ⟨p, _, xs, rfl, rfl, h1, hk, hk2, by rw [line_eq, t1.length]; exact hz, n.lst w (t1.rep _)⟩))
    · cases e
  · split at e
    · rename_i hm
      obtain ⟨q, ys, rfl, h2, t2⟩ := rw_lstD rb hm
      split at e
      · rename_i hc
        cases e
        obtain ⟨rfl, hz⟩ := hc
        exact .inr (.inr (.inr (.inr ⟨p, q, xs, ys, rfl, rfl, h1, h2, by rw [line_eq, t1.length, t2.length]; exact hz, n.lst w (t1.append t2)⟩)))
      · cases e
    · cases e
theorem vok_bin (op : Operator) : VOk K (r2 (rBin K op)) (prD (.bin op)) := by
  intro H O vs ds d Q w r e n
  match ds, r, e with
  | [a, b], r, e =>
    obtain ⟨x, y, F, G, rfl, ra, rb⟩ := all2 r
    refine ⟨x, y, rfl, ?_⟩
    change binD op a b = some d at e
    unfold binD at e
    split at e
    · split at e
      · have ex := rw_int ra
        have ey := rw_int rb
        subst ex; subst ey
        obtain ⟨k, ek, e2⟩ := Option.map_eq_some_iff.mp e
        subst e2
        exact binI_ok ek (n.plain w (.int k))
      · cases e
    · split at e
      · have ex := rw_str ra
        have ey := rw_str rb
        subst ex; subst ey
        split at e
        · rename_i hc
          cases e
          obtain ⟨rfl, hl⟩ := hc
          exact .inr (.inl ⟨_, _, rfl, rfl, by rw [line_eq]; exact hl, n.plain w (.str _)⟩)
        · cases e
      · cases e
    · obtain ⟨p, xs, rfl, h1, t1⟩ := rw_tup ra
      unfold binT at e
      split at e
      · obtain ⟨q, ys, rfl, h2, t2⟩ := rw_tup rb
        split at e
        · rename_i hc
          cases e
          obtain ⟨rfl, hl⟩ := hc
          by_cases hx : xs = []
          · subst hx
            cases t1
            exact .inr (.inr (.inr (.inl ⟨p, q, ys, rfl, rfl, h1, h2, n.plain w (rw_rp rb)⟩)))
          · refine .inr (.inr (.inl ⟨p, q, xs, ys, rfl, rfl, h1, h2, hx, by rw [line_eq, t1.length, t2.length]; exact hl, fun z => ?_, fun _ => n.tup w (t1.append t2)⟩))
            subst z
            cases t2
            exact n.plain w (by rw [List.append_nil]; exact rw_rp ra)
        · cases e
      · have ey := rw_int rb
        subst ey
        split at e
        · rename_i hc
          cases e
          obtain ⟨rfl, hx, hk, hk2, hl⟩ := hc
          exact .inr (.inl ⟨p, _, xs, rfl, rfl, h1, fun z => hx (by subst z; cases t1; rfl), hk, hk2, by rw [t1.length]; exact hl, n.tup w (t1.rep _)⟩)
        · split at e
          · rename_i hc
            cases e
            obtain ⟨rfl, rfl⟩ := hc
            exact .inr (.inr (.inl ⟨p, xs, rfl, rfl, h1, n.plain w (rw_rp ra)⟩))
          · cases e
      · cases e
    · obtain ⟨p, xs, rfl, h1, t1⟩ := rw_lstD ra rfl
      exact binL_ok e w h1 t1 rb n
    · obtain ⟨p, xs, rfl, h1, t1⟩ := rw_lstD ra rfl
      exact binL_ok e w h1 t1 rb n
    · cases e
  | [], _, e => cases e
  | [_], _, e => cases e
  | _ :: _ :: _ :: _, _, e => cases e
end
end Pv

/-! Pv, part E: comparisons, subscripts, slices, built-in functions by values. -/
namespace Pv
open PySem PySem.Spec L2
open PyProof.Rows hiding St

section
variable {K : PySem.W.Frag}
/-- what the operation r gives where f gives d -/
def VAt (K : PySem.W.Frag) (r : List V → Hp → VK → Prop) (ds : List D) (d : D) : Prop :=
  ∀ (H : Hp) (O : Addr → Prop) (vs : List V) (Q : VK), Wok H O → AllRw K H O vs ds → NewP K H O d Q → r vs H Q

/-! ### order of tuples of ints -/
theorem lexAt_shift (e r : Nat → Bool) (z : Bool) : ∀ k i, Ob.lexAt e r z (i + 1) k = Ob.lexAt (fun j => e (j + 1)) (fun j => r (j + 1)) z i k
  | 0, _ => rfl
  | k + 1, i => by rw [Ob.lexAt_succ, Ob.lexAt_succ, lexAt_shift e r z k (i + 1)]
theorem lexAt_le : ∀ ns ms : List Int, Ob.lexAt (fun j => decide (ns.getD j 0 = ms.getD j 0)) (fun j => decide (ns.getD j 0 ≤ ms.getD j 0)) (decide (ns.length ≤ ms.length)) 0 (min ns.length ms.length) = !HT.lexLt ms ns
  | [], ms => by
    rw [show min ([] : List Int).length ms.length = 0 by simp, Ob.lexAt_zero]
    cases ms <;> simp [HT.lexLt]
  | n :: ns, [] => by
    rw [show min (n :: ns).length ([] : List Int).length = 0 by simp, Ob.lexAt_zero]
    simp [HT.lexLt]
  | n :: ns, m :: ms => by
    have ih := lexAt_le ns ms
    rw [show min (n :: ns).length (m :: ms).length = min ns.length ms.length + 1 by simp only [List.length_cons]; omega, Ob.lexAt_succ, lexAt_shift, HT.lexLt_cons]
    simp only [List.getD_cons_zero, List.getD_cons_succ, List.length_cons]
    by_cases h : n = m
    · subst h
      simp only [decide_true, if_true]
      rw [← ih]
      congr 1
      simp
    · rw [if_neg (by simpa using h), if_neg (fun z => h z.symm)]
      simp only [← decide_not]
      rw [decide_eq_decide]
      omega
/-! ### comparisons -/
def rIsN : R2 := fun x y H Q => y = .non ∧ Q (.bl (decide (x = .non))) H
def rNotN : R2 := fun x y H Q => y = .non ∧ Q (.bl (!decide (x = .non))) H
def rInT (K : PySem.W.Frag) : R2 := fun x y H Q => ∃ d ds, Dp K H x d ∧ Dp K H y (.tuple ds) ∧ SeqAt.shaped d = true ∧ SeqAt.shaped (.tuple ds) = true ∧ Q (.bl (ds.any fun z => PyData.eqv z d)) H
def rNotInT (K : PySem.W.Frag) : R2 := fun x y H Q => ∃ d ds, Dp K H x d ∧ Dp K H y (.tuple ds) ∧ SeqAt.shaped d = true ∧ SeqAt.shaped (.tuple ds) = true ∧ Q (.bl (!ds.any fun z => PyData.eqv z d)) H
def rDIn : R2 := fun y x H Q => ∃ a o, x = .ref a ∧ DGet H a y o ∧ Q (.bl o.isSome) H
def rDNotIn : R2 := fun y x H Q => ∃ a o, x = .ref a ∧ DGet H a y o ∧ Q (.bl (!o.isSome)) H
def rCmp (K : PySem.W.Frag) : CmpOp → R2
  | .Eq => rEqD K
  | .NotEq => rNeD K
  | .Is => fun x y H Q => rIsN x y H Q ∨ rIsB x y H Q
  | .IsNot => fun x y H Q => rNotN x y H Q ∨ rNotB x y H Q
  | .Lt => fun x y H Q => rI0 (fun i j => .bl (decide (i < j))) x y H Q ∨ rLtT K x y H Q
  | .LtE => fun x y H Q => rI0 (fun i j => .bl (decide (i ≤ j))) x y H Q ∨ rLeT K x y H Q
  | .Gt => rI0 fun i j => .bl (decide (j < i))
  | .GtE => rI0 fun i j => .bl (decide (j ≤ i))
  | .In => fun x y H Q => rInD K x y H Q ∨ rInT K x y H Q ∨ rDIn x y H Q
  | .NotIn => fun x y H Q => rNotInD K x y H Q ∨ rNotInT K x y H Q ∨ rDNotIn x y H Q
section
variable {X : Cx}
theorem op_inT (hu : X.A.units + 65 < cLine) : OpR X (compareOp .In) (rInT X.K) := by
  intro pins s σ H x y v u Q I rx ry h
  obtain ⟨d, ds, hd, he, sd, se, q⟩ := h
  obtain ⟨as, r1⟩ := Dp.reads I d x v hd rx
  obtain ⟨bs, r2⟩ := Dp.reads I (.tuple ds) y u he ry
  exact SeqAt.in_tuple_reads r2 r1 (SeqAt.canLay_of_shaped se) (SeqAt.canLay_of_shaped sd) (room_in_shaped sd hu) ⟨.bl _, H, I, rfl, q⟩
theorem op_notInT (hu : X.A.units + 65 < cLine) : OpR X (compareOp .NotIn) (rNotInT X.K) := by
  intro pins s σ H x y v u Q I rx ry h
  obtain ⟨d, ds, hd, he, sd, se, q⟩ := h
  obtain ⟨as, r1⟩ := Dp.reads I d x v hd rx
  obtain ⟨bs, r2⟩ := Dp.reads I (.tuple ds) y u he ry
  exact SeqAt.notIn_tuple_reads r2 r1 (SeqAt.canLay_of_shaped se) (SeqAt.canLay_of_shaped sd) (room_in_shaped sd hu) ⟨.bl _, H, I, rfl, q⟩
theorem op_dIn (hu : X.A.units + 1 < cLine) : OpR X (compareOp .In) rDIn := by
  intro pins s σ H x y v u Q I rx ry h
  obtain ⟨a, o, rfl, g, q⟩ := h
  cases ry
  exact d_in hu I g rx fun s' I' => ⟨.bl _, H, I', rfl, q⟩
theorem op_dNotIn (hu : X.A.units + 1 < cLine) : OpR X (compareOp .NotIn) rDNotIn := by
  intro pins s σ H x y v u Q I rx ry h
  obtain ⟨a, o, rfl, g, q⟩ := h
  cases ry
  exact d_notIn hu I g rx fun s' I' => ⟨.bl _, H, I', rfl, q⟩
theorem op_cmp (hu : X.A.units + 65 < cLine) (op : CmpOp) : OpR X (compareOp op) (rCmp X.K op) := by
  have h0 : X.A.units < cLine := Nat.lt_of_le_of_lt (Nat.le_add_right _ _) hu
  have h1 : X.A.units + 1 < cLine := Nat.lt_of_le_of_lt (Nat.add_le_add_left (by decide) _) hu
  have h64 : X.A.units + 64 < cLine := Nat.lt_of_le_of_lt (Nat.add_le_add_left (by decide) _) hu
  cases op with
  | Eq => exact op_eqD h64
  | NotEq => exact op_neD h64
  | Is => exact op_isN.or op_isBl
  | IsNot => exact op_notN.or op_notBl
  | Lt => exact op_lt.or (op_ltT h0)
  | LtE => exact op_le.or (op_leT h0)
  | Gt => exact op_gt
  | GtE => exact op_ge
  | In => exact (op_inD hu).or ((op_inT hu).or (op_dIn h1))
  | NotIn => exact (op_notInD hu).or ((op_notInT hu).or (op_dNotIn h1))
end
theorem rp_decN {H : Hp} {O : Addr → Prop} {v : V} {d : PD} (r : Rp K H O v d) : decide (v = .non) = isNonP d := by
  cases r <;> simp [isNonP]
theorem lookD_val {κ : Type} [DecidableEq κ] {H : Hp} {O : Addr → Prop} : ∀ {kvs : List (κ × V)} {l : List (κ × PD)}, kvs.map (·.1) = l.map (·.1) → RpAll K H O (kvs.map (·.2)) (l.map (·.2)) → ∀ k, (∃ v d, valV kvs k = some v ∧ lookD l k = some d ∧ Rp K H O v d) ∨ (valV kvs k = none ∧ lookD l k = none)
  | [], [], _, _, k => .inr ⟨rfl, rfl⟩
  | [], _ :: _, e, _, _ => by cases e
  | _ :: _, [], e, _, _ => by cases e
  | (k1, v) :: kvs, (k2, d) :: l, e, r, k => by
    obtain ⟨e1, e2⟩ := List.cons.inj e
    have e1 : k1 = k2 := e1
    subst e1
    cases r with
    | cons r1 r2 =>
      by_cases h : k1 = k
      · subst h
        exact .inl ⟨v, d, valV_pos rfl, by simp [lookD], r1⟩
      · rw [valV_neg (p := (k1, v)) h]
        have el : lookD ((k1, d) :: l) k = lookD l k := by simp [lookD, List.find?_cons, h]
        rw [el]
        exact lookD_val e2 r2 k
theorem keyP_rp {H : Hp} {O : Addr → Prop} {v : V} {d : PD} {k : Key} (r : Rp K H O v d) (h : keyP d = some k) : v = kV k := by
  cases r with
  | int i => cases h; rfl
  | str x => cases h; rfl
  | _ => cases h
theorem keysP_rp {H : Hp} {O : Addr → Prop} : ∀ {vs : List V} {ds : List PD} {ks : List Key}, RpAll K H O vs ds → keysP ds = some ks → vs = ks.map kV
  | _, _, _, .nil, h => by cases h; rfl
  | _, _, ks, .cons r t, h => by
    unfold keysP at h
    split at h
    · rename_i h1 h2
      cases h
      rw [keyP_rp r h1, keysP_rp t h2]; rfl
    · cases h
theorem keyP_inv {d : PD} {k : Key} (h : keyP d = some k) : d = kPD k := by
  cases d with
  | int i => cases h; rfl
  | str x => cases h; rfl
  | _ => cases h
theorem key_tr {H : Hp} {O : Addr → Prop} {v : V} {k : List PD} {ks : List Key} (r : Rp K H O v (.tuple k)) (hc : kCon k = false) (h : keysP k = some ks) : ∃ b, v = .ref b ∧ H b = some (.tup (ks.map kV)) := by
  cases r with
  | tup h1 t => exact ⟨_, rfl, by rw [h1, keysP_rp t h]⟩
  | tupK _ c _ => rw [c] at hc; cases hc
theorem eqD_dp {a b : D} {c : Bool} (e : eqD a b = some c) {H : Hp} {O : Addr → Prop} {x y : V} {F G : List Addr} (ra : Rw K H O x a F) (rb : Rw K H O y b G) :
    ∃ d f, Dp K H x d ∧ Dp K H y f ∧ SeqAt.shaped d = true ∧ SeqAt.shaped f = true ∧ c = PyData.eqv d f := by
  unfold eqD at e
  split at e
  · rename_i d f h1 h2
    split at e
    · rename_i hs
      cases e
      exact ⟨d, f, rw_dp ra h1 (SeqAt.canLay_of_shaped hs.1), rw_dp rb h2 (SeqAt.canLay_of_shaped hs.2), hs.1, hs.2, rfl⟩
    · cases e
  · cases e
theorem isD_rel {a b : D} {c : Bool} (e : isD a b = some c) {H : Hp} {O : Addr → Prop} {x y : V} {F G : List Addr} (ra : Rw K H O x a F) (rb : Rw K H O y b G) :
    (y = .non ∧ decide (x = .non) = c) ∨ ∃ p q, x = .bl p ∧ y = .bl q ∧ decide (p = q) = c := by
  unfold isD at e
  split at e
  · refine .inl ⟨rw_non rb, ?_⟩
    split at e
    · cases e
      exact rp_decN (rw_rp ra)
    · cases e
    · cases e; cases ra; rfl
    · cases e; cases ra; rfl
    · cases e; cases ra; rfl
    · cases e; cases ra; rfl
  · have ey := rw_bl rb
    subst ey
    split at e
    · have ex := rw_bl ra
      subst ex
      cases e
      exact .inr ⟨_, _, rfl, rfl, by rename_i p q; cases p <;> cases q <;> rfl⟩
    · cases e
  · cases e
theorem inD_rel {a b : D} {c : Bool} (e : inD a b = some c) {H : Hp} {O : Addr → Prop} {x y : V} {F G : List Addr} (ra : Rw K H O x a F) (rb : Rw K H O y b G) :
    (∃ d ds, Dp K H x d ∧ Dp K H y (.list ds) ∧ SeqAt.shaped d = true ∧ SeqAt.shaped (.list ds) = true ∧ c = ds.any fun z => PyData.eqv z d) ∨
    (∃ d ds, Dp K H x d ∧ Dp K H y (.tuple ds) ∧ SeqAt.shaped d = true ∧ SeqAt.shaped (.tuple ds) = true ∧ c = ds.any fun z => PyData.eqv z d) ∨
    ∃ p o, y = .ref p ∧ DGet H p x o ∧ c = o.isSome := by
  unfold inD at e
  split at e
  · rename_i d
    have rx := rw_rp ra
    split at e
    · rename_i l hl
      split at e
      · rename_i hs
        cases e
        have cl := SeqAt.canLay_of_shaped hs.2
        have cl' : PyData.canLayAll0 l = true := by simpa [PyData.canLay0] using cl
        have ts : SeqAt.shaped (.tuple l) = true := by
          have := hs.2
          simpa [SeqAt.shaped, PyData.canLay0, PyData.depth] using this
        cases rb with
        | p rb =>
          cases rb with
          | lst h1 _ t => cases hl; exact .inl ⟨d, l, rx.dp (SeqAt.canLay_of_shaped hs.1), .lst (SqL.of h1) (t.dp cl'), hs.1, hs.2, rfl⟩
          | tup h1 t => cases hl; exact .inr (.inl ⟨d, l, rx.dp (SeqAt.canLay_of_shaped hs.1), .tup (SqT.of h1) (t.dp cl'), hs.1, ts, rfl⟩)
          | tupK h1 _ t => cases hl; exact .inr (.inl ⟨d, l, rx.dp (SeqAt.canLay_of_shaped hs.1), .tup (.inr h1) (t.dp cl'), hs.1, ts, rfl⟩)
          | _ => cases hl
        | own h1 _ t => cases hl; exact .inl ⟨d, l, rx.dp (SeqAt.canLay_of_shaped hs.1), .lst (SqL.of h1) (t.dp cl'), hs.1, hs.2, rfl⟩
        | _ => cases hl
      · cases e
    · split at e
      · rename_i l
        obtain ⟨k, hk, e2⟩ := Option.map_eq_some_iff.mp e
        have ex := keyP_rp rx hk
        subst ex
        cases rb with
        | odk h1 _ e1 t =>
          refine .inr (.inr ⟨_, _, rfl, DGet.k h1, ?_⟩)
          rcases lookD_val e1 t k with ⟨v, d, h2, h3, _⟩ | ⟨h2, h3⟩ <;> rw [h2, ← e2, h3] <;> rfl
      · rename_i l
        split at e
        · rename_i ks
          split at e
          · cases e
          · rename_i hc
            obtain ⟨k, hk, e2⟩ := Option.map_eq_some_iff.mp e
            obtain ⟨q, rfl, hq⟩ := key_tr rx (by simpa using hc) hk
            cases rb with
            | odt h1 _ e1 t =>
              refine .inr (.inr ⟨_, _, rfl, DGet.t h1 hq, ?_⟩)
              rcases lookD_val e1 t k with ⟨v, d, h2, h3, _⟩ | ⟨h2, h3⟩ <;> rw [h2, ← e2, h3] <;> rfl
        · cases e
      · cases e
  · cases e
theorem map_bool {o : Option Bool} {d : D} (h : (o.map fun c => D.p (.bool c)) = some d) : ∃ c, o = some c ∧ d = .p (.bool c) := by
  obtain ⟨c, h1, h2⟩ := Option.map_eq_some_iff.mp h
  exact ⟨c, h1, h2.symm⟩
theorem vat_cmp (op : CmpOp) {ds : List D} {d : D} (e : prD (.cmp op) ds = some d) : VAt K (r2 (rCmp K op)) ds d := by
  intro H O vs Q w r n
  match ds, r, e with
  | [a, b], r, e =>
    obtain ⟨x, y, F, G, rfl, ra, rb⟩ := all2 r
    refine ⟨x, y, rfl, ?_⟩
    obtain ⟨c, ec, rfl⟩ := map_bool (show ((cmpD op a b).map fun c => D.p (.bool c)) = some d from e)
    have q : Q (.bl c) H := n.plain w (.bl c)
    cases op with
    | Eq =>
      obtain ⟨d, f, h1, h2, h3, h4, rfl⟩ := eqD_dp (show eqD a b = some c from ec) ra rb
      exact ⟨d, f, h1, h2, h3, h4, q⟩
    | NotEq =>
      obtain ⟨c', e', rfl⟩ := Option.map_eq_some_iff.mp (show (eqD a b).map (!·) = some c from ec)
      obtain ⟨d, f, h1, h2, h3, h4, rfl⟩ := eqD_dp e' ra rb
      exact ⟨d, f, h1, h2, h3, h4, q⟩
    | Is =>
      rcases isD_rel (show isD a b = some c from ec) ra rb with ⟨rfl, e1⟩ | ⟨p, s, rfl, rfl, e1⟩
      · exact .inl ⟨rfl, by rw [e1]; exact q⟩
      · exact .inr ⟨p, s, rfl, rfl, by rw [e1]; exact q⟩
    | IsNot =>
      obtain ⟨c', e', rfl⟩ := Option.map_eq_some_iff.mp (show (isD a b).map (!·) = some c from ec)
      rcases isD_rel e' ra rb with ⟨rfl, e1⟩ | ⟨p, s, rfl, rfl, e1⟩
      · exact .inl ⟨rfl, by rw [e1]; exact q⟩
      · exact .inr ⟨p, s, rfl, rfl, by rw [e1]; exact q⟩
    | In =>
      rcases inD_rel (show inD a b = some c from ec) ra rb with ⟨d, ds, h1, h2, h3, h4, rfl⟩ | ⟨d, ds, h1, h2, h3, h4, rfl⟩ | ⟨p, o, rfl, h, rfl⟩
      · exact .inl ⟨d, ds, h1, h2, h3, h4, q⟩
      · exact .inr (.inl ⟨d, ds, h1, h2, h3, h4, q⟩)
      · exact .inr (.inr ⟨p, o, rfl, h, q⟩)
    | NotIn =>
      obtain ⟨c', e', rfl⟩ := Option.map_eq_some_iff.mp (show (inD a b).map (!·) = some c from ec)
      rcases inD_rel e' ra rb with ⟨d, ds, h1, h2, h3, h4, rfl⟩ | ⟨d, ds, h1, h2, h3, h4, rfl⟩ | ⟨p, o, rfl, h, rfl⟩
      · exact .inl ⟨d, ds, h1, h2, h3, h4, q⟩
      · exact .inr (.inl ⟨d, ds, h1, h2, h3, h4, q⟩)
      · exact .inr (.inr ⟨p, o, rfl, h, q⟩)
    | Lt =>
      unfold cmpD at ec
      simp only at ec
      split at ec
      · have ex := rw_int ra
        have ey := rw_int rb
        subst ex; subst ey
        cases ec
        exact .inl ⟨_, _, rfl, rfl, q⟩
      · obtain ⟨p, xs, rfl, h1, t1⟩ := rw_tup ra
        obtain ⟨s, ys, rfl, h2, t2⟩ := rw_tup rb
        split at ec
        · rename_i i1 i2
          cases ec
          rw [t1.ints i1] at h1
          rw [t2.ints i2] at h2
          exact .inr ⟨p, s, _, _, rfl, rfl, h1, h2, q⟩
        · cases ec
      · cases ec
    | LtE =>
      unfold cmpD at ec
      simp only at ec
      split at ec
      · have ex := rw_int ra
        have ey := rw_int rb
        subst ex; subst ey
        cases ec
        exact .inl ⟨_, _, rfl, rfl, q⟩
      · obtain ⟨p, xs, rfl, h1, t1⟩ := rw_tup ra
        obtain ⟨s, ys, rfl, h2, t2⟩ := rw_tup rb
        split at ec
        · rename_i i1 i2
          cases ec
          rw [t1.ints i1] at h1
          rw [t2.ints i2] at h2
          refine .inr ⟨p, s, _, _, rfl, rfl, h1, h2, ?_⟩
          rw [lexAt_le]
          exact q
        · cases ec
      · cases ec
    | Gt =>
      unfold cmpD at ec
      simp only at ec
      split at ec
      · have ex := rw_int ra
        have ey := rw_int rb
        subst ex; subst ey
        cases ec
        exact ⟨_, _, rfl, rfl, q⟩
      · cases ec
    | GtE =>
      unfold cmpD at ec
      simp only at ec
      split at ec
      · have ex := rw_int ra
        have ey := rw_int rb
        subst ex; subst ey
        cases ec
        exact ⟨_, _, rfl, rfl, q⟩
      · cases ec
  | [], _, e => cases e
  | [_], _, e => cases e
  | _ :: _ :: _ :: _, _, e => cases e

/-! ### subscripts -/
theorem atI_map {α β : Type} (f : α → β) {l : List α} {i : Int} {d : β} (h : atI (l.map f) i = some d) : ∃ x, atI l i = some x ∧ f x = d := by
  unfold atI at h ⊢
  rw [List.length_map] at h
  cases e : ixN l.length i with
  | none => rw [e] at h; cases h
  | some j =>
    rw [e] at h
    simp only [Option.bind_some, List.getElem?_map] at h ⊢
    exact Option.map_eq_some_iff.mp h
theorem atI_rp {H : Hp} {O : Addr → Prop} {xs : List V} {l : List PD} {i : Int} {d : PD} (t : RpAll K H O xs l) (h : atI l i = some d) : ∃ v, atI xs i = some v ∧ Rp K H O v d := by
  unfold atI at h ⊢
  rw [t.length]
  cases e : ixN l.length i with
  | none => rw [e] at h; cases h
  | some j =>
    rw [e] at h
    exact t.get h
/-- of a list, a tuple, a text -/
abbrev rIdxS (K : PySem.W.Frag) : List V → Hp → VK → Prop := r2 (rIx K)
/-- of a dict -/
def rGetD : R2 := fun x y H Q => ∃ a v, x = .ref a ∧ DGet H a y (some v) ∧ Q v H
theorem vat_idx {ds : List D} {d : D} (e : prD .idx ds = some d) : VAt K (r2 (rIx K)) ds d ∨ VAt K (r2 rGetD) ds d := by
  match ds, e with
  | [a, b], e =>
    change idxD a b = some d at e
    unfold idxD at e
    split at e
    · obtain ⟨k, e1, rfl⟩ := Option.map_eq_some_iff.mp e
      refine .inl fun H O vs Q w r n => ?_
      obtain ⟨x, y, F, G, rfl, ra, rb⟩ := all2 r
      have ey := rw_int rb
      subst ey
      cases ra with
      | frl h =>
        refine ⟨_, _, rfl, .inl ⟨_, _, _, .int k, rfl, rfl, h.sq, ?_, n.plain w (.int k)⟩⟩
        unfold atI at e1 ⊢
        rw [List.length_map]
        cases q : ixN _ _ with
        | none => rw [q] at e1; cases e1
        | some j =>
          rw [q] at e1
          simp only [Option.bind_some, List.getElem?_map] at e1 ⊢
          rw [e1]; rfl
    · split at e
      · rename_i k hk
        obtain ⟨z, e1, rfl⟩ := Option.map_eq_some_iff.mp e
        refine .inr fun H O vs Q w r n => ?_
        obtain ⟨x, y, F, G, rfl, ra, rb⟩ := all2 r
        have ey := keyP_rp (rw_rp rb) hk
        subst ey
        cases ra with
        | odk h1 _ e2 t =>
          rcases lookD_val e2 t k with ⟨v, d, h2, h3, h4⟩ | ⟨h2, h3⟩
          · rw [e1] at h3
            cases h3
            exact ⟨_, _, rfl, _, v, rfl, by rw [← h2]; exact DGet.k h1, n.plain w h4⟩
          · rw [e1] at h3; cases h3
      · cases e
    · split at e
      · cases e
      · rename_i hc
        split at e
        · rename_i k hk
          obtain ⟨z, e1, rfl⟩ := Option.map_eq_some_iff.mp e
          refine .inr fun H O vs Q w r n => ?_
          obtain ⟨x, y, F, G, rfl, ra, rb⟩ := all2 r
          obtain ⟨q, rfl, hq⟩ := key_tr (rw_rp rb) (by simpa using hc) hk
          cases ra with
          | odt h1 _ e2 t =>
            rcases lookD_val e2 t k with ⟨v, d, h2, h3, h4⟩ | ⟨h2, h3⟩
            · rw [e1] at h3
              cases h3
              exact ⟨_, _, rfl, _, v, rfl, by rw [← h2]; exact DGet.t h1 hq, n.plain w h4⟩
            · rw [e1] at h3; cases h3
        · cases e
    · split at e
      · rename_i hz
        obtain ⟨c, e1, rfl⟩ := Option.map_eq_some_iff.mp e
        refine .inl fun H O vs Q w r n => ?_
        obtain ⟨x, y, F, G, rfl, ra, rb⟩ := all2 r
        have ex := rw_str ra
        have ey := rw_int rb
        subst ex; subst ey
        exact ⟨_, _, rfl, .inr (.inr ⟨_, _, c, rfl, rfl, by rw [line_eq]; exact hz, e1, n.plain w (.str _)⟩)⟩
      · cases e
    · split at e
      · rename_i l hl
        obtain ⟨z, e1, rfl⟩ := Option.map_eq_some_iff.mp e
        refine .inl fun H O vs Q w r n => ?_
        obtain ⟨x, y, F, G, rfl, ra, rb⟩ := all2 r
        have ey := rw_int rb
        subst ey
        obtain ⟨p, xs, rfl, h1, t1⟩ := rw_seqD ra hl
        obtain ⟨v, h2, h3⟩ := atI_rp t1 e1
        rcases h1 with h1 | h1
        · exact ⟨_, _, rfl, .inl ⟨p, xs, _, v, rfl, rfl, SqL.of h1, h2, n.plain w h3⟩⟩
        · exact ⟨_, _, rfl, .inr (.inl ⟨p, xs, _, v, rfl, rfl, h1, h2, n.plain w h3⟩)⟩
      · cases e
    · cases e
  | [], e => cases e
  | [_], e => cases e
  | _ :: _ :: _ :: _, e => cases e
end
end Pv

/-! Pv, part F: slices, built-in functions by values. -/
namespace Pv
open PySem PySem.Spec L2
open PyProof.Rows hiding St

section
variable {K : PySem.W.Frag}
/-! ### slices -/
/-- t[lo:hi], the whole of it: t itself -/
def rSlTW (K : PySem.W.Frag) : V → Option Int → Option Int → Hp → VK → Prop := fun x lo hi H Q => ∃ a xs, x = .ref a ∧ SqT K H a xs ∧
  (HT.sIx xs.length 0 lo = 0 ∧ HT.sIx xs.length xs.length hi = xs.length) ∧ Q (.ref a) H
theorem getItem_tuple_whole {prog : Program} {w : World} {A : Around} {E : Value → Shared → Prop} {s : Shared} {t sl : Addr} {items : Array Value} {vl vu : Value} {lo hi : Option Int} {Q : Value → Shared → Prop}
    (ht : IsTup s.heap t items) (hs : s.heap.IsSliceOf sl vl vu .none) (pl : IsPart vl lo) (pu : IsPart vu hi)
    (hw : HT.sIx items.size 0 lo = 0 ∧ HT.sIx items.size items.size hi = items.size) (h : Q (.ref t) s) (hsz : items.size ≤ sizeLine) : wpAny (model prog w) A (getItem (.ref t) (.ref sl)) Q E s := by
  obtain ⟨os, hos, hcs, hds⟩ := id hs
  have hTs : s.TypeIs (.ref sl) "slice" := ⟨os, hos, hcs⟩
  unfold getItem
  try with_reducible refine wpAny_holding ?_
  first | refine wpAny_bind (wpAny_pure ?_) | skip
  refine wpAny_bind (wpAny_sequenceKey ht.typeIs (by decide) ?_)
  refine wpAny_bind (wpAny_callSpecial?_slot (name := Str.ofString "__getitem__") ht.typeIs PyProof.Rows.slot_tuple_getitem
    (wpAny_call_entry PyProof.Rows.slot_tuple_getitem ht.typeIs entry_tuple_getitem ?_ (args_tuple_getitem _ _)))
  show wpAny _ _ (Builtin.Tuple.tupleItemsOf (.ref t) >>= _) _ _ s
  refine wpAny_bind (tupleItemsOf_ ht ?_)
  refine wpAny_bind (wpAny_typeOf hTs ?_)
  rw [if_pos (by decide)]
  refine wpAny_bind (HT.sliceApplied_gen hs pl pu ?_)
  have hyes : ((((HT.sIx items.size 0 lo : Nat) : Int) == 0 && (1 : Int) == 1 && (HT.sIx items.size items.size hi - HT.sIx items.size 0 lo) == items.size) = true) := by
    rw [hw.1, hw.2]
    simp
  show wpAny _ _ (if (((HT.sIx items.size 0 lo : Nat) : Int) == 0 && (1 : Int) == 1 && (HT.sIx items.size items.size hi - HT.sIx items.size 0 lo) == items.size) = true then _ else _) _ _ s
  rw [if_pos hyes]
  refine wpAny_bind (m := Builtin.Tuple.tupleIsExact (.ref t)) ?_
  unfold Builtin.Tuple.tupleIsExact
  refine wpAny_bind (wpAny_typeOf ht.typeIs (wpAny_pure ?_))
  rw [if_pos (by decide)]
  exact wpAny_bind (wpAny_rule (wpAny_pure ⟨_, rfl, wpAny_pure h⟩))
theorem sl_tupW {X : Cx} : SlR X (rSlTW X.K) := by
  intro pins s σ H x v vl vu lo hi sl Q I rx hs pl pu h
  obtain ⟨a, xs, rfl, hx, hw, q⟩ := h
  cases rx
  obtain ⟨its, r, ht, hz⟩ := I.tuple hx
  have hlen : its.toArray.size = xs.length := by rw [List.size_toArray]; exact r.length.symm
  refine ⟨"tuple", _, PyProof.Rows.slot_tuple_getitem.lookup, ht.typeIs, ?_⟩
  exact getItem_tuple_whole ht hs pl pu (by rw [hlen]; exact hw) ⟨.ref a, H, I, rfl, q⟩ (by rw [hlen]; exact hz)
def rSl (K : PySem.W.Frag) : V → Option Int → Option Int → Hp → VK → Prop := fun x lo hi H Q => rSlL K x lo hi H Q ∨ rSlT K x lo hi H Q ∨ rSlTW K x lo hi H Q
theorem sl_any {X : Cx} : SlR X (rSl X.K) := sl_list.or (sl_tup.or sl_tupW)
theorem cut_whole {α : Type} {xs : List α} {lo hi : Option Int} (h : HT.sIx xs.length 0 lo = 0 ∧ HT.sIx xs.length xs.length hi = xs.length) : cut xs lo hi = xs := by
  unfold cut
  rw [h.1, h.2]
  simp
theorem slD_ok {a d : D} {lo hi : Option Int} (e : slD a lo hi = some d) {H : Hp} {O : Addr → Prop} {x : V} {F : List Addr} {Q : VK} (w : Wok H O) (ra : Rw K H O x a F) (n : NewP K H O d Q) : rSl K x lo hi H Q := by
  unfold slD at e
  split at e
  · cases e
    obtain ⟨p, xs, rfl, h1, t1⟩ := rw_tup ra
    by_cases hw : HT.sIx xs.length 0 lo = 0 ∧ HT.sIx xs.length xs.length hi = xs.length
    · refine .inr (.inr ⟨p, xs, rfl, h1, hw, n.plain w ?_⟩)
      rw [t1.length] at hw
      rw [cut_whole hw]
      exact rw_rp ra
    · exact .inr (.inl ⟨p, xs, rfl, h1, hw, n.tup w (cut_eq t1 lo hi)⟩)
  · cases e
    obtain ⟨p, xs, rfl, h1, t1⟩ := rw_lstD ra rfl
    exact .inl ⟨p, xs, rfl, SqL.of h1, n.lst w (cut_eq t1 lo hi)⟩
  · cases e
    obtain ⟨p, xs, rfl, h1, t1⟩ := rw_lstD ra rfl
    exact .inl ⟨p, xs, rfl, SqL.of h1, n.lst w (cut_eq t1 lo hi)⟩
  · cases e

/-! ### - x, isinstance, x in range(..) -/
theorem vat_neg {ds : List D} {d : D} (e : prD .neg ds = some d) : VAt K (r1 (rU fun i => .int (-i))) ds d := by
  intro H O vs Q w r n
  match ds, r, e with
  | [.p (.int i)], r, e =>
    cases e
    obtain ⟨x, F, rfl, ra⟩ := all1 r
    have ex := rw_int ra
    subst ex
    exact ⟨_, rfl, i, rfl, n.plain w (.int _)⟩
def rIsiT (K : PySem.W.Frag) (t : Ty) : V → Hp → VK → Prop := fun x H Q => rIsi K [x, .ty t.nm] H Q
def nmP : PD → String
  | .none => "NoneType" | .bool _ => "bool" | .int _ => "int" | .str _ => "str" | .list _ => "list" | .tuple _ => "tuple" | .dict _ => "dict"
theorem kit_nm (K : PySem.W.Frag) (t : Ty) (d : PD) : PySem.W.kitOne K (.type (nmP d)) (.type t.nm) = some (isiP t d) := by
  cases d <;> cases t <;> rfl
theorem rp_ty {H : Hp} {O : Addr → Prop} {v : V} {d : PD} (r : Rp K H O v d) : TyX K H v (.type (nmP d)) := by
  cases r with
  | non => exact .base .non
  | bl b => exact .base (.bl b)
  | int i => exact .base (.int i)
  | str x => exact .base (.str x)
  | lst h _ _ => exact .base (.lst h)
  | tup h _ => exact .base (.tup h)
  | tupK h _ _ => obtain ⟨o, its, n, h1, h2, _⟩ := h; exact .kTuple h1 h2
  | dk h _ _ _ => exact .base (.dK h)
  | dt h _ _ _ => exact .base (.dT h)
theorem vat_isi (t : Ty) {ds : List D} {d : D} (e : prD (.isi t) ds = some d) : VAt K (r1 (rIsiT K t)) ds d := by
  intro H O vs Q w r n
  match ds, r, e with
  | [.p x], r, e =>
    cases e
    obtain ⟨v, F, rfl, ra⟩ := all1 r
    exact ⟨v, rfl, v, .ty t.nm, _, _, _, rfl, .ty _, rp_ty (rw_rp ra), kit_nm K t x, n.plain w (.bl _)⟩
  | [.own l], r, e =>
    cases e
    obtain ⟨v, F, rfl, ra⟩ := all1 r
    cases ra with
    | own h _ _ => exact ⟨_, rfl, _, .ty t.nm, _, _, _, rfl, .ty _, .base (.lst h), kit_nm K t (.list l), n.plain w (.bl _)⟩
/-- x in range(a, b), the range made there -/
def rInRng (neg : Bool) : List V → Hp → VK → Prop := fun vs H Q => ∃ i a b : Int, vs = [.int i, .int a, .int b] ∧ ∀ p, H p = none → Q (.bl (if neg then !decide (a ≤ i ∧ i < b) else decide (a ≤ i ∧ i < b))) (upd H p (.rng a b))
theorem vat_inr (neg : Bool) {ds : List D} {d : D} (e : prD (.inr neg) ds = some d) : VAt K (rInRng neg) ds d := by
  intro H O vs Q w r n
  match ds, r, e with
  | [.p (.int i), .p (.int a), .p (.int b)], r, e =>
    cases e
    obtain ⟨x, y, z, F, G, J, rfl, r1, r2, r3⟩ := all3 r
    have e1 := rw_int r1
    have e2 := rw_int r2
    have e3 := rw_int r3
    subst e1; subst e2; subst e3
    exact ⟨i, a, b, rfl, fun p hp => n _ _ O [] (Le.new_plain hp) (w.upd_keep (.inl hp)) (.p (.bl _)) List.nodup_nil fun _ z => nomatch z⟩

/-! ### x[::-1] -/
def rRev (K : PySem.W.Frag) : V → Hp → VK → Prop := fun x H Q => ∃ a xs, x = .ref a ∧ SqL K H a xs ∧ ∀ p, H p = none → Q (.ref p) (upd H p (.lst xs.reverse))
theorem vat_rev {ds : List D} {d : D} (e : prD .rev ds = some d) : VAt K (r1 (rRev K)) ds d := by
  intro H O vs Q w r n
  match ds, r, e with
  | [a], r, e =>
    change revD a = some d at e
    obtain ⟨v, F, rfl, ra⟩ := all1 r
    unfold revD at e
    split at e
    · cases e
      obtain ⟨p, xs, rfl, h1, t1⟩ := rw_lstD ra rfl
      exact ⟨_, rfl, p, xs, rfl, SqL.of h1, n.lst w t1.reverse⟩
    · cases e
      obtain ⟨p, xs, rfl, h1, t1⟩ := rw_lstD ra rfl
      exact ⟨_, rfl, p, xs, rfl, SqL.of h1, n.lst w t1.reverse⟩
    · cases e

/-! ### built-in functions -/
theorem foldl_max (ns : List Int) : ∀ i : Int, (ns.foldl (fun a b => if b > a then b else a) i) ∈ i :: ns ∧ ∀ y ∈ i :: ns, y ≤ ns.foldl (fun a b => if b > a then b else a) i := by
  induction ns with
  | nil => intro i; simp
  | cons n ns ih =>
    intro i
    simp only [List.foldl_cons]
    obtain ⟨h1, h2⟩ := ih (if n > i then n else i)
    have h3 := h2 _ List.mem_cons_self
    refine ⟨?_, fun y hy => ?_⟩
    · rcases List.mem_cons.mp h1 with h | h
      · rw [h]; split <;> simp
      · simp [h]
    · rcases List.mem_cons.mp hy with rfl | hy
      · split at h3 <;> split <;> omega
      · rcases List.mem_cons.mp hy with rfl | hy
        · split at h3 <;> split <;> omega
        · exact h2 y (List.mem_cons_of_mem _ hy)
theorem foldl_min (ns : List Int) : ∀ i : Int, (ns.foldl (fun a b => if b < a then b else a) i) ∈ i :: ns ∧ ∀ y ∈ i :: ns, ns.foldl (fun a b => if b < a then b else a) i ≤ y := by
  induction ns with
  | nil => intro i; simp
  | cons n ns ih =>
    intro i
    simp only [List.foldl_cons]
    obtain ⟨h1, h2⟩ := ih (if n < i then n else i)
    have h3 := h2 _ List.mem_cons_self
    refine ⟨?_, fun y hy => ?_⟩
    · rcases List.mem_cons.mp h1 with h | h
      · rw [h]; split <;> simp
      · simp [h]
    · rcases List.mem_cons.mp hy with rfl | hy
      · split at h3 <;> split <;> omega
      · rcases List.mem_cons.mp hy with rfl | hy
        · split at h3 <;> split <;> omega
        · exact h2 y (List.mem_cons_of_mem _ hy)

abbrev RL := List V → Hp → VK → Prop
def rAbs : RL := fun xs H Q => ∃ i, xs = [.int i] ∧ Q (.int (if i < 0 then -i else i)) H
def rMax2 : RL := fun xs H Q => ∃ i j, xs = [.int i, .int j] ∧ Q (.int (if j > i then j else i)) H
def rMin2 : RL := fun xs H Q => ∃ i j, xs = [.int i, .int j] ∧ Q (.int (if j < i then j else i)) H
def rLenL (K : PySem.W.Frag) : RL := fun xs H Q => (∃ p ys, xs = [.ref p] ∧ (SqL K H p ys ∨ SqT K H p ys) ∧ Q (.int ys.length) H) ∨ (∃ z, xs = [.str z] ∧ z.length ≤ sizeLine ∧ Q (.int z.length) H) ∨
  (∃ a kvs, xs = [V.ref a] ∧ H a = some (.dK kvs) ∧ Q (.int kvs.length) H) ∨ rLenT xs H Q
def rInt1 : RL := fun xs H Q => (∃ i, xs = [.int i] ∧ Q (.int i) H) ∨ ∃ k, xs = [.bl k] ∧ Q (.int (if k then 1 else 0)) H
def rListOf (K : PySem.W.Frag) : RL := fun xs H Q => ∃ p ys, xs = [.ref p] ∧ (SqL K H p ys ∨ SqT K H p ys) ∧ ∀ l, H l = none → Q (.ref l) (upd H l (.lst ys))
def rTupOf (K : PySem.W.Frag) : RL := fun xs H Q => ∃ p ys, xs = [.ref p] ∧ ((SqL K H p ys ∧ ∀ l, H l = none → Q (.ref l) (upd H l (.tup ys))) ∨ (SqT K H p ys ∧ Q (.ref p) H))
def rDivmod : RL := fun xs H Q => ∃ i j, xs = [.int i, .int j] ∧ CDiv i j ∧ ∀ p, H p = none → Q (.ref p) (upd H p (.tup [.int (i / j), .int (i % j)]))
def rRepr (K : PySem.W.Frag) : RL := fun xs H Q => ∃ v d, xs = [v] ∧ Dp K H v d ∧ SeqAt.shaped d = true ∧ d.showable = true ∧ d.shown.length ≤ sizeLine ∧ Q (.str d.shown) H
/-- what a built-in function asks (sorted, list of a dict: part G) -/
def rBf (K : PySem.W.Frag) : Bf → RL
  | .len => rLenL K
  | .abs => rAbs
  | .max => fun xs H Q => rMax2 xs H Q ∨ rMax K xs H Q
  | .min => fun xs H Q => rMin2 xs H Q ∨ rMin K xs H Q
  | .sum => rSum K
  | .all => rAll K
  | .any => rAny K
  | .int => rInt1
  | .list => rListOf K
  | .tuple => rTupOf K
  | .repr => rRepr K
  | .divmod => rDivmod
  | _ => fun _ _ _ => False
theorem un_inv {g : D → Option D} {ds : List D} {d : D} (e : un g ds = some d) : ∃ a, ds = [a] ∧ g a = some d := by
  match ds, e with
  | [a], e => exact ⟨a, rfl, e⟩
theorem seqQ {H : Hp} {a : Addr} {xs : List V} (h : H a = some (.lst xs) ∨ SqT K H a xs) : SqL K H a xs ∨ SqT K H a xs := h.elim (fun z => .inl (SqL.of z)) .inr
theorem vat_bf (f : Bf) (hf : f ≠ .sorted) {ds : List D} {d : D} (e : bfD f ds = some d) (hd : ∀ l, f = .list → ds ≠ [.odt l]) : VAt K (rBf K f) ds d := by
  intro H O vs Q w r n
  cases f with
  | sorted => exact absurd rfl hf
  | bool => cases e
  | len =>
    match ds, r, e with
    | [a], r, e =>
      obtain ⟨v, F, rfl, ra⟩ := all1 r
      cases ra with
      | frl h => cases e; exact .inl ⟨_, _, rfl, .inl h.sq, by rw [List.length_map]; exact n.plain w (.int _)⟩
      | own2 h _ t => cases e; exact .inl ⟨_, _, rfl, .inl (SqL.of h), by rw [t.length]; exact n.plain w (.int _)⟩
      | own h _ t => cases e; exact .inl ⟨_, _, rfl, .inl (SqL.of h), by rw [t.length]; exact n.plain w (.int _)⟩
      | odk h _ e1 t =>
        cases e
        refine .inr (.inr (.inl ⟨_, _, rfl, h, ?_⟩))
        have := congrArg List.length e1
        rw [List.length_map, List.length_map] at this
        rw [this]
        exact n.plain w (.int _)
      | odt h _ e1 t =>
        cases e
        refine .inr (.inr (.inr ⟨_, _, rfl, h, ?_⟩))
        have := congrArg List.length e1
        rw [List.length_map, List.length_map] at this
        rw [this]
        exact n.plain w (.int _)
      | p rp =>
        cases rp with
        | str z =>
          change (if z.length ≤ line then some (D.p (.int z.length)) else none) = some d at e
          split at e
          · rename_i hz
            cases e
            exact .inr (.inl ⟨z, rfl, by rw [line_eq]; exact hz, n.plain w (.int _)⟩)
          · cases e
        | lst h _ t => cases e; exact .inl ⟨_, _, rfl, .inl (SqL.of h), by rw [t.length]; exact n.plain w (.int _)⟩
        | tup h t => cases e; exact .inl ⟨_, _, rfl, .inr (SqT.of h), by rw [t.length]; exact n.plain w (.int _)⟩
        | tupK h _ t => cases e; exact .inl ⟨_, _, rfl, .inr (.inr h), by rw [t.length]; exact n.plain w (.int _)⟩
        | _ => cases e
    | [], _, e => cases e
    | _ :: _ :: _, _, e => cases e
  | abs =>
    obtain ⟨a, rfl, e2⟩ := un_inv e
    clear e
    obtain ⟨v, F, rfl, ra⟩ := all1 r
    unfold absD at e2
    split at e2
    · cases e2
      have ex := rw_int ra
      subst ex
      exact ⟨_, rfl, n.plain w (.int _)⟩
    · cases e2
  | max =>
    match ds, r, e with
    | [a], r, e =>
      obtain ⟨v, F, rfl, ra⟩ := all1 r
      obtain ⟨l, hl, e2⟩ := Option.bind_eq_some_iff.mp (show ((lstD a).bind fun l => (intsP l).bind maxL) = some d from e)
      obtain ⟨is, hi, e3⟩ := Option.bind_eq_some_iff.mp e2
      obtain ⟨p, xs, rfl, h1, t1⟩ := rw_lstD ra hl
      cases is with
      | nil => cases e3
      | cons i is =>
        cases e3
        refine .inr ⟨p, i :: is, rfl, SqL.of (by rw [← t1.ints hi]; exact h1), by simp, fun m hm hle => ?_⟩
        obtain ⟨m1, m2⟩ := foldl_max is i
        have : m = is.foldl (fun a b => if b > a then b else a) i := Int.le_antisymm (m2 m hm) (hle _ m1)
        rw [this]
        exact n.plain w (.int _)
    | [.p (.int i), .p (.int j)], r, e =>
      cases e
      obtain ⟨x, y, F, G, rfl, ra, rb⟩ := all2 r
      have ex := rw_int ra
      have ey := rw_int rb
      subst ex; subst ey
      exact .inl ⟨_, _, rfl, n.plain w (.int _)⟩
  | min =>
    match ds, r, e with
    | [a], r, e =>
      obtain ⟨v, F, rfl, ra⟩ := all1 r
      obtain ⟨l, hl, e2⟩ := Option.bind_eq_some_iff.mp (show ((lstD a).bind fun l => (intsP l).bind minL) = some d from e)
      obtain ⟨is, hi, e3⟩ := Option.bind_eq_some_iff.mp e2
      obtain ⟨p, xs, rfl, h1, t1⟩ := rw_lstD ra hl
      cases is with
      | nil => cases e3
      | cons i is =>
        cases e3
        refine .inr ⟨p, i :: is, rfl, SqL.of (by rw [← t1.ints hi]; exact h1), by simp, fun m hm hle => ?_⟩
        obtain ⟨m1, m2⟩ := foldl_min is i
        have : m = is.foldl (fun a b => if b < a then b else a) i := Int.le_antisymm (hle _ m1) (m2 m hm)
        rw [this]
        exact n.plain w (.int _)
    | [.p (.int i), .p (.int j)], r, e =>
      cases e
      obtain ⟨x, y, F, G, rfl, ra, rb⟩ := all2 r
      have ex := rw_int ra
      have ey := rw_int rb
      subst ex; subst ey
      exact .inl ⟨_, _, rfl, n.plain w (.int _)⟩
  | sum =>
    match ds, r, e with
    | [a], r, e =>
      obtain ⟨v, F, rfl, ra⟩ := all1 r
      obtain ⟨l, hl, e2⟩ := Option.bind_eq_some_iff.mp (show ((lstD a).bind fun l => (intsP l).map fun ns => D.p (.int ns.sum)) = some d from e)
      obtain ⟨p, xs, rfl, h1, t1⟩ := rw_lstD ra hl
      obtain ⟨ns, h2, rfl⟩ := Option.map_eq_some_iff.mp e2
      exact ⟨p, ns, rfl, SqL.of (by rw [← t1.ints h2]; exact h1), n.plain w (.int _)⟩
    | [], _, e => cases e
    | _ :: _ :: _, _, e => cases e
  | all =>
    match ds, r, e with
    | [a], r, e =>
      obtain ⟨v, F, rfl, ra⟩ := all1 r
      obtain ⟨l, hl, e2⟩ := Option.bind_eq_some_iff.mp (show ((lstD a).bind fun l => (boolsP l).map fun bs => D.p (.bool (bs.all id))) = some d from e)
      obtain ⟨p, xs, rfl, h1, t1⟩ := rw_lstD ra hl
      obtain ⟨ns, h2, rfl⟩ := Option.map_eq_some_iff.mp e2
      exact ⟨p, ns, rfl, SqL.of (by rw [← t1.bools h2]; exact h1), n.plain w (.bl _)⟩
    | [], _, e => cases e
    | _ :: _ :: _, _, e => cases e
  | any =>
    match ds, r, e with
    | [a], r, e =>
      obtain ⟨v, F, rfl, ra⟩ := all1 r
      obtain ⟨l, hl, e2⟩ := Option.bind_eq_some_iff.mp (show ((lstD a).bind fun l => (boolsP l).map fun bs => D.p (.bool (bs.any id))) = some d from e)
      obtain ⟨p, xs, rfl, h1, t1⟩ := rw_lstD ra hl
      obtain ⟨ns, h2, rfl⟩ := Option.map_eq_some_iff.mp e2
      exact ⟨p, ns, rfl, SqL.of (by rw [← t1.bools h2]; exact h1), n.plain w (.bl _)⟩
    | [], _, e => cases e
    | _ :: _ :: _, _, e => cases e
  | int =>
    obtain ⟨a, rfl, e2⟩ := un_inv e
    clear e
    obtain ⟨v, F, rfl, ra⟩ := all1 r
    unfold toInt at e2
    split at e2
    · cases e2
      have ex := rw_int ra
      subst ex
      exact .inl ⟨_, rfl, n.plain w (.int _)⟩
    · cases e2
      have ex := rw_bl ra
      subst ex
      exact .inr ⟨_, rfl, n.plain w (.int _)⟩
    · cases e2
  | list =>
    match ds, r, e, hd with
    | [a], r, e, hd =>
      obtain ⟨v, F, rfl, ra⟩ := all1 r
      have e2 : (seqD a).map D.own = some d := by
        cases a with
        | odt l => exact absurd rfl (hd l rfl)
        | _ => exact e
      obtain ⟨l, hl, rfl⟩ := Option.map_eq_some_iff.mp e2
      obtain ⟨p, xs, rfl, h1, t1⟩ := rw_seqD ra hl
      exact ⟨p, xs, rfl, seqQ h1, n.lst w t1⟩
    | [], _, e, _ => cases e
    | _ :: _ :: _, _, e, _ => cases e
  | tuple =>
    match ds, r, e with
    | [a], r, e =>
      obtain ⟨v, F, rfl, ra⟩ := all1 r
      obtain ⟨l, hl, rfl⟩ := Option.map_eq_some_iff.mp (show (seqD a).map (fun l => D.p (.tuple l)) = some d from e)
      cases ra with
      | own h _ t => cases hl; exact ⟨_, _, rfl, .inl ⟨SqL.of h, n.tup w t⟩⟩
      | p rp =>
        cases rp with
        | lst h _ t => cases hl; exact ⟨_, _, rfl, .inl ⟨SqL.of h, n.tup w t⟩⟩
        | tup h t => cases hl; exact ⟨_, _, rfl, .inr ⟨SqT.of h, n.plain w (.tup h t)⟩⟩
        | tupK h c t => cases hl; exact ⟨_, _, rfl, .inr ⟨.inr h, n.plain w (.tupK h c t)⟩⟩
        | _ => cases hl
      | _ => cases hl
    | [], _, e => cases e
    | _ :: _ :: _, _, e => cases e
  | repr =>
    match ds, r, e with
    | [a], r, e =>
      obtain ⟨v, F, rfl, ra⟩ := all1 r
      obtain ⟨x, hx, e2⟩ := Option.bind_eq_some_iff.mp (show (a.toPD.bind fun d => if SeqAt.shaped d = true ∧ d.showable = true ∧ d.shown.length ≤ line then some (D.p (.str d.shown)) else none) = some d from e)
      split at e2
      · rename_i hc
        cases e2
        exact ⟨v, x, rfl, rw_dp ra hx (SeqAt.canLay_of_shaped hc.1), hc.1, hc.2.1, by rw [line_eq]; exact hc.2.2, n.plain w (.str _)⟩
      · cases e2
    | [], _, e => cases e
    | _ :: _ :: _, _, e => cases e
  | divmod =>
    match ds, r, e with
    | [.p (.int i), .p (.int j)], r, e =>
      obtain ⟨x, y, F, G, rfl, ra, rb⟩ := all2 r
      have ex := rw_int ra
      have ey := rw_int rb
      subst ex; subst ey
      change (if 0 < j ∧ j < 1073741824 then some (D.p (.tuple [.int (i / j), .int (i % j)])) else none) = some d at e
      split at e
      · rename_i hc
        cases e
        exact ⟨i, j, rfl, hc, n.tup w (.cons (.int _) (.cons (.int _) .nil))⟩
      · cases e
section
variable {X : Cx}
theorem call_repr (hg : X.A.guards = some []) (hu : X.A.units + 65 < cLine) : CallR X (.builtin "repr") (rRepr X.K) := by
  intro pins s σ H xs us Q I r h
  obtain ⟨v, d, rfl, hd, h1, h2, h3, q⟩ := h
  obtain ⟨u, rfl, rx⟩ := vals1 r
  obtain ⟨as, rd⟩ := Dp.reads I d v u hd rx
  cases hd with
  | non => cases rx; exact PySem.P.repr_of_none ⟨.str _, H, I.tok _, ⟨_, rfl⟩, q⟩
  | bl b => cases rx; exact PySem.P.repr_of_bool ⟨.str _, H, I.tok _, ⟨_, rfl⟩, q⟩
  | int i =>
    obtain ⟨t, rfl⟩ := rx
    exact PySem.P.repr_of_int (of_decide_eq_true (by simpa [PyData.showable] using h2)) ⟨.str _, H, I.tok _, ⟨_, rfl⟩, q⟩
  | str x =>
    obtain ⟨t, rfl⟩ := rx
    exact PySem.P.repr_of_str ⟨.str _, H, I.tok _, ⟨_, rfl⟩, q⟩ (by simpa [PyData.shown] using h3)
  | lst hq t =>
    cases rx
    have h64 := SeqAt.depth_of_shaped h1
    exact repr_of_reads' rd h2 (PyData.noDict_hsm (PyData.hasDict_of_canLay _ (SeqAt.canLay_of_shaped h1))) hg (by omega) (fun _ _ e => e) (fun h' u tk hk => ⟨.str _, H, I.kept hk, ⟨_, rfl⟩, q⟩) h3
  | tup hq t =>
    cases rx
    have h64 := SeqAt.depth_of_shaped h1
    exact repr_of_reads' rd h2 (PyData.noDict_hsm (PyData.hasDict_of_canLay _ (SeqAt.canLay_of_shaped h1))) hg (by omega) (fun _ _ e => e) (fun h' u tk hk => ⟨.str _, H, I.kept hk, ⟨_, rfl⟩, q⟩) h3
/-- a built-in function's value -/
def Bf.val : Bf → Value
  | .len => .builtin "len" | .abs => .builtin "abs" | .max => .builtin "max" | .min => .builtin "min" | .sum => .builtin "sum" | .all => .builtin "all" | .any => .builtin "any"
  | .int => .type "int" | .list => .type "list" | .tuple => .type "tuple" | .sorted => .builtin "sorted" | .repr => .builtin "repr" | .divmod => .builtin "divmod" | .bool => .type "bool"
theorem call_bf (hc : X.calm = true) (hg : X.A.guards = some []) (hu : X.A.units + 65 < cLine) (f : Bf) : CallR X f.val (rBf X.K f) := by
  cases f with
  | len => exact call_len_seq.or (call_len_str.or (call_lenD.or call_len_dT))
  | abs => exact call_abs
  | max => exact (call_max2 hc).or (cr_max hc)
  | min => exact (call_min2 hc).or (cr_min hc)
  | sum => exact cr_sum hc
  | all => exact cr_all hc
  | any => exact cr_any hc
  | int => exact call_int1
  | list => exact call_list_of
  | tuple => exact call_tuple_of
  | repr => exact call_repr hg hu
  | divmod => exact call_divmod
  | _ => exact fun _ _ _ _ _ _ _ _ _ h => h.elim
end
end
end Pv

/-! Pv, part S: sorted. -/
namespace Pv
open PySem PySem.Spec L2
open PyProof.Rows hiding St

/-! ### tuples of ints, any lengths -/
section
variable {prog : Program} {w : World} {A : Around} {E : Value → Shared → Prop} {s : Shared}
theorem lex_any {b : Bool} {Q : Bool → Shared → Prop} {xs ys : List Value} {ns ms : List Int} (hx : IntsAre xs ns) : ∀ (hy : IntsAre ys ms) (i : Nat), Q (HT.lexLt ns ms) s → PySem.W.KatLex prog w A b (decide (ns.length < ms.length)) Q (xs.zip ys) i s := by
  induction hx generalizing ys ms with
  | nil =>
    intro hy i h
    cases hy with
    | nil => exact PySem.W.kat_nil h
    | cons _ _ _ => exact PySem.W.kat_nil (by rw [show decide (([] : List Int).length < (_ :: _ : List Int).length) = true from decide_eq_true (Nat.succ_pos _)]; exact h)
  | @cons p t xs ns _ ih =>
    intro hy i h
    cases hy with
    | nil => exact PySem.W.kat_nil h
    | @cons q u ys ms hy =>
      rw [List.zip_cons_cons]
      refine PySem.W.kat_cons (wpAny_eqBool_int ?_)
      rw [HT.lexLt_cons] at h
      by_cases e : p = q
      · rw [if_pos e] at h
        rw [show (p == q) = true from beq_iff_eq.mpr e]
        have hs : decide ((p :: ns).length < (q :: ms).length) = decide (ns.length < ms.length) := decide_eq_decide.mpr Nat.succ_lt_succ_iff
        rw [hs]
        exact PySem.W.kat_yes (ih hy (i + 1) h)
      · rw [if_neg e] at h
        rw [show (p == q) = false from beq_eq_false_iff_ne.mpr e]
        exact PySem.W.kat_no (TS.oneLt_ints _ h)
theorem tup_cmp {vs : List Value} {κ : Value → List Int} (hp : ∀ v ∈ vs, TS.TupInts s.heap v (κ v)) : SrtO.Cmp prog w A s (tuples' true) (fun p => p.1 ∈ vs) (SrtO.lt2 fun v u => HT.lexLt (κ v) (κ u)) := by
  intro p q hm hm'
  obtain ⟨a, xs, e, ⟨o, ho, hc, n, hd⟩, i⟩ := hp _ hm
  obtain ⟨a', ys, e', ⟨o', ho', hc', n', hd'⟩, i'⟩ := hp _ hm'
  show wpAny (model prog w) A (keyLt' (tuples' true) p.1 q.1) (fun r s' => s' = s ∧ r = HT.lexLt (κ p.1) (κ q.1)) (fun _ _ => False) s
  generalize κ p.1 = ns at *
  generalize κ q.1 = ms at *
  rw [e, e']
  refine PySem.W.kat_lt ho hd ho' hd' ?_
  have sz : decide (xs.size < ys.size) = decide (ns.length < ms.length) := by rw [← i.length, ← i'.length, Array.length_toList, Array.length_toList]
  rw [sz]
  exact lex_any i i' 0 ⟨rfl, rfl⟩
theorem heads_of {h : Heap} {κ : Value → List Int} : ∀ vs : List Value, (∀ v ∈ vs, TS.TupInts h v (κ v) ∧ κ v ≠ []) → ∃ fs, PySem.W.KatTups h vs fs ∧ fs.length = vs.length ∧ ∀ f ∈ fs, ∃ n t, f = Value.int n t
  | [], _ => ⟨[], .nil, rfl, fun _ z => nomatch z⟩
  | v :: vs, x => by
    obtain ⟨fs, c, hl, hi⟩ := heads_of vs fun u hu => x u (List.mem_cons_of_mem _ hu)
    obtain ⟨⟨a, xs, e, ⟨o, ho, hc, n, hd⟩, i⟩, hne⟩ := x v List.mem_cons_self
    have hz : 0 < xs.size := by
      have l := i.length
      rw [Array.length_toList] at l
      rw [l]
      exact List.length_pos_iff.mpr hne
    obtain ⟨m, t, hy⟩ := i.all xs[0] (Array.mem_toList_iff.mpr (Array.getElem_mem hz))
    refine ⟨xs[0] :: fs, by rw [e]; exact .cons ho hc hd (Array.getElem?_eq_getElem hz) c, by simp [hl], fun f hf => ?_⟩
    rcases List.mem_cons.mp hf with rfl | hf
    · exact ⟨m, t, hy⟩
    · exact hi f hf
theorem tup_sortable {a : Addr} {vs : List Value} {κ : Value → List Int} (h2 : 2 ≤ vs.length) (hp : ∀ v ∈ vs, TS.TupInts s.heap v (κ v) ∧ κ v ≠ []) (ha : ∀ o, s.heap.get? a = some o → o.cls ≠ .type "tuple") :
    SrtO.SortableO prog w A s a vs fun v u => HT.lexLt (κ v) (κ u) := by
  intro h' keep
  have hp' : ∀ v ∈ vs, TS.TupInts h' v (κ v) ∧ κ v ≠ [] := fun v hm => ⟨(hp v hm).1.keeps fun b o e c => keep b o (fun z => by subst z; exact ha o e c) e, (hp v hm).2⟩
  obtain ⟨fs, c, hl, hi⟩ := heads_of vs hp'
  refine ⟨tuples' true, fun Q E' hq => ?_, tup_cmp fun v hm => (hp' v hm).1⟩
  refine PySem.W.kat_kind (T := .type "int") c (by omega) (fun f hm => ?_) (by rfl) ?_
  · obtain ⟨n, t, rfl⟩ := hi f hm
    exact PySem.W.Looks.now
  · rw [show (Value.type "int" != Value.type "tuple") = true from by first | decide +kernel | rfl]
    exact hq
end

/-- sorted by the second -/
def SrtP (qs : List (V × List Int)) : Prop := qs.Pairwise fun x y => HT.lexLt y.2 x.2 = false
def rSrtO (K : PySem.W.Frag) : RL := fun vs H Q => ∃ (a : Addr) (ps : List (V × List Int)), vs = [V.ref a] ∧ SqL K H a (ps.map (·.1)) ∧ (∀ p ∈ ps, ∃ t, p.1 = .ref t ∧ SqT K H t (p.2.map V.int) ∧ p.2 ≠ []) ∧
  ∀ qs p, qs.Perm ps → SrtP qs → H p = none → Q (.ref p) (upd H p (.lst (qs.map (·.1))))
/-- of a dict whose keys are tuples of ints -/
def rSrtD : RL := fun vs H Q => ∃ (a : Addr) (kvs : List (List Key × V)) (nss : List (List Int)), vs = [V.ref a] ∧ H a = some (.dT kvs) ∧ kvs.map (·.1) = nss.map (fun ns => ns.map Sum.inl) ∧ (∀ ns ∈ nss, ns ≠ []) ∧
  ∀ (qs : List (V × List Int)) p, (qs.map (·.2)).Perm nss → SrtP qs → (∀ q ∈ qs, ∃ b, q.1 = .ref b ∧ H b = some (.tup (q.2.map V.int))) → H p = none → Q (.ref p) (upd H p (.lst (qs.map (·.1))))
def rLstD : RL := fun vs H Q => ∃ d kvs, vs = [V.ref d] ∧ Rd H d (.dT kvs) ∧ ∀ p bs, H p = none → IsKeys H kvs bs → Q (.ref p) (upd H p (.lst (bs.map V.ref)))

theorem intsAre_inj : ∀ {us : List Value} {ns ms : List Int}, IntsAre us ns → IntsAre us ms → ns = ms
  | _, _, _, .nil, .nil => rfl
  | _, _, _, .cons n t h, .cons _ _ h' => by rw [intsAre_inj h h']
theorem tupInts_inj {h : Heap} {v : Value} {ns ms : List Int} (x : TS.TupInts h v ns) (y : TS.TupInts h v ms) : ns = ms := by
  obtain ⟨a, xs, rfl, ⟨o, ho, hc, n, hd⟩, i⟩ := x
  obtain ⟨a', ys, e, ⟨o', ho', hc', n', hd'⟩, i'⟩ := y
  cases e
  rw [ho] at ho'; cases ho'
  rw [hd] at hd'; cases hd'
  exact intsAre_inj i i'
open Classical in
/-- the ints of a tuple of the heap -/
noncomputable def kOf (h : Heap) (v : Value) : List Int := if e : ∃ ns, TS.TupInts h v ns then e.choose else []
theorem kOf_of {h : Heap} {v : Value} {ns : List Int} (x : TS.TupInts h v ns) : kOf h v = ns := by
  unfold kOf
  rw [dif_pos ⟨ns, x⟩]
  exact tupInts_inj (Exists.choose_spec (⟨ns, x⟩ : ∃ ns, TS.TupInts h v ns)) x
noncomputable def pairU (h : Heap) (u : Value) : V × List Int := (backV u, kOf h u)
section
variable {X : Cx}
theorem out_srt {h : Heap} {out : List Value} (hs : SrtO.Srtd (fun v u => HT.lexLt (kOf h v) (kOf h u)) out) : SrtP (out.map (pairU h)) := List.pairwise_map.mpr hs
theorem fst_pairU (h : Heap) (out : List Value) : (out.map (pairU h)).map (·.1) = out.map backV := by rw [List.map_map]; rfl
theorem cr_srtO : CallR X (.builtin "sorted") (rSrtO X.K) := by
  intro pins s σ H vs us Q I r ⟨a, ps, e, hq, hx, q⟩
  subst e
  obtain ⟨its, rv, hl, hz⟩ := I.list hq
  obtain ⟨u, rfl, ru⟩ := vals1 r
  cases (show u = Value.ref a from ru)
  -- the values, with their ints
  have key : its.map (pairU s.heap) = ps ∧ ∀ v ∈ its, TS.TupInts s.heap v (kOf s.heap v) ∧ kOf s.heap v ≠ [] ∧ ∃ a, v = Value.ref a := by
    clear q hq hl hz
    induction ps generalizing its with
    | nil => cases rv; exact ⟨rfl, fun v z => nomatch z⟩
    | cons p ps ih =>
      rw [List.map_cons] at rv
      cases rv with
      | @cons _ u _ us rp rr =>
        obtain ⟨h1, h2⟩ := ih (fun p hp => hx p (List.mem_cons_of_mem _ hp)) _ rr
        obtain ⟨t, e, ht, hne⟩ := hx p List.mem_cons_self
        obtain ⟨js, r2, p2, _⟩ := I.tuple ht
        rw [e] at rp
        cases (show u = Value.ref t from rp)
        have ti : TS.TupInts s.heap (.ref t) p.2 := ⟨t, js.toArray, rfl, p2, by rw [List.toList_toArray]; exact r2.ints⟩
        refine ⟨?_, fun v hv => ?_⟩
        · rw [List.map_cons, h1]
          congr 1
          show (V.ref t, kOf s.heap (.ref t)) = p
          rw [kOf_of ti, ← e]
        · rcases List.mem_cons.mp hv with rfl | hv
          · rw [kOf_of ti]
            exact ⟨ti, hne, t, rfl⟩
          · exact h2 v hv
  obtain ⟨k1, k2⟩ := key
  have hz' : its.length ≤ sizeLine := by rw [← rv.length]; exact hz
  refine SrtO.sorted_ord (NtL.swo_lexL fun v => kOf s.heap v) hl.isList hz' (fun h2 h₁ a' ha kk => tup_sortable (s := { s with heap := h₁ }) (κ := fun v => kOf s.heap v) h2 (fun v hv => ⟨(k2 v hv).1.keeps fun b o e _ => (kk b o e).2, (k2 v hv).2.1⟩) fun o e c => ?_) fun out hs hb => ?_
  · have e' : some o = some (seqObj "list" its.toArray 0) := e.symm.trans ha
    cases e'
    exact absurd (Value.type.inj c) (by decide)
  · have h3 : ∀ u ∈ out, ∃ a, u = Value.ref a := fun u hu => (k2 u (hb.perm.mem_iff.mp hu)).2.2
    obtain ⟨ep, he'⟩ := sortedAll_at s.heap its out.toArray
    have hlen : (out.map backV).length ≤ sizeLine := by rw [List.length_map, hb.perm.length_eq]; exact hz'
    have fin := q (out.map (pairU s.heap)) (s.heap.objs.size + 1) (by rw [← k1]; exact hb.perm.map _) (out_srt hs) (I.hok.fresh (Nat.le_succ _))
    rw [fst_pairU] at fin
    exact ⟨.ref _, upd H (s.heap.objs.size + 1) (.lst (out.map backV)), I.laid (t' := s.toks) (fun _ _ => sortedAll_old) (Nat.le_succ _) ⟨hlen, out, ep, vals_back h3, he'⟩, rfl, fin⟩
theorem cr_srtD (hcalm : X.calm = true) : CallR X (.builtin "sorted") rSrtD := by
  intro pins s σ H vs us Q I r ⟨d, kvs, nss, e, hd, hk, hne, q⟩
  subst e
  obtain ⟨u, rfl, ru⟩ := vals1 r
  cases (show u = Value.ref d from ru)
  obtain ⟨z, hs, ks, pr, o, es, ep, ho, hx, hdt, he, hn⟩ := (show ObjOk X.prog X.w H s.heap d (.dT kvs) from I.hok d _ hd)
  have l1 : es.size = ks.length := size_of_entries he
  have l2 : kvs.length = ks.length := Paired.length pr
  refine Calls.call_function_entry PyProof.Rows.kind_sorted PyProof.Rows.plain_sorted PyProof.Rows.entry_sorted (PyProof.Rows.args_sorted1 _) ?_
  unfold Builtin.«sorted»
  refine wpAny_bind (m := checkCount "sorted" 1 1 _) (wpAny_pure ?_)
  refine wpAny_bind (PySem.W.kdu_collect (A := X.A.in1) (kdl_raw hs hx hdt) (I.ok.hd hcalm) ho (by omega) fun h' tk acc kp it => ?_)
  have ea : acc.toList = (ks.map fun x => x.2.1).map Value.ref := by
    have hl : acc.toList.length = ks.length := by rw [Array.length_toList, it.1]; exact l1
    apply List.ext_getElem?
    intro j
    rw [List.map_map, List.getElem?_map]
    cases hj : acc.toList[j]? with
    | none =>
      have h1 := List.getElem?_eq_none_iff.mp hj
      rw [List.getElem?_eq_none (by omega)]
      rfl
    | some v =>
      obtain ⟨en, hen, hv⟩ := it.2 j v (by rw [← Array.getElem?_toList]; exact hj)
      have qe := entry_at he j
      rw [hen] at qe
      cases hb : ks[j]? with
      | none => rw [hb] at qe; exact nomatch (show some en = none from qe)
      | some b =>
        rw [hb] at qe
        have e2 : en = entryOfKey (tupleKind (mixKind X.prog X.w)) b := Option.some.inj qe
        rw [hv, e2]
        rfl
  generalize hbs : (ks.map fun x => x.2.1) = bs at ea
  have hK : IsKeys H kvs bs := by rw [← hbs]; exact isKeys_of pr
  have I1 : Inv X pins σ H { s with heap := h', toks := tk } := I.kept kp
  have hal : acc.toList.length = bs.length := by rw [ea, List.length_map]
  have hbl : bs.length = ks.length := by rw [← hbs, List.length_map]
  refine wpAny_bind (wpAny_newList ?_ (by rw [hal]; omega))
  have hoL : (h'.push (seqObj "list" acc.toList.toArray 0)).get? h'.objs.size = some (seqObj "list" acc.toList.toArray 0) := Heap.get?_push_size _ rfl
  show wpAny _ _ _ _ _ { s with heap := h'.push (seqObj "list" acc.toList.toArray 0), toks := tk }
  -- the ints of each key
  have key : ∀ {kvs : List (List Key × V)} {bs : List Addr} {nss : List (List Int)}, IsKeys H kvs bs → kvs.map (·.1) = nss.map (fun ns => ns.map Sum.inl) → (∀ ns ∈ nss, ns ≠ []) →
      (bs.map Value.ref).map (kOf h') = nss ∧ ∀ b ∈ bs, TS.TupInts h' (.ref b) (kOf h' (.ref b)) ∧ kOf h' (.ref b) ≠ [] ∧ H b = some (.tup ((kOf h' (.ref b)).map V.int)) := by
    intro kvs bs nss hK
    induction hK generalizing nss with
    | nil =>
      intro e _
      cases nss with
      | nil => exact ⟨rfl, fun b z => nomatch z⟩
      | cons _ _ => cases e
    | @cons p b kvs bs hh _ ih =>
      intro e hne
      cases nss with
      | nil => cases e
      | cons ns nss =>
        rw [List.map_cons, List.map_cons] at e
        injection e with e1 e2
        obtain ⟨h1, h2⟩ := ih e2 fun ns h => hne ns (List.mem_cons_of_mem _ h)
        have hb : H b = some (.tup (ns.map V.int)) := by
          rw [hh, e1, List.map_map]
          rfl
        obtain ⟨js, r2, p2, _⟩ := I1.tuple (SqT.of hb)
        have ti : TS.TupInts h' (.ref b) ns := ⟨b, js.toArray, rfl, p2, by rw [List.toList_toArray]; exact r2.ints⟩
        refine ⟨by rw [List.map_cons, List.map_cons, h1, kOf_of ti], fun c hc => ?_⟩
        rcases List.mem_cons.mp hc with rfl | hc
        · rw [kOf_of ti]
          exact ⟨ti, hne ns List.mem_cons_self, hb⟩
        · exact h2 c hc
  obtain ⟨k1, k2⟩ := key hK hk hne
  have hp : ∀ v ∈ acc.toList, TS.TupInts h' v (kOf h' v) ∧ kOf h' v ≠ [] ∧ ∃ b, v = Value.ref b ∧ H b = some (.tup ((kOf h' v).map V.int)) := fun v hv => by
    rw [ea] at hv
    obtain ⟨b, hb, rfl⟩ := List.mem_map.mp hv
    obtain ⟨c1, c2, c3⟩ := k2 b hb
    exact ⟨c1, c2, b, rfl, c3⟩
  refine wpAny_bind (wpAny_holding (wpAny_call_entry PyProof.Rows.slot_list_sort ⟨_, hoL, rfl⟩ PyProof.Rows.entry_list_sort
    (SrtO.list_sort_ord (s := { s with heap := h'.push (seqObj "list" acc.toList.toArray 0), toks := tk }) (NtL.swo_lexL fun v => kOf h' v) hoL (by rw [hal]; omega)
      (fun h2 => tup_sortable (s := { s with heap := h'.push (seqObj "list" acc.toList.toArray 0), toks := tk }) (κ := fun v => kOf h' v) h2 (fun v hv => ⟨(hp v hv).1.keeps fun b o e _ => Heap.get?_push_of_some _ e, (hp v hv).2.1⟩) fun o e c => ?_)
      fun out hs hb => ⟨_, rfl, ?_⟩) (PyProof.Rows.args_list_sort _)))
  · have e' : some o = some (seqObj "list" acc.toList.toArray 0) := e.symm.trans hoL
    cases e'
    exact absurd (Value.type.inj c) (by decide)
  · have h4 : ∀ u ∈ out, u ∈ acc.toList := fun u hu => hb.perm.mem_iff.mp hu
    obtain ⟨e', he'⟩ := PyProof.Rows.sortedHeap_at (vs := acc.toList) (out := out.toArray) hoL
    have hlen : (out.map backV).length ≤ sizeLine := by rw [List.length_map, hb.perm.length_eq, hal]; omega
    have fin := q (out.map (pairU h')) h'.objs.size (by
      have z := hb.perm.map (kOf h')
      rw [ea, k1] at z
      rw [List.map_map]
      exact z) (out_srt hs) (fun q hq => by
      obtain ⟨u, hu, rfl⟩ := List.mem_map.mp hq
      obtain ⟨_, _, b, e, hb⟩ := hp u (h4 u hu)
      exact ⟨b, by rw [e]; rfl, hb⟩) (I1.hok.fresh (Nat.le_refl _))
    rw [fst_pairU] at fin
    refine wpAny_pure ⟨_, rfl, .ref h'.objs.size, upd H h'.objs.size (.lst (out.map backV)), I1.laid (t' := tk) (fun b u e => ?_) (Nat.le_refl _)
      (show ObjOk X.prog X.w _ _ _ (.lst (out.map backV)) from ⟨hlen, out, e', vals_back (fun u hu => let ⟨_, _, b, e, _⟩ := hp u (h4 u hu); ⟨b, e⟩), he'⟩), rfl, fin⟩
    have hb' : b < h'.objs.size := Heap.lt_size e
    rw [PyProof.Rows.sortedHeap_old (Nat.ne_of_lt hb') (by rw [size_push']; exact Nat.lt_succ_of_lt hb')]
    exact Heap.get?_push_of_some _ e
end
end Pv

/-! Pv, part T: sorted and list(dict), by values. -/
namespace Pv
open PySem PySem.Spec L2
open PyProof.Rows hiding St

section
variable {α : Type} {lt : α → α → Bool}
theorem insG_perm (x : α) : ∀ l : List α, (insG lt x l).Perm (x :: l)
  | [] => List.Perm.refl _
  | y :: r => by
    unfold insG
    split
    · exact List.Perm.refl _
    · exact ((insG_perm x r).cons y).trans (List.Perm.swap x y r)
theorem insG_srt (O : SrtO.Swo lt) (x : α) : ∀ l : List α, SrtO.Srtd lt l → SrtO.Srtd lt (insG lt x l)
  | [], _ => List.pairwise_singleton _ _
  | y :: r, h => by
    unfold insG
    obtain ⟨h1, h2⟩ := List.pairwise_cons.mp h
    split
    · rename_i c
      have a := O.asym x y c
      refine List.pairwise_cons.mpr ⟨fun z hz => ?_, h⟩
      rcases List.mem_cons.mp hz with rfl | hz
      · exact a
      · exact O.tr x y z a (h1 z hz)
    · rename_i c
      have c : lt x y = false := by simpa using c
      refine List.pairwise_cons.mpr ⟨fun z hz => ?_, insG_srt O x r h2⟩
      rcases List.mem_cons.mp ((insG_perm x r).mem_iff.mp hz) with rfl | hz
      · exact c
      · exact h1 z hz
theorem sortG_go (O : SrtO.Swo lt) : ∀ (l acc : List α), SrtO.Srtd lt acc → SrtO.Srtd lt (l.foldl (fun acc x => insG lt x acc) acc) ∧ (l.foldl (fun acc x => insG lt x acc) acc).Perm (acc ++ l)
  | [], acc, h => ⟨h, by rw [List.append_nil]; exact List.Perm.refl _⟩
  | x :: l, acc, h => by
    obtain ⟨a, b⟩ := sortG_go O l (insG lt x acc) (insG_srt O x acc h)
    refine ⟨a, b.trans ?_⟩
    refine ((insG_perm x acc).append_right l).trans ?_
    exact List.perm_middle.symm
theorem sortG_srt (O : SrtO.Swo lt) (l : List α) : SrtO.Srtd lt (sortG lt l) := (sortG_go O l [] .nil).1
theorem sortG_perm (O : SrtO.Swo lt) (l : List α) : (sortG lt l).Perm l := (sortG_go O l [] .nil).2
theorem sortG_uniq (O : SrtO.Swo lt) (anti : ∀ a b, lt a b = false → lt b a = false → a = b) {l m : List α} (hs : SrtO.Srtd lt m) (hp : m.Perm l) : m = sortG lt l :=
  List.Perm.eq_of_pairwise (le := fun x y => lt y x = false) (fun a b _ _ h1 h2 => anti a b h2 h1) hs (sortG_srt O l) (hp.trans (sortG_perm O l).symm)
end
theorem swo_lt : SrtO.Swo fun x y : Int => decide (x < y) := ⟨fun x y h => by simp at h ⊢; omega, fun x y z h1 h2 => by simp at h1 h2 ⊢; omega⟩
theorem swo_ltL : SrtO.Swo ltL := NtL.swo_lexL id
theorem ltL_anti : ∀ a b : List Int, HT.lexLt a b = false → HT.lexLt b a = false → a = b
  | [], [], _, _ => rfl
  | [], _ :: _, h, _ => by rw [HT.lexLt_nil_cons] at h; cases h
  | _ :: _, [], _, h => by rw [HT.lexLt_nil_cons] at h; cases h
  | x :: xs, y :: ys, h1, h2 => by
    rw [HT.lexLt_cons] at h1 h2
    by_cases e : x = y
    · rw [if_pos e] at h1
      rw [if_pos e.symm] at h2
      rw [e, ltL_anti xs ys h1 h2]
    · rw [if_neg e] at h1
      rw [if_neg (Ne.symm e)] at h2
      have := of_decide_eq_false h1
      have := of_decide_eq_false h2
      omega
theorem sortZ_uniq {l m : List Int} (hs : m.Pairwise (· ≤ ·)) (hp : m.Perm l) : m = sortZ l :=
  sortG_uniq swo_lt (fun a b h1 h2 => by have := of_decide_eq_false h1; have := of_decide_eq_false h2; omega) (hs.imp fun {x y} h => decide_eq_false (by omega)) hp
theorem sortI_uniq {l m : List (List Int)} (hs : SrtO.Srtd ltL m) (hp : m.Perm l) : m = sortI l := sortG_uniq swo_ltL ltL_anti hs hp

section
variable {K : PySem.W.Frag} {H : Hp} {O : Addr → Prop}
theorem tupsI_inv : ∀ {xs : List V} {l : List PD} {nss : List (List Int)}, RpAll K H O xs l → tupsI l = some nss →
    ∃ ps : List (V × List Int), xs = ps.map (·.1) ∧ nss = ps.map (·.2) ∧ ∀ p ∈ ps, (∃ t, p.1 = .ref t ∧ SqT K H t (p.2.map V.int) ∧ p.2 ≠ []) ∧ Rp K H O p.1 (.tuple (p.2.map .int))
  | _, _, _, .nil, h => by cases h; exact ⟨[], rfl, rfl, fun _ z => nomatch z⟩
  | _, d :: r, nss, .cons (v := v) hv t, h => by
    cases d with
    | tuple x =>
      rw [tupsI] at h
      split at h
      · rename_i y ys rs e1 e2
        cases h
        obtain ⟨ps, h1, h2, h3⟩ := tupsI_inv t e2
        have ex : x = (y :: ys).map .int := by
          have : ∀ {l : List PD} {ns : List Int}, intsP l = some ns → l = ns.map .int := by
            intro l
            induction l with
            | nil => intro ns h; cases h; rfl
            | cons d l ih =>
              intro ns h
              cases d with
              | int i =>
                obtain ⟨ms, e1, rfl⟩ := Option.map_eq_some_iff.mp (show (intsP l).map (i :: ·) = some ns from h)
                rw [ih e1]; rfl
              | _ => cases h
          exact this e1
        subst ex
        refine ⟨(v, y :: ys) :: ps, by rw [h1]; rfl, by rw [h2]; rfl, fun p hp => ?_⟩
        rcases List.mem_cons.mp hp with rfl | hp
        · refine ⟨?_, hv⟩
          cases hv with
          | tup hh tt => exact ⟨_, rfl, by rw [← tt.ints e1]; exact SqT.of hh, fun z => nomatch z⟩
          | tupK hh _ tt => exact ⟨_, rfl, by rw [← tt.ints e1]; exact .inr hh, fun z => nomatch z⟩
        · exact h3 p hp
      · cases h
    | _ => cases h
theorem RpAll.ofPairs : ∀ {ps : List (V × List Int)}, (∀ p ∈ ps, Rp K H O p.1 (.tuple (p.2.map .int))) → RpAll K H O (ps.map (·.1)) ((ps.map (·.2)).map fun x => .tuple (x.map .int))
  | [], _ => .nil
  | p :: ps, h => .cons (h p List.mem_cons_self) (RpAll.ofPairs fun q hq => h q (List.mem_cons_of_mem _ hq))
end
/-- sorted: the ways -/
def rSorts (K : PySem.W.Frag) : List RL := [rSortedI K, rSrtO K, rSrtD]
def rLists (K : PySem.W.Frag) : List RL := [rBf K .list, rLstD]
section
variable {K : PySem.W.Frag}
theorem intsP_map : ∀ ns : List Int, intsP (ns.map .int) = some ns
  | [] => rfl
  | n :: r => by
    show (intsP (r.map .int)).map (n :: ·) = _
    rw [intsP_map r]; rfl
theorem keysInt : ∀ {l : List (List Key × PD)} {nss : List (List Int)}, tupsI (l.map fun q => .tuple (q.1.map kPD)) = some nss → l.map (·.1) = nss.map (fun ns => ns.map Sum.inl) ∧ ∀ ns ∈ nss, ns ≠ []
  | [], _, h => by cases h; exact ⟨rfl, fun _ z => nomatch z⟩
  | (k, d) :: l, nss, h => by
    rw [List.map_cons, tupsI] at h
    split at h
    · rename_i y ys rs e1 e2
      cases h
      obtain ⟨h1, h2⟩ := keysInt e2
      have ek : ∀ {k : List Key} {ns : List Int}, intsP (k.map kPD) = some ns → k = ns.map Sum.inl := by
        intro k
        induction k with
        | nil => intro ns h; cases h; rfl
        | cons a k ih =>
          intro ns h
          cases a with
          | inl i =>
            obtain ⟨ms, e1, rfl⟩ := Option.map_eq_some_iff.mp (show (intsP (k.map kPD)).map (i :: ·) = some ns from h)
            rw [ih e1]; rfl
          | inr s => cases h
      refine ⟨by rw [List.map_cons, List.map_cons, h1]; exact congrArg (· :: _) (ek e1), fun ns hn => ?_⟩
      rcases List.mem_cons.mp hn with rfl | hn
      · exact fun z => nomatch z
      · exact h2 ns hn
    · cases h
theorem noInts : ∀ {l : List (List Key × PD)} {ns : List Int}, intsP (l.map fun q => .tuple (q.1.map kPD)) = some ns → l = []
  | [], _, _ => rfl
  | _ :: _, _, h => by cases h
theorem vat_sorted {ds : List D} {d : D} (e : bfD .sorted ds = some d) : ∃ r ∈ rSorts K, VAt K r ds d := by
  obtain ⟨a, rfl, e2⟩ := un_inv e
  clear e
  have dict : ∀ l : List (List Key × PD), a = .odt l → ∃ r ∈ rSorts K, VAt K r [a] d := by
    intro l ea
    subst ea
    obtain ⟨m, e3, rfl⟩ := Option.map_eq_some_iff.mp (show (sortP (l.map fun q => .tuple (q.1.map kPD))).map D.own = some d from e2)
    refine ⟨rSrtD, by unfold rSorts; simp, ?_⟩
    intro H O vs Q w r n
    obtain ⟨v, F, rfl, ra⟩ := all1 r
    have fin : ∀ nss : List (List Int), l.map (·.1) = nss.map (fun ns => ns.map Sum.inl) → (∀ ns ∈ nss, ns ≠ []) → m = (sortI nss).map (fun x => .tuple (x.map .int)) → rSrtD [v] H Q := by
      intro nss h1 h2 h3
      subst h3
      cases ra with
      | odt hh _ ek _ =>
        refine ⟨_, _, nss, rfl, hh, ek.trans h1, h2, fun qs p hp hs hq hn => n.lst w ?_ p hn⟩
        have e5 : qs.map (·.2) = sortI nss := sortI_uniq (List.pairwise_map.mpr hs) hp
        rw [← e5]
        refine RpAll.ofPairs fun q hm => ?_
        obtain ⟨b, e6, e7⟩ := hq q hm
        rw [e6]
        exact .tup e7 (RpAll.ofInts _)
    unfold sortP at e3
    split at e3
    · rename_i ns e4
      have := noInts e4
      subst this
      cases e4
      cases e3
      exact fin [] rfl (fun _ z => nomatch z) rfl
    · split at e3
      · rename_i nss e4
        cases e3
        obtain ⟨h1, h2⟩ := keysInt e4
        exact fin nss h1 h2 rfl
      · cases e3
  have other : (lstD a).bind (fun l => (sortP l).map D.own) = some d → ∃ r ∈ rSorts K, VAt K r [a] d := by
    intro e3
    obtain ⟨l, hl, e4⟩ := Option.bind_eq_some_iff.mp e3
    obtain ⟨m, e5, rfl⟩ := Option.map_eq_some_iff.mp e4
    unfold sortP at e5
    split at e5
    · rename_i ns e6
      cases e5
      refine ⟨rSortedI K, by unfold rSorts; simp, fun H O vs Q w r n => ?_⟩
      obtain ⟨v, F, rfl, ra⟩ := all1 r
      obtain ⟨p, xs, rfl, h1, t1⟩ := rw_lstD ra hl
      refine ⟨p, ns, rfl, SqL.of (by rw [← t1.ints e6]; exact h1), fun ns' q hp hs hn => ?_⟩
      rw [← sortZ_uniq hs hp] at n
      exact n.lst w (RpAll.ofInts ns') q hn
    · split at e5
      · rename_i nss e6
        cases e5
        refine ⟨rSrtO K, by unfold rSorts; simp, fun H O vs Q w r n => ?_⟩
        obtain ⟨v, F, rfl, ra⟩ := all1 r
        obtain ⟨p, xs, rfl, h1, t1⟩ := rw_lstD ra hl
        obtain ⟨ps, rfl, rfl, h3⟩ := tupsI_inv t1 e6
        refine ⟨p, ps, rfl, SqL.of h1, fun q hq => (h3 q hq).1, fun qs z hp hs hn => n.lst w ?_ z hn⟩
        have hss : SrtO.Srtd ltL (qs.map (·.2)) := List.pairwise_map.mpr hs
        rw [← sortI_uniq hss (hp.map _)]
        exact RpAll.ofPairs fun q hq => (h3 q (hp.mem_iff.mp hq)).2
      · cases e5
  cases a with
  | odt l => exact dict l rfl
  | p x => exact other e2
  | own x => exact other e2
  | own2 x => exact other e2
  | odk x => exact other e2
  | frl x => exact other e2
theorem vat_list {ds : List D} {d : D} (e : bfD .list ds = some d) : ∃ r ∈ rLists K, VAt K r ds d := by
  by_cases hl : ∃ l, ds = [.odt l]
  · obtain ⟨l, rfl⟩ := hl
    cases e
    refine ⟨rLstD, by unfold rLists; simp, fun H O vs Q w r n => ?_⟩
    obtain ⟨v, F, rfl, ra⟩ := all1 r
    cases ra with
    | @odt a kvs _ hh _ ek _ =>
      refine ⟨_, _, rfl, .inl hh, fun p bs hn hk => n.lst w ?_ p hn⟩
      have : ∀ {kvs : List (List Key × V)} {bs : List Addr} {l : List (List Key × PD)}, IsKeys H kvs bs → kvs.map (·.1) = l.map (·.1) → RpAll K H O (bs.map V.ref) (l.map fun q => .tuple (q.1.map kPD)) := by
        intro kvs bs l hK
        induction hK generalizing l with
        | nil => intro e; cases l with | nil => exact .nil | cons _ _ => cases e
        | @cons p b kvs bs hh _ ih =>
          intro e
          cases l with
          | nil => cases e
          | cons q l =>
            rw [List.map_cons, List.map_cons] at e
            injection e with e1 e2
            refine .cons (.tup hh ?_) (ih e2)
            rw [e1]
            have : ∀ ks : List Key, RpAll K H O (ks.map kV) (ks.map kPD) := fun ks => by
              induction ks with
              | nil => exact .nil
              | cons k ks ih => cases k with
                | inl i => exact .cons (.int i) ih
                | inr s => exact .cons (.str s) ih
            exact this _
      exact this hk ek
  · exact ⟨_, List.mem_cons_self, vat_bf .list (fun z => nomatch z) e fun l _ z => hl ⟨l, z⟩⟩
end
end Pv

/-! Pv, part G: what is wanted of an evaluation. -/
namespace Pv
open PySem PySem.Spec L2
open PyProof.Rows hiding St

def Rs.Holds {α : Type} (r : Rs α) (P : α → Env → Prop) (PX : Exn → Env → Prop) : Prop := match r with
  | .ok a ρ => P a ρ
  | .exc x ρ => PX x ρ
  | .bad => False
theorem Rs.Holds.imp {α : Type} {r : Rs α} {P P' : α → Env → Prop} {PX PX' : Exn → Env → Prop} (h : r.Holds P PX) (h1 : ∀ a ρ, P a ρ → P' a ρ) (h2 : ∀ x ρ, PX x ρ → PX' x ρ) : r.Holds P' PX' := by
  cases r with
  | ok a ρ => exact h1 a ρ h
  | exc x ρ => exact h2 x ρ h
  | bad => exact h
theorem Rs.holds_bind {α β : Type} {r : Rs α} {f : α → Env → Rs β} {P : β → Env → Prop} {PX : Exn → Env → Prop} (h : (r.bind f).Holds P PX) : r.Holds (fun a ρ => (f a ρ).Holds P PX) PX := by
  cases r <;> exact h
theorem Rs.holds_ofO {α : Type} {o : Option α} {ρ : Env} {P : α → Env → Prop} {PX : Exn → Env → Prop} (h : (Rs.ofO o ρ).Holds P PX) : ∃ a, o = some a ∧ P a ρ := by
  cases o with
  | none => exact h.elim
  | some a => exact ⟨a, rfl, h⟩

/-- how an exception lies (classes of the language alone, by now) -/
def ER (x : Exn) (cls : Value) (d : Option Addr) : Prop := cls = .type x.cls.toString ∧ d = none

section
variable (K : PySem.W.Frag) (bor : Nat → Bool)
/-- where we stand -/
structure Sit (H : Hp) (O : Addr → Prop) (σ : St) (ρ : Env) (fp : Fp) : Prop where
  w : Wok H O
  sl : Sl K H O σ ρ fp
  bo : ∀ j, bor j = true → ρ.at_ j ≠ none
/-- a step: from the heap H to H', the slots σ as they were -/
structure Stp (σ : St) (H : Hp) (O : Addr → Prop) (fp : Fp) (H' : Hp) (O' : Addr → Prop) (ρ' : Env) (fp' : Fp) : Prop where
  le : Le (FF fp) H O H' O'
  sit : Sit K bor H' O' σ ρ' fp'
  fr : ∀ a, FF fp' a → FF fp a ∨ H a = none
/-- what a value (that no slot holds) owns -/
structure Tmp (H : Hp) (fp : Fp) (fp' : Fp) (G : List Addr) : Prop where
  nd : G.Nodup
  dj : ∀ a ∈ G, ¬ FF fp' a
  fr : ∀ a ∈ G, FF fp a ∨ H a = none
end
section
variable {K : PySem.W.Frag} {bor : Nat → Bool} {σ : St} {H H1 H2 : Hp} {O O1 O2 : Addr → Prop} {ρ ρ1 ρ2 : Env} {fp fp1 fp2 : Fp} {G G1 G2 : List Addr}
theorem Stp.refl (s : Sit K bor H O σ ρ fp) : Stp K bor σ H O fp H O ρ fp := ⟨Le.refl, s, fun _ h => .inl h⟩
theorem none_back {F : Addr → Prop} {H' : Hp} {O' : Addr → Prop} (l : Le F H O H' O') {a : Addr} (h : H' a = none) : H a = none := none_of_thr l.thr h
theorem Stp.trans {σ0 : St} (w : Wok H O) (a : Stp K bor σ0 H O fp H1 O1 ρ1 fp1) (b : Stp K bor σ H1 O1 fp1 H2 O2 ρ2 fp2) : Stp K bor σ H O fp H2 O2 ρ2 fp2 :=
  ⟨a.le.trans b.le a.fr w, b.sit, fun x h => (b.fr x h).elim (a.fr x) fun e => .inr (none_back a.le e)⟩
theorem Tmp.nil : Tmp H fp fp1 [] := ⟨List.nodup_nil, fun _ h => (nomatch h), fun _ h => (nomatch h)⟩
theorem wok_some (w : Wok H O) {a : Addr} (h : O a) : H a ≠ none := fun e => by
  rcases w a h with ⟨_, z⟩ | ⟨_, z⟩ | ⟨_, z⟩ <;> (rw [e] at z; cases z)
/-- two values, one behind the other -/
theorem Tmp.seq {σ0 : St} (a : Stp K bor σ0 H O fp H1 O1 ρ1 fp1) (t1 : Tmp H fp fp1 G1) (o1 : ∀ x ∈ G1, O1 x) (b : Stp K bor σ H1 O1 fp1 H2 O2 ρ2 fp2) (t2 : Tmp H1 fp1 fp2 G2) : Tmp H fp fp2 (G1 ++ G2) where
  nd := by
    refine List.nodup_append.mpr ⟨t1.nd, t2.nd, fun x hx y hy e => ?_⟩
    subst e
    rcases t2.fr x hy with z | z
    · exact t1.dj x hx z
    · exact wok_some a.sit.w (o1 x hx) z
  dj := fun x hx z => by
    rcases List.mem_append.mp hx with hx | hx
    · rcases b.fr x z with q | q
      · exact t1.dj x hx q
      · exact wok_some a.sit.w (o1 x hx) q
    · exact t2.dj x hx z
  fr := fun x hx => by
    rcases List.mem_append.mp hx with hx | hx
    · exact t1.fr x hx
    · rcases t2.fr x hx with q | q
      · exact a.fr x q
      · exact .inr (none_back a.le q)
/-- a value over a step -/
theorem Rw.over (b : Stp K bor σ H1 O1 fp1 H2 O2 ρ2 fp2) (s : Sl K H1 O1 σ ρ1 fp1) (t1 : Tmp H fp fp1 G) {v : V} {d : D} {F : List Addr} (r : Rw K H1 O1 v d F) (hF : ∀ a ∈ F, a ∈ G) : Rw K H2 O2 v d F :=
  r.mono b.le s.own fun a ha => t1.dj a (hF a ha)
end

section
variable (K : PySem.W.Frag) (bor : Nat → Bool)
/-- what is wanted of a value -/
def EPost (σ : St) (H : Hp) (O : Addr → Prop) (fp : Fp) (d : D) (ρ' : Env) (Q : VK) : Prop :=
  ∀ v H' O' fp' G, Stp K bor σ H O fp H' O' ρ' fp' → Rw K H' O' v d G → Tmp H fp fp' G → Q v H'
def XPost (σ : St) (H : Hp) (O : Addr → Prop) (fp : Fp) (x : Exn) (ρ' : Env) (W : WX) : Prop :=
  ∀ c a H' O' fp', Stp K bor σ H O fp H' O' ρ' fp' → ER x c a → W c a σ H'
/-- arguments: values, slots -/
inductive ARw (H : Hp) (O : Addr → Prop) (σ : St) : List V → List Arg → List Addr → Prop
  | nil : ARw H O σ [] [] []
  | v {v : V} {d : D} {F G : List Addr} {vs : List V} {as : List Arg} : Rw K H O v d F → ARw H O σ vs as G → ARw H O σ (v :: vs) (.v d :: as) (F ++ G)
  | s {v : V} {i : Nat} {G : List Addr} {vs : List V} {as : List Arg} : σ[i]? = some (some v) → ARw H O σ vs as G → ARw H O σ (v :: vs) (.s i :: as) G
inductive PRw (H : Hp) (O : Addr → Prop) : List V → List D → List Addr → Prop
  | nil : PRw H O [] [] []
  | cons {v : V} {d : D} {F G : List Addr} {vs : List V} {ds : List D} : Rw K H O v d F → PRw H O vs ds G → PRw H O (v :: vs) (d :: ds) (F ++ G)
def APost (σ : St) (H : Hp) (O : Addr → Prop) (fp : Fp) (as : List Arg) (ρ' : Env) (Q : List V → Hp → Prop) : Prop :=
  ∀ vs H' O' fp' G, Stp K bor σ H O fp H' O' ρ' fp' → ARw K H' O' σ vs as G → Tmp H fp fp' G → Q vs H'
def LPost (σ : St) (H : Hp) (O : Addr → Prop) (fp : Fp) (ds : List D) (ρ' : Env) (Q : List V → Hp → Prop) : Prop :=
  ∀ vs H' O' fp' G, Stp K bor σ H O fp H' O' ρ' fp' → PRw K H' O' vs ds G → Tmp H fp fp' G → Q vs H'
def TPost (σ : St) (H : Hp) (O : Addr → Prop) (fp : Fp) (b : Bool) (ρ' : Env) (Q : Bool → Hp → Prop) : Prop :=
  ∀ H' O' fp', Stp K bor σ H O fp H' O' ρ' fp' → Q b H'
def OPost (σ : St) (H : Hp) (O : Addr → Prop) (fp : Fp) (o : Option Int) (ρ' : Env) (Q : Option Int → Hp → Prop) : Prop :=
  ∀ H' O' fp', Stp K bor σ H O fp H' O' ρ' fp' → Q o H'
end
section
variable {K : PySem.W.Frag} {bor : Nat → Bool} {σ : St} {H H1 H2 : Hp} {O O1 O2 : Addr → Prop} {ρ ρ1 ρ2 : Env} {fp fp1 fp2 : Fp} {G G1 G2 : List Addr}
theorem XPost.after {x : Exn} {W : WX} (h : XPost K bor σ H O fp x ρ2 W) (w : Wok H O) (a : Stp K bor σ H O fp H1 O1 ρ1 fp1) : XPost K bor σ H1 O1 fp1 x ρ2 W :=
  fun c d H' O' fp' s e => h c d H' O' fp' (a.trans w s) e
theorem ARw.own {vs : List V} {as : List Arg} (r : ARw K H O σ vs as G) : ∀ a ∈ G, O a := by
  induction r with
  | nil => intro a h; cases h
  | v r _ ih => intro a h; rcases List.mem_append.mp h with h | h; exact r.own_mem a h; exact ih a h
  | s _ _ ih => exact ih
theorem PRw.own {vs : List V} {as : List D} (r : PRw K H O vs as G) : ∀ a ∈ G, O a := by
  induction r with
  | nil => intro a h; cases h
  | cons r _ ih => intro a h; rcases List.mem_append.mp h with h | h; exact r.own_mem a h; exact ih a h
theorem ARw.mono {F : Addr → Prop} (l : Le F H O H1 O1) (hf : ∀ a, F a → O a) {vs : List V} {as : List Arg} (r : ARw K H O σ vs as G) (n : ∀ a ∈ G, ¬ F a) : ARw K H1 O1 σ vs as G := by
  induction r with
  | nil => exact .nil
  | v r _ ih => exact .v (r.mono l hf fun a h => n a (List.mem_append_left _ h)) (ih fun a h => n a (List.mem_append_right _ h))
  | s e _ ih => exact .s e (ih n)
theorem PRw.mono {F : Addr → Prop} (l : Le F H O H1 O1) (hf : ∀ a, F a → O a) {vs : List V} {as : List D} (r : PRw K H O vs as G) (n : ∀ a ∈ G, ¬ F a) : PRw K H1 O1 vs as G := by
  induction r with
  | nil => exact .nil
  | cons r _ ih => exact .cons (r.mono l hf fun a h => n a (List.mem_append_left _ h)) (ih fun a h => n a (List.mem_append_right _ h))
theorem PRw.all {vs : List V} {ds : List D} (r : PRw K H O vs ds G) : AllRw K H O vs ds := by
  induction r with
  | nil => exact .nil
  | cons r _ ih => exact .cons ⟨_, r⟩ ih
theorem ARw.all (s : Sl K H O σ ρ fp) {vs : List V} {as : List Arg} (r : ARw K H O σ vs as G) : ∀ {ds : List D}, argsGet ρ as = some ds → AllRw K H O vs ds := by
  induction r with
  | nil => intro ds h; cases h; exact .nil
  | v r _ ih =>
    intro ds h
    unfold argsGet at h
    split at h
    · rename_i h1 h2
      cases h1
      cases h
      exact .cons ⟨_, r⟩ (ih h2)
    · cases h
  | s e _ ih =>
    intro ds h
    unfold argsGet at h
    split at h
    · rename_i h1 h2
      cases h
      obtain ⟨v', e', r'⟩ := s.rep _ _ h1
      rw [e] at e'; cases e'
      exact .cons ⟨_, r'⟩ (ih h2)
    · cases h
/-- what an operation made is what is wanted -/
theorem EPost.newP {d : D} {Q : VK} (h : EPost K bor σ H O fp d ρ1 Q) (w : Wok H O) (a : Stp K bor σ H O fp H1 O1 ρ1 fp1) : NewP K H1 O1 d Q := by
  intro v H' O' Fd l w' r nd fr
  have ho := a.sit.sl.own
  have nn : ∀ x ∈ Fd, ¬ FF fp1 x := fun x hx z => wok_some a.sit.w (ho x z) (fr x hx)
  have st : Stp K bor σ H1 O1 fp1 H' O' ρ1 fp1 := ⟨l.mono fun _ z => z.elim, ⟨w', a.sit.sl.mono l (fun _ z => z.elim) (fun _ _ z => z), a.sit.bo⟩, fun _ z => .inl z⟩
  exact h v H' O' fp1 Fd (a.trans w st) r ⟨nd, nn, fun x hx => .inr (none_back a.le (fr x hx))⟩
end
end Pv

/-! Pv, part H: an own term is the text's term. -/
namespace Pv
open PySem PySem.Spec L2
open PyProof.Rows hiding St

/-- a call that the law makes: the def, the written values' number, the keywords, the parameters (none: written; some: its default) -/
structure Cal where
  f : Nat
  name : Str
  n : Nat
  ks : List Str
  src : List (Option PD)
/-- simple data, compared -/
def sameP : PD → PD → Bool
  | .none, .none => true
  | .bool a, .bool b => a == b
  | .int a, .int b => a == b
  | .str a, .str b => decide (a = b)
  | .tuple a, .tuple b => go a b
  | _, _ => false
where go : List PD → List PD → Bool
  | [], [] => true
  | a :: as, b :: bs => sameP a b && go as bs
  | _, _ => false
def sameO : Option PD → Option PD → Bool
  | none, none => true
  | some a, some b => sameP a b
  | _, _ => false
def sameS : List (Option PD) → List (Option PD) → Bool
  | [], [] => true
  | a :: as, b :: bs => sameO a b && sameS as bs
  | _, _ => false
mutual
theorem sameP_eq : ∀ {a b : PD}, sameP a b = true → a = b
  | .none, .none, _ => rfl
  | .bool a, .bool b, h => by rw [sameP, beq_iff_eq] at h; rw [h]
  | .int a, .int b, h => by rw [sameP, beq_iff_eq] at h; rw [h]
  | .str a, .str b, h => by rw [sameP, decide_eq_true_eq] at h; rw [h]
  | .tuple a, .tuple b, h => by rw [sameP] at h; rw [sameP_go_eq h]
  | .none, .bool _, h | .none, .int _, h | .none, .str _, h | .none, .list _, h | .none, .tuple _, h | .none, .dict _, h => by simp [sameP] at h
  | .bool _, .none, h | .bool _, .int _, h | .bool _, .str _, h | .bool _, .list _, h | .bool _, .tuple _, h | .bool _, .dict _, h => by simp [sameP] at h
  | .int _, .none, h | .int _, .bool _, h | .int _, .str _, h | .int _, .list _, h | .int _, .tuple _, h | .int _, .dict _, h => by simp [sameP] at h
  | .str _, .none, h | .str _, .bool _, h | .str _, .int _, h | .str _, .list _, h | .str _, .tuple _, h | .str _, .dict _, h => by simp [sameP] at h
  | .tuple _, .none, h | .tuple _, .bool _, h | .tuple _, .int _, h | .tuple _, .str _, h | .tuple _, .list _, h | .tuple _, .dict _, h => by simp [sameP] at h
  | .list _, _, h => by simp [sameP] at h
  | .dict _, _, h => by simp [sameP] at h
theorem sameP_go_eq : ∀ {a b : List PD}, sameP.go a b = true → a = b
  | [], [], _ => rfl
  | a :: as, b :: bs, h => by
    rw [sameP.go, Bool.and_eq_true] at h
    rw [sameP_eq h.1, sameP_go_eq h.2]
  | [], _ :: _, h => by simp [sameP.go] at h
  | _ :: _, [], h => by simp [sameP.go] at h
end
theorem sameS_eq : ∀ {a b : List (Option PD)}, sameS a b = true → a = b
  | [], [], _ => rfl
  | a :: as, b :: bs, h => by
    rw [sameS, Bool.and_eq_true] at h
    have e : a = b := by
      cases a <;> cases b <;> first | rfl | (simp [sameO] at h; done) | (rw [sameP_eq (show sameP _ _ = true from h.1)])
    rw [e, sameS_eq h.2]
  | [], _ :: _, h => by simp [sameS] at h
  | _ :: _, [], h => by simp [sameS] at h

def dfP : PD → Bool
  | .none => true
  | .bool _ => true
  | .int _ => true
  | .str _ => true
  | _ => false
def dfO : Option PD → Bool
  | none => true
  | some d => dfP d
def dfsB (src : List (Option PD)) : Bool := match permOf src with
  | some _ => true
  | none => src.all dfO
theorem dfs_ok {src : List (Option PD)} (h : dfsB src = true) (hp : permOf src = none) : ∀ d, some d ∈ src → dfP d = true := fun d hm => by
  unfold dfsB at h
  rw [hp] at h
  exact List.all_eq_true.mp h _ hm
/-- what the law's defs may name -/
structure Lib where
  glb : List (Str × PD)
  free : List Str
  cal : List Cal
  imp : Bool := false

def visB (sc : Scope) (x : Str) : Bool := match sc.names.lookup x with
  | some .local => true
  | some .cell => true
  | some .free => true
  | _ => false
def glB (sc : Scope) (x : Str) : Bool := decide (sc.names.lookup x = some .globalImplicit) && !(x == ("__debug__" : Str)) && decide (x ≠ "__name__")
def slotB (N : List Str) (sc : Scope) (i : Nat) (x : Str) : Bool := decide (N[i]? = some x) && visB sc x && !(x == ("__debug__" : Str)) && !(x == ("__classdict__" : Str))
/-- a built-in name that nothing hides -/
def bltB (L : Lib) (sc : Scope) (x y : Str) : Bool := decide (x = y) && glB sc x && L.free.contains x
def Bf.nm : Bf → Str
  | .len => "len" | .abs => "abs" | .max => "max" | .min => "min" | .sum => "sum" | .all => "all" | .any => "any" | .int => "int" | .list => "list" | .tuple => "tuple" | .sorted => "sorted"
  | .repr => "repr" | .divmod => "divmod" | .bool => "bool"
/-- no star, no slice, no set -/
def top : Expr → Bool
  | .Starred _ _ => false
  | .Slice _ _ _ _ => false
  | .Set _ _ _ => false
  | _ => true
def tgB (N : List Str) (sc : Scope) : T → Expr → Bool
  | .v i, .Name x _ => decide (N[i]? = some x) && decide (sc.names.lookup x = some .local ∨ sc.names.lookup x = some .cell)
  | .nil, .Tuple [] _ _ => true
  | .cons t ts, .Tuple (e :: es) k p => top e && tgB N sc t e && tgB N sc ts (.Tuple es k p)
  | _, _ => false
def tgIn (own : List Nat) : T → Bool
  | .v i => own.contains i
  | .nil => true
  | .cons t ts => tgIn own t && tgIn own ts
def blkB (N : List Str) (sc scope : Scope) (own : List Nat) : Bool :=
  decide (scope.kind = .function) && scope.names.all (fun y => decide (scope.names.lookup y.1 = some y.2)) && own.all (fun v => decide (v < N.length)) &&
  scope.names.all (fun y => !decide (y.2 = .free) || decide (sc.names.lookup y.1 = some .cell ∨ sc.names.lookup y.1 = some .free)) &&
  scope.names.all (fun y => !decide (y.2 = .local ∨ y.2 = .cell) || own.any (fun v => decide (N[v]? = some y.1)) || !N.contains y.1)
def atomB : E → Bool
  | .var _ => true
  | .int _ => true
  | _ => false
/-- an index that asks nothing of the heap -/
def simpB : E → Bool
  | .var _ => true
  | .int _ => true
  | .prim (.bin _) (.cons x (.cons y .nil)) => atomB x && atomB y
  | _ => false
section
variable (L : Lib) (N : List Str)
mutual
def chkE (sc : Scope) : E → Expr → Bool
  | .var i, pe => match pe with
    | .Name x _ => slotB N sc i x
    | _ => false
  | .mv i, pe => match pe with
    | .Name x _ => slotB N sc i x
    | _ => false
  | .non, pe => match pe with
    | .Constant .none _ _ => true
    | _ => false
  | .bl b, pe => match pe with
    | .Constant (.bool c) _ _ => b == c
    | _ => false
  | .int i, pe => match pe with
    | .Constant (.int j) _ _ => i == j
    | _ => false
  | .str s, pe => match pe with
    | .Constant (.str z) _ _ => decide (s = z)
    | _ => false
  | .glb x d, pe => match pe with
    | .Name y _ => decide (x = y) && glB sc y && L.glb.any fun q => decide (q.1 = x) && sameP q.2 d
    | _ => false
  | .prim p es, pe => match p, pe with
    | .bin op, .BinOp a op' b _ => decide (op = op') && chkEs sc es [a, b]
    | .neg, .UnaryOp .USub a _ => chkEs sc es [a]
    | .cmp op, .Compare a [op'] [b] _ => decide (op = op') && chkEs sc es [a, b]
    | .idx, .Subscript a b _ => chkEs sc es [a, b]
    | .rev, .Subscript a (.Slice none none (some (.UnaryOp .USub (.Constant (.int 1) _ _) _)) _) _ => chkEs sc es [a]
    | .bf f, .Call (.Name x _) (e :: r) [] _ => bltB L sc x f.nm && chkEs sc es (e :: r)
    | .isi t, .Call (.Name x _) [a, .Name y _] [] _ => bltB L sc x "isinstance" && bltB L sc y t.nm && chkEs sc es [a]
    | .lrg, .Call (.Name x _) [.Call (.Name y _) [a] [] _] [] _ => bltB L sc x "list" && bltB L sc y "range" && chkEs sc es [a]
    | .lrg, .Call (.Name x _) [.Call (.Name y _) [a, b] [] _] [] _ => bltB L sc x "list" && bltB L sc y "range" && chkEs sc es [a, b]
    | .gcd, .Call (.Name x _) (e :: r) [] _ => decide (x = "gcd") && L.imp && glB sc x && chkEs sc es (e :: r)
    | .inr g, .Compare a [op] [.Call (.Name x _) [b, c] [] _] _ => decide (op = if g then .NotIn else .In) && bltB L sc x "range" && chkEs sc es [a, b, c]
    | _, _ => false
  | .idx2 i a b, pe => match pe with
    | .Subscript (.Subscript (.Name x _) pa _) pb _ => slotB N sc i x && simpB a && simpB b && top pa && top pb && chkE sc a pa && chkE sc b pb
    | _ => false
  | .sl a lo hi, pe => match pe with
    | .Subscript x (.Slice l h none _) _ => top x && chkE sc a x && chkO sc lo l && chkO sc hi h
    | _ => false
  | .tup es, pe => match pe with
    | .Tuple xs _ _ => chkEs sc es xs
    | _ => false
  | .lst es, pe => match pe with
    | .List xs _ => chkEs sc es xs
    | _ => false
  | .dnew _, pe => match pe with
    | .Dict [] [] _ => true
    | _ => false
  | .dlit k v, pe => match pe with
    | .Dict [some pk] [pv] _ => chkE sc k pk && chkE sc v pv
    | _ => false
  | .bop op es, pe => match pe with
    | .BoolOp op' xs _ => decide (op = op') && !xs.isEmpty && chkEs sc es xs
    | _ => false
  | .nt a, pe => match pe with
    | .UnaryOp .Not x _ => chkE sc a x
    | _ => false
  | .ite c a b, pe => match pe with
    | .IfExp x y z _ => chkE sc c x && chkE sc a y && chkE sc b z
    | _ => false
  | .chain o1 o2 a b c, pe => match pe with
    | .Compare x [p1, p2] [y, z] _ => decide (o1 = p1) && decide (o2 = p2) && top z && chkE sc a x && chkE sc b y && chkE sc c z
    | _ => false
  | .call f src es kes, pe => match pe with
    | .Call (.Name x _) pos kws _ => dfsB src && glB sc x && chkEs sc es pos && chkEs sc kes (kws.map (·.value)) && L.cal.any fun c => decide (c.f = f) && decide (c.name = x) && decide (c.n = pos.length) && decide (kws.map (·.arg) = c.ks.map some) && sameS src c.src
    | _ => false
  | .lc elt tg it ifs own, pe => match pe with
    | .ListComp x [⟨t, i, cs, 0⟩] scope _ => blkB N sc scope own && tgIn own tg && tgB N scope tg t && chkI sc it t i && decide (cs.length ≤ 1) && top i && chkEs (relS scope sc) ifs cs && chkE (relS scope sc) elt x
    | _ => false
  | .pop i, pe => match pe with
    | .Call (.Attribute (.Name x _) m ap) [] [] cp => decide (m = "pop") && slotB N sc i x && (ap.endLine == cp.line)
    | _ => false
  | .popAt i e, pe => false
def chkEs (sc : Scope) : Es → List Expr → Bool
  | .nil, [] => true
  | .cons e es, x :: xs => top x && chkE sc e x && chkEs sc es xs
  | _, _ => false
def chkO (sc : Scope) : Es → Option Expr → Bool
  | .nil, none => true
  | .cons e .nil, some x => chkE sc e x
  | _, _ => false
def chkI (sc : Scope) : It → Expr → Expr → Bool
  | .seq e, _, pe => top pe && chkE sc e pe
  | .range es, _, pe => match pe with
    | .Call (.Name x _) [a] [] _ => bltB L sc x "range" && chkEs sc es [a]
    | .Call (.Name x _) [a, b] [] _ => bltB L sc x "range" && chkEs sc es [a, b]
    | _ => false
  | .enum e, tg, pe => match tg, pe with
    | .Tuple _ _ _, .Call (.Name x _) [a] [] _ => bltB L sc x "enumerate" && top a && chkE sc e a
    | _, _ => false
  | .zip a b, tg, pe => match tg, pe with
    | .Tuple _ _ _, .Call (.Name x _) [c, d] [] _ => bltB L sc x "zip" && top c && top d && chkE sc a c && chkE sc b d
    | _, _ => false
  | .rev e, _, pe => match pe with
    | .Call (.Name x _) [a] [] _ => bltB L sc x "reversed" && top a && chkE sc e a
    | _ => false
end
end
theorem not_star {e : Expr} (h : top e = true) {env : PySem.Env} {es : List Expr} : starEach (e :: es) env = (false, eval e env) :: starEach es env := by
  cases e <;> first | rfl | cases h
theorem plain_ix {e : Expr} (h : top e = true) : PlainIx e := by
  cases e <;> first | (exact fun _ _ => rfl) | cases h
theorem noSl {e : Expr} (h : top e = true) : NoSl e := by
  cases e <;> first | (exact fun _ _ => rfl) | cases h
theorem no_marks {e : Expr} (h : top e = true) (op : CmpOp) : behindInMarks op e = false := by
  cases e <;> first | rfl | cases h
theorem folded {e : Expr} (h : top e = true) {env : PySem.Env} : ∀ x, foldedSetIterable e env x = pure x := by
  cases e <;> first | (exact fun _ => rfl) | cases h
end Pv

/-! Pv, part I: the context; rules for the forms. -/
namespace Pv
open PySem PySem.Spec L2
open PyProof.Rows hiding St

/-! ### defs' promises -/
section
variable (K : PySem.W.Frag)
/-- the parameters behind a call: what was lent comes back -/
inductive Back (H : Hp) (O : Addr → Prop) : List V → List D → List D → List Addr → Prop
  | nil : Back H O [] [] [] []
  | own {v : V} {d e : D} {F G : List Addr} {vs : List V} {ds es : List D} : d.isOwn = true → Rw K H O v e F → Back H O vs ds es G → Back H O (v :: vs) (d :: ds) (e :: es) (F ++ G)
  | pl {v : V} {d e : D} {G : List Addr} {vs : List V} {ds es : List D} : d.isOwn = false → Back H O vs ds es G → Back H O (v :: vs) (d :: ds) (e :: es) G
def CPost (H : Hp) (O : Addr → Prop) (vs : List V) (ds : List D) (F : List Addr) (d : D) (es : List D) (Q : VK) : Prop :=
  ∀ v H' O' Fd G, Le (fun a => a ∈ F) H O H' O' → Wok H' O' → Rw K H' O' v d Fd → Back K H' O' vs ds es G → (Fd ++ G).Nodup → (∀ a ∈ Fd ++ G, a ∈ F ∨ H a = none) → Q v H'
def CXPost (H : Hp) (O : Addr → Prop) (vs : List V) (ds : List D) (F : List Addr) (x : Exn) (es : List D) (E : XK) : Prop :=
  ∀ c a H' O' G, Le (fun a => a ∈ F) H O H' O' → Wok H' O' → ER x c a → Back K H' O' vs ds es G → G.Nodup → (∀ a ∈ G, a ∈ F ∨ H a = none) → E c a H'
/-- the f-th def's promise -/
def spB (B : Nat → List D → CR) (f n : Nat) : Sp := fun vs H Q E => ∃ O ds F, Wok H O ∧ PRw K H O vs ds F ∧ F.Nodup ∧ vs.length = n ∧ (match B f ds with
  | .ok d es => CPost K H O vs ds F d es Q
  | .exc x es => CXPost K H O vs ds F x es E
  | .bad => False)
end
/-- a def's promise, no guard about -/
structure Fg (P : Program) (w : World) (K : PySem.W.Frag) (mg : Str → Option Value) (base : Heap) (k : Nat) (f : Addr) (fd : FuncData) (ps : List Str) (sp : Sp) : Prop where
  len : ∀ vs H Q E, sp vs H Q E → vs.length = ps.length
  run : ∀ (A : Around) (outer : List PySem.Env) (s : Shared) (H : Hp) (args : Args) (us : List Value) (vs : List V) (Q : VK) (E : XK),
    A.guards = some [] → Room k A → Env0 P w K mg base A outer s H → Vals vs us → BindsTo s fd args (ps.zip us) → sp vs H Q E →
    codeAny (model P w) A (.call (.ref f) args) (L2.CR (L2.CX P w) outer P w H s Q E) s
def fillV0 : List (Option PD) → List V → List V
  | [], _ => []
  | none :: s, v :: vs => v :: fillV0 s vs
  | none :: _, [] => []
  | some d :: s, vs => (match d with
    | .bool b => .bl b
    | .int i => .int i
    | .str x => .str x
    | _ => .non) :: fillV0 s vs
def fillV (src : List (Option PD)) (vs : List V) : List V := match permOf src with
  | some js => js.map fun j => (vs[j]?).getD .non
  | none => fillV0 src vs
/-- how a call binds -/
def CalBind (K : PySem.W.Frag) (fd : FuncData) (ps : List Str) (c : Cal) : Prop :=
  ∀ (s : Shared) (us ws : List Value) (vs : List V), K.In s.heap → us.length = c.n → ws.length = c.ks.length → Vals vs (us ++ ws) → ∃ zs, BindsTo s fd ⟨us, c.ks.zip ws⟩ (ps.zip zs) ∧ Vals (fillV c.src vs) zs
structure CalOk (X : Cx) (B : Nat → List D → CR) (k : Nat) (c : Cal) : Prop where
  ex : ∃ (fa : Addr) (fd : FuncData) (ps : List Str), X.mg c.name = some (.ref fa) ∧ PySem.W.keepIn X.K (.ref fa) = true ∧ Fg X.prog X.w X.K X.mg X.base k fa fd ps (spB X.K B c.f c.src.length) ∧ CalBind X.K fd ps c
structure Good (L : Lib) (N : List Str) (sc : Scope) (B : Nat → List D → CR) (k : Nat) (X : Cx) : Prop where
  sc : X.env.scope = sc
  N : X.N = N
  nd : X.N.Nodup
  calm : X.calm = true
  room : Room k X.A
  gd : X.A.guards = some []
  free : ∀ x, L.free.contains x = true → X.mg x = none
  glb : ∀ q ∈ L.glb, ∃ v u, X.mg q.1 = some u ∧ RelV v u ∧ ∀ H O, Rp X.K H O v q.2
  cal : ∀ c ∈ L.cal, CalOk X B k c
  imp : L.imp = true → X.mg "gcd" = some (.builtin "math.gcd")

section
variable {L : Lib} {N : List Str} {sc : Scope} {B : Nat → List D → CR} {k : Nat} {X : Cx}
theorem and2 {a b : Bool} (h : (a && b) = true) : a = true ∧ b = true := by simpa using h
theorem Good.gl (g : Good L N sc B k X) {x : Str} (h : glB sc x = true) : Gl X x ∧ (x == ("__debug__" : Str)) = false ∧ x ≠ "__name__" := by
  unfold glB at h
  obtain ⟨h, h3⟩ := and2 h
  obtain ⟨h1, h2⟩ := and2 h
  refine ⟨?_, by simpa using h2, of_decide_eq_true h3⟩
  show X.env.scope.names.lookup x = _
  rw [g.sc]
  exact of_decide_eq_true h1
theorem Good.blt (g : Good L N sc B k X) {x y : Str} (h : bltB L sc x y = true) : x = y ∧ Gl X x ∧ (x == ("__debug__" : Str)) = false ∧ x ≠ "__name__" ∧ X.mg x = none := by
  unfold bltB at h
  obtain ⟨h, h3⟩ := and2 h
  obtain ⟨h1, h2⟩ := and2 h
  obtain ⟨a, b, c⟩ := g.gl h2
  exact ⟨of_decide_eq_true h1, a, b, c, g.free x h3⟩
theorem Good.vis (g : Good L N sc B k X) {x : Str} (h : visB sc x = true) : Vis X.env.scope x := by
  unfold visB at h
  unfold Vis
  rw [g.sc]
  split at h
  · rename_i e; exact .inl e
  · rename_i e; exact .inr (.inl e)
  · rename_i e; exact .inr (.inr e)
  · cases h
theorem pe_slot (g : Good L N sc B k X) {i : Nat} {x : Str} {p : Pos} (h : slotB N sc i x = true) : PE X (.Name x p) (tVar i) := by
  unfold slotB at h
  obtain ⟨h, h4⟩ := and2 h
  obtain ⟨h, h3⟩ := and2 h
  obtain ⟨h1, h2⟩ := and2 h
  exact pe_var (by rw [g.N]; exact of_decide_eq_true h1) (g.vis h2) (by simpa using h3) (by simpa using h4)
theorem pe_orr {e : Expr} {t u : TE} (h : PE X e t) (h' : PE X e u) : PE X e (fun σ H Q => t σ H Q ∨ u σ H Q) :=
  ⟨fun pins s σ H Q I q => q.elim (h.run pins s σ H Q I) (h'.run pins s σ H Q I)⟩
theorem pe_ex {e : Expr} {l : List RL} {T : TA} (h : ∀ r ∈ l, PE X e (tCB r T)) : PE X e (fun σ H Q => ∃ r, r ∈ l ∧ tCB r T σ H Q) :=
  ⟨fun pins s σ H Q I ⟨r, hr, q⟩ => (h r hr).run pins s σ H Q I q⟩
theorem pi_orr {tg e : Expr} {t u : TI} (h : PI X tg e t) (h' : PI X tg e u) : PI X tg e (fun σ H Q => t σ H Q ∨ u σ H Q) :=
  ⟨fun pins s σ H Q I q => q.elim (h.run pins s σ H Q I) (h'.run pins s σ H Q I)⟩
def m1 (r : V → Hp → VK → Prop) : RL := fun vs H Q => match vs with
  | [x] => r x H Q
  | _ => False
def m2 (r : R2) : RL := fun vs H Q => match vs with
  | [x, y] => r x y H Q
  | _ => False
theorem vat_m1 {K : PySem.W.Frag} {r : V → Hp → VK → Prop} {ds : List D} {d : D} (h : VAt K (r1 r) ds d) : VAt K (m1 r) ds d := fun H O vs Q w a n => by
  obtain ⟨x, rfl, q⟩ := h H O vs Q w a n
  exact q
theorem vat_m2 {K : PySem.W.Frag} {r : R2} {ds : List D} {d : D} (h : VAt K (r2 r) ds d) : VAt K (m2 r) ds d := fun H O vs Q w a n => by
  obtain ⟨x, y, rfl, q⟩ := h H O vs Q w a n
  exact q
def rRg : RL := fun vs H Q => ∃ i j, vs = [V.int i, V.int j] ∧ ∀ p, H p = none → Q (.ref p) (upd H p (.rng i j))
def rInR (ng : Bool) : R2 := fun x y H Q => ∃ i a lo hi, x = V.int i ∧ y = V.ref a ∧ H a = some (.rng lo hi) ∧ Q (.bl (if ng then !decide (lo ≤ i ∧ i < hi) else decide (lo ≤ i ∧ i < hi))) H
def m3R (ng : Bool) : RL := fun vs H Q => match vs with
  | [x, y, z] => rRg [y, z] H fun p H4 => rInR ng x p H4 Q
  | _ => False
theorem vat_m3R {K : PySem.W.Frag} {ng : Bool} {ds : List D} {d : D} (h : VAt K (rInRng ng) ds d) : VAt K (m3R ng) ds d := fun H O vs Q w a n => by
  obtain ⟨i, x, y, rfl, q⟩ := h H O vs Q w a n
  exact ⟨x, y, rfl, fun p hp => ⟨i, p, x, y, rfl, rfl, upd_same, q p hp⟩⟩
/-- list(range(..)) -/
def rLrg : RL := fun vs H Q => match vs with
  | [x] => ∃ n, x = .int n ∧ (RgOk 0 n ∧ ∀ q, H q = none → Q (.ref q) (upd H q (.lst (rgV 0 n))))
  | [x, y] => ∃ i j, x = .int i ∧ y = .int j ∧ (RgOk i j ∧ ∀ q, H q = none → Q (.ref q) (upd H q (.lst (rgV i j))))
  | _ => False
theorem rp_range {K : PySem.W.Frag} {H : Hp} {O : Addr → Prop} {a : Int} : ∀ l : List Nat, RpAll K H O (l.map fun i => V.int (a + (i : Nat))) (l.map fun k => .int (a + (k : Nat)))
  | [] => .nil
  | _ :: l => .cons (.int _) (rp_range l)
theorem rg_ok {a b : Int} (h : rgB a b = true) : RgOk a b := by
  unfold rgB small at h
  simp only [Bool.and_eq_true, decide_eq_true_eq] at h
  exact ⟨h.1.1.1, h.1.1.2, h.1.2.1, h.1.2.2, h.2⟩
theorem vat_lrg {K : PySem.W.Frag} {ds : List D} {d : D} (e : prD .lrg ds = some d) : VAt K rLrg ds d := fun H O vs Q w a n => by
  match ds, e with
  | [.p (.int j)], e =>
    obtain ⟨x, F, rfl, rx⟩ := all1 a
    have ex := rw_int rx
    subst ex
    simp only [prD] at e
    split at e
    · rename_i h
      cases e
      exact ⟨j, rfl, rg_ok h, fun q hq => n.lst w (rp_range _) q hq⟩
    · cases e
  | [.p (.int i), .p (.int j)], e =>
    obtain ⟨x, y, F, G, rfl, rx, ry⟩ := all2 a
    have ex := rw_int rx
    have ey := rw_int ry
    subst ex; subst ey
    simp only [prD] at e
    split at e
    · rename_i h
      cases e
      exact ⟨i, j, rfl, rfl, rg_ok h, fun q hq => n.lst w (rp_range _) q hq⟩
    · cases e
theorem vat_gcd {K : PySem.W.Frag} {ds : List D} {d : D} (e : prD .gcd ds = some d) : VAt K rGcd ds d := fun H O vs Q w a n => by
  match ds, e with
  | [.p (.int i), .p (.int j)], e =>
    cases e
    obtain ⟨x, y, F, G, rfl, rx, ry⟩ := all2 a
    have ex := rw_int rx
    have ey := rw_int ry
    subst ex; subst ey
    exact ⟨i, j, rfl, n.plain w (.int _)⟩
/-- what a form asks by values, the ways -/
def rPr (K : PySem.W.Frag) : Prim → List RL
  | .bin op => [m2 (rBin K op)]
  | .neg => [m1 (rU fun i => .int (-i))]
  | .cmp op => [m2 (rCmp K op)]
  | .idx => [m2 (rIx K), m2 rGetD]
  | .rev => [m1 (rRev K)]
  | .bf .list => rLists K
  | .bf .sorted => rSorts K
  | .bf f => [rBf K f]
  | .isi t => [m1 (rIsiT K t)]
  | .inr g => [m3R g]
  | .gcd => [rGcd]
  | .lrg => [rLrg]
theorem Good.units (g : Good L N sc B k X) : X.A.units + 65 < cLine := by have := g.room.un; omega
theorem Good.units1 (g : Good L N sc B k X) : X.A.units + 1 < cLine := by have := g.room.un; omega
section
variable {a b c : Expr} {ta tb tc : TE} {pos : Pos}
theorem vat_prim {K : PySem.W.Frag} {p : Prim} {ds : List D} {d : D} (e : prD p ds = some d) : ∃ r ∈ rPr K p, VAt K r ds d := by
  cases p with
  | bin op => exact ⟨_, List.mem_singleton.mpr rfl, vat_m2 (fun H O vs Q w a n => vok_bin op H O vs ds d Q w a e n)⟩
  | neg => exact ⟨_, List.mem_singleton.mpr rfl, vat_m1 (vat_neg e)⟩
  | cmp op => exact ⟨_, List.mem_singleton.mpr rfl, vat_m2 (vat_cmp op e)⟩
  | idx =>
    rcases vat_idx e with h | h
    · exact ⟨_, List.mem_cons_self, vat_m2 h⟩
    · exact ⟨_, List.mem_cons_of_mem _ List.mem_cons_self, vat_m2 h⟩
  | rev => exact ⟨_, List.mem_singleton.mpr rfl, vat_m1 (vat_rev e)⟩
  | bf f =>
    cases f with
    | list => exact vat_list e
    | sorted => exact vat_sorted e
    | len => exact ⟨_, List.mem_singleton.mpr rfl, vat_bf .len (fun z => nomatch z) e fun l z => nomatch z⟩
    | abs => exact ⟨_, List.mem_singleton.mpr rfl, vat_bf .abs (fun z => nomatch z) e fun l z => nomatch z⟩
    | max => exact ⟨_, List.mem_singleton.mpr rfl, vat_bf .max (fun z => nomatch z) e fun l z => nomatch z⟩
    | min => exact ⟨_, List.mem_singleton.mpr rfl, vat_bf .min (fun z => nomatch z) e fun l z => nomatch z⟩
    | sum => exact ⟨_, List.mem_singleton.mpr rfl, vat_bf .sum (fun z => nomatch z) e fun l z => nomatch z⟩
    | all => exact ⟨_, List.mem_singleton.mpr rfl, vat_bf .all (fun z => nomatch z) e fun l z => nomatch z⟩
    | any => exact ⟨_, List.mem_singleton.mpr rfl, vat_bf .any (fun z => nomatch z) e fun l z => nomatch z⟩
    | int => exact ⟨_, List.mem_singleton.mpr rfl, vat_bf .int (fun z => nomatch z) e fun l z => nomatch z⟩
    | tuple => exact ⟨_, List.mem_singleton.mpr rfl, vat_bf .tuple (fun z => nomatch z) e fun l z => nomatch z⟩
    | repr => exact ⟨_, List.mem_singleton.mpr rfl, vat_bf .repr (fun z => nomatch z) e fun l z => nomatch z⟩
    | divmod => exact ⟨_, List.mem_singleton.mpr rfl, vat_bf .divmod (fun z => nomatch z) e fun l z => nomatch z⟩
    | bool => exact ⟨_, List.mem_singleton.mpr rfl, vat_bf .bool (fun z => nomatch z) e fun l z => nomatch z⟩
  | isi t => exact ⟨_, List.mem_singleton.mpr rfl, vat_m1 (vat_isi t e)⟩
  | inr g => exact ⟨_, List.mem_singleton.mpr rfl, vat_m3R (vat_inr g e)⟩
  | gcd => exact ⟨_, List.mem_singleton.mpr rfl, vat_gcd e⟩
  | lrg => exact ⟨_, List.mem_singleton.mpr rfl, vat_lrg e⟩
theorem pr_bin (ha : PE X a ta) (hb : PE X b tb) (op : Operator) : PE X (.BinOp a op b pos) (tCB (m2 (rBin X.K op)) (tCons ta (tCons tb tNil))) := pe_op (op_bin op) ha hb
theorem pr_neg (ha : PE X a ta) : PE X (.UnaryOp .USub a pos) (tCB (m1 (rU fun i => .int (-i))) (tCons ta tNil)) := pe_un un_neg ha
theorem pr_cmp (g : Good L N sc B k X) (ha : PE X a ta) (hb : PE X b tb) (ht : top b = true) (op : CmpOp) : PE X (.Compare a [op] [b] pos) (tCB (m2 (rCmp X.K op)) (tCons ta (tCons tb tNil))) := pe_cmpR (op_cmp g.units op) ha hb (no_marks ht op)
theorem pr_idx (g : Good L N sc B k X) (ha : PE X a ta) (hb : PE X b tb) (ht : top b = true) : ∀ r ∈ [m2 (rIx X.K), m2 rGetD], PE X (.Subscript a b pos) (tCB r (tCons ta (tCons tb tNil))) := by
  intro r hr
  rcases List.mem_cons.mp hr with rfl | hr
  · exact pe_ix ix_seq ha hb (plain_ix ht)
  · rw [List.mem_singleton.mp hr]
    exact pe_dget g.units1 ha hb (noSl ht)
theorem pr_rev (ha : PE X a ta) {k : Nat} {p1 p2 p3 : Pos} : PE X (.Subscript a (.Slice none none (some (.UnaryOp .USub (.Constant (.int 1) k p1) p2)) p3) pos) (tCB (m1 (rRev X.K)) (tCons ta tNil)) := pe_revL ha
theorem boot_bf (f : Bf) : bootBuiltins f.nm = some f.val := by cases f <;> decide +kernel
theorem pr_bf (g : Good L N sc B k X) {f : Bf} {x : Str} {p : Pos} {es : List Expr} {t : TA} (h : bltB L sc x f.nm = true) (ha : PA X (a :: es) t)
    (he : starEach (a :: es) X.env = (false, eval a X.env) :: starEach es X.env) (hpl : (backTo pos (starEach es X.env)).any (·.1) = false) : ∀ r ∈ rPr X.K (.bf f), PE X (.Call (.Name x p) (a :: es) [] pos) (tCB r t) := by
  obtain ⟨e1, e2, e3, e4, e5⟩ := g.blt h
  have hv : bootBuiltins x = some f.val := by rw [e1]; exact boot_bf f
  have ty : ∀ {T : String} {r : RL}, f.val = .type T → CallR X (.type T) r → PE X (.Call (.Name x p) (a :: es) [] pos) (tCB r t) := fun hf hc => pe_callTy hc e2 e5 (hv.trans (congrArg some hf)) ha e4 e3 he hpl
  have bu : ∀ {T : String} {r : RL}, f.val = .builtin T → CallR X (.builtin T) r → PE X (.Call (.Name x p) (a :: es) [] pos) (tCB r t) := fun hf hc => pe_callB hc e2 e5 (hv.trans (congrArg some hf)) ha e4 e3 he hpl
  have hc := call_bf (X := X) g.calm g.gd g.units f
  intro r hr
  cases f with
  | list =>
    rcases List.mem_cons.mp hr with rfl | hr
    · exact ty rfl hc
    · rw [List.mem_singleton.mp hr]
      exact ty rfl (call_list_dT g.calm)
  | sorted =>
    rcases List.mem_cons.mp hr with rfl | hr
    · exact bu rfl cr_sortedI
    · rcases List.mem_cons.mp hr with rfl | hr
      · exact bu rfl cr_srtO
      · rw [List.mem_singleton.mp hr]
        exact bu rfl (cr_srtD g.calm)
  | int => rw [List.mem_singleton.mp hr]; exact ty rfl hc
  | tuple => rw [List.mem_singleton.mp hr]; exact ty rfl hc
  | bool => rw [List.mem_singleton.mp hr]; exact ty rfl hc
  | _ => rw [List.mem_singleton.mp hr]; exact bu rfl hc
theorem boot_ty (t : Ty) : bootBuiltins (t.nm : String) = some (.type t.nm) := by cases t <;> decide +kernel
theorem pr_isi (g : Good L N sc B k X) {t : Ty} {x y : Str} {p p2 : Pos} (h : bltB L sc x "isinstance" = true) (h2 : bltB L sc y t.nm = true) (ha : PE X a ta) (ht : top a = true) :
    PE X (.Call (.Name x p) [a, .Name y p2] [] pos) (tCB (m1 (rIsiT X.K t)) (tCons ta tNil)) := by
  obtain ⟨e1, e2, e3, e4, e5⟩ := g.blt h
  obtain ⟨f1, f2, f3, f4, f5⟩ := g.blt h2
  have hb : PE X (.Name y p2) (tC (.ty t.nm)) := pe_bltn f2 f5 (by rw [f1]; exact boot_ty t) rfl f4 f3
  have q := pe_callB (pos := pos) (p := p) (x := x) (call_isi (X := X)) e2 e5 (by rw [e1]; exact boot_isinstance) (pa_cons ha (pa_cons hb pa_nil) (not_star ht)) e4 e3 (not_star ht) (by rfl)
  exact q
theorem op_notin_rng : OpR X (compareOp .NotIn) (fun x y H Q => ∃ i a lo hi, x = V.int i ∧ y = V.ref a ∧ H a = some (.rng lo hi) ∧ Q (.bl (!decide (lo ≤ i ∧ i < hi))) H) := by
  intro pins s σ H x y v u Q I rx ry ⟨i, r, lo, hi, e1, e2, hr, q⟩
  subst e1; subst e2
  obtain ⟨k, rfl⟩ := rx
  cases (show u = Value.ref r from ry)
  obtain ⟨t1, t2, t3, ho⟩ := I.hok r _ hr
  show wpAny _ _ (do return Value.bool (!(← contains (Value.ref r) (Value.int i k)))) _ _ s
  refine wpAny_bind (wpAny_contains_slot (T := "range") ⟨_, ho, rfl⟩ F.slot_range_contains ?_)
  refine call_meets F.slot_range_contains ⟨_, ho, rfl⟩ F.entry_range_contains (F.args_range_contains_2 _ _) (q_contains r lo hi i t1 t2 t3 k) ⟨ho, ?_⟩
  exact wpAny_truthy_bool (wpAny_pure ⟨.bl _, H, I, rfl, by rw [place1]; exact q⟩)
theorem op_inR (ng : Bool) : OpR X (compareOp (if ng then .NotIn else .In)) (rInR ng) := by
  cases ng
  · exact op_in_rng
  · exact op_notin_rng
theorem pr_inr (g : Good L N sc B k X) {ng : Bool} {op : CmpOp} {x : Str} {p p2 : Pos} (h : bltB L sc x "range" = true) (hop : op = if ng then .NotIn else .In) (ha : PE X a ta) (hb : PE X b tb) (hc : PE X c tc) (tb1 : top b = true) (tc1 : top c = true) :
    PE X (.Compare a [op] [.Call (.Name x p) [b, c] [] p2] pos) (tOp (rInR ng) ta (tCB rRg (tCons tb (tCons tc tNil)))) := by
  obtain ⟨e1, e2, e3, e4, e5⟩ := g.blt h
  have hr : PE X (.Call (.Name x p) [b, c] [] p2) (tCB rRg (tCons tb (tCons tc tNil))) := pe_callTy (cr_range2 (X := X)) e2 e5 (by rw [e1]; exact boot_range) (pa_cons hb (pa_cons hc pa_nil (not_star tc1)) (not_star tb1)) e4 e3 (not_star tb1) (by rw [not_star tc1]; rfl)
  subst hop
  exact pe_cmpR (op_inR ng) ha hr rfl
end
end
end Pv

/-! Pv, part J: what an own term's evaluation says of the text's term: single forms. -/
namespace Pv
open PySem PySem.Spec L2
open PyProof.Rows hiding St

abbrev TW (τ : Type) := PySem.W.Frag → WX → τ
/-- a reading t does what the evaluation f says -/
def SemV (bor : Nat → Bool) (t : TW TE) (f : Env → Rs D) : Prop :=
  ∀ K W σ H O ρ fp Q, Sit K bor H O σ ρ fp → (f ρ).Holds (fun d ρ' => EPost K bor σ H O fp d ρ' Q) (fun x ρ' => XPost K bor σ H O fp x ρ' W) → t K W σ H Q
def SemT (bor : Nat → Bool) (t : TW TT) (f : Env → Rs Bool) : Prop :=
  ∀ K W σ H O ρ fp Q, Sit K bor H O σ ρ fp → (f ρ).Holds (fun b ρ' => TPost K bor σ H O fp b ρ' Q) (fun x ρ' => XPost K bor σ H O fp x ρ' W) → t K W σ H Q
def SemA (bor : Nat → Bool) (t : TW TA) (f : Env → Rs (List Arg)) : Prop :=
  ∀ K W σ H O ρ fp Q, Sit K bor H O σ ρ fp → (f ρ).Holds (fun as ρ' => APost K bor σ H O fp as ρ' Q) (fun x ρ' => XPost K bor σ H O fp x ρ' W) → t K W σ H Q
def SemL (bor : Nat → Bool) (t : TW TA) (f : Env → Rs (List D)) : Prop :=
  ∀ K W σ H O ρ fp Q, Sit K bor H O σ ρ fp → (f ρ).Holds (fun ds ρ' => LPost K bor σ H O fp ds ρ' Q) (fun x ρ' => XPost K bor σ H O fp x ρ' W) → t K W σ H Q
def SemO (bor : Nat → Bool) (t : TW (St → Hp → (Option Int → Hp → Prop) → Prop)) (f : Env → Rs (Option Int)) : Prop :=
  ∀ K W σ H O ρ fp Q, Sit K bor H O σ ρ fp → (f ρ).Holds (fun o ρ' => OPost K bor σ H O fp o ρ' Q) (fun x ρ' => XPost K bor σ H O fp x ρ' W) → t K W σ H Q

section
variable {K : PySem.W.Frag} {bor : Nat → Bool} {σ : St} {H H1 H2 : Hp} {O O1 O2 : Addr → Prop} {ρ ρ1 ρ2 : Env} {fp fp1 fp2 : Fp} {G G1 G2 : List Addr}
/-- the rest of an evaluation, behind a step -/
theorem Rs.Holds.next {α : Type} {r : Rs α} {P P' : α → Env → Prop} {W : WX} (w : Wok H O) (a : Stp K bor σ H O fp H1 O1 ρ1 fp1) (h : r.Holds P fun x ρ' => XPost K bor σ H O fp x ρ' W) (hp : ∀ d ρ', P d ρ' → P' d ρ') : r.Holds P' fun x ρ' => XPost K bor σ H1 O1 fp1 x ρ' W :=
  h.imp hp fun x ρ' q => q.after w a
theorem EPost.later {d : D} {Q : VK} {ρ' : Env} (w : Wok H O) (a : Stp K bor σ H O fp H1 O1 ρ1 fp1) (h : EPost K bor σ H O fp d ρ' Q) : EPost K bor σ H1 O1 fp1 d ρ' Q :=
  fun v H' O' fp' G s r t => h v H' O' fp' G (a.trans w s) r ⟨t.nd, t.dj, fun x hx => (t.fr x hx).elim (a.fr x) fun e => .inr (none_back a.le e)⟩
theorem APost.later {as : List Arg} {Q : List V → Hp → Prop} {ρ' : Env} (w : Wok H O) (a : Stp K bor σ H O fp H1 O1 ρ1 fp1) (h : APost K bor σ H O fp as ρ' Q) : APost K bor σ H1 O1 fp1 as ρ' Q :=
  fun v H' O' fp' G s r t => h v H' O' fp' G (a.trans w s) r ⟨t.nd, t.dj, fun x hx => (t.fr x hx).elim (a.fr x) fun e => .inr (none_back a.le e)⟩
theorem TPost.later {b : Bool} {Q : Bool → Hp → Prop} {ρ' : Env} (w : Wok H O) (a : Stp K bor σ H O fp H1 O1 ρ1 fp1) (h : TPost K bor σ H O fp b ρ' Q) : TPost K bor σ H1 O1 fp1 b ρ' Q :=
  fun H' O' fp' s => h H' O' fp' (a.trans w s)
theorem OPost.later {b : Option Int} {Q : Option Int → Hp → Prop} {ρ' : Env} (w : Wok H O) (a : Stp K bor σ H O fp H1 O1 ρ1 fp1) (h : OPost K bor σ H O fp b ρ' Q) : OPost K bor σ H1 O1 fp1 b ρ' Q :=
  fun H' O' fp' s => h H' O' fp' (a.trans w s)
/-- a value's truth -/
theorem tru_rw {d : D} {b : Bool} {v : V} {F : List Addr} (r : Rw K H O v d F) (h : truthD d = some b) : TruV K v H b := by
  cases r with
  | own h1 _ t =>
    cases h
    refine .inl ⟨_, SqL.of h1, ?_⟩
    cases t <;> rfl
  | own2 h1 _ t =>
    cases h
    refine .inl ⟨_, SqL.of h1, ?_⟩
    cases t <;> rfl
  | @odk a kvs l h1 _ e t =>
    cases h
    refine .inr (.inr ⟨_, h1, ?_⟩)
    cases kvs <;> cases l <;> first | rfl | cases e
  | odt h1 _ e t => cases h
  | frl h1 =>
    cases h
    refine .inl ⟨_, h1.sq, ?_⟩
    rename_i l
    cases l <;> rfl
  | p rp =>
    cases rp with
    | non => cases h; rfl
    | bl c => cases h; rfl
    | int i => cases h; rfl
    | str x =>
      change (if x.length ≤ line then some (x.length != 0) else none) = some b at h
      split at h
      · rename_i hz
        cases h
        refine ⟨by rw [line_eq]; exact hz, ?_⟩
        cases hx : x.length with
        | zero => rfl
        | succ n => simp; omega
      · cases h
    | lst h1 _ t =>
      cases h
      refine .inl ⟨_, SqL.of h1, ?_⟩
      cases t <;> rfl
    | tup h1 t =>
      cases h
      refine .inr (.inl ⟨_, SqT.of h1, ?_⟩)
      cases t <;> rfl
    | tupK h1 _ t =>
      cases h
      refine .inr (.inl ⟨_, .inr h1, ?_⟩)
      cases t <;> rfl
    | dk _ _ _ _ => cases h
    | dt _ _ _ _ => cases h
end

theorem rw_plain {K : PySem.W.Frag} {H : Hp} {O : Addr → Prop} {v : V} {d : D} {F : List Addr} (r : Rw K H O v d F) (ho : d.isOwn = false) : Rw K H O v d.fz [] ∧ F = [] ∧ Rw K H O v d [] := by
  cases r with
  | p rp => exact ⟨.p rp, rfl, .p rp⟩
  | frl rp => exact ⟨.frl rp, rfl, .frl rp⟩
  | _ => cases ho

/-! ### values -/
theorem sem_var {bor : Nat → Bool} {i : Nat} : SemV bor (fun _ _ => tVar i) fun ρ => readVar ρ i := by
  intro K W σ H O ρ fp Q s h
  dsimp only at h
  unfold readVar at h
  cases e : ρ.at_ i with
  | none => rw [e] at h; exact h.elim
  | some d =>
    rw [e] at h
    obtain ⟨v, hv, r⟩ := s.sl.rep i d e
    refine ⟨v, hv, ?_⟩
    have h : EPost K bor σ H O fp d.fz (if d.isOwn then ρ.put i d.fz else ρ) Q := h
    have hi := at_lt e
    by_cases ho : d.isOwn = true
    · rw [if_pos ho] at h
      have l : Le (FF fp) H O H (offO O (fp i)) := Le.off fun a ha => ⟨i, ha⟩
      have l2 : Le (fun a => a ∈ fp i) H O H (offO O (fp i)) := Le.off fun a ha => ha
      have rz : Rw K H (offO O (fp i)) v d.fz [] := r.fz
      have hf : FF (fpSet fp i []) = fun a => FF (fpSet fp i []) a := rfl
      have sl1 : Sl K H O σ (ρ.set i none) (fpSet fp i []) := s.sl.drop
      have sl2 : Sl K H (offO O (fp i)) σ (ρ.set i none) (fpSet fp i []) := sl1.mono l2 (fun a ha => s.sl.own a ⟨i, ha⟩) fun a ⟨j, hj⟩ z => by
        by_cases e' : j = i
        · subst e'; rw [fpSet_self] at hj; cases hj
        · rw [fpSet_ne e'] at hj; exact s.sl.dj j i e' a hj z
      have sl3 := sl2.set (i := i) (v := v) (d := d.fz) (F := []) (by rw [List.length_set]; exact hi) rz List.nodup_nil fun _ _ _ z => nomatch z
      have e1 : σ.set i (some v) = σ := by
        obtain ⟨hlt, hg⟩ := List.getElem?_eq_some_iff.mp hv
        rw [← hg, List.set_getElem_self]
      have e2 : Env.put (ρ.set i none) i d.fz = ρ.put i d.fz := by unfold Env.put; rw [List.set_set]
      rw [e1, e2] at sl3
      have fr : ∀ a, FF (fpSet (fpSet fp i []) i []) a → FF fp a := fun a ⟨j, hj⟩ => by
        by_cases e' : j = i
        · subst e'; rw [fpSet_self] at hj; cases hj
        · rw [fpSet_ne e', fpSet_ne e'] at hj; exact ⟨j, hj⟩
      refine h v H (offO O (fp i)) _ [] ⟨l, ⟨s.w.off, sl3, fun j hj => ?_⟩, fun a ha => .inl (fr a ha)⟩ rz Tmp.nil
      by_cases e' : j = i
      · subst e'; rw [at_put_self hi]; exact fun z => nomatch z
      · rw [at_put_ne (Ne.symm e')]; exact s.bo j hj
    · rw [if_neg ho] at h
      have hr : Rw K H O v d.fz [] := (rw_plain r (by simpa using ho)).1
      exact h v H O fp [] (Stp.refl s) hr Tmp.nil
theorem sem_mv {B : Nat → List D → CR} {bor : Nat → Bool} {i : Nat} : SemV bor (fun _ _ => tVar i) fun ρ => ev ⟨bor, B⟩ (.mv i) ρ := by
  intro K W σ H O ρ fp Q s h
  dsimp only at h
  rw [ev] at h
  cases e : ρ.at_ i with
  | none => rw [e] at h; exact h.elim
  | some d =>
    rw [e] at h
    obtain ⟨v, hv, r⟩ := s.sl.rep i d e
    refine ⟨v, hv, ?_⟩
    simp only at h
    by_cases hb : bor i = true
    · rw [if_pos hb] at h; exact h.elim
    · rw [if_neg hb] at h
      have fr : ∀ a, FF (fpSet fp i []) a → FF fp a ∧ a ∉ fp i := fun a ⟨j, hj⟩ => by
        by_cases e' : j = i
        · subst e'; rw [fpSet_self] at hj; cases hj
        · rw [fpSet_ne e'] at hj; exact ⟨⟨j, hj⟩, s.sl.dj j i e' a hj⟩
      refine h v H O (fpSet fp i []) (fp i) ⟨Le.refl, ⟨s.w, s.sl.drop, fun j hj => ?_⟩, fun a ha => .inl (fr a ha).1⟩ r ⟨s.sl.nd i, fun a ha z => (fr a z).2 ha, fun a ha => .inl ⟨i, ha⟩⟩
      have e' : j ≠ i := fun z => hb (by rw [← z]; exact hj)
      rw [at_set_ne (Ne.symm e')]; exact s.bo j hj
theorem sem_const {bor : Nat → Bool} {v : V} {d : PD} (hr : ∀ K H O, Rp K H O v d) : SemV bor (fun _ _ => tC v) fun ρ => .ok (.p d) ρ :=
  fun K W σ H O ρ fp Q s h => h v H O fp [] (Stp.refl s) (.p (hr K H O)) Tmp.nil
end Pv

/-! Pv, part K: composite forms. -/
namespace Pv
open PySem PySem.Spec L2
open PyProof.Rows hiding St

def tAll (K : PySem.W.Frag) (W : WX) : List (TW TE) → TA
  | [] => tNil
  | t :: ts => tCons (t K W) (tAll K W ts)
structure Snd (C : Ctx) (L : Lib) (N : List Str) (sc : Scope) (k : Nat) (e : E) (pe : Expr) : Prop where
  v : ∃ t : TW TE, (∀ X W, Good L N sc C.B k X → Takes X W → PE X pe (t X.K W)) ∧ SemV C.bor t (ev C e)
  t : ∃ t : TW TT, (∀ X W, Good L N sc C.B k X → Takes X W → PT X pe (t X.K W)) ∧ SemT C.bor t (evT C e)
  s : ∀ i, e = .var i → ∀ X, Good L N sc C.B k X → PE X pe (tVar i)
inductive AllS (P : E → Expr → Prop) : Es → List Expr → Prop
  | nil : AllS P .nil []
  | cons {e : E} {es : Es} {pe : Expr} {pes : List Expr} : top pe = true → P e pe → AllS P es pes → AllS P (.cons e es) (pe :: pes)

section
variable {C : Ctx} {L : Lib} {N : List Str} {sc : Scope} {k : Nat}
theorem evA_cons {e : E} {es : Es} {ρ : Env} (h : ∀ i, e ≠ .var i) : evA C (.cons e es) ρ = (ev C e ρ).bind fun d ρ1 => (evA C es ρ1).bind fun as ρ2 => .ok (.v d :: as) ρ2 := by
  cases e <;> first | rfl | exact absurd rfl (h _)
abbrev PEs (X : Cx) (W : WX) (pes : List Expr) (ts : List (TW TE)) : Prop := Paired (fun pe (t : TW TE) => top pe = true ∧ PE X pe (t X.K W)) pes ts
theorem PEs.pa {X : Cx} {W : WX} {pes : List Expr} {ts : List (TW TE)} (h : PEs X W pes ts) : PA X pes (tAll X.K W ts) := by
  induction h with
  | nil => exact pa_nil
  | cons a _ ih => exact pa_cons a.2 ih (not_star a.1)
theorem semA_nil {bor : Nat → Bool} : SemA bor (fun K W => tAll K W []) (evA C .nil) := fun K W σ H O ρ fp Q s h => h [] H O fp [] (Stp.refl s) .nil Tmp.nil
theorem semA_var {i : Nat} {es : Es} {ts : List (TW TE)} (ih : SemA C.bor (fun K W => tAll K W ts) (evA C es)) : SemA C.bor (fun K W => tAll K W ((fun _ _ => tVar i) :: ts)) (evA C (.cons (.var i) es)) := by
  intro K W σ H O ρ fp Q s h
  rw [evA] at h
  split at h
  · rename_i hs
    obtain ⟨d, e⟩ := Option.isSome_iff_exists.mp hs
    obtain ⟨v, hv, r⟩ := s.sl.rep i d e
    refine ⟨v, hv, ?_⟩
    refine ih K W σ H O ρ fp _ s ((Rs.holds_bind h).imp (fun as ρ1 q => ?_) fun _ _ q => q)
    exact fun vs H' O' fp' G st ar tm => q (v :: vs) H' O' fp' G st (.s hv ar) tm
  · exact h.elim
theorem semA_cons {e : E} {es : Es} {t : TW TE} {ts : List (TW TE)} (hv : ∀ i, e ≠ .var i) (h1 : SemV C.bor t (ev C e)) (ih : SemA C.bor (fun K W => tAll K W ts) (evA C es)) : SemA C.bor (fun K W => tAll K W (t :: ts)) (evA C (.cons e es)) := by
  intro K W σ H O ρ fp Q s h
  rw [evA_cons hv] at h
  refine h1 K W σ H O ρ fp _ s ((Rs.holds_bind h).imp (fun d ρ1 q => ?_) fun _ _ q => q)
  intro v H1 O1 fp1 G1 st r tm
  refine ih K W σ H1 O1 ρ1 fp1 _ st.sit ((Rs.holds_bind q).imp (fun as ρ2 q2 => ?_) fun x ρ' q2 => q2.after s.w st)
  intro vs H2 O2 fp2 G2 st2 ar2 tm2
  exact q2 (v :: vs) H2 O2 fp2 (G1 ++ G2) (st.trans s.w st2) (.v (Rw.over st2 st.sit.sl tm r fun _ z => z) ar2) (Tmp.seq st tm r.own_mem st2 tm2)
theorem allA3 {es : Es} {pes : List Expr} (h : AllS (Snd C L N sc k) es pes) : ∃ ts : List (TW TE), (∀ X W, Good L N sc C.B k X → Takes X W → PEs X W pes ts) ∧ SemA C.bor (fun K W => tAll K W ts) (evA C es) ∧ es.len = ts.length := by
  induction h with
  | nil => exact ⟨[], fun _ _ _ _ => .nil, semA_nil, rfl⟩
  | @cons e es pe pes ht hs _ ih =>
    obtain ⟨ts, h1, h2, h3⟩ := ih
    by_cases hv : ∃ i, e = .var i
    · obtain ⟨i, rfl⟩ := hv
      exact ⟨(fun _ _ => tVar i) :: ts, fun X W g tk => .cons ⟨ht, hs.s i rfl X g⟩ (h1 X W g tk), semA_var h2, by show _ + 1 = _; rw [h3]; rfl⟩
    · obtain ⟨t, q1, q2⟩ := hs.v
      exact ⟨t :: ts, fun X W g tk => .cons ⟨ht, q1 X W g tk⟩ (h1 X W g tk), semA_cons (fun i z => hv ⟨i, z⟩) q2 h2, by show _ + 1 = _; rw [h3]; rfl⟩
theorem allA {es : Es} {pes : List Expr} (h : AllS (Snd C L N sc k) es pes) : ∃ ts : List (TW TE), (∀ X W, Good L N sc C.B k X → Takes X W → PEs X W pes ts) ∧ SemA C.bor (fun K W => tAll K W ts) (evA C es) :=
  let ⟨ts, a, b, _⟩ := allA3 h
  ⟨ts, a, b⟩
theorem allL {es : Es} {pes : List Expr} (h : AllS (Snd C L N sc k) es pes) : ∃ ts : List (TW TE), (∀ X W, Good L N sc C.B k X → Takes X W → PEs X W pes ts) ∧ SemL C.bor (fun K W => tAll K W ts) (evL C es) := by
  induction h with
  | nil => exact ⟨[], fun _ _ _ _ => .nil, fun K W σ H O ρ fp Q s h => h [] H O fp [] (Stp.refl s) .nil Tmp.nil⟩
  | @cons e es pe pes ht hs _ ih =>
    obtain ⟨ts, h1, h2⟩ := ih
    obtain ⟨t, q1, q2⟩ := hs.v
    refine ⟨t :: ts, fun X W g tk => .cons ⟨ht, q1 X W g tk⟩ (h1 X W g tk), ?_⟩
    intro K W σ H O ρ fp Q s h
    rw [evL] at h
    refine q2 K W σ H O ρ fp _ s ((Rs.holds_bind h).imp (fun d ρ1 q => ?_) fun _ _ q => q)
    intro v H1 O1 fp1 G1 st r tm
    refine h2 K W σ H1 O1 ρ1 fp1 _ st.sit ((Rs.holds_bind q).imp (fun as ρ2 q2 => ?_) fun x ρ' q2 => q2.after s.w st)
    intro vs H2 O2 fp2 G2 st2 ar2 tm2
    exact q2 (v :: vs) H2 O2 fp2 (G1 ++ G2) (st.trans s.w st2) (.cons (Rw.over st2 st.sit.sl tm r fun _ z => z) ar2) (Tmp.seq st tm r.own_mem st2 tm2)

/-! ### a value as a test -/
theorem semT_tru {bor : Nat → Bool} {t : TW TE} {f : Env → Rs D} (h : SemV bor t f) : SemT bor (fun K W σ H Q => t K W σ H fun x H' => ∃ k, TruV K x H' k ∧ Q k H') (fun ρ => (f ρ).bind fun d ρ1 => Rs.ofO (truthD d) ρ1) := by
  intro K W σ H O ρ fp Q s hh
  refine h K W σ H O ρ fp _ s ((Rs.holds_bind hh).imp (fun d ρ1 q => ?_) fun _ _ q => q)
  obtain ⟨b, e, q⟩ := Rs.holds_ofO q
  exact fun v H' O' fp' G st r tm => ⟨b, tru_rw r e, q H' O' fp' st⟩
theorem semT_bl {bor : Nat → Bool} {t : TW TE} {f : Env → Rs D} (h : SemV bor t f) (hb : ∀ ρ d ρ', f ρ = .ok d ρ' → ∃ c, d = .p (.bool c)) :
    SemT bor (fun K W σ H Q => t K W σ H fun x H' => ∃ k, x = .bl k ∧ Q k H') (fun ρ => (f ρ).bind fun d ρ1 => Rs.ofO (truthD d) ρ1) := by
  intro K W σ H O ρ fp Q s hh
  refine h K W σ H O ρ fp _ s ?_
  dsimp only at hh
  cases e : f ρ with
  | bad => rw [e] at hh; exact hh.elim
  | exc x ρ1 => rw [e] at hh; exact hh
  | ok d ρ1 =>
    rw [e] at hh
    obtain ⟨c, rfl⟩ := hb ρ d ρ1 e
    obtain ⟨b, e2, q⟩ := Rs.holds_ofO (show (Rs.ofO (truthD (.p (.bool c))) ρ1).Holds _ _ from hh)
    cases e2
    exact fun v H' O' fp' G st r tm => ⟨_, rw_bl r, q H' O' fp' st⟩
/-- a form that is no test of its own -/
theorem Snd.plain {e : E} {pe : Expr} (he : ∀ (env : PySem.Env) whole, isTrue pe env whole = (do let v ← whole; standAt pe.pos; holding [v] (truthy v)))
    (v : ∃ t : TW TE, (∀ X W, Good L N sc C.B k X → Takes X W → PE X pe (t X.K W)) ∧ SemV C.bor t (ev C e)) (s : ∀ i, e = .var i → ∀ X, Good L N sc C.B k X → PE X pe (tVar i)) : Snd C L N sc k e pe :=
  ⟨v, let ⟨t, h1, h2⟩ := v; ⟨_, fun X W g tk => pt_truth (h1 X W g tk) (he _), semT_tru h2⟩, s⟩

/-! ### operations by values -/
theorem rPr_ne (K : PySem.W.Frag) (p : Prim) : ∃ r, r ∈ rPr K p := by
  cases p with
  | bf f => cases f <;> exact ⟨_, List.mem_cons_self⟩
  | _ => exact ⟨_, List.mem_cons_self⟩
theorem semV_prim {p : Prim} {es : Es} {ts : List (TW TE)} (h : SemA C.bor (fun K W => tAll K W ts) (evA C es)) : SemV C.bor (fun K W σ H Q => ∃ r, r ∈ rPr K p ∧ tCB r (tAll K W ts) σ H Q) (ev C (.prim p es)) := by
  intro K W σ H O ρ fp Q s hh
  rw [ev] at hh
  cases e : evA C es ρ with
  | bad => rw [e] at hh; exact hh.elim
  | exc x ρ1 =>
    rw [e] at hh
    obtain ⟨r, hr⟩ := rPr_ne K p
    refine ⟨r, hr, h K W σ H O ρ fp _ s ?_⟩
    rw [e]
    exact hh
  | ok as ρ1 =>
    rw [e] at hh
    change Rs.Holds (match argsGet ρ1 as with | some ds => Rs.ofO (prD p ds) ρ1 | none => .bad) _ _ at hh
    cases ea : argsGet ρ1 as with
    | none => rw [ea] at hh; exact hh.elim
    | some ds =>
      rw [ea] at hh
      obtain ⟨d, ed, q⟩ := Rs.holds_ofO hh
      obtain ⟨r, hr, vt⟩ := vat_prim (K := K) ed
      refine ⟨r, hr, h K W σ H O ρ fp _ s ?_⟩
      rw [e]
      exact fun vs H' O' fp' G st ar tm => vt H' O' vs Q st.sit.w (ar.all st.sit.sl ea) (EPost.newP q s.w st)
end
end Pv

/-! Pv, part L: targets, displays, slices, tests. -/
namespace Pv
open PySem PySem.Spec L2
open PyProof.Rows hiding St

/-! ### targets -/
def T.len : T → Nat
  | .cons _ ts => ts.len + 1
  | _ => 0
mutual
def gT (K : PySem.W.Frag) : T → TG
  | .v i => gName i
  | .nil => gTup K 0 gNil
  | .cons t ts => gTup K (ts.len + 1) (gCons (gT K t) (gTs K ts))
def gTs (K : PySem.W.Frag) : T → TGs
  | .v _ => fun _ _ _ _ => False
  | .nil => gNil
  | .cons t ts => gCons (gT K t) (gTs K ts)
end
section
variable {L : Lib} {N : List Str} {sc : Scope} {B : Nat → List D → CR} {k : Nat} {X : Cx}
theorem asgEach_cons {e : Expr} {es : List Expr} {env : PySem.Env} (h : top e = true) : assignEach (e :: es) env = (false, assign e env) :: assignEach es env := by
  cases e <;> first | rfl | cases h
theorem tgB_len : ∀ {t : T} {es : List Expr} {kk : Nat} {p : Pos} {env : PySem.Env}, tgB N sc t (.Tuple es kk p) = true → (assignEach es env).length = t.len ∧ (assignEach es env).findIdx? (·.1) = none
  | .v _, _, _, _, _, h => by simp [tgB] at h
  | .nil, [], _, _, _, _ => ⟨rfl, rfl⟩
  | .nil, _ :: _, _, _, _, h => by simp [tgB] at h
  | .cons _ _, [], _, _, _, h => by simp [tgB] at h
  | .cons t ts, e :: es, kk, p, env, h => by
    rw [tgB] at h
    obtain ⟨h, h3⟩ := and2 h
    obtain ⟨h1, h2⟩ := and2 h
    obtain ⟨a, b⟩ := tgB_len (env := env) h3
    rw [asgEach_cons h1]
    refine ⟨by rw [List.length_cons, a]; rfl, ?_⟩
    rw [List.findIdx?_cons]
    simp [b]
mutual
theorem pg_T (hN : X.N = N) (nd : X.N.Nodup) (hc : X.calm = true) (hT : ∀ x, (sc.names.lookup x = some .local ∨ sc.names.lookup x = some .cell) → L2.Loc X.env.scope x ∧ (X.fn x = true ∨ X.env.scope.names.lookup x = some .local)) : ∀ {t : T} {e : Expr}, tgB N sc t e = true → PG X e (gT X.K t)
  | .v i, e, h => by
    cases e with
    | Name x p =>
      rw [tgB] at h
      obtain ⟨h1, h2⟩ := and2 h
      have h1 := of_decide_eq_true h1
      have h2 := of_decide_eq_true h2
      exact pg_name nd (by rw [hN]; exact h1) (hT x h2).1 (hT x h2).2
    | _ => simp [tgB] at h
  | .nil, e, h => by
    cases e with
    | Tuple es kk p =>
      cases es with
      | nil => exact pg_tup hc pgs_nil
      | cons _ _ => simp [tgB] at h
    | _ => simp [tgB] at h
  | .cons t ts, e, h => by
    cases e with
    | Tuple es kk p =>
      obtain ⟨a, b⟩ := tgB_len (env := X.env) h
      exact pg_tup hc (pgs_T hN nd hc hT h) a b
    | _ => simp [tgB] at h
theorem pgs_T (hN : X.N = N) (nd : X.N.Nodup) (hc : X.calm = true) (hT : ∀ x, (sc.names.lookup x = some .local ∨ sc.names.lookup x = some .cell) → L2.Loc X.env.scope x ∧ (X.fn x = true ∨ X.env.scope.names.lookup x = some .local)) : ∀ {t : T} {es : List Expr} {kk : Nat} {p : Pos}, tgB N sc t (.Tuple es kk p) = true → PGs X es (gTs X.K t)
  | .v _, _, _, _, h => by simp [tgB] at h
  | .nil, [], _, _, _ => pgs_nil
  | .nil, _ :: _, _, _, h => by simp [tgB] at h
  | .cons _ _, [], _, _, h => by simp [tgB] at h
  | .cons t ts, e :: es, kk, p, h => by
    rw [tgB] at h
    obtain ⟨h, h3⟩ := and2 h
    obtain ⟨h1, h2⟩ := and2 h
    exact pgs_cons (pg_T hN nd hc hT h2) (pgs_T hN nd hc hT h3) (by rw [asgEach_cons h1]; rfl)
end
end

/-- a slot beyond these is as it was -/
structure AsgOk (K : PySem.W.Frag) (H : Hp) (O : Addr → Prop) (t : T) (σ : St) (ρ : Env) (fp : Fp) (σ' : St) (ρ' : Env) (fp' : Fp) : Prop where
  sl : Sl K H O σ' ρ' fp'
  len : σ'.length = σ.length
  fr : ∀ a, FF fp' a → FF fp a
  far : ∀ own j, tgIn own t = true → own.contains j = false → σ'[j]? = σ[j]? ∧ ρ'.at_ j = ρ.at_ j
  some : ∀ j, ρ.at_ j ≠ none → ρ'.at_ j ≠ none
theorem set_same_slot {K : PySem.W.Frag} {H : Hp} {O : Addr → Prop} {σ : St} {ρ : Env} {fp : Fp} {i : Nat} {v : V} {d : PD} (s : Sl K H O σ ρ fp) (hi : i < ρ.length) (r : Rp K H O v d) :
    Sl K H O (σ.set i (some v)) (ρ.put i (.p d)) (fpSet fp i []) := s.set hi (.p r) List.nodup_nil fun _ _ _ z => nomatch z
theorem fr_set {fp : Fp} {i : Nat} {a : Addr} (h : FF (fpSet fp i []) a) : FF fp a := by
  rcases FF_set h with h | ⟨j, _, h⟩
  · cases h
  · exact ⟨j, h⟩
theorem AsgOk.trans {K : PySem.W.Frag} {H : Hp} {O : Addr → Prop} {t ts : T} {σ σ1 σ2 : St} {ρ ρ1 ρ2 : Env} {fp fp1 fp2 : Fp} (a : AsgOk K H O t σ ρ fp σ1 ρ1 fp1) (b : AsgOk K H O ts σ1 ρ1 fp1 σ2 ρ2 fp2) : AsgOk K H O (.cons t ts) σ ρ fp σ2 ρ2 fp2 :=
  ⟨b.sl, b.len.trans a.len, fun x h => a.fr x (b.fr x h), fun own j ho hj => by
    rw [tgIn] at ho
    obtain ⟨h1, h2⟩ := and2 ho
    obtain ⟨x1, x2⟩ := a.far own j h1 hj
    obtain ⟨y1, y2⟩ := b.far own j h2 hj
    exact ⟨y1.trans x1, y2.trans x2⟩, fun j h => b.some j (a.some j h)⟩
mutual
theorem asg_ok {K : PySem.W.Frag} {H : Hp} {O : Addr → Prop} : ∀ {t : T} {d : PD} {v : V} {σ : St} {ρ ρ' : Env} {fp : Fp}, asgT t d ρ = some ρ' → Rp K H O v d → Sl K H O σ ρ fp →
    ∃ σ' fp', (∀ Q : St → Hp → Prop, Q σ' H → gT K t v σ H Q) ∧ AsgOk K H O t σ ρ fp σ' ρ' fp'
  | .v i, d, v, σ, ρ, ρ', fp, h, r, s => by
    rw [asgT] at h
    split at h
    · rename_i hi
      cases h
      refine ⟨σ.set i (some v), fpSet fp i [], fun Q q => q, set_same_slot s hi r, List.length_set, fun a => fr_set, fun own j ho hj => ?_, fun j hj => ?_⟩
      · have : i ≠ j := fun e => by
          subst e
          have ho : own.contains i = true := ho
          rw [ho] at hj; cases hj
        exact ⟨List.getElem?_set_ne this, at_put_ne this⟩
      · by_cases e : i = j
        · subst e; rw [at_put_self hi]; exact fun z => nomatch z
        · rw [at_put_ne e]; exact hj
    · cases h
  | .nil, d, v, σ, ρ, ρ', fp, h, r, s => by
    cases d with
    | tuple l =>
      obtain ⟨a, xs, rfl, hq, hl⟩ := rw_tup (.p r)
      obtain ⟨σ', fp', h1, h2, h3⟩ := asgs_ok (t := .nil) rfl h hl s
      exact ⟨σ', fp', fun Q q => ⟨a, xs, rfl, hq, h3, h1 Q q⟩, h2⟩
    | _ => simp [asgT] at h
  | .cons t ts, d, v, σ, ρ, ρ', fp, h, r, s => by
    cases d with
    | tuple l =>
      obtain ⟨a, xs, rfl, hq, hl⟩ := rw_tup (.p r)
      obtain ⟨σ', fp', h1, h2, h3⟩ := asgs_ok (t := .cons t ts) rfl h hl s
      exact ⟨σ', fp', fun Q q => ⟨a, xs, rfl, hq, h3, h1 Q q⟩, h2⟩
    | _ => simp [asgT] at h
theorem asgs_ok {K : PySem.W.Frag} {H : Hp} {O : Addr → Prop} : ∀ {t : T} {l : List PD} {vs : List V} {σ : St} {ρ ρ' : Env} {fp : Fp}, t.isL = true → asgT t (.tuple l) ρ = some ρ' → RpAll K H O vs l → Sl K H O σ ρ fp →
    ∃ σ' fp', (∀ Q : St → Hp → Prop, Q σ' H → gTs K t vs σ H Q) ∧ AsgOk K H O t σ ρ fp σ' ρ' fp' ∧ vs.length = t.len
  | .v i, l, vs, σ, ρ, ρ', fp, hl, h, r, s => by cases hl
  | .nil, l, vs, σ, ρ, ρ', fp, hl, h, r, s => by
    cases r with
    | nil =>
      rw [asgT] at h
      cases h
      exact ⟨σ, fp, fun Q q => ⟨rfl, q⟩, ⟨s, rfl, fun _ h => h, fun _ _ _ _ => ⟨rfl, rfl⟩, fun _ h => h⟩, rfl⟩
    | cons _ _ => simp [asgT] at h
  | .cons t ts, l, vs, σ, ρ, ρ', fp, hl, h, r, s => by
    cases r with
    | nil => simp [asgT] at h
    | @cons v vs d ds rv rr =>
      rw [asgT] at h
      split at h
      · rename_i hL
        split at h
        · rename_i ρ1 e1
          obtain ⟨σ1, fp1, a1, a2⟩ := asg_ok e1 rv s
          obtain ⟨σ2, fp2, b1, b2, b3⟩ := asgs_ok hL h rr a2.sl
          exact ⟨σ2, fp2, fun Q q => ⟨v, vs, rfl, a1 _ (b1 Q q)⟩, a2.trans b2, by rw [List.length_cons, b3]; rfl⟩
        · cases h
      · cases h
end
end Pv

/-! Pv, part M: displays, slices, tests. -/
namespace Pv
open PySem PySem.Spec L2
open PyProof.Rows hiding St

section
variable {K : PySem.W.Frag} {bor : Nat → Bool} {σ : St} {H H1 H2 : Hp} {O O1 O2 : Addr → Prop} {ρ ρ1 ρ2 : Env} {fp fp1 fp2 : Fp} {G G1 G2 : List Addr}
/-- what lay with a value is nobody's from now on -/
theorem Stp.offG (w : Wok H O) (a : Stp K bor σ H O fp H1 O1 ρ1 fp1) (t : Tmp H fp fp1 G) (ho : ∀ x ∈ G, O1 x) : Stp K bor σ H O fp H1 (offO O1 G) ρ1 fp1 := by
  have l2 : Le (fun x => x ∈ G) H1 O1 H1 (offO O1 G) := Le.off fun x h => h
  refine ⟨a.le.trans l2 (fun x h => t.fr x h) w, ⟨a.sit.w.off, a.sit.sl.mono l2 ho fun x h z => t.dj x z h, a.sit.bo⟩, a.fr⟩
theorem RwL.fzG {vs : List V} {dss : List (List PD)} {F : List Addr} (r : RwL K H O vs dss F) (h : ∀ a ∈ F, a ∈ G) : RpAll K H (offO O G) vs (dss.map .list) := r.fz h
theorem Rp.offG {v : V} {d : PD} (r : Rp K H O v d) : Rp K H (offO O G) v d :=
  Rp.mono (F := fun a => a ∈ G ∧ O a) ⟨fun a o e _ => e, fun a o e => ⟨o, e⟩, fun _ _ e => e, fun _ _ _ e => e, fun a e nf => ⟨e, fun z => nf ⟨z, e⟩⟩, fun a e => .inl e.1⟩ (fun a h => h.2) r
theorem Rw.toG {v : V} {d : D} {F : List Addr} {x : PD} (r : Rw K H O v d F) (h : ∀ a ∈ F, a ∈ G) (e : d.toPD = some x) : Rp K H (offO O G) v x := by
  cases r with
  | p r => cases e; exact r.offG
  | own h1 o r => cases e; exact .lst h1 (fun z => z.2 (h _ List.mem_cons_self)) r.off
  | own2 h1 o r => cases e; exact .lst h1 (fun z => z.2 (h _ List.mem_cons_self)) (r.fz fun a ha => h a (List.mem_cons_of_mem _ ha))
  | odk h1 o e1 r => cases e; exact .dk h1 (fun z => z.2 (h _ List.mem_cons_self)) e1 r.off
  | odt h1 o e1 r => cases e; exact .dt h1 (fun z => z.2 (h _ List.mem_cons_self)) e1 r.off
  | frl _ => cases e
theorem PRw.toG {vs : List V} {ds : List D} {F : List Addr} (r : PRw K H O vs ds F) : ∀ {l : List PD}, (∀ a ∈ F, a ∈ G) → fzAll ds = some l → RpAll K H (offO O G) vs l := by
  induction r with
  | nil => intro l _ e; cases e; exact .nil
  | @cons v d F F2 vs ds r _ ih =>
    intro l h e
    unfold fzAll at e
    split at e
    · rename_i h1 h2
      cases e
      exact .cons (r.toG (fun a ha => h a (List.mem_append_left _ ha)) h1) (ih (fun a ha => h a (List.mem_append_right _ ha)) h2)
    · cases e
theorem PRw.ofP {vs : List V} {ds : List D} {F : List Addr} (r : PRw K H O vs ds F) : ∀ {l : List PD}, allP ds = some l → RpAll K H O vs l ∧ F = [] := by
  induction r with
  | nil => intro l e; cases e; exact ⟨.nil, rfl⟩
  | @cons v d F F2 vs ds r _ ih =>
    intro l e
    cases r with
    | p rp =>
      rw [allP] at e
      obtain ⟨m, e1, rfl⟩ := Option.map_eq_some_iff.mp e
      obtain ⟨a, b⟩ := ih e1
      exact ⟨.cons rp a, b⟩
    | _ => simp [allP] at e
theorem PRw.ofO {vs : List V} {ds : List D} {F : List Addr} (r : PRw K H O vs ds F) : ∀ {ll : List (List PD)}, allO ds = some ll → RwL K H O vs ll F := by
  induction r with
  | nil => intro l e; cases e; exact .nil
  | @cons v d F F2 vs ds r _ ih =>
    intro l e
    cases r with
    | own h o rp =>
      rw [allO] at e
      obtain ⟨m, e1, rfl⟩ := Option.map_eq_some_iff.mp e
      exact .cons h o rp (ih e1)
    | _ => simp [allO] at e
/-- a list that was made of these values stands at p -/
theorem lst_fin {vs : List V} {ds : List D} {d : D} {p : Addr} {Q : VK} (w : Wok H O) (a : Stp K bor σ H O fp H1 O1 ρ1 fp1) (hp : H1 p = some (.lst vs)) (ho : O1 p) (np : ¬ FF fp1 p) (fr : FF fp p ∨ H p = none) (nG : p ∉ G)
    (r : PRw K H1 O1 vs ds G) (t : Tmp H fp fp1 G) (e : mkL ds = some d) (q : EPost K bor σ H O fp d ρ1 Q) : Q (.ref p) H1 := by
  unfold mkL at e
  split at e
  · rename_i l e1
    cases e
    obtain ⟨r1, rfl⟩ := r.ofP e1
    exact q (.ref p) H1 O1 fp1 [p] a (.own hp ho r1) ⟨List.nodup_cons.mpr ⟨List.not_mem_nil, List.nodup_nil⟩, fun x hx => by rw [List.mem_singleton.mp hx]; exact np, fun x hx => by rw [List.mem_singleton.mp hx]; exact fr⟩
  · split at e
    · rename_i ll e1
      cases e
      exact q (.ref p) H1 O1 fp1 (p :: G) a (.own2 hp ho (r.ofO e1)) ⟨List.nodup_cons.mpr ⟨nG, t.nd⟩, fun x hx => (List.mem_cons.mp hx).elim (fun z => by rw [z]; exact np) (t.dj x), fun x hx => (List.mem_cons.mp hx).elim (fun z => by rw [z]; exact fr) (t.fr x)⟩
    · obtain ⟨l, e1, rfl⟩ := Option.map_eq_some_iff.mp e
      exact q (.ref p) H1 (offO O1 G) fp1 [p] (a.offG w t r.own) (.own hp ⟨ho, nG⟩ (r.toG (fun _ h => h) e1)) ⟨List.nodup_cons.mpr ⟨List.not_mem_nil, List.nodup_nil⟩, fun x hx => by rw [List.mem_singleton.mp hx]; exact np, fun x hx => by rw [List.mem_singleton.mp hx]; exact fr⟩
theorem lst_finR {own : List Nat} {vs : List V} {ds : List D} {d : D} {p : Addr} {Q : VK} (w : Wok H O) (a : Stp K bor σ H O fp H1 O1 ρ1 fp1) (hp : H1 p = some (.lst vs)) (ho : O1 p) (np : ¬ FF fp1 p) (fr : FF fp p ∨ H p = none) (nG : p ∉ G)
    (r : PRw K H1 O1 vs ds G) (t : Tmp H fp fp1 G) (e : mkR own ds = some d) (q : EPost K bor σ H O fp d ρ1 Q) : Q (.ref p) H1 := by
  unfold mkR at e
  split at e
  · split at e
    · obtain ⟨l, e1, rfl⟩ := Option.map_eq_some_iff.mp e
      exact q (.ref p) H1 (offO O1 G) fp1 [p] (a.offG w t r.own) (.own hp ⟨ho, nG⟩ (r.toG (fun _ h => h) e1)) ⟨List.nodup_cons.mpr ⟨List.not_mem_nil, List.nodup_nil⟩, fun x hx => by rw [List.mem_singleton.mp hx]; exact np, fun x hx => by rw [List.mem_singleton.mp hx]; exact fr⟩
    · exact lst_fin w a hp ho np fr nG r t e q
  · exact lst_fin w a hp ho np fr nG r t e q
/-- something new, owned by nobody that we know -/
theorem Stp.new_own {p : Addr} {o : HO} (w : Wok H O) (a : Stp K bor σ H O fp H1 O1 ρ1 fp1) (hp : H1 p = none) (mu : MutO o) : Stp K bor σ H O fp (upd H1 p o) (addO O1 p) ρ1 fp1 := by
  have l2 : Le (fun _ => False) H1 O1 (upd H1 p o) (addO O1 p) := Le.new_own hp
  exact ⟨a.le.trans l2 (fun _ z => z.elim) w, ⟨a.sit.w.upd_add hp mu, a.sit.sl.mono l2 (fun _ z => z.elim) fun _ _ z => z, a.sit.bo⟩, a.fr⟩
theorem stp_fresh (w : Wok H O) (a : Stp K bor σ H O fp H1 O1 ρ1 fp1) {p : Addr} (hp : H1 p = none) : ¬ FF fp1 p := fun z => wok_some a.sit.w (a.sit.sl.own p z) hp
end

section
variable {C : Ctx} {L : Lib} {N : List Str} {sc : Scope} {k : Nat}
theorem semV_tup {es : Es} {ts : List (TW TE)} (h : SemL C.bor (fun K W => tAll K W ts) (evL C es)) : SemV C.bor (fun K W => tTup (tAll K W ts)) (ev C (.tup es)) := by
  intro K W σ H O ρ fp Q s hh
  rw [ev] at hh
  refine h K W σ H O ρ fp _ s ((Rs.holds_bind hh).imp (fun ds ρ1 q => ?_) fun _ _ q => q)
  intro vs H1 O1 fp1 G st r tm
  split at q
  · rename_i l e
    split at q
    · rename_i hl
      have r1 := r.toG (G := G) (fun _ h => h) e
      refine ⟨by rw [r1.length, line_eq]; exact hl, fun p hp => ?_⟩
      exact (EPost.newP q s.w (st.offG s.w tm r.own)).tup (st.offG s.w tm r.own).sit.w r1 p hp
    · exact q.elim
  · exact q.elim
theorem PRw.len {K : PySem.W.Frag} {H : Hp} {O : Addr → Prop} {vs : List V} {ds : List D} {F : List Addr} (r : PRw K H O vs ds F) : vs.length = ds.length := by
  induction r with
  | nil => rfl
  | cons _ _ ih => rw [List.length_cons, List.length_cons, ih]
theorem semV_lst {es : Es} {ts : List (TW TE)} (h : SemL C.bor (fun K W => tAll K W ts) (evL C es)) : SemV C.bor (fun K W => tLst (tAll K W ts)) (ev C (.lst es)) := by
  intro K W σ H O ρ fp Q s hh
  rw [ev] at hh
  refine h K W σ H O ρ fp _ s ((Rs.holds_bind hh).imp (fun ds ρ1 q => ?_) fun _ _ q => q)
  intro vs H1 O1 fp1 G st r tm
  split at q
  · rename_i hl
    obtain ⟨d, e, q⟩ := Rs.holds_ofO q
    refine ⟨by rw [r.len, line_eq]; exact hl, fun p hp => ?_⟩
    have st2 := st.new_own s.w hp (o := .lst vs) trivial
    have l2 : Le (fun _ => False) H1 O1 (upd H1 p (.lst vs)) (addO O1 p) := Le.new_own hp
    exact lst_fin s.w st2 upd_same (.inr rfl) (stp_fresh s.w st hp) (.inr (none_back st.le hp)) (fun z => wok_some st.sit.w (r.own p z) hp) (r.mono l2 (fun _ z => z.elim) fun _ _ z => z) tm e q
  · exact q.elim
theorem semV_dnewK {bor : Nat → Bool} : SemV bor (fun _ _ => tDNewK) fun ρ => .ok (.odk []) ρ := fun K W σ H O ρ fp Q s h p hp =>
  h (.ref p) _ (addO O p) fp [p] ((Stp.refl s).new_own s.w hp trivial) (.odk upd_same (.inr rfl) rfl .nil) ⟨List.nodup_cons.mpr ⟨List.not_mem_nil, List.nodup_nil⟩, fun x hx => by rw [List.mem_singleton.mp hx]; exact stp_fresh s.w (Stp.refl s) hp, fun x hx => by rw [List.mem_singleton.mp hx]; exact .inr hp⟩
theorem semV_dnewT {bor : Nat → Bool} : SemV bor (fun _ _ => tDNewT) fun ρ => .ok (.odt []) ρ := fun K W σ H O ρ fp Q s h p hp =>
  h (.ref p) _ (addO O p) fp [p] ((Stp.refl s).new_own s.w hp trivial) (.odt upd_same (.inr rfl) rfl .nil) ⟨List.nodup_cons.mpr ⟨List.not_mem_nil, List.nodup_nil⟩, fun x hx => by rw [List.mem_singleton.mp hx]; exact stp_fresh s.w (Stp.refl s) hp, fun x hx => by rw [List.mem_singleton.mp hx]; exact .inr hp⟩

/-! ### slices -/
theorem semO_nil : SemO C.bor (fun _ _ => tNoPart) (evO C .nil) := fun K W σ H O ρ fp Q s h => h H O fp (Stp.refl s)
theorem semO_one {e : E} {es : Es} {t : TW TE} (h : SemV C.bor t (ev C e)) : SemO C.bor (fun K W => tPart (t K W)) (evO C (.cons e es)) := by
  intro K W σ H O ρ fp Q s hh
  rw [evO] at hh
  refine h K W σ H O ρ fp _ s ((Rs.holds_bind hh).imp (fun d ρ1 q => ?_) fun _ _ q => q)
  intro v H1 O1 fp1 G st r tm
  split at q
  · exact ⟨_, rw_int r, q H1 O1 fp1 st⟩
  · exact q.elim
/-- the part that is cut: a slot, a value -/
def evX (C : Ctx) (a : E) (ρ : Env) : Rs Arg := match a with
  | .var i => if (ρ.at_ i).isSome then .ok (.s i) ρ else .bad
  | a => (ev C a ρ).bind fun d ρ1 => .ok (.v d) ρ1
theorem ev_sl {a : E} {lo hi : Es} {ρ : Env} : ev C (.sl a lo hi) ρ = (evX C a ρ).bind fun x ρ1 => (evO C lo ρ1).bind fun l ρ2 => (evO C hi ρ2).bind fun h ρ3 => match x.get ρ3 with
    | some d => Rs.ofO (slD d l h) ρ3
    | none => .bad := by
  by_cases h : ∃ i, a = .var i
  · obtain ⟨i, rfl⟩ := h
    simp only [ev, evX] <;> rfl
  · rw [ev]
    · have : evX C a ρ = (ev C a ρ).bind fun d ρ1 => .ok (.v d) ρ1 := by
        cases a <;> first | rfl | exact absurd ⟨_, rfl⟩ h
      rw [this] <;> rfl
    · exact fun i z => h ⟨i, z⟩
theorem evX_evA {a : E} {ρ : Env} : evA C (.cons a .nil) ρ = (evX C a ρ).bind fun x ρ1 => .ok [x] ρ1 := by
  by_cases h : ∃ i, a = .var i
  · obtain ⟨i, rfl⟩ := h
    rw [evA]
    unfold evX
    dsimp only
    split <;> rfl
  · rw [evA_cons fun i z => h ⟨i, z⟩]
    have : evX C a ρ = (ev C a ρ).bind fun d ρ1 => .ok (.v d) ρ1 := by
      cases a <;> first | rfl | exact absurd ⟨_, rfl⟩ h
    rw [this]
    cases ev C a ρ <;> rfl
theorem semV_sl {a : E} {lo hi : Es} {t : TW TE} {tl th : TW (St → Hp → (Option Int → Hp → Prop) → Prop)} (h : SemA C.bor (fun K W => tAll K W [t]) (evA C (.cons a .nil))) (hl : SemO C.bor tl (evO C lo)) (hh : SemO C.bor th (evO C hi)) :
    SemV C.bor (fun K W => tSl (rSl K) (t K W) (tl K W) (th K W)) (ev C (.sl a lo hi)) := by
  intro K W σ H O ρ fp Q s q
  rw [ev_sl] at q
  have q2 : (evA C (.cons a .nil) ρ).Holds (fun as ρ1 => APost K C.bor σ H O fp as ρ1 fun vs H1 => match vs with
      | [x] => tl K W σ H1 fun l H2 => th K W σ H2 fun u H3 => rSl K x l u H3 Q
      | _ => False) (fun x ρ' => XPost K C.bor σ H O fp x ρ' W) := by
    rw [evX_evA]
    have q := Rs.holds_bind q
    cases e : evX C a ρ with
    | bad => rw [e] at q; exact q
    | exc x ρ1 => rw [e] at q; exact q
    | ok x ρ1 =>
      rw [e] at q
      intro vs H1 O1 fp1 G st ar tm
      have q : Rs.Holds ((evO C lo ρ1).bind fun l ρ2 => (evO C hi ρ2).bind fun h ρ3 => match x.get ρ3 with
          | some d => Rs.ofO (slD d l h) ρ3
          | none => .bad) _ _ := q
      have fin : ∀ v, vs = [v] → (∀ H3 O3 ρ3 fp3 d, Stp K C.bor σ H1 O1 fp1 H3 O3 ρ3 fp3 → x.get ρ3 = some d → ∃ F, Rw K H3 O3 v d F) → (match vs with
          | [x] => tl K W σ H1 fun l H2 => th K W σ H2 fun u H3 => rSl K x l u H3 Q
          | _ => False) := by
        intro v ev hv
        subst ev
        refine hl K W σ H1 O1 ρ1 fp1 _ st.sit ((Rs.holds_bind q).imp (fun l ρ2 q => ?_) fun x ρ' q => q.after s.w st)
        intro H2 O2 fp2 st2
        refine hh K W σ H2 O2 ρ2 fp2 _ st2.sit ((Rs.holds_bind q).imp (fun u ρ3 q => ?_) fun x ρ' q => q.after s.w (st.trans s.w st2))
        intro H3 O3 fp3 st3
        split at q
        · rename_i d ed
          obtain ⟨y, ey, q⟩ := Rs.holds_ofO q
          obtain ⟨F, rv⟩ := hv H3 O3 ρ3 fp3 d (st2.trans st.sit.w st3) ed
          exact slD_ok ey st3.sit.w rv (EPost.newP q s.w ((st.trans s.w st2).trans s.w st3))
        · exact q.elim
      cases ar with
      | v r ar =>
        cases ar
        refine fin _ rfl fun H3 O3 ρ3 fp3 d st3 ed => ?_
        cases ed
        exact ⟨_, r.over st3 st.sit.sl tm fun x hx => List.mem_append_left _ hx⟩
      | s e' ar =>
        cases ar
        refine fin _ rfl fun H3 O3 ρ3 fp3 d st3 ed => ?_
        obtain ⟨v', e1, r⟩ := st3.sit.sl.rep _ d ed
        rw [e'] at e1
        cases e1
        exact ⟨_, r⟩
  have h2 := h K W σ H O ρ fp _ s q2
  exact h2
end
end Pv

/-! Pv, part N: and, or, not, if, chains. -/
namespace Pv
open PySem PySem.Spec L2
open PyProof.Rows hiding St

section
variable {C : Ctx} {L : Lib} {N : List Str} {sc : Scope} {k : Nat}
theorem evT_eq {e : E} {ρ : Env} : evT C e ρ = (ev C e ρ).bind fun d ρ1 => Rs.ofO (truthD d) ρ1 := rfl
/-- the operands of and, or: their tests one after another -/
def evBT (C : Ctx) (op : BoolOp) : Es → Env → Rs Bool := fun es ρ => (evB C op es ρ).bind fun d ρ1 => Rs.ofO (truthD d) ρ1
theorem evB_cons {op : BoolOp} {e e2 : E} {es : Es} {ρ : Env} : evB C op (.cons e (.cons e2 es)) ρ = (ev C e ρ).bind fun d ρ1 => match truthD d with
    | some b => if b = (match op with | .And => true | .Or => false) then evB C op (.cons e2 es) ρ1 else .ok d ρ1
    | none => .bad := by simp only [evB] <;> rfl
theorem boolVT {op : BoolOp} {es : Es} {pes : List Expr} (h : AllS (Snd C L N sc k) es pes) (ne : pes ≠ []) (pos : Pos) :
    (∃ t : TW TE, (∀ X W, Good L N sc C.B k X → Takes X W → PE X (.BoolOp op pes pos) (t X.K W)) ∧ SemV C.bor t (evB C op es)) ∧
    (∃ t : TW TT, (∀ X W, Good L N sc C.B k X → Takes X W → PW X (.BoolOp op pes pos) (t X.K W)) ∧ SemT C.bor t (evBT C op es)) := by
  induction h with
  | nil => exact absurd rfl ne
  | @cons e es pe pes ht hs hr ih =>
    obtain ⟨t, t1, t2⟩ := hs.v
    obtain ⟨u, u1, u2⟩ := hs.t
    cases hr with
    | nil =>
      refine ⟨⟨t, fun X W g tk => pe_one (t1 X W g tk), ?_⟩, ⟨u, fun X W g tk => ?_, ?_⟩⟩
      · intro K W σ H O ρ fp Q s hh
        exact t2 K W σ H O ρ fp Q s (by rw [evB] at hh; exact hh)
      · cases op with
        | And => exact pw_and1 (u1 X W g tk)
        | Or => exact pw_or1 (u1 X W g tk)
      · intro K W σ H O ρ fp Q s hh
        refine u2 K W σ H O ρ fp Q s ?_
        unfold evBT at hh
        rw [evB] at hh
        exact hh
    | @cons e2 es pe2 pes ht2 hs2 hr2 =>
      obtain ⟨⟨t', a1, a2⟩, u', b1, b2⟩ := ih (fun z => nomatch z)
      cases op with
      | And =>
        refine ⟨⟨fun K W => tAndT K (t K W) (t' K W), fun X W g tk => pe_andT (t1 X W g tk) (a1 X W g tk), ?_⟩, ⟨fun K W => tAnd (u K W) (u' K W), fun X W g tk => pw_and (u1 X W g tk) (b1 X W g tk), ?_⟩⟩
        · intro K W σ H O ρ fp Q s hh
          rw [evB_cons] at hh
          refine t2 K W σ H O ρ fp _ s ((Rs.holds_bind hh).imp (fun d ρ1 q => ?_) fun _ _ q => q)
          intro v H1 O1 fp1 G st r tm
          split at q
          · rename_i b eb
            refine ⟨b, tru_rw r eb, ?_⟩
            cases b with
            | true => exact a2 K W σ H1 O1 ρ1 fp1 Q st.sit (Rs.Holds.next s.w st q fun d ρ' q => q.later s.w st)
            | false => exact q v H1 O1 fp1 G st r tm
          · exact q.elim
        · intro K W σ H O ρ fp Q s hh
          unfold evBT at hh
          rw [evB_cons] at hh
          refine u2 K W σ H O ρ fp _ s ?_
          rw [evT_eq]
          cases e1 : ev C e ρ with
          | bad => rw [e1] at hh; exact hh
          | exc x ρ1 => rw [e1] at hh; exact hh
          | ok d ρ1 =>
            rw [e1] at hh
            cases e3 : truthD d with
            | none => simp only [Rs.bind, e3] at hh; exact hh.elim
            | some b =>
              cases b with
              | true =>
                simp only [Rs.bind, e3] at hh
                show Rs.Holds (Rs.ofO (truthD d) ρ1) _ _
                rw [e3]
                intro H1 O1 fp1 st
                exact b2 K W σ H1 O1 ρ1 fp1 Q st.sit (Rs.Holds.next s.w st hh fun d ρ' q => q.later s.w st)
              | false =>
                simp only [Rs.bind, e3] at hh
                show Rs.Holds (Rs.ofO (truthD d) ρ1) _ _
                rw [e3]
                have hh : Rs.Holds (Rs.ofO (truthD d) ρ1) (fun b ρ' => TPost K C.bor σ H O fp b ρ' Q) (fun x ρ' => XPost K C.bor σ H O fp x ρ' W) := hh
                rw [e3] at hh
                exact fun H1 O1 fp1 st => hh H1 O1 fp1 st
      | Or =>
        refine ⟨⟨fun K W => tOrT K (t K W) (t' K W), fun X W g tk => pe_orT (t1 X W g tk) (a1 X W g tk), ?_⟩, ⟨fun K W => tOr (u K W) (u' K W), fun X W g tk => pw_or (u1 X W g tk) (b1 X W g tk), ?_⟩⟩
        · intro K W σ H O ρ fp Q s hh
          rw [evB_cons] at hh
          refine t2 K W σ H O ρ fp _ s ((Rs.holds_bind hh).imp (fun d ρ1 q => ?_) fun _ _ q => q)
          intro v H1 O1 fp1 G st r tm
          split at q
          · rename_i b eb
            refine ⟨b, tru_rw r eb, ?_⟩
            cases b with
            | false => exact a2 K W σ H1 O1 ρ1 fp1 Q st.sit (Rs.Holds.next s.w st q fun d ρ' q => q.later s.w st)
            | true => exact q v H1 O1 fp1 G st r tm
          · exact q.elim
        · intro K W σ H O ρ fp Q s hh
          unfold evBT at hh
          rw [evB_cons] at hh
          refine u2 K W σ H O ρ fp _ s ?_
          rw [evT_eq]
          cases e1 : ev C e ρ with
          | bad => rw [e1] at hh; exact hh
          | exc x ρ1 => rw [e1] at hh; exact hh
          | ok d ρ1 =>
            rw [e1] at hh
            cases e3 : truthD d with
            | none => simp only [Rs.bind, e3] at hh; exact hh.elim
            | some b =>
              cases b with
              | false =>
                simp only [Rs.bind, e3] at hh
                show Rs.Holds (Rs.ofO (truthD d) ρ1) _ _
                rw [e3]
                intro H1 O1 fp1 st
                exact b2 K W σ H1 O1 ρ1 fp1 Q st.sit (Rs.Holds.next s.w st hh fun d ρ' q => q.later s.w st)
              | true =>
                simp only [Rs.bind, e3] at hh
                show Rs.Holds (Rs.ofO (truthD d) ρ1) _ _
                rw [e3]
                have hh : Rs.Holds (Rs.ofO (truthD d) ρ1) (fun b ρ' => TPost K C.bor σ H O fp b ρ' Q) (fun x ρ' => XPost K C.bor σ H O fp x ρ' W) := hh
                rw [e3] at hh
                exact fun H1 O1 fp1 st => hh H1 O1 fp1 st
theorem evBT_ev {op : BoolOp} {es : Es} {ρ : Env} : evT C (.bop op es) ρ = evBT C op es ρ := by
  unfold evT evBT
  rw [ev]
theorem snd_bop {op : BoolOp} {es : Es} {pes : List Expr} (h : AllS (Snd C L N sc k) es pes) (ne : pes ≠ []) (pos : Pos) : Snd C L N sc k (.bop op es) (.BoolOp op pes pos) := by
  obtain ⟨⟨t, t1, t2⟩, u, u1, u2⟩ := boolVT (op := op) h ne pos
  refine ⟨⟨t, t1, fun K W σ H O ρ fp Q s hh => t2 K W σ H O ρ fp Q s (by rw [ev] at hh; exact hh)⟩, ⟨u, fun X W g tk => (u1 X W g tk).pt, fun K W σ H O ρ fp Q s hh => u2 K W σ H O ρ fp Q s (by rw [evBT_ev] at hh; exact hh)⟩, fun i z => nomatch z⟩

theorem snd_nt {a : E} {pa : Expr} (h : Snd C L N sc k a pa) (pos : Pos) : Snd C L N sc k (.nt a) (.UnaryOp .Not pa pos) := by
  obtain ⟨t, t1, t2⟩ := h.v
  obtain ⟨u, u1, u2⟩ := h.t
  refine ⟨⟨fun K W => tNotT K (t K W), fun X W g tk => pe_notT (t1 X W g tk), ?_⟩, ⟨fun K W => tNot (u K W), fun X W g tk => pt_not (u1 X W g tk), ?_⟩, fun i z => nomatch z⟩
  · intro K W σ H O ρ fp Q s hh
    rw [ev] at hh
    refine t2 K W σ H O ρ fp _ s ((Rs.holds_bind hh).imp (fun d ρ1 q => ?_) fun _ _ q => q)
    intro v H1 O1 fp1 G st r tm
    obtain ⟨y, ey, q⟩ := Rs.holds_ofO q
    obtain ⟨b, eb, rfl⟩ := Option.map_eq_some_iff.mp ey
    exact ⟨b, tru_rw r eb, q _ H1 O1 fp1 [] st (.p (.bl _)) Tmp.nil⟩
  · intro K W σ H O ρ fp Q s hh
    unfold evT at hh
    rw [ev] at hh
    refine u2 K W σ H O ρ fp _ s ?_
    rw [evT_eq]
    cases e1 : ev C a ρ with
    | bad => rw [e1] at hh; exact hh
    | exc x ρ1 => rw [e1] at hh; exact hh
    | ok d ρ1 =>
      rw [e1] at hh
      show Rs.Holds (Rs.ofO (truthD d) ρ1) _ _
      have hh : Rs.Holds ((Rs.ofO ((truthD d).map fun b => D.p (.bool (!b))) ρ1).bind fun d ρ1 => Rs.ofO (truthD d) ρ1) _ _ := hh
      cases e3 : truthD d with
      | none => rw [e3] at hh; exact hh
      | some b =>
        rw [e3] at hh
        exact fun H1 O1 fp1 st => hh H1 O1 fp1 st
theorem snd_ite {c a b : E} {pc pa pb : Expr} (hc : Snd C L N sc k c pc) (ha : Snd C L N sc k a pa) (hb : Snd C L N sc k b pb) (pos : Pos) : Snd C L N sc k (.ite c a b) (.IfExp pc pa pb pos) := by
  obtain ⟨u, u1, u2⟩ := hc.t
  obtain ⟨t, t1, t2⟩ := ha.v
  obtain ⟨t', t1', t2'⟩ := hb.v
  obtain ⟨v, v1, v2⟩ := ha.t
  obtain ⟨v', v1', v2'⟩ := hb.t
  refine ⟨⟨fun K W => tIf (u K W) (t K W) (t' K W), fun X W g tk => pe_ifExp (u1 X W g tk) (t1 X W g tk) (t1' X W g tk), ?_⟩, ⟨fun K W σ H Q => u K W σ H fun b H1 => if b = true then v K W σ H1 Q else v' K W σ H1 Q, fun X W g tk => ?_, ?_⟩, fun i z => nomatch z⟩
  · intro K W σ H O ρ fp Q s hh
    rw [ev] at hh
    refine u2 K W σ H O ρ fp _ s ?_
    rw [evT_eq]
    cases e1 : ev C c ρ with
    | bad => rw [e1] at hh; exact hh
    | exc x ρ1 => rw [e1] at hh; exact hh
    | ok d ρ1 =>
      rw [e1] at hh
      show Rs.Holds (Rs.ofO (truthD d) ρ1) _ _
      cases e3 : truthD d with
      | none => simp only [Rs.bind, e3] at hh; exact hh.elim
      | some b =>
        simp only [Rs.bind, e3] at hh
        intro H1 O1 fp1 st
        cases b with
        | true => exact t2 K W σ H1 O1 ρ1 fp1 Q st.sit (Rs.Holds.next s.w st hh fun d ρ' q => q.later s.w st)
        | false => exact t2' K W σ H1 O1 ρ1 fp1 Q st.sit (Rs.Holds.next s.w st hh fun d ρ' q => q.later s.w st)
  · refine ⟨fun pins s σ H Q I q => ?_⟩
    have e : isTrue (.IfExp pc pa pb pos) X.env (eval (.IfExp pc pa pb pos) X.env) = (do
        if ← isTrue pc X.env (eval pc X.env) then isTrue pa X.env (eval pa X.env) else isTrue pb X.env (eval pb X.env)) := by rfl
    rw [e]
    refine wpAny_bind (thn ((u1 X W g tk).run pins s σ H _ I q) fun b s1 ⟨H1, I1, q1⟩ => ?_)
    cases b with
    | true => exact (v1 X W g tk).run pins s1 σ H1 Q I1 q1
    | false => exact (v1' X W g tk).run pins s1 σ H1 Q I1 q1
  · intro K W σ H O ρ fp Q s hh
    unfold evT at hh
    rw [ev] at hh
    refine u2 K W σ H O ρ fp _ s ?_
    rw [evT_eq]
    cases e1 : ev C c ρ with
    | bad => rw [e1] at hh; exact hh
    | exc x ρ1 => rw [e1] at hh; exact hh
    | ok d ρ1 =>
      rw [e1] at hh
      show Rs.Holds (Rs.ofO (truthD d) ρ1) _ _
      cases e3 : truthD d with
      | none => simp only [Rs.bind, e3] at hh; exact hh.elim
      | some b =>
        simp only [Rs.bind, e3] at hh
        intro H1 O1 fp1 st
        cases b with
        | true => exact v2 K W σ H1 O1 ρ1 fp1 Q st.sit (Rs.Holds.next s.w st hh fun d ρ' q => q.later s.w st)
        | false => exact v2' K W σ H1 O1 ρ1 fp1 Q st.sit (Rs.Holds.next s.w st hh fun d ρ' q => q.later s.w st)

/-! ### a op1 b op2 c -/
theorem semV_chain {o1 o2 : CmpOp} {a b c : E} {ta tb tc : TW TE} (ha : SemV C.bor ta (ev C a)) (hb : SemV C.bor tb (ev C b)) (hc : SemV C.bor tc (ev C c)) :
    SemV C.bor (fun K W => tChain (rCmp K o1) (rCmp K o2) (ta K W) (tb K W) (tc K W)) (ev C (.chain o1 o2 a b c)) := by
  intro K W σ H O ρ fp Q s hh
  rw [ev] at hh
  refine ha K W σ H O ρ fp _ s ((Rs.holds_bind hh).imp (fun da ρ1 q => ?_) fun _ _ q => q)
  intro v H1 O1 fp1 G1 st1 r1 tm1
  refine hb K W σ H1 O1 ρ1 fp1 _ st1.sit ((Rs.holds_bind q).imp (fun db ρ2 q => ?_) fun x ρ' q => q.after s.w st1)
  intro u H2 O2 fp2 G2 st2 r2 tm2
  have r1' := r1.over st2 st1.sit.sl tm1 fun _ z => z
  have st12 := st1.trans s.w st2
  split at q
  · rename_i ec
    have ev1 : prD (.cmp o1) [da, db] = some (.p (.bool true)) := by show (cmpD o1 da db).map _ = _; rw [ec]; rfl
    have vt := vat_m2 (vat_cmp (K := K) o1 ev1)
    refine vt H2 O2 [v, u] _ st2.sit.w (.cons ⟨_, r1'⟩ (.cons ⟨_, r2⟩ .nil)) ?_
    intro z H3 O3 Fd l w3 rz nd fr
    refine ⟨true, rw_bl rz, ?_⟩
    rw [if_pos rfl]
    have st3 : Stp K C.bor σ H2 O2 fp2 H3 O3 ρ2 fp2 := ⟨l.mono fun _ z => z.elim, ⟨w3, st2.sit.sl.mono l (fun _ z => z.elim) (fun _ _ z => z), st2.sit.bo⟩, fun _ z => .inl z⟩
    have st13 := st12.trans s.w st3
    refine hc K W σ H3 O3 ρ2 fp2 _ st3.sit ((Rs.holds_bind q).imp (fun dc ρ3 q => ?_) fun x ρ' q => q.after s.w st13)
    intro y H4 O4 fp4 G4 st4 r4 tm4
    obtain ⟨e, ee, q⟩ := Rs.holds_ofO q
    have vt2 := vat_m2 (vat_cmp (K := K) o2 (ds := [db, dc]) (d := e) ee)
    refine vt2 H4 O4 [u, y] Q st4.sit.w (.cons ⟨_, (r2.mono l (fun _ z => z.elim) fun _ _ z => z).over st4 st3.sit.sl tm2 fun _ z => z⟩ (.cons ⟨_, r4⟩ .nil)) (EPost.newP q s.w (st13.trans s.w st4))
  · rename_i ec
    have ev1 : prD (.cmp o1) [da, db] = some (.p (.bool false)) := by show (cmpD o1 da db).map _ = _; rw [ec]; rfl
    have vt := vat_m2 (vat_cmp (K := K) o1 ev1)
    refine vt H2 O2 [v, u] _ st2.sit.w (.cons ⟨_, r1'⟩ (.cons ⟨_, r2⟩ .nil)) ?_
    intro z H3 O3 Fd l w3 rz nd fr
    refine ⟨false, rw_bl rz, ?_⟩
    rw [if_neg Bool.false_ne_true]
    have st3 : Stp K C.bor σ H2 O2 fp2 H3 O3 ρ2 fp2 := ⟨l.mono fun _ z => z.elim, ⟨w3, st2.sit.sl.mono l (fun _ z => z.elim) (fun _ _ z => z), st2.sit.bo⟩, fun _ z => .inl z⟩
    exact q _ H3 O3 fp2 [] (st12.trans s.w st3) (.p (.bl _)) Tmp.nil
  · exact q.elim
theorem last_marks {o1 o2 : CmpOp} {b c : Expr} (h : top c = true) : lastMarks [o1, o2] [b, c] = false := by
  show behindInMarks o2 c = false
  exact no_marks h o2
theorem chain_bl {o1 o2 : CmpOp} {a b c : E} : ∀ ρ d ρ', ev C (.chain o1 o2 a b c) ρ = .ok d ρ' → ∃ x, d = .p (.bool x) := by
  intro ρ d ρ' h
  rw [ev] at h
  cases e1 : ev C a ρ with
  | bad => rw [e1] at h; cases h
  | exc x ρ1 => rw [e1] at h; cases h
  | ok da ρ1 =>
    rw [e1] at h
    cases e2 : ev C b ρ1 with
    | bad => simp only [Rs.bind, e2] at h; cases h
    | exc x ρ1 => simp only [Rs.bind, e2] at h; cases h
    | ok db ρ2 =>
      simp only [Rs.bind, e2] at h
      split at h
      · rename_i ec
        cases e3 : ev C c ρ2 with
        | bad => rw [e3] at h; cases h
        | exc x ρ1 => rw [e3] at h; cases h
        | ok dc ρ3 =>
          rw [e3] at h
          cases e4 : cmpD o2 db dc with
          | none => simp only [e4] at h; cases h
          | some x => simp only [e4] at h; cases h; exact ⟨x, rfl⟩
      · cases h; exact ⟨_, rfl⟩
      · cases h
theorem snd_chain {o1 o2 : CmpOp} {a b c : E} {pa pb pc : Expr} (ha : Snd C L N sc k a pa) (hb : Snd C L N sc k b pb) (hc : Snd C L N sc k c pc) (ht : top pc = true) (pos : Pos) : Snd C L N sc k (.chain o1 o2 a b c) (.Compare pa [o1, o2] [pb, pc] pos) := by
  obtain ⟨ta, a1, a2⟩ := ha.v
  obtain ⟨tb, b1, b2⟩ := hb.v
  obtain ⟨tc, c1, c2⟩ := hc.v
  have sv := semV_chain (o1 := o1) (o2 := o2) a2 b2 c2
  refine ⟨⟨_, fun X W g tk => pe_chain (op_cmp g.units o1) (op_cmp g.units o2) (a1 X W g tk) (b1 X W g tk) (c1 X W g tk) (last_marks ht), sv⟩,
    ⟨fun K W => tTest (tChain (rCmp K o1) (rCmp K o2) (ta K W) (tb K W) (tc K W)), fun X W g tk => pt_chain (op_cmp g.units o1) (op_cmp g.units o2) (a1 X W g tk) (b1 X W g tk) (c1 X W g tk) (last_marks ht), ?_⟩, fun i z => nomatch z⟩
  exact semT_bl sv chain_bl
end
end Pv

/-! Pv, part O: calls of the law's defs. -/
namespace Pv
open PySem PySem.Spec L2
open PyProof.Rows hiding St

section
variable {L : Lib} {N : List Str} {sc : Scope} {B : Nat → List D → CR} {k : Nat} {X : Cx}
theorem star_none {env : PySem.Env} {pos : Pos} : ∀ {es : List Expr}, (∀ e ∈ es, top e = true) → (backTo pos (starEach es env)).any (·.1) = false
  | [], _ => rfl
  | e :: es, h => by
    rw [not_star (h e List.mem_cons_self)]
    show (false || (backTo pos (starEach es env)).any (·.1)) = false
    rw [star_none fun x hx => h x (List.mem_cons_of_mem _ hx)]
    rfl
theorem kw_names {env : PySem.Env} {pos : Pos} : ∀ {kws : List Keyword} {ks : List Str}, kws.map (·.arg) = ks.map some →
    (backToKw pos (keywordEach kws env)).all (·.1.isSome) = true ∧ (backToKw pos (keywordEach kws env)).filterMap (·.1) = ks ∧ (backToKw pos (keywordEach kws env)).any (·.1.isNone) = false
  | [], [], _ => ⟨rfl, rfl, rfl⟩
  | [], _ :: _, h => by cases h
  | _ :: _, [], h => by cases h
  | ⟨a, v, p⟩ :: kws, x :: ks, h => by
    rw [List.map_cons, List.map_cons] at h
    injection h with h1 h2
    obtain ⟨a1, a2, a3⟩ := kw_names (env := env) (pos := pos) h2
    have h1 : a = some x := h1
    subst h1
    refine ⟨?_, ?_, ?_⟩
    · show (true && (backToKw pos (keywordEach kws env)).all (·.1.isSome)) = true
      rw [a1]; rfl
    · show x :: (backToKw pos (keywordEach kws env)).filterMap (·.1) = x :: ks
      rw [a2]
    · show (false || (backToKw pos (keywordEach kws env)).any (·.1.isNone)) = false
      rw [a3]; rfl
theorem PEs.pk {W : WX} : ∀ {kws : List Keyword} {ts : List (TW TE)}, PEs X W (kws.map (·.value)) ts → PK X kws (tAll X.K W ts)
  | [], _, .nil => pk_nil
  | ⟨_, _, _⟩ :: _, _, .cons h r => pk_cons h.2 (PEs.pk r)
theorem PEs.tops {W : WX} {es : List Expr} {ts : List (TW TE)} (h : PEs X W es ts) : ∀ e ∈ es, top e = true := by
  induction h with
  | nil => intro e z; cases z
  | cons a _ ih => intro e z; rcases List.mem_cons.mp z with rfl | z; exact a.1; exact ih e z
/-- what a call asks, the written values given -/
def rCal (K : PySem.W.Frag) (B : Nat → List D → CR) (f : Nat) (src : List (Option PD)) (E : XK) : RL := fun vs H Q => spB K B f src.length (fillV src vs) H Q E
def tCal (B : Nat → List D → CR) (f : Nat) (src : List (Option PD)) (ts us : List (TW TE)) : TW TE := fun K W σ H Q => tAll K W ts σ H fun vs H1 => vs.length = ts.length ∧ tAll K W us σ H1 fun ws H2 => ws.length = us.length ∧ rCal K B f src (fun c a H' => W c a σ H') (vs ++ ws) H2 Q
theorem run_cal {W : WX} {c : Cal} {pins : List (Addr × Obj)} {σ : St} {H : Hp} {s : Shared} {Q : VK} {us ws : List Value} {vs : List V} {fa : Addr} {fd : FuncData} {ps : List Str} (g : Good L N sc B k X) (tk : Takes X W)
    (F : Fg X.prog X.w X.K X.mg X.base k fa fd ps (spB X.K B c.f c.src.length)) (hb : CalBind X.K fd ps c) (I : Inv X pins σ H s) (r : Vals vs (us ++ ws)) (h1 : us.length = c.n) (h2 : ws.length = c.ks.length)
    (q : rCal X.K B c.f c.src (fun c a H' => W c a σ H') vs H Q) : wpAny (model X.prog X.w) X.A (call (.ref fa) us (c.ks.zip ws)) (EP X pins σ Q) X.xe s := by
  obtain ⟨zs, b, rz⟩ := hb s us ws vs I.kIn h1 h2 r
  refine wpAny_call (codeAny_mono (F.run X.A X.stack s H ⟨us, c.ks.zip ws⟩ zs (fillV c.src vs) Q _ g.gd g.room I.env0 rz b q) fun r s' hq => ?_)
  cases r with
  | error e => exact tk e s' (XE.of_call I (fun cls d H' h => h) hq)
  | ok fl =>
    cases fl with
    | ret u => exact I.after hq
    | next => exact False.elim hq
    | brk => exact False.elim hq
    | cont => exact False.elim hq
theorem pe_cal {W : WX} {c : Cal} {x : Str} {p cp : Pos} {pos : List Expr} {kws : List Keyword} {ts us : List (TW TE)} (g : Good L N sc B k X) (tk : Takes X W) (hc : c ∈ L.cal) (hx : c.name = x) (hn : c.n = pos.length) (hk : kws.map (·.arg) = c.ks.map some) (hgl : glB sc x = true)
    (p1 : PEs X W pos ts) (p2 : PEs X W (kws.map (·.value)) us) : PE X (.Call (.Name x p) pos kws cp) (tCal B c.f c.src ts us X.K W) := by
  obtain ⟨fa, fd, ps, hm, hkp, F, hb⟩ := (g.cal c hc).ex
  obtain ⟨gx, hdb, _⟩ := g.gl hgl
  rw [hx] at hm
  have pa := p1.pa
  have pk := p2.pk
  obtain ⟨k1, k2, k3⟩ := kw_names (env := X.env) (pos := cp) hk
  have hkl : c.ks.length = us.length := by
    have e1 := congrArg List.length hk
    have e2 := Paired.length p2
    rw [List.length_map, List.length_map] at e1
    rw [List.length_map] at e2
    omega
  have hpl : pos.length = ts.length := Paired.length p1
  refine ⟨fun pins s σ H Q I q => ?_⟩
  refine wpAny_Call_Name_kw (ld_glob I gx hm ?_ hdb)
  have runK : ∀ vals s1 vs H1, Inv X pins σ H1 s1 → Vals vs vals → vs.length = ts.length → (tAll X.K W us σ H1 fun ws H2 => ws.length = us.length ∧ rCal X.K B c.f c.src (fun c a H' => W c a σ H') (vs ++ ws) H2 Q) →
      wpAny (model X.prog X.w) X.A (evalAll ((backToKw cp (keywordEach kws X.env)).map (·.2))) (fun ws s2 => X.K.In s2.heap ∧ wpAny (model X.prog X.w) X.A (call (.ref fa) vals (((backToKw cp (keywordEach kws X.env)).filterMap (·.1)).zip ws)) (EP X pins σ Q) X.xe s2) X.xe s1 := by
    intro vals s1 vs H1 I1 r1 hl q1
    rw [k2]
    refine thn (pk.run cp pins s1 σ H1 _ I1 q1) fun ws s2 ⟨zs, H2, I2, rz, hz, q2⟩ => ⟨I2.kIn, ?_⟩
    exact run_cal g tk F hb I2 (r1.append rz) (by rw [← r1.length]; omega) (by rw [← rz.length]; omega) q2
  cases pos with
  | nil =>
    refine PySem.W.callWith_KW0 (h₀ := X.base) I.ok.mod.kin hkp k1 ?_ (by rw [k3]; rfl)
    have e : ts = [] := by cases p1; rfl
    subst e
    exact runK [] s [] H I .nil rfl q.2
  | cons e es =>
    have tops := p1.tops
    refine PySem.W.callWith_KW (h₀ := X.base) I.ok.mod.kin hkp k1 (thn (pa.run cp pins s σ H _ I q) fun vals s1 ⟨vs, H1, I1, r1, hl, q1⟩ => ?_) (by rw [star_none tops, k3]; rfl) (not_star (tops e List.mem_cons_self))
    exact runK vals s1 vs H1 I1 r1 hl q1
end
end Pv

/-! Pv, part O2: calls, by plain values. -/
namespace Pv
open PySem PySem.Spec L2
open PyProof.Rows hiding St

section
variable {K : PySem.W.Frag} {bor : Nat → Bool} {σ : St} {H H1 H2 : Hp} {O O1 O2 : Addr → Prop} {ρ ρ1 ρ2 : Env} {fp fp1 fp2 : Fp} {G G1 G2 : List Addr}
theorem nodupB_iff : ∀ {l : List Nat}, nodupB l = true → l.Nodup
  | [], _ => List.nodup_nil
  | i :: r, h => by
    rw [nodupB] at h
    obtain ⟨h1, h2⟩ := and2 h
    exact List.nodup_cons.mpr ⟨fun z => by simp at h1; exact h1 z, nodupB_iff h2⟩
abbrev lentL (ρ : Env) (as : List Arg) : List Nat := (lent ρ as).filterMap id
/-- the arguments, with all that they own -/
theorem args_pr {vs : List V} {as : List Arg} (ar : ARw K H O σ vs as G) (s : Sl K H O σ ρ fp) : ∀ {ds : List D}, argsGet ρ as = some ds → G.Nodup → (∀ a ∈ G, ¬ FF fp a) → (lentL ρ as).Nodup →
    ∃ F, PRw K H O vs ds F ∧ F.Nodup ∧ ∀ a ∈ F, a ∈ G ∨ ∃ i, i ∈ lentL ρ as ∧ a ∈ fp i := by
  induction ar with
  | nil => intro ds e _ _ _; cases e; exact ⟨[], .nil, List.nodup_nil, fun _ z => nomatch z⟩
  | @v v d F G vs as r _ ih =>
    intro ds e nd dj nl
    unfold argsGet at e
    split at e
    · rename_i d' ds' e1 e2
      cases e1
      cases e
      obtain ⟨n1, n2, n3⟩ := List.nodup_append.mp nd
      obtain ⟨F', p1, p2, p3⟩ := ih e2 n2 (fun a h => dj a (List.mem_append_right _ h)) nl
      refine ⟨F ++ F', .cons r p1, List.nodup_append.mpr ⟨n1, p2, fun x hx y hy e => ?_⟩, fun a h => ?_⟩
      · subst e
        rcases p3 x hy with z | ⟨i, _, z⟩
        · exact n3 x hx x z rfl
        · exact dj x (List.mem_append_left _ hx) ⟨i, z⟩
      · rcases List.mem_append.mp h with h | h
        · exact .inl (List.mem_append_left _ h)
        · rcases p3 a h with z | z
          · exact .inl (List.mem_append_right _ z)
          · exact .inr z
    · cases e
  | @s v i G vs as hv _ ih =>
    intro ds e nd dj nl
    unfold argsGet at e
    split at e
    · rename_i d ds' e1 e2
      cases e
      obtain ⟨v', hv', r⟩ := s.rep i d e1
      rw [hv] at hv'; cases hv'
      have el : lent ρ (.s i :: as) = (if d.isOwn then some i else none) :: lent ρ as := by
        show (match ρ.at_ i with | some d => if d.isOwn then some i else none | none => none) :: lent ρ as = _
        rw [show ρ.at_ i = some d from e1]
      by_cases ho : d.isOwn = true
      · have el2 : lentL ρ (.s i :: as) = i :: lentL ρ as := by unfold lentL; rw [el, if_pos ho]; rfl
        rw [el2] at nl ⊢
        obtain ⟨m1, m2⟩ := List.nodup_cons.mp nl
        obtain ⟨F', p1, p2, p3⟩ := ih e2 nd dj m2
        refine ⟨fp i ++ F', .cons r p1, List.nodup_append.mpr ⟨s.nd i, p2, fun x hx y hy e => ?_⟩, fun a h => ?_⟩
        · subst e
          rcases p3 x hy with z | ⟨j, hj, z⟩
          · exact dj x z ⟨i, hx⟩
          · exact s.dj i j (fun e => m1 (by rw [e]; exact hj)) x hx z
        · rcases List.mem_append.mp h with h | h
          · exact .inr ⟨i, List.mem_cons_self, h⟩
          · rcases p3 a h with z | ⟨j, hj, z⟩
            · exact .inl z
            · exact .inr ⟨j, List.mem_cons_of_mem _ hj, z⟩
      · have el2 : lentL ρ (.s i :: as) = lentL ρ as := by unfold lentL; rw [el, if_neg ho]; rfl
        rw [el2] at nl ⊢
        obtain ⟨F', p1, p2, p3⟩ := ih e2 nd dj nl
        exact ⟨[] ++ F', .cons (rw_plain r (by simpa using ho)).2.2 p1, p2, p3⟩
    · cases e
theorem fill0_pr : ∀ {src : List (Option PD)} {vs : List V} {ds ps : List D} {F : List Addr}, PRw K H O vs ds F → fill0 src ds = some ps → (∀ d, some d ∈ src → dfP d = true) → PRw K H O (fillV0 src vs) ps F ∧ (fillV0 src vs).length = src.length
  | [], _, _, _, _, .nil, e, _ => by cases e; exact ⟨.nil, rfl⟩
  | [], _, _, _, _, .cons _ _, e, _ => by cases e
  | none :: s, _, _, _, _, .nil, e, _ => by cases e
  | none :: s, _, _, _, _, .cons r t, e, h => by
    rw [fill0] at e
    obtain ⟨m, e1, rfl⟩ := Option.map_eq_some_iff.mp e
    obtain ⟨a, b⟩ := fill0_pr t e1 fun d hd => h d (List.mem_cons_of_mem _ hd)
    exact ⟨.cons r a, by show (fillV0 s _).length + 1 = _; rw [b]; rfl⟩
  | some x :: s, vs, ds, ps, F, r, e, h => by
    rw [fill0] at e
    obtain ⟨m, e1, rfl⟩ := Option.map_eq_some_iff.mp e
    obtain ⟨a, b⟩ := fill0_pr r e1 fun d hd => h d (List.mem_cons_of_mem _ hd)
    have hx := h x List.mem_cons_self
    refine ⟨?_, by show (fillV0 s _).length + 1 = _; rw [b]; rfl⟩
    have c : ∀ v : V, Rp K H O v x → PRw K H O (v :: fillV0 s vs) (.p x :: m) F := fun v rv => .cons (F := []) (.p rv) a
    cases x with
    | none => exact c _ .non
    | bool b => exact c _ (.bl b)
    | int i => exact c _ (.int i)
    | str z => exact c _ (.str z)
    | _ => cases hx
theorem unfill0_back : ∀ {src : List (Option PD)} {vs : List V} {ds ps es : List D} {F Gb : List Addr}, PRw K H1 O1 vs ds F → fill0 src ds = some ps → Back K H O (fillV0 src vs) ps es Gb → Back K H O vs ds (unfill0 src es) Gb
  | [], _, _, _, _, _, _, .nil, e, b => by cases e; cases b; exact .nil
  | [], _, _, _, _, _, _, .cons _ _, e, _ => by cases e
  | none :: s, _, _, _, _, _, _, .nil, e, _ => by cases e
  | none :: s, _, _, _, _, _, _, .cons r t, e, b => by
    rw [fill0] at e
    obtain ⟨m, e1, rfl⟩ := Option.map_eq_some_iff.mp e
    cases b with
    | own h q b => exact .own h q (unfill0_back t e1 b)
    | pl h b => exact .pl h (unfill0_back t e1 b)
  | some x :: s, vs, ds, ps, es, F, Gb, r, e, b => by
    rw [fill0] at e
    obtain ⟨m, e1, rfl⟩ := Option.map_eq_some_iff.mp e
    cases b with
    | own h q b => cases h
    | pl h b => exact unfill0_back (src := s) r e1 b
theorem marks_len : ∀ {src : List (Option PD)} {js : List Nat}, marks src = some js → js.length = src.length
  | [], _, h => by cases h; rfl
  | o :: r, js, h => by
    rw [marks] at h
    split at h
    · rename_i e1 e2
      cases h
      rw [List.length_cons, List.length_cons, marks_len e2]
    · cases h
theorem perm_len {src : List (Option PD)} {js : List Nat} (h : permOf src = some js) : js.length = src.length := by
  cases src with
  | nil => cases h
  | cons o r => exact marks_len h
theorem pr_plain : ∀ {vs : List V} {ds : List D} {F : List Addr}, PRw K H O vs ds F → ds.all D.isP = true → F = [] ∧ ∀ (j : Nat) d, ds[j]? = some d → ∃ v, vs[j]? = some v ∧ Rw K H O v d []
  | _, _, _, .nil, _ => ⟨rfl, fun j d h => by simp at h⟩
  | _, _, _, .cons (v := v) (d := d) r t, h => by
    rw [List.all_cons, Bool.and_eq_true] at h
    obtain ⟨a, b⟩ := pr_plain t h.2
    subst a
    cases d with
    | p x =>
      cases r with
      | p q =>
        refine ⟨rfl, fun j d hj => ?_⟩
        cases j with
        | zero => simp at hj; subst hj; exact ⟨v, rfl, .p q⟩
        | succ j => exact b j d (by simpa using hj)
    | _ => cases h.1
theorem pick_pr {vs : List V} {ds : List D} (h : ∀ (j : Nat) d, ds[j]? = some d → ∃ v, vs[j]? = some v ∧ Rw K H O v d []) : ∀ {js : List Nat} {ps : List D}, pickD ds js = some ps → PRw K H O (js.map fun j => (vs[j]?).getD .non) ps []
  | [], _, e => by cases e; exact .nil
  | j :: js, ps, e => by
    rw [pickD] at e
    split at e
    · rename_i d r e1 e2
      cases e
      obtain ⟨v, h1, h2⟩ := h j d e1
      rw [List.map_cons, h1]
      exact .cons (F := []) h2 (pick_pr h e2)
    · cases e
theorem pick_isP {ds : List D} (h : ds.all D.isP = true) : ∀ {js : List Nat} {ps : List D}, pickD ds js = some ps → ps.all D.isP = true ∧ ps.length = js.length
  | [], _, e => by cases e; exact ⟨rfl, rfl⟩
  | j :: js, ps, e => by
    rw [pickD] at e
    split at e
    · rename_i d r e1 e2
      cases e
      obtain ⟨a, b⟩ := pick_isP h e2
      exact ⟨by rw [List.all_cons, a, Bool.and_true]; exact List.all_eq_true.mp h d (List.mem_of_getElem? e1), by rw [List.length_cons, List.length_cons, b]⟩
    · cases e
theorem back_plain : ∀ {vs : List V} {ds es : List D} {G : List Addr}, Back K H O vs ds es G → ds.all D.isP = true → G = [] ∧ es.length = ds.length
  | _, _, _, _, .nil, _ => ⟨rfl, rfl⟩
  | _, _, _, _, .own (d := d) h _ _, q => by
    rw [List.all_cons, Bool.and_eq_true] at q
    cases d with
    | p _ => cases h
    | _ => cases q.1
  | _, _, _, _, .pl _ b, q => by
    rw [List.all_cons, Bool.and_eq_true] at q
    obtain ⟨a, e⟩ := back_plain b q.2
    exact ⟨a, by rw [List.length_cons, List.length_cons, e]⟩
theorem plain_back : ∀ {vs : List V} {ds es : List D} {F : List Addr}, PRw K H1 O1 vs ds F → ds.all D.isP = true → es.length = ds.length → Back K H O vs ds es []
  | _, _, [], _, .nil, _, _ => .nil
  | _, _, _ :: _, _, .nil, _, e => by cases e
  | _, _, [], _, .cons _ _, _, e => by cases e
  | _, _, _ :: _, _, .cons (d := d) _ t, q, e => by
    rw [List.all_cons, Bool.and_eq_true] at q
    refine .pl ?_ (plain_back t q.2 (by simpa using e))
    cases d with
    | p _ => rfl
    | _ => cases q.1
theorem fill_pr {src : List (Option PD)} {vs : List V} {ds ps : List D} {F : List Addr} (r : PRw K H O vs ds F) (e : fill src ds = some ps) (h : permOf src = none → ∀ d, some d ∈ src → dfP d = true) : PRw K H O (fillV src vs) ps F ∧ (fillV src vs).length = src.length := by
  unfold fill at e
  unfold fillV
  cases q : permOf src with
  | none => rw [q] at e; exact fill0_pr r e (h q)
  | some js =>
    rw [q] at e
    dsimp only at e ⊢
    split at e
    · rename_i c
      obtain ⟨c1, c2⟩ := and2 c
      obtain ⟨a, b⟩ := pr_plain r c1
      subst a
      exact ⟨pick_pr b e, by rw [List.length_map, perm_len q]⟩
    · cases e
theorem unfill_back {src : List (Option PD)} {vs : List V} {ds ps es : List D} {F Gb : List Addr} (r : PRw K H1 O1 vs ds F) (e : fill src ds = some ps) (b : Back K H O (fillV src vs) ps es Gb) : Back K H O vs ds (unfill src es) Gb := by
  unfold fill at e
  unfold fillV at b
  unfold unfill
  cases q : permOf src with
  | none => rw [q] at e b; exact unfill0_back r e b
  | some js =>
    rw [q] at e b
    dsimp only at e b ⊢
    split at e
    · rename_i c
      obtain ⟨c1, c2⟩ := and2 c
      obtain ⟨i1, i2⟩ := pick_isP c1 e
      obtain ⟨g1, g2⟩ := back_plain b i1
      subst g1
      exact plain_back r c1 (by rw [g2, i2]; exact of_decide_eq_true c2)
    · cases e
theorem wipe_at {l : List Nat} : ∀ {ρ : Env} {j : Nat}, j ∉ l → (wipeE ρ l).at_ j = ρ.at_ j := by
  induction l with
  | nil => intro ρ j _; rfl
  | cons i l ih =>
    intro ρ j h
    show Env.at_ ((wipeE ρ l).set i none) j = _
    rw [at_set_ne (fun e => h (by rw [e]; exact List.mem_cons_self)), ih fun z => h (List.mem_cons_of_mem _ z)]
theorem wipe_len {l : List Nat} : ∀ {ρ : Env}, (wipeE ρ l).length = ρ.length := by
  induction l with
  | nil => intro ρ; rfl
  | cons i l ih => intro ρ; show ((wipeE ρ l).set i none).length = _; rw [List.length_set, ih]
def fpWipe (fp : Fp) (l : List Nat) : Fp := fun j => if j ∈ l then [] else fp j
theorem Sl.wiped (s : Sl K H O σ ρ fp) : ∀ l : List Nat, Sl K H O σ (wipeE ρ l) (fpWipe fp l)
  | [] => by
    have : fpWipe fp [] = fp := by funext j; unfold fpWipe; rw [if_neg List.not_mem_nil]
    rw [this]; exact s
  | i :: l => by
    have h := (Sl.wiped s l).drop (i := i)
    have : fpSet (fpWipe fp l) i [] = fpWipe fp (i :: l) := by
      funext j
      unfold fpSet fpWipe
      by_cases e : j = i
      · rw [if_pos e, if_pos (by rw [e]; exact List.mem_cons_self)]
      · rw [if_neg e]
        by_cases hl : j ∈ l
        · rw [if_pos hl, if_pos (List.mem_cons_of_mem _ hl)]
        · rw [if_neg hl, if_neg fun z => (List.mem_cons.mp z).elim e hl]
    rw [this] at h
    exact h
theorem ff_wipe {l : List Nat} {a : Addr} (h : FF (fpWipe fp l) a) : ∃ j, j ∉ l ∧ a ∈ fp j := by
  obtain ⟨j, h⟩ := h
  unfold fpWipe at h
  split at h
  · cases h
  · rename_i hl; exact ⟨j, hl, h⟩
/-- what was lent is back -/
theorem give_ok {vs : List V} {as : List Arg} (ar : ARw K H1 O1 σ vs as G) : ∀ {ds es : List D} {Gb : List Addr} {ρw : Env} {fpw : Fp}, argsGet ρ as = some ds → Back K H O vs ds es Gb → Sl K H O σ ρw fpw → (∀ i ∈ lentL ρ as, i < ρw.length) → Gb.Nodup →
    (∀ a ∈ Gb, ¬ FF fpw a) → (lentL ρ as).Nodup → ∃ fp', Sl K H O σ (giveBack (lent ρ as) es ρw) fp' ∧ (∀ a, FF fp' a → FF fpw a ∨ a ∈ Gb) ∧ (∀ j, j ∉ lentL ρ as → (giveBack (lent ρ as) es ρw).at_ j = ρw.at_ j) ∧ ∀ j, j ∈ lentL ρ as → (giveBack (lent ρ as) es ρw).at_ j ≠ none := by
  induction ar with
  | nil =>
    intro ds es Gb ρw fpw e b s _ _ _ _
    cases e
    cases b
    exact ⟨fpw, s, fun _ h => .inl h, fun _ _ => rfl, fun _ z => nomatch z⟩
  | @v v d F G vs as r _ ih =>
    intro ds es Gb ρw fpw e b s hl nd dj nl
    unfold argsGet at e
    split at e
    · rename_i d' ds' e1 e2
      cases e
      cases b with
      | own h q b =>
        obtain ⟨_, n2, _⟩ := List.nodup_append.mp nd
        obtain ⟨fp', a1, a2, a3, a4⟩ := ih e2 b s hl n2 (fun a h => dj a (List.mem_append_right _ h)) nl
        exact ⟨fp', a1, fun a h => (a2 a h).imp id fun z => List.mem_append_right _ z, a3, a4⟩
      | pl h b => exact ih e2 b s hl nd dj nl
    · cases e
  | @s v i G vs as hv _ ih =>
    intro ds es Gb ρw fpw e b s hl nd dj nl
    unfold argsGet at e
    split at e
    · rename_i d ds' e1 e2
      cases e
      have el : lent ρ (.s i :: as) = (if d.isOwn then some i else none) :: lent ρ as := by
        show (match ρ.at_ i with | some d => if d.isOwn then some i else none | none => none) :: lent ρ as = _
        rw [show ρ.at_ i = some d from e1]
      by_cases ho : d.isOwn = true
      · have el2 : lentL ρ (.s i :: as) = i :: lentL ρ as := by unfold lentL; rw [el, if_pos ho]; rfl
        rw [el2] at nl hl ⊢
        rw [el, if_pos ho]
        obtain ⟨m1, m2⟩ := List.nodup_cons.mp nl
        cases b with
        | pl h b => rw [ho] at h; cases h
        | @own _ _ e' F' G' _ _ es' h q b =>
          obtain ⟨n1, n2, n3⟩ := List.nodup_append.mp nd
          have hi := hl i List.mem_cons_self
          have s2 := s.set (i := i) hi q n1 fun j _ a ha z => dj a (List.mem_append_left _ ha) ⟨j, z⟩
          have e3 : σ.set i (some v) = σ := by
            obtain ⟨hlt, hg⟩ := List.getElem?_eq_some_iff.mp hv
            rw [← hg, List.set_getElem_self]
          rw [e3] at s2
          have lp : (ρw.put i e').length = ρw.length := by unfold Env.put; rw [List.length_set]
          obtain ⟨fp', a1, a2, a3, a4⟩ := ih (ρw := ρw.put i e') e2 b s2 (fun j hj => by rw [lp]; exact hl j (List.mem_cons_of_mem _ hj)) n2 (fun a ha z => by
            rcases FF_set z with z | ⟨j, _, z⟩
            · exact n3 a z a ha rfl
            · exact dj a (List.mem_append_right _ ha) ⟨j, z⟩) m2
          refine ⟨fp', a1, fun a h => ?_, fun j hj => ?_, fun j hj => ?_⟩
          · rcases a2 a h with z | z
            · rcases FF_set z with z | ⟨j, _, z⟩
              · exact .inr (List.mem_append_left _ z)
              · exact .inl ⟨j, z⟩
            · exact .inr (List.mem_append_right _ z)
          · rw [show giveBack (some i :: lent ρ as) (e' :: es') ρw = giveBack (lent ρ as) es' (ρw.put i e') from rfl, a3 j fun z => hj (List.mem_cons_of_mem _ z), at_put_ne fun e => hj (by rw [← e]; exact List.mem_cons_self)]
          · rw [show giveBack (some i :: lent ρ as) (e' :: es') ρw = giveBack (lent ρ as) es' (ρw.put i e') from rfl]
            by_cases hj2 : j ∈ lentL ρ as
            · exact a4 j hj2
            · rw [a3 j hj2]
              rcases List.mem_cons.mp hj with rfl | hj
              · rw [at_put_self hi]; exact fun z => nomatch z
              · exact absurd hj hj2
      · have el2 : lentL ρ (.s i :: as) = lentL ρ as := by unfold lentL; rw [el, if_neg ho]; rfl
        rw [el2] at nl hl ⊢
        rw [el, if_neg ho]
        cases b with
        | own h q b => exact absurd h ho
        | pl h b => exact ih e2 b s hl nd dj nl
    · cases e
theorem lent_some {as : List Arg} : ∀ {i : Nat}, i ∈ lentL ρ as → ∃ d, ρ.at_ i = some d ∧ d.isOwn = true := by
  induction as with
  | nil => intro i h; cases h
  | cons a as ih =>
    intro i h
    cases a with
    | v d => exact ih h
    | s j =>
      cases e : ρ.at_ j with
      | none =>
        have : lentL ρ (.s j :: as) = lentL ρ as := by unfold lentL; rw [lent, e]; rfl
        rw [this] at h; exact ih h
      | some d =>
        by_cases ho : d.isOwn = true
        · have : lentL ρ (.s j :: as) = j :: lentL ρ as := by unfold lentL; rw [lent, e]; simp only [if_pos ho]; rfl
          rw [this] at h
          rcases List.mem_cons.mp h with rfl | h
          · exact ⟨d, e, ho⟩
          · exact ih h
        · have : lentL ρ (.s j :: as) = lentL ρ as := by unfold lentL; rw [lent, e]; simp only [if_neg ho]; rfl
          rw [this] at h; exact ih h
theorem ARw.len {vs : List V} {as : List Arg} (r : ARw K H O σ vs as G) : vs.length = as.length := by
  induction r with
  | nil => rfl
  | v _ _ ih => rw [List.length_cons, List.length_cons, ih]
  | s _ _ ih => rw [List.length_cons, List.length_cons, ih]
theorem ARw.app {vs : List V} {as : List Arg} (r : ARw K H O σ vs as G) {ws : List V} {bs : List Arg} (r2 : ARw K H O σ ws bs G2) : ARw K H O σ (vs ++ ws) (as ++ bs) (G ++ G2) := by
  induction r with
  | nil => exact r2
  | v q _ ih => rw [List.append_assoc]; exact .v q ih
  | s q _ ih => exact .s q ih
end

section
variable {C : Ctx} {L : Lib} {N : List Str} {sc : Scope} {k : Nat}
theorem evA_len : ∀ {es : Es} {ρ : Env} {as : List Arg} {ρ' : Env}, evA C es ρ = .ok as ρ' → as.length = es.len
  | .nil, ρ, as, ρ', h => by rw [evA] at h; cases h; rfl
  | .cons e es, ρ, as, ρ', h => by
    by_cases hv : ∃ i, e = .var i
    · obtain ⟨i, rfl⟩ := hv
      rw [evA] at h
      split at h
      · cases e2 : evA C es ρ with
        | bad => rw [e2] at h; cases h
        | exc x r => rw [e2] at h; cases h
        | ok bs r => rw [e2] at h; cases h; rw [List.length_cons, evA_len e2]; rfl
      · cases h
    · rw [evA_cons fun i z => hv ⟨i, z⟩] at h
      cases e1 : ev C e ρ with
      | bad => rw [e1] at h; cases h
      | exc x r => rw [e1] at h; cases h
      | ok d r =>
        rw [e1] at h
        simp only [Rs.bind] at h
        cases e2 : evA C es r with
        | bad => rw [e2] at h; cases h
        | exc x r => rw [e2] at h; cases h
        | ok bs r => rw [e2] at h; cases h; rw [List.length_cons, evA_len e2]; rfl
theorem semV_call {f : Nat} {src : List (Option PD)} {es kes : Es} {ts us : List (TW TE)} (hd : permOf src = none → ∀ d, some d ∈ src → dfP d = true) (h : SemA C.bor (fun K W => tAll K W ts) (evA C es)) (h' : SemA C.bor (fun K W => tAll K W us) (evA C kes)) (l1 : es.len = ts.length) (l2 : kes.len = us.length) :
    SemV C.bor (tCal C.B f src ts us) (ev C (.call f src es kes)) := by
  intro K W σ H O ρ fp Q s hh
  rw [ev] at hh
  have hh := Rs.holds_bind hh
  refine h K W σ H O ρ fp _ s ?_
  cases e1 : evA C es ρ with
  | bad => rw [e1] at hh; exact hh
  | exc x ρ1 => rw [e1] at hh; exact hh
  | ok as ρ1 =>
    rw [e1] at hh
    intro vs H1 O1 fp1 G1 st1 ar1 tm1
    refine ⟨by rw [ar1.len, evA_len e1, l1], ?_⟩
    have hh := Rs.holds_bind (show Rs.Holds ((evA C kes ρ1).bind fun bs ρ2 => doCall C f src (as ++ bs) ρ2) _ _ from hh)
    refine h' K W σ H1 O1 ρ1 fp1 _ st1.sit ?_
    cases e2 : evA C kes ρ1 with
    | bad => rw [e2] at hh; exact hh
    | exc x ρ2 => rw [e2] at hh; exact XPost.after hh s.w st1
    | ok bs ρ2 =>
      rw [e2] at hh
      intro ws H2 O2 fp2 G2 st2 ar2 tm2
      refine ⟨by rw [ar2.len, evA_len e2, l2], ?_⟩
      have hh : Rs.Holds (doCall C f src (as ++ bs) ρ2) _ _ := hh
      have st := st1.trans s.w st2
      have ar := (ar1.mono st2.le st1.sit.sl.own fun a ha => tm1.dj a ha).app ar2
      have tm := Tmp.seq st1 tm1 ar1.own st2 tm2
      generalize as ++ bs = cs at hh ar
      generalize vs ++ ws = xs at ar ⊢
      generalize G1 ++ G2 = G at ar tm
      unfold doCall at hh
      cases ea : argsGet ρ2 cs with
      | none => rw [ea] at hh; exact hh.elim
      | some ds =>
        rw [ea] at hh
        dsimp only at hh
        cases ef : fill src ds with
        | none => rw [ef] at hh; exact hh.elim
        | some ps =>
          rw [ef] at hh
          dsimp only at hh
          split at hh
          · rename_i hnd
            have nl := nodupB_iff hnd
            obtain ⟨F, pr, nF, hF⟩ := args_pr ar st2.sit.sl ea tm.nd tm.dj nl
            obtain ⟨pf, lf⟩ := fill_pr pr ef hd
            refine ⟨O2, ps, F, st2.sit.w, pf, nF, lf, ?_⟩
            -- behind the call
            have frF : ∀ x ∈ F, FF fp x ∨ H x = none := fun x hx => by
              rcases hF x hx with z | ⟨i, _, z⟩
              · exact tm.fr x z
              · exact st.fr x ⟨i, z⟩
            have sw := st2.sit.sl.wiped (lentL ρ2 cs)
            have dF : ∀ x, FF (fpWipe fp2 (lentL ρ2 cs)) x → x ∉ F := fun x hx z => by
              obtain ⟨j, hj, hxj⟩ := ff_wipe hx
              rcases hF x z with q | ⟨i, hi, q⟩
              · exact tm.dj x q ⟨j, hxj⟩
              · exact st2.sit.sl.dj j i (fun e => hj (by rw [e]; exact hi)) x hxj q
            have after : ∀ {H' : Hp} {O' : Addr → Prop} {es' : List D} {Gb Fd : List Addr}, Le (fun a => a ∈ F) H2 O2 H' O' → Wok H' O' → Back K H' O' (fillV src xs) ps es' Gb → (Fd ++ Gb).Nodup → (∀ a ∈ Fd ++ Gb, a ∈ F ∨ H2 a = none) →
                ∃ fp', Stp K C.bor σ H O fp H' O' (giveBack (lent ρ2 cs) (unfill src es') (wipeE ρ2 (lentL ρ2 cs))) fp' ∧ Tmp H fp fp' Fd := by
              intro H' O' es' Gb Fd le w' bk nd fr
              obtain ⟨n1, n2, n3⟩ := List.nodup_append.mp nd
              have sw' : Sl K H' O' σ (wipeE ρ2 (lentL ρ2 cs)) (fpWipe fp2 (lentL ρ2 cs)) := sw.mono le pr.own dF
              have far : ∀ a ∈ Fd ++ Gb, ¬ FF (fpWipe fp2 (lentL ρ2 cs)) a := fun a ha z => by
                rcases fr a ha with q | q
                · exact dF a z q
                · exact wok_some st2.sit.w (sw.own a z) q
              obtain ⟨fp', g1, g2, g3, g4⟩ := give_ok (ρ := ρ2) ar ea (unfill_back pr ef bk) sw' (fun i hi => by
                rw [wipe_len]
                obtain ⟨d, hd, _⟩ := lent_some hi
                exact at_lt hd) n2 (fun a ha => far a (List.mem_append_right _ ha)) nl
              refine ⟨fp', ⟨st.le.trans le frF s.w, ⟨w', g1, fun j hj => ?_⟩, fun a ha => ?_⟩, ⟨n1, fun a ha z => ?_, fun a ha => ?_⟩⟩
              · by_cases hl : j ∈ lentL ρ2 cs
                · exact g4 j hl
                · rw [g3 j hl, wipe_at hl]; exact st2.sit.bo j hj
              · rcases g2 a ha with z | z
                · obtain ⟨j, _, hj⟩ := ff_wipe z
                  exact st.fr a ⟨j, hj⟩
                · rcases fr a (List.mem_append_right _ z) with q | q
                  · exact frF a q
                  · exact .inr (none_back st.le q)
              · rcases g2 a z with q | q
                · exact far a (List.mem_append_left _ ha) q
                · exact n3 a ha a q rfl
              · rcases fr a (List.mem_append_left _ ha) with q | q
                · exact frF a q
                · exact .inr (none_back st.le q)
            cases eB : C.B f ps with
            | bad => rw [eB] at hh; exact hh.elim
            | ok d es' =>
              rw [eB] at hh
              intro v H' O' Fd Gb le w' rv bk nd fr
              obtain ⟨fp', a1, a2⟩ := after le w' bk nd fr
              exact hh v H' O' fp' Fd a1 rv a2
            | exc x es' =>
              rw [eB] at hh
              intro c a H' O' Gb le w' er bk nd fr
              obtain ⟨fp', a1, _⟩ := after (Fd := []) le w' bk nd fr
              exact hh c a H' O' fp' a1 er
          · exact hh.elim
end
end Pv

/-! Pv, part P: what a loop goes over. -/
namespace Pv
open PySem PySem.Spec L2 RZ
open PyProof.Rows hiding St

/-- a walk that gives these, whatever happens to the rest -/
def WalkP (K : PySem.W.Frag) (J : L2.It) (xs : List PD) (H0 : Hp) (O0 : Addr → Prop) : Prop :=
  ∃ (Gd : Hp → Prop) (Y : Nat → Hp → V → Hp → Prop), Walk J xs.length Gd Y ∧ ∀ F H2 O2, Le F H0 O0 H2 O2 → (∀ a, F a → O0 a) → Wok H2 O2 →
    Gd H2 ∧ ∀ i x H3, i < xs.length → Y i H2 x H3 → ∃ d, xs[i]? = some d ∧ Le (fun _ => False) H2 O2 H3 O2 ∧ Wok H3 O2 ∧ Rp K H3 O2 x d
def IPost (K : PySem.W.Frag) (bor : Nat → Bool) (σ : St) (H : Hp) (O : Addr → Prop) (fp : Fp) (xs : List PD) (ρ' : Env) (R : L2.It → Hp → Prop) : Prop :=
  ∀ J H' O' fp', Stp K bor σ H O fp H' O' ρ' fp' → WalkP K J xs H' O' → R J H'
def SemI (bor : Nat → Bool) (t : TW TI) (f : Env → Rs (List PD)) : Prop :=
  ∀ K W σ H O ρ fp R, Sit K bor H O σ ρ fp → (f ρ).Holds (fun xs ρ' => IPost K bor σ H O fp xs ρ' R) (fun x ρ' => XPost K bor σ H O fp x ρ' W) → t K W σ H R

section
variable {K : PySem.W.Frag} {H : Hp} {O : Addr → Prop}
theorem RpAll.getV : ∀ {xs : List V} {l : List PD} {i : Nat} {v : V}, RpAll K H O xs l → xs[i]? = some v → ∃ d, l[i]? = some d ∧ Rp K H O v d
  | _, _, _, _, .nil, h => by simp at h
  | _, _, 0, _, .cons r t, h => by simp at h; subst h; exact ⟨_, rfl, r⟩
  | _, _, i + 1, _, .cons r t, h => by
    obtain ⟨d, h1, h2⟩ := RpAll.getV (i := i) t (by simpa using h)
    exact ⟨d, by simpa using h1, h2⟩
theorem walkp_list {a : Addr} {xs : List V} {l : List PD} (h : H a = some (.lst xs)) (n : ¬ O a) (r : RpAll K H O xs l) : WalkP K (Itl K a) l H O := by
  refine ⟨_, _, by rw [← r.length]; exact walk_list (xs := xs), fun F H2 O2 le hf w => ⟨SqL.of (le.ext _ _ h fun z => n (hf _ z)), fun i x H3 hi y => ?_⟩⟩
  obtain ⟨rfl, hx⟩ := y
  obtain ⟨d, e, rd⟩ := (r.mono le hf).getV hx
  exact ⟨d, e, Le.refl, w, rd⟩
theorem walkp_tup {a : Addr} {xs : List V} {l : List PD} (h : SqT K H a xs) (r : RpAll K H O xs l) : WalkP K (Itt K a) l H O := by
  refine ⟨_, _, by rw [← r.length]; exact walk_tup (xs := xs), fun F H2 O2 le hf w => ⟨sqT_mono le h, fun i x H3 hi y => ?_⟩⟩
  obtain ⟨rfl, hx⟩ := y
  obtain ⟨d, e, rd⟩ := (r.mono le hf).getV hx
  exact ⟨d, e, Le.refl, w, rd⟩
theorem walkp_rev {a : Addr} {xs : List V} {l : List PD} (h : H a = some (.lst xs)) (n : ¬ O a) (r : RpAll K H O xs l) : WalkP K (Itv K a xs.length) l.reverse H O := by
  refine ⟨_, _, by rw [List.length_reverse, ← r.length]; exact walk_rev (xs := xs), fun F H2 O2 le hf w => ⟨SqL.of (le.ext _ _ h fun z => n (hf _ z)), fun i x H3 hi y => ?_⟩⟩
  obtain ⟨rfl, hx⟩ := y
  rw [List.length_reverse] at hi
  obtain ⟨d, e, rd⟩ := (r.mono le hf).getV hx
  refine ⟨d, ?_, Le.refl, w, rd⟩
  rw [List.getElem?_reverse (by rw [← r.length]; rw [← r.length] at hi; exact hi), ← r.length]
  exact e
theorem walkp_range {lo hi : Int} : WalkP K (Itr lo (hi - lo).toNat) (rangeL lo hi) H O := by
  have el : (rangeL lo hi).length = (hi - lo).toNat := by unfold rangeL; rw [List.length_map, List.length_range]
  refine ⟨_, _, by rw [el]; exact walk_range, fun F H2 O2 le hf w => ⟨trivial, fun i x H3 hi' y => ?_⟩⟩
  obtain ⟨rfl, rfl⟩ := y
  rw [el] at hi'
  refine ⟨.int (lo + (i : Nat)), ?_, Le.refl, w, .int _⟩
  unfold rangeL
  rw [List.getElem?_map, List.getElem?_range hi']
  rfl
theorem enumL_get : ∀ (l : List PD) (k i : Nat), (enumL k l)[i]? = (l[i]?).map fun d => .tuple [.int ((k + i : Nat) : Int), d]
  | [], k, i => by unfold enumL; simp
  | x :: xs, k, 0 => by unfold enumL; simp
  | x :: xs, k, i + 1 => by
    unfold enumL
    rw [List.getElem?_cons_succ, List.getElem?_cons_succ, enumL_get xs (k + 1) i]
    have : k + 1 + i = k + (i + 1) := by omega
    rw [this]
theorem enumL_len : ∀ (l : List PD) (k : Nat), (enumL k l).length = l.length
  | [], _ => rfl
  | _ :: l, k => by unfold enumL; rw [List.length_cons, List.length_cons, enumL_len l]
/-- a new pair -/
theorem pair_new {x y : V} {d e : PD} {T : Addr} (w : Wok H O) (hT : H T = none) (rx : Rp K H O x d) (ry : Rp K H O y e) :
    Le (fun _ => False) H O (upd H T (.tup [x, y])) O ∧ Wok (upd H T (.tup [x, y])) O ∧ Rp K (upd H T (.tup [x, y])) O (.ref T) (.tuple [d, e]) :=
  have l : Le (fun _ => False) H O (upd H T (.tup [x, y])) O := Le.new_plain hT
  ⟨l, w.upd_keep (.inl hT), .tup upd_same (.cons (rx.mono l fun _ z => z.elim) (.cons (ry.mono l fun _ z => z.elim) .nil))⟩
theorem walkp_enum {a : Addr} {xs : List V} {l : List PD} (h : H a = some (.lst xs)) (n : ¬ O a) (r : RpAll K H O xs l) : WalkP K (Ite K a) (enumL 0 l) H O := by
  refine ⟨_, _, by rw [enumL_len, ← r.length]; exact walk_enum (xs := xs), fun F H2 O2 le hf w => ⟨SqL.of (le.ext _ _ h fun z => n (hf _ z)), fun i v H3 hi y => ?_⟩⟩
  obtain ⟨T, x, z, rfl, hT, rfl, e1, e2⟩ := y
  cases e1
  obtain ⟨d, e, rd⟩ := (r.mono le hf).getV e2
  obtain ⟨a1, a2, a3⟩ := pair_new w hT (.int (i : Nat)) rd
  refine ⟨_, ?_, a1, a2, a3⟩
  rw [enumL_get, e]
  simp
theorem pairUp_get {l m : List PD} {i : Nat} {d e : PD} (h1 : l[i]? = some d) (h2 : m[i]? = some e) : (pairUp l m)[i]? = some (.tuple [d, e]) := by
  unfold pairUp
  have : (l.zip m)[i]? = some (d, e) := List.getElem?_zip_eq_some.mpr ⟨h1, h2⟩
  rw [List.getElem?_map, this]
  rfl
theorem pairUp_len {l m : List PD} : (pairUp l m).length = min l.length m.length := by
  unfold pairUp
  rw [List.length_map, List.length_zip]
theorem walkp_zip {a b : Addr} {xs ys : List V} {l m : List PD} (h : H a = some (.lst xs)) (n : ¬ O a) (r : RpAll K H O xs l) (h' : H b = some (.lst ys)) (n' : ¬ O b) (r' : RpAll K H O ys m) : WalkP K (Itz K a b) (pairUp l m) H O := by
  refine ⟨_, _, walk_zip (xs := xs) (ys := ys) (by rw [pairUp_len, r.length, r'.length]), fun F H2 O2 le hf w => ⟨⟨SqL.of (le.ext _ _ h fun z => n (hf _ z)), SqL.of (le.ext _ _ h' fun z => n' (hf _ z))⟩, fun i v H3 hi y => ?_⟩⟩
  obtain ⟨T, x, z, rfl, hT, rfl, e1, e2⟩ := y
  obtain ⟨d, e, rd⟩ := (r.mono le hf).getV e1
  obtain ⟨d', e', rd'⟩ := (r'.mono le hf).getV e2
  obtain ⟨a1, a2, a3⟩ := pair_new w hT rd rd'
  exact ⟨_, pairUp_get e e', a1, a2, a3⟩
theorem walk_zipTT {a b : Addr} {xs ys : List V} {n : Nat} (hn : n = min xs.length ys.length) : Walk (ItzT K a b) n (fun H => SqT K H a xs ∧ SqT K H b ys) (YPair (fun i => xs[i]?) (fun i => ys[i]?)) := by
  subst hn
  refine ⟨fun i H hi ⟨q1, q2⟩ => ?_, fun H ⟨q1, q2⟩ => ⟨xs, ys, q1, q2, by omega⟩, fun i H v H' hi ⟨q1, q2⟩ y => ?_⟩
  · obtain ⟨h1, h2⟩ : i < xs.length ∧ i < ys.length := by omega
    exact ⟨xs, ys, xs[i], ys[i], q1, q2, List.getElem?_eq_getElem h1, List.getElem?_eq_getElem h2⟩
  · obtain ⟨T, x, z, c1, c2, c3, c4, c5⟩ := y
    exact ⟨T, x, z, c1, c2, c3, c4 xs q1, c5 ys q2⟩
theorem walkp_zipT {a b : Addr} {xs ys : List V} {l m : List PD} (h : SqT K H a xs) (r : RpAll K H O xs l) (h' : SqT K H b ys) (r' : RpAll K H O ys m) : WalkP K (ItzT K a b) (pairUp l m) H O := by
  refine ⟨_, _, walk_zipTT (xs := xs) (ys := ys) (by rw [pairUp_len, r.length, r'.length]), fun F H2 O2 le hf w => ⟨⟨sqT_mono le h, sqT_mono le h'⟩, fun i v H3 hi y => ?_⟩⟩
  obtain ⟨T, x, z, rfl, hT, rfl, e1, e2⟩ := y
  obtain ⟨d, e, rd⟩ := (r.mono le hf).getV e1
  obtain ⟨d', e', rd'⟩ := (r'.mono le hf).getV e2
  obtain ⟨a1, a2, a3⟩ := pair_new w hT rd rd'
  exact ⟨_, pairUp_get e e', a1, a2, a3⟩
theorem lstD_pd {d : D} {l : List PD} (h : lstD d = some l) : d.toPD = some (.list l) := by
  unfold lstD at h
  split at h <;> cases h <;> rfl
theorem tupD_pd {d : D} {l : List PD} (h : tupD d = some l) : d.toPD = some (.tuple l) := by
  unfold tupD at h
  split at h <;> cases h <;> rfl
theorem rp_lst {v : V} {l : List PD} (r : Rp K H O v (.list l)) : ∃ a xs, v = .ref a ∧ H a = some (.lst xs) ∧ ¬ O a ∧ RpAll K H O xs l := by
  cases r with
  | lst h n t => exact ⟨_, _, rfl, h, n, t⟩
end

section
variable {C : Ctx} {L : Lib} {N : List Str} {sc : Scope} {k : Nat}
theorem semI_seq {e : E} {t : TW TE} (h : SemV C.bor t (ev C e)) : SemI C.bor (fun K W σ H R => iList K (t K W) σ H R ∨ iTup K (t K W) σ H R) (evI C (.seq e)) := by
  intro K W σ H O ρ fp R s hh
  rw [evI] at hh
  have hh := Rs.holds_bind hh
  cases e1 : ev C e ρ with
  | bad => rw [e1] at hh; exact hh.elim
  | exc x ρ1 => rw [e1] at hh; exact .inl (h K W σ H O ρ fp _ s (by rw [e1]; exact hh))
  | ok d ρ1 =>
    rw [e1] at hh
    obtain ⟨l, el, q⟩ := Rs.holds_ofO (show (Rs.ofO (seqD d) ρ1).Holds _ _ from hh)
    cases ea : lstD d with
    | some l' =>
      have : l' = l := by
        unfold lstD at ea
        split at ea <;> cases ea <;> cases el <;> rfl
      subst this
      refine .inl (h K W σ H O ρ fp _ s ?_)
      rw [e1]
      intro v H1 O1 fp1 G st r tm
      obtain ⟨a, xs, rfl, h1, h2, h3⟩ := rp_lst (r.toG (G := G) (fun _ z => z) (lstD_pd ea))
      exact ⟨a, rfl, ⟨xs, SqL.of h1⟩, q _ H1 _ fp1 (st.offG s.w tm r.own_mem) (walkp_list h1 h2 h3)⟩
    | none =>
      have et : tupD d = some l := by
        cases d with
        | p x => cases x <;> first | (cases ea; done) | (cases el; done) | exact el
        | own x => cases ea
        | own2 x => cases el
        | odk x => cases el
        | odt x => cases el
        | frl x => cases el
      refine .inr (h K W σ H O ρ fp _ s ?_)
      rw [e1]
      intro v H1 O1 fp1 G st r tm
      obtain ⟨a, xs, rfl, h1, h3⟩ := rw_tup (F := []) (.p (r.toG (G := G) (fun _ z => z) (tupD_pd et)))
      exact ⟨a, rfl, ⟨xs, h1⟩, q _ H1 _ fp1 (st.offG s.w tm r.own_mem) (walkp_tup h1 h3)⟩
theorem semI_rev {e : E} {t : TW TE} (h : SemV C.bor t (ev C e)) : SemI C.bor (fun K W => iRev K (tAll K W [t])) (evI C (.rev e)) := by
  intro K W σ H O ρ fp R s hh
  rw [evI] at hh
  refine h K W σ H O ρ fp _ s ((Rs.holds_bind hh).imp (fun d ρ1 q => ?_) fun _ _ q => q)
  obtain ⟨m, em, q⟩ := Rs.holds_ofO q
  obtain ⟨l, el, rfl⟩ := Option.map_eq_some_iff.mp em
  intro v H1 O1 fp1 G st r tm
  obtain ⟨a, xs, rfl, h1, h2, h3⟩ := rp_lst (r.toG (G := G) (fun _ z => z) (lstD_pd el))
  exact ⟨a, xs, rfl, SqL.of h1, q _ H1 _ fp1 (st.offG s.w tm r.own_mem) (walkp_rev h1 h2 h3)⟩
theorem semI_enum {e : E} {t : TW TE} (h : SemV C.bor t (ev C e)) : SemI C.bor (fun K W => iEnum K (tAll K W [t])) (evI C (.enum e)) := by
  intro K W σ H O ρ fp R s hh
  rw [evI] at hh
  refine h K W σ H O ρ fp _ s ((Rs.holds_bind hh).imp (fun d ρ1 q => ?_) fun _ _ q => q)
  obtain ⟨m, em, q⟩ := Rs.holds_ofO q
  obtain ⟨l, el, rfl⟩ := Option.map_eq_some_iff.mp em
  intro v H1 O1 fp1 G st r tm
  obtain ⟨a, xs, rfl, h1, h2, h3⟩ := rp_lst (r.toG (G := G) (fun _ z => z) (lstD_pd el))
  exact ⟨a, xs, rfl, SqL.of h1, q _ H1 _ fp1 (st.offG s.w tm r.own_mem) (walkp_enum h1 h2 h3)⟩
theorem semI_zip {e e2 : E} {t t2 : TW TE} (h : SemV C.bor t (ev C e)) (h2 : SemV C.bor t2 (ev C e2)) : SemI C.bor (fun K W => iZipA K (tAll K W [t, t2])) (evI C (.zip e e2)) := by
  intro K W σ H O ρ fp R s hh
  rw [evI] at hh
  refine h K W σ H O ρ fp _ s ((Rs.holds_bind hh).imp (fun d ρ1 q => ?_) fun _ _ q => q)
  intro v H1 O1 fp1 G1 st1 r1 tm1
  refine h2 K W σ H1 O1 ρ1 fp1 _ st1.sit ((Rs.holds_bind q).imp (fun d2 ρ2 q => ?_) fun x ρ' q => q.after s.w st1)
  intro u H2 O2 fp2 G2 st2 r2 tm2
  obtain ⟨m, em, q⟩ := Rs.holds_ofO q
  have st := st1.trans s.w st2
  have tm := Tmp.seq st1 tm1 r1.own_mem st2 tm2
  have r1' := r1.over st2 st1.sit.sl tm1 fun _ z => z
  have own : ∀ x ∈ G1 ++ G2, O2 x := fun x hx => (List.mem_append.mp hx).elim (r1'.own_mem x) (r2.own_mem x)
  have stO := st.offG s.w tm own
  unfold zipD at em
  split at em
  · rename_i l m' e3 e4
    cases em
    obtain ⟨a, xs, rfl, a1, a2, a3⟩ := rp_lst (r1'.toG (G := G1 ++ G2) (fun _ z => List.mem_append_left _ z) (lstD_pd e3))
    obtain ⟨b, ys, rfl, b1, b2, b3⟩ := rp_lst (r2.toG (G := G1 ++ G2) (fun _ z => List.mem_append_right _ z) (lstD_pd e4))
    exact ⟨a, b, xs, ys, rfl, .inl ⟨SqL.of a1, SqL.of b1, q _ H2 _ fp2 stO (walkp_zip a1 a2 a3 b1 b2 b3)⟩⟩
  · split at em
    · rename_i l m' e3 e4
      cases em
      obtain ⟨a, xs, rfl, a1, a3⟩ := rw_tup (F := []) (.p (r1'.toG (G := G1 ++ G2) (fun _ z => List.mem_append_left _ z) (tupD_pd e3)))
      obtain ⟨b, ys, rfl, b1, b3⟩ := rw_tup (F := []) (.p (r2.toG (G := G1 ++ G2) (fun _ z => List.mem_append_right _ z) (tupD_pd e4)))
      exact ⟨a, b, xs, ys, rfl, .inr ⟨a1, b1, q _ H2 _ fp2 stO (walkp_zipT a1 a3 b1 b3)⟩⟩
    · cases em
theorem small_iff {i : Int} (h : small i = true) : -(2 ^ 62) ≤ i ∧ i < 2 ^ 62 := of_decide_eq_true h
theorem argsGet_len {ρ : Env} : ∀ {as : List Arg} {ds : List D}, argsGet ρ as = some ds → as.length = ds.length
  | [], _, h => by cases h; rfl
  | a :: as, ds, h => by
    unfold argsGet at h
    split at h
    · rename_i h1 h2
      cases h
      rw [List.length_cons, List.length_cons, argsGet_len h2]
    · cases h
theorem semI_range1 {es : Es} {ts : List (TW TE)} (hl : es.len = 1) (h : SemA C.bor (fun K W => tAll K W ts) (evA C es)) : SemI C.bor (fun K W => iRng1 (tAll K W ts)) (evI C (.range es)) := by
  intro K W σ H O ρ fp R s hh
  rw [evI] at hh
  refine h K W σ H O ρ fp _ s ?_
  cases e1 : evA C es ρ with
  | bad => rw [e1] at hh; exact hh
  | exc x ρ1 => rw [e1] at hh; exact hh
  | ok as ρ1 =>
    rw [e1] at hh
    intro vs H1 O1 fp1 G st ar tm
    simp only [Rs.bind] at hh
    have hlen := evA_len e1
    split at hh
    · rename_i n ea
      split at hh
      · rename_i hs
        have ra := ar.all st.sit.sl ea
        obtain ⟨v, F, rfl, rv⟩ := all1 ra
        obtain ⟨b1, b2⟩ := small_iff hs
        refine ⟨n, by rw [rw_int rv], b1, b2, ?_⟩
        have w := walkp_range (K := K) (H := H1) (O := O1) (lo := 0) (hi := n)
        rw [Int.sub_zero] at w
        exact hh _ H1 O1 fp1 st w
      · exact hh.elim
    · rename_i a b ea
      have := argsGet_len ea
      rw [hlen, hl] at this
      cases this
    · exact hh.elim
theorem semI_range2 {es : Es} {ts : List (TW TE)} (hl : es.len = 2) (h : SemA C.bor (fun K W => tAll K W ts) (evA C es)) : SemI C.bor (fun K W => iRng2 (tAll K W ts)) (evI C (.range es)) := by
  intro K W σ H O ρ fp R s hh
  rw [evI] at hh
  refine h K W σ H O ρ fp _ s ?_
  cases e1 : evA C es ρ with
  | bad => rw [e1] at hh; exact hh
  | exc x ρ1 => rw [e1] at hh; exact hh
  | ok as ρ1 =>
    rw [e1] at hh
    intro vs H1 O1 fp1 G st ar tm
    simp only [Rs.bind] at hh
    have hlen := evA_len e1
    split at hh
    · rename_i n ea
      have := argsGet_len ea
      rw [hlen, hl] at this
      cases this
    · rename_i a b ea
      split at hh
      · rename_i hs
        obtain ⟨hs1, hs2⟩ := and2 hs
        have ra := ar.all st.sit.sl ea
        obtain ⟨v, u, F, F', rfl, rv, ru⟩ := all2 ra
        obtain ⟨b1, b2⟩ := small_iff hs1
        obtain ⟨b3, b4⟩ := small_iff hs2
        refine ⟨a, b, by rw [rw_int rv, rw_int ru], ⟨b1, b2, b3, b4⟩, hh _ H1 O1 fp1 st walkp_range⟩
      · exact hh.elim
    · exact hh.elim
end
end Pv

/-! Pv, part Q: list comprehensions. -/
namespace Pv
open PySem PySem.Spec L2 RZ
open PyProof.Rows hiding St

section
variable {L : Lib} {N : List Str} {sc : Scope} {B : Nat → List D → CR} {k : Nat} {X : Cx}
theorem relS_look {scope sc : Scope} {x : Str} : ∀ (l : List (Str × NameKind)), (l.map fun (n, k) => if (k == .free && sc.kind == .function && sc.names.lookup n == some .cell) then (n, NameKind.cell) else (n, k)).lookup x =
    (l.lookup x).map fun k => if (k == .free && sc.kind == .function && sc.names.lookup x == some .cell) then .cell else k
  | [] => rfl
  | (n, k) :: l => by
    rw [List.map_cons]
    have ih := relS_look (scope := scope) (sc := sc) (x := x) l
    by_cases e : x = n
    · subst e
      by_cases c : (k == .free && sc.kind == .function && sc.names.lookup x == some .cell) = true
      · simp only [c, if_true, List.lookup_cons_self, Option.map_some]
      · simp only [c, Bool.false_eq_true, if_false, List.lookup_cons_self, Option.map_some]
    · have ne : (x == n) = false := by simpa using e
      by_cases c : (k == .free && sc.kind == .function && sc.names.lookup n == some .cell) = true
      · simp only [c, if_true, List.lookup_cons, ne]
        exact ih
      · simp only [c, Bool.false_eq_true, if_false, List.lookup_cons, ne]
        exact ih
theorem relS_loc {scope sc : Scope} {x : Str} (h : scope.names.lookup x = some .local) : (relS scope sc).names.lookup x = some .local := by
  show List.lookup x (scope.names.map _) = _
  rw [relS_look (scope := scope), h]
  rfl
theorem relS_cell {scope sc : Scope} {x : Str} (h : scope.names.lookup x = some .cell) : (relS scope sc).names.lookup x = some .cell := by
  show List.lookup x (scope.names.map _) = _
  rw [relS_look (scope := scope), h]
  rfl
def Wf : WX := fun _ _ _ _ => False
theorem takes_blk {s : Shared} {H : Hp} {scope : Scope} {ce : PySem.Env} {fp : List Addr} : Takes (X.blk s H scope ce fp) Wf := fun u s' ⟨_, _, _, _, _, _, _, _, _, _, _, _, _, _, _, _, w⟩ => w
theorem good_blk (g : Good L N sc B k X) {s : Shared} {H : Hp} {scope : Scope} {cl : List (Str × Addr)} {C : Addr} {fp : List Addr} : Good L N (relS scope sc) B k (X.blk s H scope (compEnvC scope cl C X.env) fp) :=
  ⟨by show relS scope X.env.scope = _; rw [g.sc], g.N, g.nd, g.calm, g.room, g.gd, g.free, g.glb, fun c hc => ⟨(g.cal c hc).ex⟩, g.imp⟩
def ownN (N : List Str) (own : List Nat) : List (Str × Nat) := own.map fun v => (N.getD v "", v)
theorem ownN_snd (own : List Nat) : (ownN N own).map (·.2) = own := by
  unfold ownN
  rw [List.map_map]
  exact (List.map_congr_left fun _ _ => rfl).trans (List.map_id own)
theorem blk_ok {scope : Scope} {own : List Nat} (h : blkB N sc scope own = true) : BlkOk N sc scope (ownN N own) := by
  unfold blkB at h
  obtain ⟨h, h5⟩ := and2 h
  obtain ⟨h, h4⟩ := and2 h
  obtain ⟨h, h3⟩ := and2 h
  obtain ⟨h1, h2⟩ := and2 h
  have gd : ∀ v, v < N.length → N[v]? = some (N.getD v "") := fun v hv => by simp [hv]
  refine ⟨of_decide_eq_true h1, fun y hy => of_decide_eq_true (List.all_eq_true.mp h2 y hy), fun p hp => ?_, fun y hy e => ?_, fun y hy e => ?_⟩
  · obtain ⟨v, hv, rfl⟩ := List.mem_map.mp hp
    exact gd v (of_decide_eq_true (List.all_eq_true.mp h3 v hv))
  · have := List.all_eq_true.mp h4 y hy
    rw [e] at this
    simpa using this
  · have := List.all_eq_true.mp h5 y hy
    rw [decide_eq_true e] at this
    simp only [Bool.not_true, Bool.false_or, Bool.or_eq_true, Bool.not_eq_true'] at this
    rcases this with z | z
    · obtain ⟨v, hv, hq⟩ := List.any_eq_true.mp z
      refine .inl (List.mem_map.mpr ⟨(N.getD v "", v), List.mem_map.mpr ⟨v, hv, rfl⟩, ?_⟩)
      have hq := of_decide_eq_true hq
      have hv' := of_decide_eq_true (List.all_eq_true.mp h3 v hv)
      rw [gd v hv'] at hq
      exact Option.some.inj hq
    · exact .inr fun m => by rw [List.contains_iff_mem.mpr m] at z; cases z
end

section
variable {K : PySem.W.Frag} {bor : Nat → Bool} {σ σ' : St} {H H1 H2 : Hp} {O O1 O2 : Addr → Prop} {ρ ρ1 ρ2 : Env} {fp fp1 fp2 : Fp} {G G1 G2 : List Addr}
theorem wipe_get {own : List Nat} : ∀ {σ : St} {j : Nat}, (wipe σ own)[j]? = if j ∈ own then (if j < σ.length then some none else none) else σ[j]? := by
  induction own with
  | nil => intro σ j; rw [if_neg List.not_mem_nil]; rfl
  | cons v vs ih =>
    intro σ j
    show ((wipe σ vs).set v none)[j]? = _
    by_cases e : v = j
    · subst e
      rw [if_pos List.mem_cons_self]
      by_cases hl : v < σ.length
      · rw [if_pos hl, List.getElem?_set_self (by rw [wipe_length]; exact hl)]
      · rw [if_neg hl]
        exact List.getElem?_eq_none (by rw [List.length_set, wipe_length]; omega)
    · rw [List.getElem?_set_ne e, ih]
      by_cases hm : j ∈ vs
      · rw [if_pos hm, if_pos (List.mem_cons_of_mem _ hm)]
      · rw [if_neg hm, if_neg fun z => (List.mem_cons.mp z).elim (fun z => e z.symm) hm]
theorem wipe_eq {own : List Nat} (hl : σ'.length = σ.length) (h : ∀ j, j ∉ own → σ'[j]? = σ[j]?) : wipe σ' own = wipe σ own := by
  apply List.ext_getElem?
  intro j
  rw [wipe_get, wipe_get, hl]
  by_cases hm : j ∈ own
  · rw [if_pos hm, if_pos hm]
  · rw [if_neg hm, if_neg hm]; exact h j hm
theorem wipe_none {own : List Nat} {j : Nat} (h : j ∈ own) : (wipeE ρ own).at_ j = none := by
  induction own with
  | nil => cases h
  | cons v vs ih =>
    show Env.at_ ((wipeE ρ vs).set v none) j = none
    by_cases e : v = j
    · subst e
      by_cases hl : v < (wipeE ρ vs).length
      · exact at_set_self hl
      · unfold Env.at_
        rw [List.getElem?_eq_none (by rw [List.length_set]; omega)]
        rfl
    · rw [at_set_ne e]
      exact ih ((List.mem_cons.mp h).resolve_left fun z => e z.symm)
theorem back_at {own : List Nat} {j : Nat} : j < ρ.length → (backE ρ1 ρ own).at_ j = if j ∈ own then ρ1.at_ j else ρ.at_ j := by
  induction own with
  | nil => intro _; rw [if_neg List.not_mem_nil]; rfl
  | cons v vs ih =>
    intro hl
    have hlen : (backE ρ1 ρ vs).length = ρ.length := by
      clear ih
      induction vs with
      | nil => rfl
      | cons w ws ih => show ((backE ρ1 ρ ws).set w _).length = _; rw [List.length_set, ih]
    show Env.at_ ((backE ρ1 ρ vs).set v (ρ1.at_ v)) j = _
    by_cases e : v = j
    · subst e
      rw [if_pos List.mem_cons_self, at_set_self (by rw [hlen]; exact hl)]
    · rw [at_set_ne e, ih hl]
      by_cases hm : j ∈ vs
      · rw [if_pos hm, if_pos (List.mem_cons_of_mem _ hm)]
      · rw [if_neg hm, if_neg fun z => (List.mem_cons.mp z).elim (fun z => e z.symm) hm]
theorem back_len {own : List Nat} : (backE ρ1 ρ own).length = ρ.length := by
  induction own with
  | nil => rfl
  | cons w ws ih => show ((backE ρ1 ρ ws).set w _).length = _; rw [List.length_set, ih]
/-- the block's own slots forgotten, on both sides -/
theorem Sl.wipe2 (s : Sl K H O σ ρ fp) (own : List Nat) : Sl K H O (wipe σ own) (wipeE ρ own) (fpWipe fp own) := by
  have h := s.wiped own
  refine ⟨by rw [wipe_length]; exact h.len, fun j d e => ?_, h.emp, h.nd, h.dj⟩
  obtain ⟨v, h1, h2⟩ := h.rep j d e
  have : j ∉ own := fun m => by rw [wipe_none m] at e; cases e
  exact ⟨v, by rw [wipe_get, if_neg this]; exact h1, h2⟩
end

section
variable {C : Ctx} {L : Lib} {N : List Str} {sc : Scope} {k : Nat}
theorem lcLoop_noexc {step : PD → Env → Rs (Option D)} : ∀ {xs : List PD} {ρ : Env} {x : Exn} {ρ' : Env}, lcLoop step xs ρ ≠ .exc x ρ'
  | [], _, _, _, h => by cases h
  | y :: ys, ρ, x, ρ', h => by
    unfold lcLoop at h
    split at h
    · split at h
      · cases h
      · exact lcLoop_noexc h
    · cases h
    · cases h
theorem lcLoop_cons {step : PD → Env → Rs (Option D)} {y : PD} {ys : List PD} {ρ ρ' : Env} {ds : List D} (h : lcLoop step (y :: ys) ρ = .ok ds ρ') : ∃ o ρ1 ds', step y ρ = .ok o ρ1 ∧ lcLoop step ys ρ1 = .ok ds' ρ' ∧ ds = (match o with | some d => d :: ds' | none => ds') := by
  unfold lcLoop at h
  split at h
  · rename_i o ρ1 e1
    split at h
    · rename_i ds' ρ2 e2
      cases h
      exact ⟨o, ρ1, ds', e1, e2, rfl⟩
    · rename_i r hr
      exact absurd h (hr _ _)
  · cases h
  · cases h
/-- one turn of a comprehension -/
def lcStep (C : Ctx) (tg : T) (ifs : Es) (elt : E) (own : List Nat) : PD → Env → Rs (Option D) := fun x ρ => match asgT tg x (wipeE ρ own) with
        | some ρ2 => (evC C ifs ρ2).bind fun b ρ3 => if b then (ev C elt ρ3).bind fun d ρ4 => .ok (some d) ρ4 else .ok none ρ3
        | none => .bad
theorem ev_lc {elt : E} {tg : T} {it : It} {ifs : Es} {own : List Nat} {ρ : Env} : ev C (.lc elt tg it ifs own) ρ = (evI C it ρ).bind fun xs ρ1 =>
      if own.all (fun v => !C.bor v && (match ρ1.at_ v with | some d => !d.isOwn | none => true)) = false then .bad else
      match lcLoop (lcStep C tg ifs elt own) xs ρ1 with
      | .ok ds ρ2 => if ds.length ≤ line then Rs.ofO (mkR own ds) (backE ρ1 ρ2 own) else .bad
      | .exc x ρ2 => .exc x ρ2
      | .bad => .bad := by
  rw [ev]
  rfl
theorem PRw.snoc {K : PySem.W.Frag} {H : Hp} {O : Addr → Prop} {vs : List V} {ds : List D} {G : List Addr} (r : PRw K H O vs ds G) {y : V} {d : D} {F : List Addr} (q : Rw K H O y d F) : PRw K H O (vs ++ [y]) (ds ++ [d]) (G ++ F) := by
  induction r with
  | nil =>
    have := PRw.cons q PRw.nil
    rw [List.append_nil] at this
    exact this
  | cons q _ ih => rw [List.append_assoc]; exact .cons q ih
/-- a comprehension, by plain values -/
theorem semV_lc {elt : E} {tg : T} {it : It} {ifs : Es} {own : List Nat} {wi : TW TI} {tt : TW TT} {te : TW TE} (hin : tgIn own tg = true) (hi : SemI C.bor wi (evI C it)) (ht : SemT C.bor tt (evC C ifs)) (he : SemV C.bor te (ev C elt)) :
    SemV C.bor (fun K W => tLc (wi K W) (gT K tg) (tt K Wf) (te K Wf) own) (ev C (.lc elt tg it ifs own)) := by
  intro K W σ H O ρ fp Q s hh
  rw [ev_lc] at hh
  refine hi K W σ H O ρ fp _ s ((Rs.holds_bind hh).imp (fun xs ρ1 q => ?_) fun _ _ q => q)
  intro J H1 O1 fp1 st1 wk D hD
  obtain ⟨Gd, Y, w, stab⟩ := wk
  split at q
  · exact q.elim
  rename_i hown
  have hown : own.all (fun v => !C.bor v && (match ρ1.at_ v with | some d => !d.isOwn | none => true)) = true := by simpa using hown
  have hbor : ∀ j, C.bor j = true → j ∉ own := fun j hj m => by
    have := (and2 (List.all_eq_true.mp hown j m)).1
    rw [hj] at this; cases this
  have hpl : ∀ j ∈ own, ∀ d, ρ1.at_ j = some d → d.isOwn = false := fun j m d e => by
    have := (and2 (List.all_eq_true.mp hown j m)).2
    rw [e] at this
    simpa using this
  cases el : lcLoop (lcStep C tg ifs elt own) xs ρ1 with
  | bad => rw [el] at q; exact q.elim
  | exc x ρ2 => exact absurd el lcLoop_noexc
  | ok ds ρ2 =>
    rw [el] at q
    dsimp only at q
    split at q
    · rename_i hline
      obtain ⟨dd, ed, q⟩ := Rs.holds_ofO q
      have nD1 : ¬ FF fp1 D := stp_fresh s.w st1 hD
      have w1 := st1.sit.w
      refine lc_it w (fun i Hc => ∃ (Oc : Addr → Prop) (ρc : Env) (fpc : Fp) (vs : List V) (dsd rest : List Pv.D) (G : List Addr), Stp K C.bor (wipe σ own) H1 O1 fp1 Hc Oc (wipeE ρc own) fpc ∧ Hc D = some (.lst vs) ∧ Oc D ∧ ¬ FF fpc D ∧ D ∉ G ∧
        PRw K Hc Oc vs dsd G ∧ Tmp H1 fp1 fpc G ∧ lcLoop (lcStep C tg ifs elt own) (xs.drop i) ρc = .ok rest ρ2 ∧ ds = dsd ++ rest) ?_ ?_ ?_ ?_
      · -- at first
        have l0 : Le (fun _ => False) H1 O1 (upd H1 D (.lst [])) (addO O1 D) := Le.new_own hD
        refine ⟨addO O1 D, ρ1, fpWipe fp1 own, [], [], ds, [], ⟨l0.mono fun _ z => z.elim, ⟨w1.upd_add hD trivial, (st1.sit.sl.wipe2 own).mono l0 (fun _ z => z.elim) fun _ _ z => z, fun j hj => ?_⟩, fun a ha => ?_⟩, upd_same, .inr rfl, fun z => ?_, List.not_mem_nil, .nil, Tmp.nil, el, rfl⟩
        · rw [wipe_at (hbor j hj)]; exact st1.sit.bo j hj
        · obtain ⟨j, _, hj⟩ := ff_wipe ha; exact .inl ⟨j, hj⟩
        · obtain ⟨j, _, hj⟩ := ff_wipe z; exact nD1 ⟨j, hj⟩
      · rintro i Hc hi' ⟨Oc, ρc, fpc, vs, dsd, rest, G, st, _⟩
        exact (stab (FF fp1) Hc Oc st.le st1.sit.sl.own st.sit.w).1
      · -- a turn
        rintro i x Hc H' hi' ⟨Oc, ρc, fpc, vs, dsd, rest, G, st, hv, hO, nf, nG, pr, tm, ell, eds⟩ y
        obtain ⟨d, exd, l1, w2, rx⟩ := (stab (FF fp1) Hc Oc st.le st1.sit.sl.own st.sit.w).2 i x H' hi' y
        have edrop : xs.drop i = d :: xs.drop (i + 1) := by
          obtain ⟨hlt, hg⟩ := List.getElem?_eq_some_iff.mp exd
          rw [List.drop_eq_getElem_cons hlt, hg]
        rw [edrop] at ell
        obtain ⟨o, ρ3, rest', es, el2, er⟩ := lcLoop_cons ell
        unfold lcStep at es
        cases ea : asgT tg d (wipeE ρc own) with
        | none => rw [ea] at es; cases es
        | some ρa =>
          rw [ea] at es
          dsimp only at es
          have slc : Sl K H' Oc (wipe σ own) (wipeE ρc own) fpc := st.sit.sl.mono l1 (fun _ z => z.elim) fun _ _ z => z
          obtain ⟨σ2, fp2, hgT, ok⟩ := asg_ok ea rx slc
          have far : ∀ j, j ∉ own → σ2[j]? = (wipe σ own)[j]? ∧ ρa.at_ j = (wipeE ρc own).at_ j := fun j hj => ok.far own j hin (by simpa using hj)
          have ew : wipe σ2 own = wipe σ own := by
            have e1 := wipe_eq (own := own) ok.len fun j hj => (far j hj).1
            rw [e1]
            exact wipe_eq (wipe_length _ _) fun j hj => by rw [wipe_get, if_neg hj]
          have sA : Stp K C.bor σ2 Hc Oc fpc H' Oc ρa fp2 := ⟨l1.mono fun _ z => z.elim, ⟨w2, ok.sl, fun j hj => ok.some j (by exact st.sit.bo j hj)⟩, fun a ha => .inl (ok.fr a ha)⟩
          -- the end of a turn
          have fin : ∀ {H4 : Hp} {O4 : Addr → Prop} {ρ4 : Env} {fp4 : Fp}, Stp K C.bor σ2 Hc Oc fpc H4 O4 ρ4 fp4 → H4 D = some (.lst vs) ∧ O4 D ∧ ¬ FF fp4 D := fun sB =>
            ⟨sB.le.ext _ _ hv nf, sB.le.own _ hO nf, fun z => by
              rcases sB.fr _ z with z | z
              · exact nf z
              · rw [hv] at z; cases z⟩
          have wipB : ∀ {H4 : Hp} {O4 : Addr → Prop} {ρ4 : Env} {fp4 : Fp}, Sit K C.bor H4 O4 σ2 ρ4 fp4 → Sit K C.bor H4 O4 (wipe σ own) (wipeE ρ4 own) (fpWipe fp4 own) := fun sB =>
            ⟨sB.w, by have := sB.sl.wipe2 own; rw [ew] at this; exact this, fun j hj => by rw [wipe_at (hbor j hj)]; exact sB.bo j hj⟩
          refine hgT _ ⟨ew, ?_⟩
          refine ht K Wf σ2 H' Oc ρa fp2 _ sA.sit ?_
          cases ec : evC C ifs ρa with
          | bad => rw [ec] at es; cases es
          | exc x ρ' => rw [ec] at es; cases es
          | ok b ρb =>
            rw [ec] at es
            intro H3 O3 fp3 st3
            have sB := sA.trans st.sit.w st3
            cases b with
            | false =>
              cases es
              rw [if_neg Bool.false_ne_true]
              obtain ⟨f1, f2, f3⟩ := fin sB
              have stN : Stp K C.bor (wipe σ own) H1 O1 fp1 H3 O3 (wipeE ρ3 own) (fpWipe fp3 own) := ⟨(st.trans w1 sB).le, wipB sB.sit, fun a ha => by
                obtain ⟨j, _, hj⟩ := ff_wipe ha
                exact (st.trans w1 sB).fr a ⟨j, hj⟩⟩
              refine ⟨O3, ρ3, fpWipe fp3 own, vs, dsd, rest', G, stN, f1, f2, fun z => ?_, nG, pr.mono sB.le st.sit.sl.own (fun a ha => tm.dj a ha), ⟨tm.nd, fun a ha z => ?_, tm.fr⟩, el2, by rw [eds, er]⟩
              · obtain ⟨j, _, hj⟩ := ff_wipe z; exact f3 ⟨j, hj⟩
              · obtain ⟨j, _, hj⟩ := ff_wipe z
                rcases sB.fr a ⟨j, hj⟩ with q | q
                · exact tm.dj a ha q
                · exact wok_some st.sit.w (pr.own a ha) q
            | true =>
              rw [if_pos rfl]
              simp only [Rs.bind, if_true] at es
              refine he K Wf σ2 H3 O3 ρb fp3 _ st3.sit ?_
              cases ee : ev C elt ρb with
              | bad => rw [ee] at es; cases es
              | exc x ρ' => rw [ee] at es; cases es
              | ok d' ρd =>
                rw [ee] at es
                cases es
                intro yv H4 O4 fp4 G4 st4 r4 tm4
                have sC := sB.trans st.sit.w st4
                obtain ⟨b1, b2, b3⟩ := fin sB
                obtain ⟨f1, f2, f3⟩ := fin sC
                have nG4 : D ∉ G4 := fun z => by
                  rcases tm4.fr D z with q | q
                  · exact b3 q
                  · rw [b1] at q; cases q
                have hlen : vs.length < line := by
                  rw [eds, er, List.length_append, List.length_cons] at hline
                  rw [pr.len]
                  omega
                refine ⟨vs, f1, by rw [line_eq]; exact hlen, ?_⟩
                have lw : Le (fun a => a = D) H4 O4 (upd H4 D (.lst (vs ++ [yv]))) O4 := Le.write f1 trivial rfl
                have tmC : Tmp H1 fp1 fp4 (G ++ G4) := by
                  refine Tmp.seq st tm pr.own sC ⟨tm4.nd, tm4.dj, fun a ha => ?_⟩
                  rcases tm4.fr a ha with q | q
                  · exact sB.fr a q
                  · exact .inr (none_back sB.le q)
                have stC := st.trans w1 sC
                have slW := (wipB sC.sit).sl
                have nW : ¬ FF (fpWipe fp4 own) D := fun z => by obtain ⟨j, _, hj⟩ := ff_wipe z; exact f3 ⟨j, hj⟩
                have hOD : ∀ a, a = D → O4 a := fun a e => by rw [e]; exact f2
                have stN : Stp K C.bor (wipe σ own) H1 O1 fp1 (upd H4 D (.lst (vs ++ [yv]))) O4 (wipeE ρ3 own) (fpWipe fp4 own) := by
                  refine ⟨stC.le.trans lw (fun a e => .inr (by rw [e]; exact hD)) w1, ⟨sC.sit.w.upd_keep (.inr trivial), slW.mono lw hOD fun a ha e => nW (by rw [← e]; exact ha), (wipB sC.sit).bo⟩, fun a ha => ?_⟩
                  obtain ⟨j, _, hj⟩ := ff_wipe ha
                  exact stC.fr a ⟨j, hj⟩
                have prN : PRw K (upd H4 D (.lst (vs ++ [yv]))) O4 (vs ++ [yv]) (dsd ++ [d']) (G ++ G4) := by
                  have p1 := (pr.mono sC.le st.sit.sl.own fun a ha => tm.dj a ha).mono lw hOD fun a ha e => nG (by rw [← e]; exact ha)
                  have p2 := r4.mono lw hOD fun a ha e => nG4 (by rw [← e]; exact ha)
                  exact p1.snoc p2
                refine ⟨O4, ρ3, fpWipe fp4 own, vs ++ [yv], dsd ++ [d'], rest', G ++ G4, stN, upd_same, f2, nW, fun z => (List.mem_append.mp z).elim nG nG4, prN, ⟨tmC.nd, fun a ha z => ?_, tmC.fr⟩, el2, by rw [eds, er, List.append_assoc]; rfl⟩
                obtain ⟨j, _, hj⟩ := ff_wipe z
                exact tmC.dj a ha ⟨j, hj⟩
      · -- at last
        rintro Hn ⟨On, ρn, fpn, vs, dsd, rest, G, st, hv, hO, nf, nG, pr, tm, ell, eds⟩
        rw [List.drop_length] at ell
        cases ell
        rw [List.append_nil] at eds
        subst eds
        have l12 := st.sit.sl.len
        have l1 := st1.sit.sl.len
        rw [wipe_length, wipe_len] at l12
        have slB : Sl K Hn On σ (backE ρ1 ρ2 own) fpn := by
          refine ⟨by rw [back_len]; exact l12, fun j d e => ?_, fun j e => ?_, st.sit.sl.nd, st.sit.sl.dj⟩
          · have hj := at_lt e
            rw [back_len] at hj
            rw [back_at hj] at e
            by_cases hm : j ∈ own
            · rw [if_pos hm] at e
              obtain ⟨v, h1, h2⟩ := st1.sit.sl.rep j d e
              refine ⟨v, h1, ?_⟩
              rw [st.sit.sl.emp j (wipe_none hm)]
              exact (rw_plain h2 (hpl j hm d e)).2.2.mono st.le st1.sit.sl.own fun _ z => nomatch z
            · rw [if_neg hm] at e
              obtain ⟨v, h1, h2⟩ := st.sit.sl.rep j d (by rw [wipe_at hm]; exact e)
              rw [wipe_get, if_neg hm] at h1
              exact ⟨v, h1, h2⟩
          · by_cases hm : j ∈ own
            · exact st.sit.sl.emp j (wipe_none hm)
            · by_cases hj : j < ρ2.length
              · rw [back_at hj, if_neg hm] at e
                exact st.sit.sl.emp j (by rw [wipe_at hm]; exact e)
              · refine st.sit.sl.emp j ?_
                unfold Env.at_
                rw [List.getElem?_eq_none (by rw [wipe_len]; omega)]
                rfl
        have stB : Stp K C.bor σ H1 O1 fp1 Hn On (backE ρ1 ρ2 own) fpn := ⟨st.le, ⟨st.sit.w, slB, fun j hj => by
          have h1 := st.sit.bo j hj
          rw [wipe_at (hbor j hj)] at h1
          cases e : ρ2.at_ j with
          | none => exact absurd e h1
          | some d => rw [back_at (at_lt e), if_neg (hbor j hj), e]; exact fun z => nomatch z⟩, st.fr⟩
        exact lst_finR s.w (st1.trans s.w stB) hv hO nf (.inr (none_back st1.le hD)) nG pr ⟨tm.nd, tm.dj, fun a ha => (tm.fr a ha).elim (st1.fr a) fun e => .inr (none_back st1.le e)⟩ ed q
    · exact q.elim
end
end Pv

/-! Pv, part R: expressions, all forms. -/
namespace Pv
open PySem PySem.Spec L2 RZ
open PyProof.Rows hiding St

section
variable {C : Ctx} {L : Lib} {N : List Str} {k : Nat}
theorem AllS.len {P : E → Expr → Prop} {es : Es} {pes : List Expr} (h : AllS P es pes) : es.len = pes.length := by
  induction h with
  | nil => rfl
  | cons _ _ _ ih => show _ + 1 = _; rw [ih]; rfl
theorem snd_const {sc : Scope} {e : E} {pe : Expr} {v : V} {d : PD} (hr : ∀ K H O, Rp K H O v d) (he : ∀ ρ, ev C e ρ = .ok (.p d) ρ) (hp : ∀ X, PE X pe (tC v)) (ht : ∀ (env : PySem.Env) whole, isTrue pe env whole = (do let v ← whole; standAt pe.pos; holding [v] (truthy v))) (hv : ∀ i, e ≠ .var i) : Snd C L N sc k e pe :=
  Snd.plain ht ⟨fun _ _ => tC v, fun X W _ _ => hp X, fun K W σ H O ρ fp Q s hh => sem_const hr K W σ H O ρ fp Q s (by rw [he] at hh; exact hh)⟩ fun i z => absurd z (hv i)
theorem prim_bl {p : Prim} (hp : (∃ op, p = .cmp op) ∨ ∃ g, p = .inr g) {es : Es} : ∀ ρ d ρ', ev C (.prim p es) ρ = .ok d ρ' → ∃ c, d = .p (.bool c) := by
  intro ρ d ρ' h
  rw [ev] at h
  cases e1 : evA C es ρ with
  | bad => rw [e1] at h; cases h
  | exc x r => rw [e1] at h; cases h
  | ok as ρ1 =>
    rw [e1] at h
    simp only [Rs.bind] at h
    split at h
    · rename_i ds ea
      cases e2 : prD p ds with
      | none => rw [e2] at h; cases h
      | some d' =>
        rw [e2] at h
        cases h
        rcases hp with ⟨op, rfl⟩ | ⟨g, rfl⟩
        · match ds, e2 with
          | [a, b], e2 =>
            obtain ⟨c, _, rfl⟩ := Option.map_eq_some_iff.mp (show (cmpD op a b).map (fun c => D.p (.bool c)) = some d from e2)
            exact ⟨c, rfl⟩
        · unfold prD at e2
          split at e2 <;> first | contradiction | (cases e2; exact ⟨_, rfl⟩)
    · cases h
theorem snd_prim {sc : Scope} {p : Prim} {es : Es} {pe : Expr} {pes : List Expr} (h : AllS (Snd C L N sc k) es pes) (ht : ∀ (env : PySem.Env) whole, isTrue pe env whole = (do let v ← whole; standAt pe.pos; holding [v] (truthy v)))
    (hp : ∀ X W ts, Good L N sc C.B k X → PEs X W pes ts → ∀ r ∈ rPr X.K p, PE X pe (tCB r (tAll X.K W ts))) : Snd C L N sc k (.prim p es) pe := by
  obtain ⟨ts, h1, h2⟩ := allA h
  exact Snd.plain ht ⟨_, fun X W g tk => pe_ex (hp X W ts g (h1 X W g tk)), semV_prim h2⟩ fun i z => nomatch z
theorem pt_ex {X : Cx} {e : Expr} {l : List RL} {T : TA} (h : ∀ r ∈ l, PT X e (fun σ H Q => tCB r T σ H fun x H' => ∃ k, x = .bl k ∧ Q k H')) : PT X e (fun σ H Q => (fun σ H Q => ∃ r, r ∈ l ∧ tCB r T σ H Q) σ H fun x H' => ∃ k, x = .bl k ∧ Q k H') :=
  ⟨fun pins s σ H Q I ⟨r, hr, q⟩ => (h r hr).run pins s σ H Q I q⟩
theorem snd_cmp {sc : Scope} {p : Prim} (hb : (∃ op, p = .cmp op) ∨ ∃ g, p = .inr g) {es : Es} {pe : Expr} {pes : List Expr} (h : AllS (Snd C L N sc k) es pes)
    (hp : ∀ X W ts, Good L N sc C.B k X → PEs X W pes ts → ∀ r ∈ rPr X.K p, PE X pe (tCB r (tAll X.K W ts)) ∧ PT X pe (fun σ H Q => tCB r (tAll X.K W ts) σ H fun x H' => ∃ k, x = .bl k ∧ Q k H')) : Snd C L N sc k (.prim p es) pe := by
  obtain ⟨ts, h1, h2⟩ := allA h
  have sv := semV_prim (p := p) h2
  refine ⟨⟨_, fun X W g tk => pe_ex fun r hr => (hp X W ts g (h1 X W g tk) r hr).1, sv⟩, ⟨fun K W σ H Q => (fun σ H Q => ∃ r, r ∈ rPr K p ∧ tCB r (tAll K W ts) σ H Q) σ H fun x H' => ∃ k, x = .bl k ∧ Q k H', fun X W g tk => pt_ex fun r hr => (hp X W ts g (h1 X W g tk) r hr).2, ?_⟩, fun i z => nomatch z⟩
  exact semT_bl sv (prim_bl hb)
theorem pes2 {X : Cx} {W : WX} {a b : Expr} {ts : List (TW TE)} (h : PEs X W [a, b] ts) : ∃ t u : TW TE, ts = [t, u] ∧ PE X a (t X.K W) ∧ PE X b (u X.K W) ∧ top a = true ∧ top b = true := by
  cases h with
  | cons p q =>
    cases q with
    | cons p' q' =>
      cases q'
      exact ⟨_, _, rfl, p.2, p'.2, p.1, p'.1⟩
theorem pes1 {X : Cx} {W : WX} {a : Expr} {ts : List (TW TE)} (h : PEs X W [a] ts) : ∃ t : TW TE, ts = [t] ∧ PE X a (t X.K W) ∧ top a = true := by
  cases h with
  | cons p q =>
    cases q
    exact ⟨_, rfl, p.2, p.1⟩
theorem pes3 {X : Cx} {W : WX} {a b c : Expr} {ts : List (TW TE)} (h : PEs X W [a, b, c] ts) : ∃ t u v : TW TE, ts = [t, u, v] ∧ PE X a (t X.K W) ∧ PE X b (u X.K W) ∧ PE X c (v X.K W) ∧ top b = true ∧ top c = true := by
  cases h with
  | cons p q =>
    obtain ⟨u, v, e, h1, h2, h3, h4⟩ := pes2 q
    subst e
    exact ⟨_, u, v, rfl, p.2, h1, h2, h3, h4⟩
theorem lc_ifs {sc' : Scope} {ifs : Es} {pifs : List Expr} (hl : pifs.length ≤ 1) (hf : AllS (Snd C L N sc' k) ifs pifs) : ∃ tt : TW TT, (∀ X W, Good L N sc' C.B k X → Takes X W → PTs X pifs (tt X.K W)) ∧ SemT C.bor tt (evC C ifs) := by
  cases hf with
  | nil => exact ⟨fun _ _ => tYes, fun X W _ _ => pts_nil, fun K W σ H O ρ fp Q s h => h H O fp (Stp.refl s)⟩
  | cons _ hs hr =>
    cases hr with
    | nil =>
      obtain ⟨u, u1, u2⟩ := hs.t
      refine ⟨u, fun X W g tk => pts_one (u1 X W g tk), fun K W σ H O ρ fp Q s h => ?_⟩
      refine u2 K W σ H O ρ fp Q s ?_
      rw [evC] at h
      rw [evT_eq]
      cases e : ev C _ ρ with
      | bad => rw [e] at h; exact h
      | exc x r => rw [e] at h; exact h
      | ok d ρ1 =>
        rw [e] at h
        simp only [Rs.bind] at h ⊢
        cases et : truthD d with
        | none => rw [et] at h; exact h
        | some b =>
          rw [et] at h
          cases b with
          | true => dsimp only at h; rw [evC] at h; exact h
          | false => exact h
    | cons _ _ _ => simp at hl
theorem lc_tg {sc scope : Scope} {tg : T} {ptg : Expr} {X : Cx} (g : Good L N sc C.B k X) (htg : tgB N scope tg ptg = true) : ∀ (s : Shared) (H : Hp) (Ca : Addr) (cl : List (Str × Addr)) (fp : List Addr), PG (X.blk s H scope (compEnvC scope cl Ca X.env) fp) ptg (gT X.K tg) := fun s H Ca cl fp => by
  refine pg_T (X := X.blk s H scope (compEnvC scope cl Ca X.env) fp) (sc := scope) g.N g.nd g.calm (fun x hx => ?_) htg
  show L2.Loc (relS scope X.env.scope) x ∧ ((scope.names.lookup x == some .cell) = true ∨ (relS scope X.env.scope).names.lookup x = some .local)
  rcases hx with hx | hx
  · exact ⟨.inl (relS_loc hx), .inr (relS_loc hx)⟩
  · exact ⟨.inr (relS_cell hx), .inl (by rw [hx]; rfl)⟩
theorem snd_lc {sc : Scope} {elt : E} {tg : T} {it : It} {ifs : Es} {own : List Nat} {pelt ptg pit : Expr} {pifs : List Expr} {scope : Scope} {pos : Pos} (hb : blkB N sc scope own = true) (hin : tgIn own tg = true) (htg : tgB N scope tg ptg = true)
    (hi : ∃ t : TW TI, (∀ X W, Good L N sc C.B k X → Takes X W → PI X ptg pit (t X.K W)) ∧ SemI C.bor t (evI C it)) (hl : pifs.length ≤ 1) (htop : top pit = true) (hf : AllS (Snd C L N (relS scope sc) k) ifs pifs) (he : Snd C L N (relS scope sc) k elt pelt) :
    Snd C L N sc k (.lc elt tg it ifs own) (.ListComp pelt [⟨ptg, pit, pifs, 0⟩] scope pos) := by
  obtain ⟨wi, w1, w2⟩ := hi
  obtain ⟨te, e1, e2⟩ := he.v
  obtain ⟨tt, t1, t2⟩ := lc_ifs hl hf
  have pe : ∀ X W, Good L N sc C.B k X → Takes X W → PE X (.ListComp pelt [⟨ptg, pit, pifs, 0⟩] scope pos) (tLc (wi X.K W) (gT X.K tg) (tt X.K Wf) (te X.K Wf) own) := fun X W g tk => by
    have ok := blk_ok hb
    have q := pe_lc (X := X) (pos := pos) (elt := pelt) (ifs := pifs) (te := te X.K Wf) (tt := tt X.K Wf) (g := gT X.K tg) (wi := wi X.K W) g.calm g.nd (w1 X W g tk) (by rw [g.N, g.sc]; exact ok) (lc_tg g htg)
      (fun s H Ca cl fp => t1 _ Wf (good_blk g) takes_blk) (fun s H Ca cl fp => e1 _ Wf (good_blk g) takes_blk) (folded htop)
    rw [ownN_snd] at q
    exact q
  exact Snd.plain (fun _ _ => rfl) ⟨fun K W => tLc (wi K W) (gT K tg) (tt K Wf) (te K Wf) own, pe, semV_lc hin w2 t2 e2⟩ fun i z => nomatch z
theorem prE {sc : Scope} {p : Prim} {es : Es} {pe : Expr} (ihs : ∀ pes, chkEs L N sc es pes = true → AllS (Snd C L N sc k) es pes) (h : chkE L N sc (.prim p es) pe = true) : Snd C L N sc k (.prim p es) pe := by
  rw [chkE.eq_def] at h
  dsimp only at h
  split at h
  · -- bin
    obtain ⟨h1, h2⟩ := and2 h
    have h1 := of_decide_eq_true h1
    subst h1
    refine snd_prim (ihs _ h2) (fun _ _ => rfl) fun X W ts g hp r hr => ?_
    obtain ⟨t, u, rfl, a1, a2, _, _⟩ := pes2 hp
    rw [List.mem_singleton.mp hr]
    exact pr_bin a1 a2 _
  · refine snd_prim (ihs _ h) (fun _ _ => rfl) fun X W ts g hp r hr => ?_
    obtain ⟨t, rfl, a1, _⟩ := pes1 hp
    rw [List.mem_singleton.mp hr]
    exact pr_neg a1
  · -- cmp
    obtain ⟨h1, h2⟩ := and2 h
    have h1 := of_decide_eq_true h1
    subst h1
    refine snd_cmp (.inl ⟨_, rfl⟩) (ihs _ h2) fun X W ts g hp r hr => ?_
    obtain ⟨t, u, rfl, a1, a2, _, b2⟩ := pes2 hp
    rw [List.mem_singleton.mp hr]
    exact ⟨pr_cmp g a1 a2 b2 _, pt_cmpR (op_cmp g.units _) a1 a2 (no_marks b2 _)⟩
  · -- idx
    refine snd_prim (ihs _ h) (fun _ _ => rfl) fun X W ts g hp r hr => ?_
    obtain ⟨t, u, rfl, a1, a2, _, b2⟩ := pes2 hp
    exact pr_idx g a1 a2 b2 r hr
  · refine snd_prim (ihs _ h) (fun _ _ => rfl) fun X W ts g hp r hr => ?_
    obtain ⟨t, rfl, a1, _⟩ := pes1 hp
    rw [List.mem_singleton.mp hr]
    exact pr_rev a1
  · -- bf
    obtain ⟨h1, h2⟩ := and2 h
    refine snd_prim (ihs _ h2) (fun _ _ => rfl) fun X W ts g hp r hr => ?_
    have tops := hp.tops
    exact pr_bf g h1 hp.pa (not_star (tops _ List.mem_cons_self)) (star_none fun x hx => tops x (List.mem_cons_of_mem _ hx)) r hr
  · -- isinstance
    obtain ⟨h1, h3⟩ := and2 h
    obtain ⟨h1, h2⟩ := and2 h1
    refine snd_prim (ihs _ h3) (fun _ _ => rfl) fun X W ts g hp r hr => ?_
    obtain ⟨t, rfl, a1, b1⟩ := pes1 hp
    rw [List.mem_singleton.mp hr]
    exact pr_isi g h1 h2 a1 b1
  · -- list(range(a))
    obtain ⟨h1, h3⟩ := and2 h
    obtain ⟨h1, h2⟩ := and2 h1
    refine snd_prim (ihs _ h3) (fun _ _ => rfl) fun X W ts g hp r hr => ?_
    obtain ⟨t, rfl, a1, b1⟩ := pes1 hp
    obtain ⟨e1, e2, e3, e4, e5⟩ := g.blt h1
    obtain ⟨f1, f2, f3, f4, f5⟩ := g.blt h2
    subst e1; subst f1
    rw [List.mem_singleton.mp hr]
    exact pe_listRg g.calm e2 e5 (prg_1 f2 f5 a1 (not_star b1)) (by rfl)
  · -- list(range(a, b))
    obtain ⟨h1, h3⟩ := and2 h
    obtain ⟨h1, h2⟩ := and2 h1
    refine snd_prim (ihs _ h3) (fun _ _ => rfl) fun X W ts g hp r hr => ?_
    obtain ⟨t, u, rfl, a1, a2, b1, b2⟩ := pes2 hp
    obtain ⟨e1, e2, e3, e4, e5⟩ := g.blt h1
    obtain ⟨f1, f2, f3, f4, f5⟩ := g.blt h2
    subst e1; subst f1
    rw [List.mem_singleton.mp hr]
    exact pe_listRg g.calm e2 e5 (prg_2 f2 f5 a1 a2 (not_star b1) (not_star b2) (by rw [not_star b2]; rfl)) (by rfl)
  · -- gcd
    obtain ⟨h1, h4⟩ := and2 h
    obtain ⟨h1, h3⟩ := and2 h1
    obtain ⟨h1, h2⟩ := and2 h1
    have h1 := of_decide_eq_true h1
    subst h1
    refine snd_prim (ihs _ h4) (fun _ _ => rfl) fun X W ts g hp r hr => ?_
    have tops := hp.tops
    obtain ⟨gx, hdb, _⟩ := g.gl h3
    rw [List.mem_singleton.mp hr]
    exact pe_callBfun cr_gcd gx (g.imp h2) hp.pa hdb (not_star (tops _ List.mem_cons_self)) (star_none fun x hx => tops x (List.mem_cons_of_mem _ hx))
  · -- in range
    obtain ⟨h1, h3⟩ := and2 h
    obtain ⟨h1, h2⟩ := and2 h1
    have h1 := of_decide_eq_true h1
    refine snd_cmp (.inr ⟨_, rfl⟩) (ihs _ h3) fun X W ts g hp r hr => ?_
    obtain ⟨t, u, v, rfl, a1, a2, a3, b2, b3⟩ := pes3 hp
    rw [List.mem_singleton.mp hr]
    refine ⟨pr_inr g h2 h1 a1 a2 a3 b2 b3, ?_⟩
    obtain ⟨e1, e2, e3, e4, e5⟩ := g.blt h2
    subst h1
    exact pt_cmpR (op_inR _) a1 (pe_callTy (cr_range2 (X := X)) e2 e5 (by rw [e1]; exact boot_range) (pa_cons a2 (pa_cons a3 pa_nil (not_star b3)) (not_star b2)) e4 e3 (not_star b2) (by rw [not_star b3]; rfl)) rfl
  · cases h
end
end Pv

/-! Pv, part Ix: simple indices; rows of lists: x[a][b]. -/
namespace Pv
open PySem PySem.Spec L2 RZ
open PyProof.Rows hiding St

section
variable {K : PySem.W.Frag} {bor : Nat → Bool} {σ : St} {H H1 H2 : Hp} {O O1 O2 : Addr → Prop} {ρ ρ1 : Env} {fp fp1 : Fp}
theorem Stp.new (w : Wok H O) (a : Stp K bor σ H O fp H1 O1 ρ1 fp1) (l2 : Le (fun _ => False) H1 O1 H2 O2) (w2 : Wok H2 O2) : Stp K bor σ H O fp H2 O2 ρ1 fp1 :=
  ⟨a.le.trans l2 (fun _ z => z.elim) w, ⟨w2, a.sit.sl.mono l2 (fun _ z => z.elim) fun _ _ z => z, a.sit.bo⟩, a.fr⟩
/-- of the row at m: where it lies, and what becomes of all when it is written -/
theorem RwL.at_ : ∀ {vs : List V} {ll : List (List PD)} {F : List Addr} {m : Nat} {r0 : List PD}, RwL K H O vs ll F → ll[m]? = some r0 → F.Nodup → ∃ b ys, vs[m]? = some (.ref b) ∧ b ∈ F ∧ H b = some (.lst ys) ∧ O b ∧ RpAll K H O ys r0 ∧
    ∀ zs r1, RpAll K (upd H b (.lst zs)) O zs r1 → RwL K (upd H b (.lst zs)) O vs (ll.set m r1) F
  | _, _, _, _, _, .nil, h, _ => by simp at h
  | _, _, _, 0, _, .cons (a := a) (xs := xs) (vs := vs) (F := F) h o t q, e, n => by
    simp at e
    subst e
    refine ⟨a, xs, rfl, List.mem_cons_self, h, o, t, fun zs r1 hr => ?_⟩
    have lw : Le (fun x => x = a) H O (upd H a (.lst zs)) O := Le.write h trivial rfl
    exact .cons upd_same o hr (q.mono lw (fun b e => by rw [e]; exact o) fun x hx e => (List.nodup_cons.mp n).1 (e ▸ hx))
  | _, _, _, m + 1, _, .cons (a := a) (xs := xs) (vs := vs) (F := F) h o t q, e, n => by
    have e : _ := e
    simp at e
    obtain ⟨n1, n2⟩ := List.nodup_cons.mp n
    obtain ⟨b, ys, e1, e2, e3, e4, e5, e6⟩ := RwL.at_ q e n2
    refine ⟨b, ys, by simpa using e1, List.mem_cons_of_mem _ e2, e3, e4, e5, fun zs r1 hr => ?_⟩
    have hab : a ≠ b := fun z => n1 (z ▸ e2)
    have lw : Le (fun x => x = b) H O (upd H b (.lst zs)) O := Le.write e3 trivial rfl
    exact .cons (by rw [upd_ne hab]; exact h) o (t.mono lw fun c e => by rw [e]; exact e4) (e6 zs r1 hr)
end
section
variable {K : PySem.W.Frag} {bor : Nat → Bool} {σ σ1 σ2 : St} {H H1 H2 : Hp} {O O1 O2 : Addr → Prop} {ρ ρ1 ρ2 : Env} {fp fp1 fp2 : Fp} {G G1 G2 : List Addr}
theorem slot_writeE {i : Nat} {v : V} {d1 d2 : D} {a : Addr} {o u : HO} {F2 : List Addr} (w : Wok H O) (st : Stp K bor σ H O fp H1 O1 ρ1 fp1) (hv : σ[i]? = some (some v)) (e : ρ1.at_ i = some d1) (ha : a ∈ fp1 i) (hu : H1 a = some u) (mu : MutO u) (mo : MutO o)
    (r : Rw K (upd H1 a o) O1 v d2 F2) (nd : F2.Nodup) (tm : Tmp H fp fp1 G) (hF : ∀ x ∈ F2, x ∈ fp1 i ∨ x ∈ G) : ∃ fp', Stp K bor σ H O fp (upd H1 a o) O1 (ρ1.put i d2) fp' ∧ ∀ x, FF fp' x → FF fp1 x ∨ x ∈ G := by
  have hO := st.sit.sl.own a ⟨i, ha⟩
  have lw : Le (fun x => x = a) H1 O1 (upd H1 a o) O1 := Le.write hu mu rfl
  have s1 := (st.sit.sl.drop (i := i)).mono lw (fun x e => by rw [e]; exact hO) fun x ⟨j, hj⟩ e2 => by
    by_cases ej : j = i
    · subst ej; rw [fpSet_self] at hj; cases hj
    · rw [fpSet_ne ej] at hj
      rw [e2] at hj
      exact st.sit.sl.dj j i ej a hj ha
  have hi := at_lt e
  have s2 := s1.set (i := i) (v := v) (d := d2) (F := F2) (by rw [List.length_set]; exact hi) r nd fun j hj x hx z => by
    rw [fpSet_ne hj] at z
    rcases hF x hx with q | q
    · exact st.sit.sl.dj i j (Ne.symm hj) x q z
    · exact tm.dj x q ⟨j, z⟩
  have e1 : σ.set i (some v) = σ := by
    obtain ⟨hlt, hg⟩ := List.getElem?_eq_some_iff.mp hv
    rw [← hg, List.set_getElem_self]
  have e2 : Env.put (ρ1.set i none) i d2 = ρ1.put i d2 := by unfold Env.put; rw [List.set_set]
  rw [e1, e2] at s2
  have fr : ∀ x, FF (fpSet (fpSet fp1 i []) i F2) x → FF fp1 x ∨ x ∈ G := fun x hx => by
    rcases FF_set hx with z | ⟨j, hj, z⟩
    · exact (hF x z).imp (fun q => ⟨i, q⟩) id
    · rw [fpSet_ne hj] at z; exact .inl ⟨j, z⟩
  refine ⟨_, ⟨st.le.trans lw (fun x e => by rw [e]; exact st.fr a ⟨i, ha⟩) w, ⟨st.sit.w.upd_keep (.inr mo), s2, fun j hj => ?_⟩, fun x hx => (fr x hx).elim (st.fr x) (tm.fr x)⟩, fr⟩
  by_cases ej : j = i
  · subst ej; rw [at_put_self hi]; exact fun z => nomatch z
  · rw [at_put_ne (Ne.symm ej)]; exact st.sit.bo j hj
end
section
variable {C : Ctx} {L : Lib} {N : List Str} {sc : Scope} {k : Nat}
theorem rw_intV {K : PySem.W.Frag} {H : Hp} {O : Addr → Prop} {v : V} {d : D} {F : List Addr} {n : Int} (r : Rw K H O v d F) (h : d.fz = .p (.int n)) : v = .int n ∧ d = .p (.int n) := by
  cases d with
  | p d => cases h; exact ⟨rw_int r, rfl⟩
  | _ => cases h
theorem var_int {i : Nat} {K : PySem.W.Frag} {σ : St} {H : Hp} {O : Addr → Prop} {ρ ρ' : Env} {fp : Fp} {n : Int} (s : Sit K C.bor H O σ ρ fp) (h : ev C (.var i) ρ = .ok (.p (.int n)) ρ') : ρ' = ρ ∧ ρ.at_ i = some (.p (.int n)) ∧ σ[i]? = some (some (.int n)) := by
  rw [ev] at h
  unfold readVar at h
  cases e : ρ.at_ i with
  | none => rw [e] at h; cases h
  | some d =>
    rw [e] at h
    injection h with h1 h2
    obtain ⟨v, hv, r⟩ := s.sl.rep i d e
    obtain ⟨rfl, rfl⟩ := rw_intV r h1
    exact ⟨h2.symm, rfl, hv⟩
def SimpR (C : Ctx) (e : E) (t : TW TE) : Prop := ∀ K W σ H O ρ fp n ρ' Q, Sit K C.bor H O σ ρ fp → ev C e ρ = .ok (.p (.int n)) ρ' → ρ' = ρ ∧ (NewP K H O (.p (.int n)) Q → t K W σ H Q)
theorem atom_pe {e : E} {pe : Expr} (ha : atomB e = true) (h : chkE L N sc e pe = true) : ∃ t : TW TE, (∀ X W, Good L N sc C.B k X → Takes X W → PE X pe (t X.K W)) ∧
    (∀ K W σ H O ρ fp n ρ' Q, Sit K C.bor H O σ ρ fp → ev C e ρ = .ok (.p (.int n)) ρ' → ρ' = ρ ∧ (Q (.int n) H → t K W σ H Q)) ∧ ∀ K σ H O ρ fp as ρ' , Sit K C.bor H O σ ρ fp → evA C (.cons e .nil) ρ = .ok as ρ' → ∀ n, argsGet ρ' as = some [.p (.int n)] → ρ' = ρ ∧ ev C e ρ = .ok (.p (.int n)) ρ := by
  cases e with
  | var i =>
    rw [chkE.eq_def] at h
    dsimp only at h
    split at h
    · refine ⟨fun _ _ => tVar i, fun X W g _ => pe_slot g h, fun K W σ H O ρ fp n ρ' Q s hh => ?_, fun K σ H O ρ fp as ρ' s hh n hn => ?_⟩
      · obtain ⟨a, _, c⟩ := var_int s hh
        exact ⟨a, fun q => ⟨_, c, q⟩⟩
      · rw [evA] at hh
        split at hh
        · rw [evA] at hh
          cases hh
          rw [argsGet] at hn
          refine ⟨rfl, ?_⟩
          cases e : ρ.at_ i with
          | none => simp [Arg.get, e] at hn
          | some d =>
            simp [Arg.get, e, argsGet] at hn
            subst hn
            rw [ev]; unfold readVar; rw [e]; rfl
        · cases hh
    · cases h
  | int j =>
    rw [chkE.eq_def] at h
    dsimp only at h
    split at h
    · have h := of_decide_eq_true h
      subst h
      refine ⟨fun _ _ => tC (.int j), fun X W g _ => pe_int, fun K W σ H O ρ fp n ρ' Q s hh => ?_, fun K σ H O ρ fp as ρ' s hh n hn => ?_⟩
      · rw [ev] at hh
        cases hh
        exact ⟨rfl, fun q => q⟩
      · rw [evA, ev] at hh
        · simp only [Rs.bind] at hh
          rw [evA] at hh
          cases hh
          simp [argsGet, Arg.get] at hn
          subst hn
          exact ⟨rfl, by rw [ev]⟩
        · exact fun i z => nomatch z
    · cases h
  | _ => cases ha
theorem evA_two {e f : E} {ρ ρ' : Env} {as : List Arg} (ha : atomB e = true) (h : evA C (.cons e (.cons f .nil)) ρ = .ok as ρ') : ∃ a bs, as = a :: bs ∧ evA C (.cons e .nil) ρ = .ok [a] ρ ∧ evA C (.cons f .nil) ρ = .ok bs ρ' := by
  cases e with
  | var i =>
    rw [evA] at h
    rw [evA]
    split at h
    · rename_i hs
      rw [if_pos hs]
      cases q : evA C (.cons f .nil) ρ with
      | ok bs ρ2 => rw [q] at h; cases h; exact ⟨_, _, rfl, by rw [evA]; rfl, rfl⟩
      | exc x ρ2 => rw [q] at h; cases h
      | bad => rw [q] at h; cases h
    · cases h
  | int j =>
    rw [evA, ev] at h
    · simp only [Rs.bind] at h
      cases q : evA C (.cons f .nil) ρ with
      | ok bs ρ2 =>
        rw [q] at h; cases h
        refine ⟨_, _, rfl, ?_, rfl⟩
        rw [evA, ev]
        · simp only [Rs.bind]; rw [evA]
        · exact fun i z => nomatch z
      | exc x ρ2 => rw [q] at h; cases h
      | bad => rw [q] at h; cases h
    · exact fun i z => nomatch z
  | _ => cases ha
theorem binD_int {op : Operator} {a b : D} {n : Int} (h : binD op a b = some (.p (.int n))) : ∃ i j, a = .p (.int i) ∧ b = .p (.int j) := by
  unfold binD at h
  split at h
  · split at h
    · exact ⟨_, _, rfl, rfl⟩
    · cases h
  · split at h
    · split at h <;> cases h
    · cases h
  · unfold binT at h
    split at h
    · split at h <;> cases h
    · split at h
      · cases h
      · split at h <;> cases h
    · cases h
  · unfold binL at h
    split at h
    · split at h <;> cases h
    · split at h
      · split at h <;> cases h
      · cases h
  · unfold binL at h
    split at h
    · split at h <;> cases h
    · split at h
      · split at h <;> cases h
      · cases h
  · cases h
theorem bin_two {op : Operator} {ds : List D} {d : D} (h : prD (.bin op) ds = some d) : ∃ a b, ds = [a, b] ∧ binD op a b = some d := by
  match ds, h with
  | [a, b], h => exact ⟨a, b, rfl, h⟩
  | [], h => cases h
  | [_], h => cases h
  | _ :: _ :: _ :: _, h => cases h
theorem rw_rows {K : PySem.W.Frag} {H : Hp} {O : Addr → Prop} {v : V} {l : List (List PD)} {F : List Addr} (r : Rw K H O v (.own2 l) F) : ∃ a xs F', v = .ref a ∧ F = a :: F' ∧ H a = some (.lst xs) ∧ O a ∧ RwL K H O xs l F' := by
  cases r with
  | own2 h o t => exact ⟨_, _, _, rfl, rfl, h, o, t⟩
theorem simp_pe {e : E} {pe : Expr} (hs : simpB e = true) (h : chkE L N sc e pe = true) : ∃ t : TW TE, (∀ X W, Good L N sc C.B k X → Takes X W → PE X pe (t X.K W)) ∧ SimpR C e t := by
  have low : atomB e = true → ∃ t : TW TE, (∀ X W, Good L N sc C.B k X → Takes X W → PE X pe (t X.K W)) ∧ SimpR C e t := fun ha => by
    obtain ⟨t, t1, t2, _⟩ := atom_pe (C := C) (k := k) ha h
    refine ⟨t, t1, fun K W σ H O ρ fp n ρ' Q s hh => ?_⟩
    exact ⟨(t2 K W σ H O ρ fp n ρ' Q s hh).1, fun q => (t2 K W σ H O ρ fp n ρ' Q s hh).2 (q.plain s.w (.int n))⟩
  unfold simpB at hs
  split at hs
  · exact low rfl
  · exact low rfl
  · rename_i op x y
    obtain ⟨hx, hy⟩ := and2 hs
    cases pe with
    | BinOp a op' b pos =>
      rw [chkE.eq_def] at h
      dsimp only at h
      obtain ⟨g0, g⟩ := and2 h
      cases of_decide_eq_true g0
      simp only [chkEs, Bool.and_eq_true] at g
      obtain ⟨⟨t1', h1⟩, ⟨t2', h2⟩, _⟩ := g
      obtain ⟨tx, x1, x2, x3⟩ := atom_pe (C := C) (k := k) hx h1
      obtain ⟨ty, y1, y2, y3⟩ := atom_pe (C := C) (k := k) hy h2
      refine ⟨fun K W => tCB (m2 (rBin K op)) (tCons (tx K W) (tCons (ty K W) tNil)), fun X W g tk => pr_bin (x1 X W g tk) (y1 X W g tk) op, fun K W σ H O ρ fp n ρ' Q s hh => ?_⟩
      rw [ev] at hh
      cases q : evA C (.cons x (.cons y .nil)) ρ with
      | exc e ρ2 => rw [q] at hh; cases hh
      | bad => rw [q] at hh; cases hh
      | ok as ρ2 =>
        rw [q] at hh
        obtain ⟨u, bs, rfl, qx, qy⟩ := evA_two hx q
        change (match argsGet ρ2 (u :: bs) with | some ds => Rs.ofO (prD (.bin op) ds) ρ2 | none => .bad) = _ at hh
        cases ea : argsGet ρ2 (u :: bs) with
        | none => rw [ea] at hh; cases hh
        | some ds =>
          rw [ea] at hh
          change Rs.ofO (prD (.bin op) ds) ρ2 = _ at hh
          cases ep : prD (.bin op) ds with
          | none => rw [ep] at hh; cases hh
          | some d =>
            rw [ep] at hh
            injection hh with e1 e2
            subst e1 e2
            -- both arguments are ints
            rw [argsGet] at ea
            cases eu : u.get ρ2 with
            | none => rw [eu] at ea; cases ea
            | some d1 =>
              rw [eu] at ea
              cases eb : argsGet ρ2 bs with
              | none => rw [eb] at ea; cases ea
              | some ds2 =>
                rw [eb] at ea
                cases ea
                obtain ⟨a', b', ee, ep'⟩ := bin_two ep
                cases ee
                obtain ⟨i, j, rfl, rfl⟩ := binD_int ep'
                obtain ⟨rfl, vy⟩ := y3 K σ H O ρ fp bs ρ2 s qy j eb
                obtain ⟨_, vx⟩ := x3 K σ H O ρ2 fp [u] ρ2 s qx i (by rw [argsGet, eu]; rfl)
                refine ⟨rfl, fun nq => ?_⟩
                refine (x2 K W σ H O ρ2 fp i ρ2 _ s vx).2 ?_
                refine (y2 K W σ H O ρ2 fp j ρ2 _ s vy).2 ?_
                exact vok_bin op H O [.int i, .int j] [.p (.int i), .p (.int j)] (.p (.int n)) Q s.w (.cons ⟨_, .p (.int i)⟩ (.cons ⟨_, .p (.int j)⟩ .nil)) ep nq |> fun ⟨_, _, e, q⟩ => by cases e; exact q
    | _ => rw [chkE.eq_def] at h; cases h
  · cases hs
/-- x[a][b], x a list of rows -/
theorem snd_idx2 {i : Nat} {a b : E} {x : Str} {p1 p2 p3 : Pos} {pa pb : Expr} (h1 : slotB N sc i x = true) (ha : simpB a = true) (hb : simpB b = true) (ta : top pa = true) (tb : top pb = true) (ca : chkE L N sc a pa = true) (cb : chkE L N sc b pb = true) :
    Snd C L N sc k (.idx2 i a b) (.Subscript (.Subscript (.Name x p1) pa p2) pb p3) := by
  obtain ⟨u, u1, u2⟩ := simp_pe (C := C) (k := k) ha ca
  obtain ⟨v, v1, v2⟩ := simp_pe (C := C) (k := k) hb cb
  refine Snd.plain (fun _ _ => rfl) ⟨fun K W => tOp (rIxL K) (tOp (rIxL K) (tVar i) (u K W)) (v K W), fun X W g tk => pe_ix ix_list (pe_ix ix_list (pe_slot g h1) (u1 X W g tk) (plain_ix ta)) (v1 X W g tk) (plain_ix tb), ?_⟩ fun j z => nomatch z
  intro K W σ H O ρ fp Q s hh
  rw [ev] at hh
  unfold two at hh
  split at hh
  · rename_i l m ρ2 n ρ3 e0 qa qb
    split at hh
    · rename_i d ed
      have hh : EPost K C.bor σ H O fp (.p d) ρ Q := hh
      obtain ⟨r, er, ed⟩ := Option.bind_eq_some_iff.mp ed
      obtain ⟨z, hz, rz⟩ := s.sl.rep i _ e0
      obtain ⟨p, xs, F', rfl, eF, hp, hO, t1⟩ := rw_rows rz
      refine ⟨_, hz, ?_⟩
      refine (u2 K W σ H O ρ fp m ρ2 _ s qa).2 fun w1 H1 O1 F1 l1 wk1 r1 _ _ => ?_
      have ew1 := rw_int r1
      subst ew1
      have s1 := Stp.new s.w (Stp.refl s) l1 wk1
      have t1' := t1.mono l1 (fun _ z => z.elim) fun _ _ z => z
      unfold atI at er
      cases ej : ixN l.length m with
      | none => rw [ej] at er; cases er
      | some j =>
        rw [ej] at er
        have er : l[j]? = some r := er
        obtain ⟨b0, ys, e1, e2, e3, e4, e5, _⟩ := t1'.at_ er (by have := s.sl.nd i; rw [eF] at this; exact (List.nodup_cons.mp this).2)
        refine ⟨p, xs, m, .ref b0, rfl, rfl, SqL.of (l1.ext _ _ hp fun z => z), by unfold atI; rw [t1.length, ej]; exact e1, ?_⟩
        refine (v2 K W σ H1 O1 ρ fp n ρ3 _ s1.sit qb).2 fun w2 H2 O2 F2 l2 wk2 r2 _ _ => ?_
        have ew2 := rw_int r2
        subst ew2
        have s2 := Stp.new s.w s1 l2 wk2
        obtain ⟨w, g1, g2⟩ := atI_rp (e5.mono l2 fun _ z => z.elim) ed
        exact ⟨b0, ys, n, w, rfl, rfl, SqL.of (l2.ext _ _ e3 fun z => z), g1, hh w H2 O2 fp [] s2 (.p g2) Tmp.nil⟩
    · exact hh.elim
  · exact hh.elim
theorem rw_ownI {K : PySem.W.Frag} {H : Hp} {O : Addr → Prop} {v : V} {l : List PD} {F : List Addr} (r : Rw K H O v (.own l) F) : ∃ a xs, v = .ref a ∧ F = [a] ∧ H a = some (.lst xs) ∧ O a ∧ RpAll K H O xs l := by
  cases r with
  | own h o t => exact ⟨_, _, rfl, rfl, h, o, t⟩
theorem snd_pop {i : Nat} {x : Str} {p1 ap cp : Pos} (h1 : slotB N sc i x = true) (hl : (ap.endLine == cp.line) = true) : Snd C L N sc k (.pop i) (.Call (.Attribute (.Name x p1) "pop" ap) [] [] cp) := by
  refine Snd.plain (fun _ _ => rfl) ⟨fun K W => tBM0 K "list" rPop (tVar i), fun X W g tk => pe_bm0 PySem.F.plainAttrs_list PySem.F.slot_list_pop (by rfl) mt_pop (pe_slot g h1) (by rfl) hl, ?_⟩ fun j z => nomatch z
  intro K W σ H O ρ fp Q s hh
  rw [ev] at hh
  split at hh
  · rename_i l e0
    split at hh
    · rename_i d ed
      have hh : EPost K C.bor σ H O fp (.p d) (ρ.put i (.own l.dropLast)) Q := hh
      obtain ⟨z, hz, rz⟩ := s.sl.rep i _ e0
      obtain ⟨a, xs, rfl, eF, ha, hO, t1⟩ := rw_ownI rz
      refine ⟨_, hz, .inl ⟨rfl, _, SqL.of ha⟩, ?_⟩
      have hg : l[l.length - 1]? = some d := by rw [← List.getLast?_eq_getElem?]; exact ed
      obtain ⟨v, g1, g2⟩ := t1.get hg
      refine ⟨a, xs, v, rfl, rfl, ha, by rw [t1.length]; exact g1, ?_⟩
      have lw : Le (fun x => x = a) H O (upd H a (.lst xs.dropLast)) O := Le.write ha trivial rfl
      have hOa : ∀ b, b = a → O b := fun b e => by rw [e]; exact hO
      obtain ⟨fp', s2, _⟩ := slot_writeE (G := []) s.w (Stp.refl s) hz e0 (by rw [eF]; exact List.mem_cons_self) ha trivial (show MutO (.lst _) from trivial) (.own upd_same hO (t1.dropLast.mono lw hOa)) (List.nodup_cons.mpr ⟨List.not_mem_nil, List.nodup_nil⟩) Tmp.nil fun b hb => by rw [eF]; exact .inl hb
      exact hh v _ O fp' [] s2 (.p (g2.mono lw hOa)) Tmp.nil
    · exact hh.elim
  · exact hh.elim
theorem semV_dlit {k v : E} {tk tv : TW TE} (hk : SemV C.bor tk (ev C k)) (hv : SemV C.bor tv (ev C v)) : SemV C.bor (fun K W => tDisp [(tk K W, tv K W)]) (ev C (.dlit k v)) := by
  intro K W σ H O ρ fp Q s hh p hp
  rw [ev] at hh
  have s1 := Stp.new_own (o := .dK []) s.w (Stp.refl s) hp trivial
  have np : ¬ FF fp p := stp_fresh s.w (Stp.refl s) hp
  refine hk K W σ _ (addO O p) ρ fp _ s1.sit ((Rs.holds_bind hh).imp (fun kd ρ1 q => ?_) fun x ρ' q => XPost.after q s.w s1)
  intro x H1 O1 fp1 G1 st1 r1 t1
  have s2 := s1.trans s.w st1
  refine hv K W σ H1 O1 ρ1 fp1 _ st1.sit ((Rs.holds_bind q).imp (fun vd ρ2 q => ?_) fun x ρ' q => XPost.after q s.w s2)
  intro y H2 O2 fp2 G2 st2 r2 t2
  split at q
  · rename_i kp
    split at q
    · rename_i key d ek ev'
      have hx := keyP_rp (rw_rp r1) ek
      have hh : EPost K C.bor σ H O fp (.odk [(key, d)]) ρ2 Q := q
      have s3 := st1.trans s1.sit.w st2
      have hp1 := st1.le.ext p _ upd_same np
      have hp2 := s3.le.ext p _ upd_same np
      have hO2 : O2 p := s3.le.own p (.inr rfl) np
      have np1 : ¬ FF fp1 p := fun z => (st1.fr p z).elim np fun e => by rw [upd_same] at e; cases e
      have np2 : ¬ FF fp2 p := fun z => (st2.fr p z).elim np1 fun e => by rw [hp1] at e; cases e
      have nG : p ∉ G2 := fun z => (t2.fr p z).elim np1 fun e => by rw [hp1] at e; cases e
      have st := s1.trans s.w s3
      have tm : Tmp H fp fp2 G2 := ⟨t2.nd, t2.dj, fun a ha => (t2.fr a ha).elim (s2.fr a) fun e => .inr (none_back s2.le e)⟩
      have stO := st.offG s.w tm r2.own_mem
      have rd : Rp K H2 (offO O2 G2) y d := r2.toG (fun _ z => z) ev'
      refine ⟨hp2, [(key, y)], by rw [hx]; rfl, Nat.le_of_ble_eq_true rfl, ?_⟩
      have hOp : offO O2 G2 p := ⟨hO2, nG⟩
      have lw : Le (fun a => a = p) H2 (offO O2 G2) (upd H2 p (.dK [(key, y)])) (offO O2 G2) := Le.write hp2 trivial rfl
      have hOa : ∀ a, a = p → offO O2 G2 a := fun a e => by rw [e]; exact hOp
      have stF : Stp K C.bor σ H O fp (upd H2 p (.dK [(key, y)])) (offO O2 G2) ρ2 fp2 :=
        ⟨stO.le.trans lw (fun a e => .inr (by rw [e]; exact hp)) s.w, ⟨stO.sit.w.upd_keep (.inr trivial), stO.sit.sl.mono lw hOa fun a ha e => np2 (e ▸ ha), stO.sit.bo⟩, stO.fr⟩
      exact hh (.ref p) _ _ fp2 [p] stF (.odk upd_same hOp rfl (.cons (rd.mono lw hOa) .nil)) ⟨List.nodup_cons.mpr ⟨List.not_mem_nil, List.nodup_nil⟩, fun a ha => by rw [List.mem_singleton.mp ha]; exact np2, fun a ha => .inr (by rw [List.mem_singleton.mp ha]; exact hp)⟩
    · exact q.elim
  · exact q.elim
end
end Pv

/-! Pv, part U: expressions: the theorem. -/
namespace Pv
open PySem PySem.Spec L2 RZ
open PyProof.Rows hiding St

section
variable {C : Ctx} {L : Lib} {N : List Str} {k : Nat}
theorem sndO_of {sc : Scope} {es : Es} {o : Option Expr} (h : chkO L N sc es o = true) (ih : ∀ e pe, es = .cons e .nil → chkE L N sc e pe = true → Snd C L N sc k e pe) :
    ∃ t : TW (St → Hp → (Option Int → Hp → Prop) → Prop), (∀ X W, Good L N sc C.B k X → Takes X W → PO X o (t X.K W)) ∧ SemO C.bor t (evO C es) := by
  rw [chkO.eq_def] at h
  split at h
  · exact ⟨fun _ _ => tNoPart, fun X W _ _ => po_none, semO_nil⟩
  · obtain ⟨t, t1, t2⟩ := (ih _ _ rfl h).v
    exact ⟨fun K W => tPart (t K W), fun X W g tk => po_some (t1 X W g tk), semO_one t2⟩
  · cases h
mutual
theorem sndE : ∀ (e : E) (sc : Scope) (pe : Expr), chkE L N sc e pe = true → Snd C L N sc k e pe
  | .var i, sc, pe, h => by
    rw [chkE.eq_def] at h
    dsimp only at h
    split at h
    · refine Snd.plain (fun _ _ => rfl) ⟨fun _ _ => tVar i, fun X W g _ => pe_slot g h, ?_⟩ fun j ej X g => ?_
      · intro K W σ H O ρ fp Q s hh
        exact sem_var K W σ H O ρ fp Q s (by rw [ev] at hh; exact hh)
      · cases ej; exact pe_slot g h
    · cases h
  | .mv i, sc, pe, h => by
    rw [chkE.eq_def] at h
    dsimp only at h
    split at h
    · exact Snd.plain (fun _ _ => rfl) ⟨fun _ _ => tVar i, fun X W g _ => pe_slot g h, sem_mv⟩ fun j ej => nomatch ej
    · cases h
  | .non, sc, pe, h => by
    rw [chkE.eq_def] at h
    dsimp only at h
    split at h
    · exact snd_const (d := .none) (fun _ _ _ => .non) (fun ρ => by rw [ev]) (fun X => pe_non) (fun _ _ => rfl) fun i z => nomatch z
    · cases h
  | .bl b, sc, pe, h => by
    rw [chkE.eq_def] at h
    dsimp only at h
    split at h
    · rw [beq_iff_eq] at h
      subst h
      exact snd_const (d := .bool b) (fun _ _ _ => .bl b) (fun ρ => by rw [ev]) (fun X => pe_bl) (fun _ _ => rfl) fun i z => nomatch z
    · cases h
  | .int i, sc, pe, h => by
    rw [chkE.eq_def] at h
    dsimp only at h
    split at h
    · rw [beq_iff_eq] at h
      subst h
      exact snd_const (d := .int i) (fun _ _ _ => .int i) (fun ρ => by rw [ev]) (fun X => pe_int) (fun _ _ => rfl) fun i z => nomatch z
    · cases h
  | .str z, sc, pe, h => by
    rw [chkE.eq_def] at h
    dsimp only at h
    split at h
    · have h := of_decide_eq_true h
      subst h
      exact snd_const (d := .str z) (fun _ _ _ => .str z) (fun ρ => by rw [ev]) (fun X => pe_str) (fun _ _ => rfl) fun i z => nomatch z
    · cases h
  | .glb x d, sc, pe, h => by
    rw [chkE.eq_def] at h
    dsimp only at h
    split at h
    · rename_i y p
      obtain ⟨h, h3⟩ := and2 h
      obtain ⟨h1, h2⟩ := and2 h
      have h1 := of_decide_eq_true h1
      subst h1
      obtain ⟨q, hq, h4⟩ := List.any_eq_true.mp h3
      obtain ⟨h4, h5⟩ := and2 h4
      have h4 := of_decide_eq_true h4
      have h5 := sameP_eq h5
      refine Snd.plain (fun _ _ => rfl) ⟨fun K W σ H Q => ∀ v, (∀ H O, Rp K H O v d) → Q v H, fun X W g _ => ?_, fun K W σ H O ρ fp Q s hh => ?_⟩ fun i z => nomatch z
      · obtain ⟨v, u, e1, e2, e3⟩ := g.glb q hq
        obtain ⟨gx, hd, _⟩ := g.gl h2
        rw [h4] at e1
        rw [h5] at e3
        exact ⟨fun pins s σ H Q I q => (pe_glob gx e1 e2 hd).run pins s σ H Q I (q v e3)⟩
      · rw [ev] at hh
        exact fun v hv => hh v H O fp [] (Stp.refl s) (.p (hv H O)) Tmp.nil
    · cases h
  | .prim p es, sc, pe, h => prE (fun pes hp => sndEs es sc pes hp) h
  | .idx2 i a b, sc, pe, h => by
    rw [chkE.eq_def] at h
    dsimp only at h
    split at h
    · obtain ⟨h, h7⟩ := and2 h
      obtain ⟨h, h6⟩ := and2 h
      obtain ⟨h, h5⟩ := and2 h
      obtain ⟨h, h4⟩ := and2 h
      obtain ⟨h, h3⟩ := and2 h
      obtain ⟨h1, h2⟩ := and2 h
      exact snd_idx2 h1 h2 h3 h4 h5 h6 h7
    · cases h
  | .sl a lo hi, sc, pe, h => by
    rw [chkE.eq_def] at h
    dsimp only at h
    split at h
    · rename_i x l hh' p2 pos
      obtain ⟨h, h3⟩ := and2 h
      obtain ⟨h, h2⟩ := and2 h
      obtain ⟨h0, h1⟩ := and2 h
      have sa := sndE a sc _ h1
      obtain ⟨tl, l1, l2⟩ := sndO_of (C := C) (k := k) h2 fun e pe ee hc => by subst ee; exact sndE e sc pe hc
      obtain ⟨th, r1, r2⟩ := sndO_of (C := C) (k := k) h3 fun e pe ee hc => by subst ee; exact sndE e sc pe hc
      obtain ⟨ts, t1, t2, t3⟩ := allA3 (AllS.cons h0 sa .nil)
      match ts, t1, t2, t3 with
      | [t], t1, t2, _ =>
        refine Snd.plain (fun _ _ => rfl) ⟨_, fun X W g tk => ?_, semV_sl t2 l2 r2⟩ fun i z => nomatch z
        obtain ⟨t', e, p, _⟩ := pes1 (t1 X W g tk)
        cases e
        exact pe_slice sl_any p (l1 X W g tk) (r1 X W g tk)
    · cases h
  | .tup es, sc, pe, h => by
    rw [chkE.eq_def] at h
    dsimp only at h
    split at h
    · obtain ⟨ts, h1, h2⟩ := allL (sndEs es sc _ h)
      exact Snd.plain (fun _ _ => rfl) ⟨_, fun X W g tk => pe_tup (h1 X W g tk).pa, semV_tup h2⟩ fun i z => nomatch z
    · cases h
  | .lst es, sc, pe, h => by
    rw [chkE.eq_def] at h
    dsimp only at h
    split at h
    · obtain ⟨ts, h1, h2⟩ := allL (sndEs es sc _ h)
      exact Snd.plain (fun _ _ => rfl) ⟨_, fun X W g tk => pe_lst (h1 X W g tk).pa, semV_lst h2⟩ fun i z => nomatch z
    · cases h
  | .dnew t, sc, pe, h => by
    rw [chkE.eq_def] at h
    dsimp only at h
    split at h
    · cases t with
      | true => exact Snd.plain (fun _ _ => rfl) ⟨fun _ _ => tDNewT, fun X W _ _ => pe_dnewT, fun K W σ H O ρ fp Q s hh => semV_dnewT K W σ H O ρ fp Q s (by rw [ev] at hh; exact hh)⟩ fun i z => nomatch z
      | false => exact Snd.plain (fun _ _ => rfl) ⟨fun _ _ => tDNewK, fun X W _ _ => pe_dnewK, fun K W σ H O ρ fp Q s hh => semV_dnewK K W σ H O ρ fp Q s (by rw [ev] at hh; exact hh)⟩ fun i z => nomatch z
    · cases h
  | .dlit k v, sc, pe, h => by
    rw [chkE.eq_def] at h
    dsimp only at h
    split at h
    · obtain ⟨h1, h2⟩ := and2 h
      obtain ⟨tk, k1, k2⟩ := (sndE k sc _ h1).v
      obtain ⟨tv, v1, v2⟩ := (sndE v sc _ h2).v
      exact Snd.plain (fun _ _ => rfl) ⟨fun K W => tDisp [(tk K W, tv K W)], fun X W g tk' => pe_disp (pps_cons (k1 X W g tk') (v1 X W g tk') pps_nil) rfl rfl (fun z => nomatch z) (Nat.le_of_ble_eq_true rfl), semV_dlit k2 v2⟩ fun i z => nomatch z
    · cases h
  | .bop op es, sc, pe, h => by
    rw [chkE.eq_def] at h
    dsimp only at h
    split at h
    · obtain ⟨h, h2⟩ := and2 h
      obtain ⟨h1, h3⟩ := and2 h
      have h1 := of_decide_eq_true h1
      subst h1
      exact snd_bop (sndEs es sc _ h2) (fun z => by rw [z] at h3; cases h3) _
    · cases h
  | .nt a, sc, pe, h => by
    rw [chkE.eq_def] at h
    dsimp only at h
    split at h
    · exact snd_nt (sndE a sc _ h) _
    · cases h
  | .ite c a b, sc, pe, h => by
    rw [chkE.eq_def] at h
    dsimp only at h
    split at h
    · obtain ⟨h, h3⟩ := and2 h
      obtain ⟨h1, h2⟩ := and2 h
      exact snd_ite (sndE c sc _ h1) (sndE a sc _ h2) (sndE b sc _ h3) _
    · cases h
  | .chain o1 o2 a b c, sc, pe, h => by
    rw [chkE.eq_def] at h
    dsimp only at h
    split at h
    · obtain ⟨h, h6⟩ := and2 h
      obtain ⟨h, h5⟩ := and2 h
      obtain ⟨h, h4⟩ := and2 h
      obtain ⟨h, h3⟩ := and2 h
      obtain ⟨h1, h2⟩ := and2 h
      have h1 := of_decide_eq_true h1
      have h2 := of_decide_eq_true h2
      subst h1
      subst h2
      exact snd_chain (sndE a sc _ h4) (sndE b sc _ h5) (sndE c sc _ h6) h3 _
    · cases h
  | .call f src es kes, sc, pe, h => by
    rw [chkE.eq_def] at h
    dsimp only at h
    split at h
    · rename_i x p pos kws cp
      obtain ⟨h, h4⟩ := and2 h
      obtain ⟨h, h3⟩ := and2 h
      obtain ⟨h, h2⟩ := and2 h
      obtain ⟨h0, h1⟩ := and2 h
      obtain ⟨c, hc, h5⟩ := List.any_eq_true.mp h4
      obtain ⟨h5, h9⟩ := and2 h5
      obtain ⟨h5, h8⟩ := and2 h5
      obtain ⟨h5, h7⟩ := and2 h5
      obtain ⟨h5, h6⟩ := and2 h5
      have h5 := of_decide_eq_true h5
      have h6 := of_decide_eq_true h6
      have h7 := of_decide_eq_true h7
      have h8 := of_decide_eq_true h8
      have h9 := sameS_eq h9
      obtain ⟨ts, t1, t2, t3⟩ := allA3 (sndEs es sc _ h2)
      obtain ⟨us, u1, u2, u3⟩ := allA3 (sndEs kes sc _ h3)
      have hd : permOf src = none → ∀ d, some d ∈ src → dfP d = true := dfs_ok h0
      subst h5
      subst h9
      exact Snd.plain (fun _ _ => rfl) ⟨_, fun X W g tk => pe_cal g tk hc h6 h7 h8 h1 (t1 X W g tk) (u1 X W g tk), semV_call hd t2 u2 t3 u3⟩ fun i z => nomatch z
    · cases h
  | .lc elt tg it ifs own, sc, pe, h => by
    rw [chkE.eq_def] at h
    dsimp only at h
    split at h
    · obtain ⟨h, h8⟩ := and2 h
      obtain ⟨h, h7⟩ := and2 h
      obtain ⟨h, h6⟩ := and2 h
      obtain ⟨h, h5⟩ := and2 h
      obtain ⟨h, h4⟩ := and2 h
      obtain ⟨h, h3⟩ := and2 h
      obtain ⟨h1, h2⟩ := and2 h
      exact snd_lc h1 h2 h3 (sndI it sc _ _ h4) (of_decide_eq_true h5) h6 (sndEs ifs _ _ h7) (sndE elt _ _ h8)
    · cases h
  | .pop i, sc, pe, h => by
    rw [chkE.eq_def] at h
    dsimp only at h
    split at h
    · obtain ⟨h, h3⟩ := and2 h
      obtain ⟨h1, h2⟩ := and2 h
      have h1 := of_decide_eq_true h1
      subst h1
      exact snd_pop h2 h3
    · cases h
  | .popAt i e, sc, pe, h => by rw [chkE.eq_def] at h; cases h
theorem sndEs : ∀ (es : Es) (sc : Scope) (pes : List Expr), chkEs L N sc es pes = true → AllS (Snd C L N sc k) es pes
  | .nil, sc, [], h => .nil
  | .nil, sc, _ :: _, h => by rw [chkEs.eq_def] at h; cases h
  | .cons _ _, sc, [], h => by rw [chkEs.eq_def] at h; cases h
  | .cons e es, sc, pe :: pes, h => by
    rw [chkEs.eq_def] at h
    obtain ⟨h, h3⟩ := and2 h
    obtain ⟨h1, h2⟩ := and2 h
    exact .cons h1 (sndE e sc pe h2) (sndEs es sc pes h3)
theorem sndI : ∀ (it : It) (sc : Scope) (tg pe : Expr), chkI L N sc it tg pe = true → ∃ t : TW TI, (∀ X W, Good L N sc C.B k X → Takes X W → PI X tg pe (t X.K W)) ∧ SemI C.bor t (evI C it)
  | .seq e, sc, tg, pe, h => by
    rw [chkI.eq_def] at h
    dsimp only at h
    obtain ⟨h1, h2⟩ := and2 h
    obtain ⟨t, t1, t2⟩ := (sndE e sc pe h2).v
    exact ⟨_, fun X W g tk => pi_orr (pi_list (t1 X W g tk)) (pi_tup (t1 X W g tk)), semI_seq t2⟩
  | .range es, sc, tg, pe, h => by
    rw [chkI.eq_def] at h
    dsimp only at h
    split at h
    · obtain ⟨h1, h2⟩ := and2 h
      have al := sndEs es sc _ h2
      obtain ⟨ts, t1, t2⟩ := allA al
      refine ⟨_, fun X W g tk => ?_, semI_range1 al.len t2⟩
      obtain ⟨e1, e2, e3, e4, e5⟩ := g.blt h1
      subst e1
      have hp := t1 X W g tk
      exact pi_range1 e2 e5 hp.pa (by rw [not_star (hp.tops _ List.mem_cons_self)]; rfl)
    · obtain ⟨h1, h2⟩ := and2 h
      have al := sndEs es sc _ h2
      obtain ⟨ts, t1, t2⟩ := allA al
      refine ⟨_, fun X W g tk => ?_, semI_range2 al.len t2⟩
      obtain ⟨e1, e2, e3, e4, e5⟩ := g.blt h1
      subst e1
      have hp := t1 X W g tk
      have hb := hp.tops _ (List.mem_cons_of_mem _ List.mem_cons_self)
      exact pi_range2 e2 e5 hp.pa (by rw [not_star (hp.tops _ List.mem_cons_self), not_star hb]; rfl) (by rw [not_star hb]; rfl)
    · cases h
  | .enum e, sc, tg, pe, h => by
    rw [chkI.eq_def] at h
    dsimp only at h
    split at h
    · obtain ⟨h, h3⟩ := and2 h
      obtain ⟨h1, h2⟩ := and2 h
      obtain ⟨t, t1, t2⟩ := (sndE e sc _ h3).v
      refine ⟨_, fun X W g tk => ?_, semI_enum t2⟩
      obtain ⟨e1, e2, e3, e4, e5⟩ := g.blt h1
      subst e1
      exact pi_enum e2 e5 (pa_cons (t1 X W g tk) pa_nil (not_star h2)) (by rw [not_star h2]; rfl)
    · cases h
  | .zip a b, sc, tg, pe, h => by
    rw [chkI.eq_def] at h
    dsimp only at h
    split at h
    · obtain ⟨h, h5⟩ := and2 h
      obtain ⟨h, h4⟩ := and2 h
      obtain ⟨h, h3⟩ := and2 h
      obtain ⟨h1, h2⟩ := and2 h
      obtain ⟨t, t1, t2⟩ := (sndE a sc _ h4).v
      obtain ⟨u, u1, u2⟩ := (sndE b sc _ h5).v
      refine ⟨_, fun X W g tk => ?_, semI_zip t2 u2⟩
      obtain ⟨e1, e2, e3, e4, e5⟩ := g.blt h1
      subst e1
      exact pi_zipA e2 e5 (pa_cons (t1 X W g tk) (pa_cons (u1 X W g tk) pa_nil (not_star h3)) (not_star h2)) (not_star h2) (by rw [not_star h3]; rfl)
    · cases h
  | .rev e, sc, tg, pe, h => by
    rw [chkI.eq_def] at h
    dsimp only at h
    split at h
    · obtain ⟨h, h3⟩ := and2 h
      obtain ⟨h1, h2⟩ := and2 h
      obtain ⟨t, t1, t2⟩ := (sndE e sc _ h3).v
      refine ⟨_, fun X W g tk => ?_, semI_rev t2⟩
      obtain ⟨e1, e2, e3, e4, e5⟩ := g.blt h1
      subst e1
      exact pi_reversed e2 e5 (pa_cons (t1 X W g tk) pa_nil (not_star h2)) (by rw [not_star h2]; rfl)
    · cases h
end
end
end Pv

/-! Pv, part V: what is wanted of a statement; targets. -/
namespace Pv
open PySem PySem.Spec L2 RZ
open PyProof.Rows hiding St

section
variable (K : PySem.W.Frag) (bor : Nat → Bool)
/-- a step that may change slots (not what was lent) -/
structure StpS (σ : St) (H : Hp) (O : Addr → Prop) (fp : Fp) (σ' : St) (H' : Hp) (O' : Addr → Prop) (ρ' : Env) (fp' : Fp) : Prop where
  st : Stp K bor σ' H O fp H' O' ρ' fp'
  fr : ∀ j, bor j = true → σ'[j]? = σ[j]?
def XPostS (σ : St) (H : Hp) (O : Addr → Prop) (fp : Fp) (x : Exn) (ρ' : Env) (W : WX) : Prop :=
  ∀ c a σ' H' O' fp', StpS K bor σ H O fp σ' H' O' ρ' fp' → ER x c a → W c a σ' H'
def Fl.Holds (σ : St) (H : Hp) (O : Addr → Prop) (fp : Fp) (r : Fl) (D : Ends) (W : WX) : Prop := match r with
  | .nx ρ' => ∀ σ' H' O' fp', StpS K bor σ H O fp σ' H' O' ρ' fp' → D.nx σ' H'
  | .bk ρ' => ∀ σ' H' O' fp', StpS K bor σ H O fp σ' H' O' ρ' fp' → D.bk σ' H'
  | .ct ρ' => ∀ σ' H' O' fp', StpS K bor σ H O fp σ' H' O' ρ' fp' → D.ct σ' H'
  | .rt d ρ' => ∀ v σ' H' O' fp' G, StpS K bor σ H O fp σ' H' O' ρ' fp' → Rw K H' O' v d G → Tmp H fp fp' G → D.rt v H'
  | .exc x ρ' => XPostS K bor σ H O fp x ρ' W
  | .bad => False
end
section
variable {K : PySem.W.Frag} {bor : Nat → Bool} {σ σ1 σ2 : St} {H H1 H2 : Hp} {O O1 O2 : Addr → Prop} {ρ ρ1 ρ2 : Env} {fp fp1 fp2 : Fp} {G G1 G2 : List Addr}
theorem StpS.refl (s : Sit K bor H O σ ρ fp) : StpS K bor σ H O fp σ H O ρ fp := ⟨Stp.refl s, fun _ _ => rfl⟩
theorem Stp.toS (a : Stp K bor σ H O fp H1 O1 ρ1 fp1) : StpS K bor σ H O fp σ H1 O1 ρ1 fp1 := ⟨a, fun _ _ => rfl⟩
theorem StpS.trans (w : Wok H O) (a : StpS K bor σ H O fp σ1 H1 O1 ρ1 fp1) (b : StpS K bor σ1 H1 O1 fp1 σ2 H2 O2 ρ2 fp2) : StpS K bor σ H O fp σ2 H2 O2 ρ2 fp2 :=
  ⟨a.st.trans w b.st, fun j h => (b.fr j h).trans (a.fr j h)⟩
theorem tmp_later (a : Stp K bor σ H O fp H1 O1 ρ1 fp1) (t : Tmp H1 fp1 fp2 G) : Tmp H fp fp2 G := ⟨t.nd, t.dj, fun x hx => (t.fr x hx).elim (a.fr x) fun e => .inr (none_back a.le e)⟩
theorem XPostS.after {x : Exn} {W : WX} (h : XPostS K bor σ H O fp x ρ2 W) (w : Wok H O) (a : StpS K bor σ H O fp σ1 H1 O1 ρ1 fp1) : XPostS K bor σ1 H1 O1 fp1 x ρ2 W :=
  fun c d σ' H' O' fp' s e => h c d σ' H' O' fp' (a.trans w s) e
theorem XPostS.ex {x : Exn} {W : WX} (h : XPostS K bor σ H O fp x ρ2 W) : XPost K bor σ H O fp x ρ2 W := fun c d H' O' fp' s e => h c d σ H' O' fp' s.toS e
theorem Fl.Holds.after {r : Fl} {D : Ends} {W : WX} (h : Fl.Holds K bor σ H O fp r D W) (w : Wok H O) (a : StpS K bor σ H O fp σ1 H1 O1 ρ1 fp1) : Fl.Holds K bor σ1 H1 O1 fp1 r D W := by
  cases r with
  | nx ρ' => exact fun σ' H' O' fp' s => h σ' H' O' fp' (a.trans w s)
  | bk ρ' => exact fun σ' H' O' fp' s => h σ' H' O' fp' (a.trans w s)
  | ct ρ' => exact fun σ' H' O' fp' s => h σ' H' O' fp' (a.trans w s)
  | rt d ρ' => exact fun v σ' H' O' fp' G s r t => h v σ' H' O' fp' G (a.trans w s) r (tmp_later a.st t)
  | exc x ρ' => exact XPostS.after h w a
  | bad => exact h
theorem Rs.holds_fl {α : Type} {r : Rs α} {f : α → Env → Fl} {D : Ends} {W : WX} (h : Fl.Holds K bor σ H O fp (r.fl f) D W) : r.Holds (fun a ρ' => Fl.Holds K bor σ H O fp (f a ρ') D W) (fun x ρ' => XPostS K bor σ H O fp x ρ' W) := by
  cases r <;> exact h
theorem Fl.holds_seq {r : Fl} {f : Env → Fl} {D : Ends} {W : WX} (h : Fl.Holds K bor σ H O fp (r.seq f) D W) (w : Wok H O) : Fl.Holds K bor σ H O fp r { D with nx := fun σ' H' => ∃ O' ρ' fp', StpS K bor σ H O fp σ' H' O' ρ' fp' ∧ r = .nx ρ' } W := by
  cases r with
  | nx ρ' => exact fun σ' H' O' fp' s => ⟨O', ρ', fp', s, rfl⟩
  | bk ρ' => exact h
  | ct ρ' => exact h
  | rt d ρ' => exact h
  | exc x ρ' => exact h
  | bad => exact h
/-! ### what lies in a slot that we own -/
theorem rw_own {v : V} {l : List PD} {F : List Addr} (r : Rw K H O v (.own l) F) : ∃ a xs, v = .ref a ∧ F = [a] ∧ H a = some (.lst xs) ∧ O a ∧ RpAll K H O xs l := by
  cases r with
  | own h o t => exact ⟨_, _, rfl, rfl, h, o, t⟩
theorem rw_own2 {v : V} {l : List (List PD)} {F : List Addr} (r : Rw K H O v (.own2 l) F) : ∃ a xs F', v = .ref a ∧ F = a :: F' ∧ H a = some (.lst xs) ∧ O a ∧ RwL K H O xs l F' := by
  cases r with
  | own2 h o t => exact ⟨_, _, _, rfl, rfl, h, o, t⟩
theorem rw_odk {v : V} {l : List (Key × PD)} {F : List Addr} (r : Rw K H O v (.odk l) F) : ∃ a kvs, v = .ref a ∧ F = [a] ∧ H a = some (.dK kvs) ∧ O a ∧ kvs.map (·.1) = l.map (·.1) ∧ RpAll K H O (kvs.map (·.2)) (l.map (·.2)) := by
  cases r with
  | odk h o e t => exact ⟨_, _, rfl, rfl, h, o, e, t⟩
theorem rw_odt {v : V} {l : List (List Key × PD)} {F : List Addr} (r : Rw K H O v (.odt l) F) : ∃ a kvs, v = .ref a ∧ F = [a] ∧ H a = some (.dT kvs) ∧ O a ∧ kvs.map (·.1) = l.map (·.1) ∧ RpAll K H O (kvs.map (·.2)) (l.map (·.2)) := by
  cases r with
  | odt h o e t => exact ⟨_, _, rfl, rfl, h, o, e, t⟩
/-- a slot's thing is written where it lies -/
theorem slot_write {i : Nat} {v : V} {d1 d2 : D} {a : Addr} {o u : HO} {F2 : List Addr} (w : Wok H O) (st : Stp K bor σ H O fp H1 O1 ρ1 fp1) (hv : σ[i]? = some (some v)) (e : ρ1.at_ i = some d1) (ha : a ∈ fp1 i) (hu : H1 a = some u) (mu : MutO u) (mo : MutO o)
    (r : Rw K (upd H1 a o) O1 v d2 F2) (nd : F2.Nodup) (tm : Tmp H fp fp1 G) (hF : ∀ x ∈ F2, x ∈ fp1 i ∨ x ∈ G) : ∃ fp', Stp K bor σ H O fp (upd H1 a o) O1 (ρ1.put i d2) fp' ∧ ∀ x, FF fp' x → FF fp1 x ∨ x ∈ G := by
  have hO := st.sit.sl.own a ⟨i, ha⟩
  have lw : Le (fun x => x = a) H1 O1 (upd H1 a o) O1 := Le.write hu mu rfl
  have s1 := (st.sit.sl.drop (i := i)).mono lw (fun x e => by rw [e]; exact hO) fun x ⟨j, hj⟩ e2 => by
    by_cases ej : j = i
    · subst ej; rw [fpSet_self] at hj; cases hj
    · rw [fpSet_ne ej] at hj
      rw [e2] at hj
      exact st.sit.sl.dj j i ej a hj ha
  have hi := at_lt e
  have s2 := s1.set (i := i) (v := v) (d := d2) (F := F2) (by rw [List.length_set]; exact hi) r nd fun j hj x hx z => by
    rw [fpSet_ne hj] at z
    rcases hF x hx with q | q
    · exact st.sit.sl.dj i j (Ne.symm hj) x q z
    · exact tm.dj x q ⟨j, z⟩
  have e1 : σ.set i (some v) = σ := by
    obtain ⟨hlt, hg⟩ := List.getElem?_eq_some_iff.mp hv
    rw [← hg, List.set_getElem_self]
  have e2 : Env.put (ρ1.set i none) i d2 = ρ1.put i d2 := by unfold Env.put; rw [List.set_set]
  rw [e1, e2] at s2
  have fr : ∀ x, FF (fpSet (fpSet fp1 i []) i F2) x → FF fp1 x ∨ x ∈ G := fun x hx => by
    rcases FF_set hx with z | ⟨j, hj, z⟩
    · exact (hF x z).imp (fun q => ⟨i, q⟩) id
    · rw [fpSet_ne hj] at z; exact .inl ⟨j, z⟩
  refine ⟨_, ⟨st.le.trans lw (fun x e => by rw [e]; exact st.fr a ⟨i, ha⟩) w, ⟨st.sit.w.upd_keep (.inr mo), s2, fun j hj => ?_⟩, fun x hx => (fr x hx).elim (st.fr x) (tm.fr x)⟩, fr⟩
  by_cases ej : j = i
  · subst ej; rw [at_put_self hi]; exact fun z => nomatch z
  · rw [at_put_ne (Ne.symm ej)]; exact st.sit.bo j hj
theorem put_rel {κ : Type} [DecidableEq κ] {k : κ} {v : V} {d : PD} (rv : Rp K H O v d) : ∀ {kvs : List (κ × V)} {l : List (κ × PD)}, kvs.map (·.1) = l.map (·.1) → RpAll K H O (kvs.map (·.2)) (l.map (·.2)) →
    (kvs.any fun q => decide (q.1 = k)) = (l.any fun q => decide (q.1 = k)) ∧ (kvs.map fun q => if q.1 = k then (q.1, v) else q).map (·.1) = (l.map fun q => if q.1 = k then (q.1, d) else q).map (·.1) ∧
      RpAll K H O ((kvs.map fun q => if q.1 = k then (q.1, v) else q).map (·.2)) ((l.map fun q => if q.1 = k then (q.1, d) else q).map (·.2))
  | [], [], _, _ => ⟨rfl, rfl, .nil⟩
  | [], _ :: _, e, _ => by cases e
  | _ :: _, [], e, _ => by cases e
  | (k1, v1) :: kvs, (k2, d2) :: l, e, r => by
    rw [List.map_cons, List.map_cons] at e
    injection e with e1 e2
    have e1 : k1 = k2 := e1
    subst e1
    cases r with
    | cons r1 rr =>
      obtain ⟨a, b, c⟩ := put_rel rv e2 rr
      refine ⟨by rw [List.any_cons, List.any_cons, a], ?_, ?_⟩
      · simp only [List.map_cons, b]
        by_cases hk : k1 = k <;> simp [hk]
      · simp only [List.map_cons]
        by_cases hk : k1 = k
        · simp only [hk, if_true]
          exact .cons rv c
        · simp only [hk, if_false]
          exact .cons r1 c
theorem putD_rel {κ : Type} [DecidableEq κ] {k : κ} {v : V} {d : PD} (rv : Rp K H O v d) {kvs : List (κ × V)} {l : List (κ × PD)} (e : kvs.map (·.1) = l.map (·.1)) (r : RpAll K H O (kvs.map (·.2)) (l.map (·.2))) :
    (putK kvs k v).map (·.1) = (putD l k d).map (·.1) ∧ RpAll K H O ((putK kvs k v).map (·.2)) ((putD l k d).map (·.2)) := by
  obtain ⟨a, b, c⟩ := put_rel (k := k) rv e r
  unfold putK putD
  rw [a]
  split
  · exact ⟨b, c⟩
  · rw [List.map_append, List.map_append, List.map_append, List.map_append, e]
    exact ⟨rfl, r.append (.cons rv .nil)⟩
end

/-! ### targets -/
def rSetA : TSet := fun o i v H Q => rSetL o i v H Q ∨ rSetD o i v H Q
/-- a target's reading does what the evaluation f says: base: where the statement began -/
def SemG (bor : Nat → Bool) (g : TW TG) (f : D → Env → Rs Unit) : Prop :=
  ∀ K W σ0 H0 O0 fp0 σ H O ρ fp v d G Q, Wok H0 O0 → StpS K bor σ0 H0 O0 fp0 σ H O ρ fp → Rw K H O v d G → Tmp H0 fp0 fp G →
    (f d ρ).Holds (fun _ ρ' => ∀ σ' H' O' fp', StpS K bor σ0 H0 O0 fp0 σ' H' O' ρ' fp' → Q σ' H') (fun x ρ' => XPostS K bor σ0 H0 O0 fp0 x ρ' W) → g K W v σ H Q
section
variable {C : Ctx} {L : Lib} {N : List Str} {sc : Scope} {k : Nat}
theorem putS_inv {i : Nat} {d : D} {ρ ρ' : Env} (h : putS C i d ρ = some ρ') : C.bor i = false ∧ i < ρ.length ∧ ρ' = ρ.put i d := by
  unfold putS at h
  split at h
  · rename_i hc; cases h; exact ⟨hc.1, hc.2, rfl⟩
  · cases h
/-- a slot takes a value -/
theorem stp_put {K : PySem.W.Frag} {σ0 σ : St} {H0 H : Hp} {O0 O : Addr → Prop} {fp0 fp : Fp} {ρ ρ' : Env} {i : Nat} {v : V} {d : D} {G : List Addr} (w : Wok H0 O0) (st : StpS K C.bor σ0 H0 O0 fp0 σ H O ρ fp) (r : Rw K H O v d G) (tm : Tmp H0 fp0 fp G) (h : putS C i d ρ = some ρ') :
    StpS K C.bor σ0 H0 O0 fp0 (σ.set i (some v)) H O ρ' (fpSet fp i G) := by
  obtain ⟨hb, hi, rfl⟩ := putS_inv h
  have s2 := st.st.sit.sl.set hi r tm.nd fun j _ a ha z => tm.dj a ha ⟨j, z⟩
  refine ⟨⟨st.st.le, ⟨st.st.sit.w, s2, fun j hj => ?_⟩, fun a ha => ?_⟩, fun j hj => ?_⟩
  · by_cases e : i = j
    · subst e; rw [at_put_self hi]; exact fun z => nomatch z
    · rw [at_put_ne e]; exact st.st.sit.bo j hj
  · rcases FF_set ha with z | ⟨j, _, z⟩
    · exact tm.fr a z
    · exact st.st.fr a ⟨j, z⟩
  · have : i ≠ j := fun e => by rw [← e, hb] at hj; cases hj
    rw [List.getElem?_set_ne this]
    exact st.fr j hj
theorem semG_v {i : Nat} : SemG C.bor (fun _ _ => gName i) (asgG C (.v i)) := by
  intro K W σ0 H0 O0 fp0 σ H O ρ fp v d G Q w st r tm hh
  rw [asgG] at hh
  cases e : putS C i d ρ with
  | none => rw [e] at hh; exact hh.elim
  | some ρ' =>
    rw [e] at hh
    exact hh _ H O _ (stp_put w st r tm e)
theorem semG_ix {i : Nat} {ke : E} {t : TW TE} (h : SemV C.bor t (ev C ke)) : SemG C.bor (fun K W => gSub (tVar i) (t K W) rSetA) (asgG C (.ix i ke)) := by
  intro K W σ0 H0 O0 fp0 σ H O ρ fp v d G Q w st r tm hh
  rw [asgG] at hh
  split at hh
  · rename_i hs
    obtain ⟨d0, e0⟩ := Option.isSome_iff_exists.mp hs
    obtain ⟨u, hu, _⟩ := st.st.sit.sl.rep i d0 e0
    refine ⟨u, hu, ?_⟩
    refine h K W σ H O ρ fp _ st.st.sit ((Rs.holds_bind hh).imp (fun kd ρ1 q => ?_) fun x ρ' q => (q.after w st).ex)
    intro kv H1 O1 fp1 Gk st1 rk tk
    have stA : StpS K C.bor σ0 H0 O0 fp0 σ H1 O1 ρ1 fp1 := st.trans w st1.toS
    have tm1 := Tmp.seq st.st tm r.own_mem st1 tk
    have r1 := r.over st1 st.st.sit.sl tm fun _ z => z
    split at q
    · rename_i x ex
      split at q
      · rename_i y ey
        -- the value is nobody's
        have tmG : Tmp H0 fp0 fp1 G := ⟨tm.nd, fun a ha => tm1.dj a (List.mem_append_left _ ha), tm.fr⟩
        have stO := stA.st.offG w tmG r1.own_mem
        obtain ⟨u', hu', rx⟩ := stO.sit.sl.rep i x ex
        rw [hu] at hu'
        cases hu'
        have fin : ∀ (a : Addr) (o u1 : HO) (F2 : List Addr), u = .ref a → a ∈ fp1 i → H1 a = some u1 → MutO u1 → MutO o → Rw K (upd H1 a o) (offO O1 G) (.ref a) y F2 → F2.Nodup → (∀ x ∈ F2, x ∈ fp1 i) → Q σ (upd H1 a o) := by
          intro a o u1 F2 eu ha h1 mu mo ry nd hF
          subst eu
          obtain ⟨fp', s2, _⟩ := slot_write (G := []) w stO hu ex ha h1 mu mo ry nd Tmp.nil fun x hx => .inl (hF x hx)
          exact q σ _ _ fp' ⟨s2, stA.fr⟩
        unfold setD at ey
        split at ey
        · -- a list
          split at ey
          · rename_i l' i' j d' ej ed
            cases ey
            obtain ⟨a, xs, rfl, eF, h1, hO, t1⟩ := rw_own rx
            refine .inl ⟨a, xs, _, j, rfl, rw_int rk, h1, by rw [t1.length]; exact ej, ?_⟩
            have rd : Rp K H1 (offO O1 G) v d' := r1.toG (fun _ z => z) ed
            have lw : Le (fun x => x = a) H1 (offO O1 G) (upd H1 a (.lst (xs.set j v))) (offO O1 G) := Le.write h1 trivial rfl
            refine fin a _ _ [a] rfl (by rw [eF]; exact List.mem_cons_self) h1 trivial trivial (.own upd_same hO ((t1.set rd j).mono lw fun x e => by rw [e]; exact hO)) (List.nodup_cons.mpr ⟨List.not_mem_nil, List.nodup_nil⟩) fun x hx => by rw [eF]; exact hx
          · cases ey
        · split at ey
          · rename_i l' k' key d' ek ed
            split at ey
            · rename_i hl
              cases ey
              obtain ⟨a, kvs, rfl, eF, h1, hO, t1, t2⟩ := rw_odk rx
              have rd : Rp K H1 (offO O1 G) v d' := r1.toG (fun _ z => z) ed
              have ekv := keyP_rp (rw_rp rk) ek
              have hlen : kvs.length < sizeLine := by
                have := congrArg List.length t1
                rw [List.length_map, List.length_map] at this
                rw [this, line_eq]; exact hl
              refine .inr ⟨a, _, rfl, by rw [ekv]; exact DPut.k h1 hlen, ?_⟩
              obtain ⟨p1, p2⟩ := putD_rel (k := key) rd t1 t2
              have lw : Le (fun x => x = a) H1 (offO O1 G) (upd H1 a (.dK (putK kvs key v))) (offO O1 G) := Le.write h1 trivial rfl
              exact fin a _ _ [a] rfl (by rw [eF]; exact List.mem_cons_self) h1 trivial trivial (.odk upd_same hO p1 (p2.mono lw fun x e => by rw [e]; exact hO)) (List.nodup_cons.mpr ⟨List.not_mem_nil, List.nodup_nil⟩) fun x hx => by rw [eF]; exact hx
            · cases ey
          · cases ey
        · split at ey
          · cases ey
          · rename_i hk
            split at ey
            · rename_i l' k' key d' ek ed
              split at ey
              · rename_i hl
                cases ey
                obtain ⟨a, kvs, rfl, eF, h1, hO, t1, t2⟩ := rw_odt rx
                have rd : Rp K H1 (offO O1 G) v d' := r1.toG (fun _ z => z) ed
                obtain ⟨b, rfl, hb⟩ := key_tr (rw_rp rk) (by simpa using hk) ek
                have hlen : kvs.length < sizeLine := by
                  have := congrArg List.length t1
                  rw [List.length_map, List.length_map] at this
                  rw [this, line_eq]; exact hl
                refine .inr ⟨a, _, rfl, DPut.t h1 hb hlen, ?_⟩
                obtain ⟨p1, p2⟩ := putD_rel (k := key) rd t1 t2
                have lw : Le (fun x => x = a) H1 (offO O1 G) (upd H1 a (.dT (putK kvs key v))) (offO O1 G) := Le.write h1 trivial rfl
                exact fin a _ _ [a] rfl (by rw [eF]; exact List.mem_cons_self) h1 trivial trivial (.odt upd_same hO p1 (p2.mono lw fun x e => by rw [e]; exact hO)) (List.nodup_cons.mpr ⟨List.not_mem_nil, List.nodup_nil⟩) fun x hx => by rw [eF]; exact hx
              · cases ey
            · cases ey
        · cases ey
      · exact q.elim
    · exact q.elim
  · exact hh.elim
end
end Pv

/-! Pv, part W: targets, all forms; single statements. -/
namespace Pv
open PySem PySem.Spec L2 RZ
open PyProof.Rows hiding St

structure GoodS (L : Lib) (N : List Str) (sc : Scope) (B : Nat → List D → CR) (k : Nat) (X : Cx) : Prop where
  g : Good L N sc B k X
  ow : PassesOwn (model X.prog X.w) X.A X.env X.xe
  fn : ∀ x, X.fn x = true
def locB (sc : Scope) (x : Str) : Bool := decide (sc.names.lookup x = some .local ∨ sc.names.lookup x = some .cell)
section
variable (L : Lib) (N : List Str) (sc : Scope)
mutual
def chkG : Tg → Expr → Bool
  | .v i, .Name x _ => decide (N[i]? = some x) && locB sc x
  | .ix i ke, .Subscript (.Name x _) pk _ => slotB N sc i x && top pk && chkE L N sc ke pk
  | .nil, .Tuple [] _ _ => true
  | .cons t ts, .Tuple (e :: es) _ _ => top e && chkG t e && chkGs ts es
  | _, _ => false
def chkGs : Tg → List Expr → Bool
  | .nil, [] => true
  | .cons t ts, e :: es => top e && chkG t e && chkGs ts es
  | _, _ => false
end
end
section
variable {C : Ctx} {L : Lib} {N : List Str} {sc : Scope} {k : Nat} {B : Nat → List D → CR} {X : Cx}
theorem GoodS.loc (g : GoodS L N sc B k X) {x : Str} (h : locB sc x = true) : L2.Loc X.env.scope x := by
  unfold L2.Loc
  rw [g.g.sc]
  exact of_decide_eq_true h
theorem set_any (g : Good L N sc B k X) : PSet X rSetA := by
  intro pins s σ H o i v ov iv u Q I r1 r2 r3 h
  rcases h with h | h
  · exact set_list pins s σ H o i v ov iv u Q I r1 r2 r3 h
  · exact set_dict g.units1 pins s σ H o i v ov iv u Q I r1 r2 r3 h
theorem asg_sub {o i : Expr} {pos : Pos} {env : PySem.Env} (h : top i = true) : ∀ v, assign (.Subscript o i pos) env v = (do
      let ov ← holding [v] (eval o env)
      let iv ← holding [v, ov] (eval i env)
      standAt pos
      holding [v, ov, iv] (setItem ov iv v)
      release [v, ov, iv] []) := by
  cases i <;> first | (exact fun _ => rfl) | cases h
def SemGs (bor : Nat → Bool) (g : TW TGs) (f : List PD → Env → Rs Unit) : Prop :=
  ∀ K W σ0 H0 O0 fp0 σ H O ρ fp vs l Q, Wok H0 O0 → StpS K bor σ0 H0 O0 fp0 σ H O ρ fp → RpAll K H O vs l →
    (f l ρ).Holds (fun _ ρ' => ∀ σ' H' O' fp', StpS K bor σ0 H0 O0 fp0 σ' H' O' ρ' fp' → Q σ' H') (fun x ρ' => XPostS K bor σ0 H0 O0 fp0 x ρ' W) → vs.length = l.length → g K W vs σ H Q
theorem chkGs_len : ∀ {t : Tg} {es : List Expr} {env : PySem.Env}, chkGs L N sc t es = true → (assignEach es env).length = t.len ∧ (assignEach es env).findIdx? (·.1) = none ∧ t.isL = true
  | t, es, env, h => by
    rw [chkGs.eq_def] at h
    split at h
    · exact ⟨rfl, rfl, rfl⟩
    · rename_i t ts e es
      obtain ⟨h, h3⟩ := and2 h
      obtain ⟨h1, h2⟩ := and2 h
      obtain ⟨a, b, c⟩ := chkGs_len (env := env) h3
      rw [asgEach_cons h1]
      refine ⟨by rw [List.length_cons, a]; rfl, ?_, rfl⟩
      rw [List.findIdx?_cons]
      simp [b]
    · cases h
theorem asgG_tup {ts : Tg} {d : D} {ρ : Env} (hl : ts.isL = true) (h : asgG C ts d ρ ≠ .bad) : ∃ l, d = .p (.tuple l) ∧ l.length = ts.len := by
  cases ts with
  | v _ => cases hl
  | ix _ _ => cases hl
  | nil =>
    rw [asgG.eq_def] at h
    dsimp only at h
    split at h
    · exact ⟨_, rfl, rfl⟩
    · exact absurd rfl h
  | cons t ts =>
    rw [asgG.eq_def] at h
    dsimp only at h
    split at h
    · split at h
      · rename_i x xs hc
        have := (and2 hc).2
        rw [beq_iff_eq] at this
        exact ⟨_, rfl, by rw [List.length_cons, this]; rfl⟩
      · exact absurd rfl h
    · exact absurd rfl h
theorem semGs_tup {ts : Tg} {g : TW TGs} (hl : ts.isL = true) (h : SemGs C.bor g (fun l ρ => asgG C ts (.p (.tuple l)) ρ)) : SemG C.bor (fun K W => gTup K ts.len (g K W)) (asgG C ts) := by
  intro K W σ0 H0 O0 fp0 σ H O ρ fp v d G Q w st r tm hh
  obtain ⟨l, rfl, e⟩ := asgG_tup hl (fun z => by rw [z] at hh; exact hh)
  obtain ⟨a, xs, rfl, hq, t1⟩ := rw_tup r
  exact ⟨a, xs, rfl, hq, by rw [t1.length]; exact e, h K W σ0 H0 O0 fp0 σ H O ρ fp xs l Q w st t1 hh t1.length⟩
theorem semGs_cons {t ts : Tg} {g : TW TG} {gs : TW TGs} (h : SemG C.bor g (asgG C t)) (h' : SemGs C.bor gs (fun l ρ => asgG C ts (.p (.tuple l)) ρ)) : SemGs C.bor (fun K W => gCons (g K W) (gs K W)) (fun l ρ => asgG C (.cons t ts) (.p (.tuple l)) ρ) := by
  intro K W σ0 H0 O0 fp0 σ H O ρ fp vs l Q w st r hh hlen
  cases r with
  | nil => simp only [asgG] at hh; exact hh.elim
  | @cons v vs d ds rv rr =>
    simp only [asgG] at hh
    split at hh
    · refine ⟨v, vs, rfl, h K W σ H O fp σ H O ρ fp v (.p d) [] _ st.st.sit.w (StpS.refl st.st.sit) (.p rv) Tmp.nil ((Rs.holds_bind hh).imp (fun _ ρ1 q => ?_) fun x ρ' q => q.after w st)⟩
      intro σ1 H1 O1 fp1 st1
      exact h' K W σ0 H0 O0 fp0 σ1 H1 O1 ρ1 fp1 vs ds Q w (st.trans w st1) (rr.mono st1.st.le st.st.sit.sl.own) q (by simpa using hlen)
    · exact hh.elim
mutual
theorem sndG : ∀ (t : Tg) (pe : Expr), chkG L N sc t pe = true → ∃ g : TW TG, (∀ X W, GoodS L N sc C.B k X → Takes X W → PG X pe (g X.K W)) ∧ SemG C.bor g (asgG C t)
  | .v i, pe, h => by
    cases pe with
    | Name x p =>
      rw [chkG] at h
      obtain ⟨h1, h2⟩ := and2 h
      exact ⟨fun _ _ => gName i, fun X W g tk => pg_name g.g.nd (by rw [g.g.N]; exact of_decide_eq_true h1) (g.loc h2) (.inl (g.fn _)), semG_v⟩
    | _ => simp [chkG] at h
  | .ix i ke, pe, h => by
    cases pe with
    | Subscript o pk p =>
      cases o with
      | Name x p2 =>
        rw [chkG] at h
        obtain ⟨h, h3⟩ := and2 h
        obtain ⟨h1, h2⟩ := and2 h
        obtain ⟨t, t1, t2⟩ := (sndE (C := C) (k := k) ke sc _ h3).v
        exact ⟨fun K W => gSub (tVar i) (t K W) rSetA, fun X W g tk => pg_sub (pe_slot g.g h1) (t1 X W g.g tk) (set_any g.g) (asg_sub h2), semG_ix t2⟩
      | _ => simp [chkG] at h
    | _ => simp [chkG] at h
  | .nil, pe, h => by
    cases pe with
    | Tuple es kk p =>
      cases es with
      | nil =>
        exact ⟨fun K _ => gTup K 0 gNil, fun X W g tk => pg_tup g.g.calm pgs_nil, semGs_tup (ts := .nil) rfl fun K W σ0 H0 O0 fp0 σ H O ρ fp vs l Q w st r hh hlen => by
          cases r with
          | nil => simp only [asgG] at hh; exact ⟨rfl, hh σ H O fp st⟩
          | cons _ _ => simp only [asgG] at hh; exact hh.elim⟩
      | cons _ _ => simp [chkG] at h
    | _ => simp [chkG] at h
  | .cons t ts, pe, h => by
    cases pe with
    | Tuple es kk p =>
      cases es with
      | nil => simp [chkG] at h
      | cons e es =>
        rw [chkG] at h
        obtain ⟨h, h3⟩ := and2 h
        obtain ⟨h1, h2⟩ := and2 h
        obtain ⟨g, g1, g2⟩ := sndG t e h2
        obtain ⟨gs, s1, s2⟩ := sndGs ts es h3
        have hc : chkGs L N sc (.cons t ts) (e :: es) = true := by rw [chkGs, h1, h2, h3]; rfl
        refine ⟨fun K W => gTup K (Tg.cons t ts).len (gCons (g K W) (gs K W)), fun X W gd tk => ?_, semGs_tup (ts := .cons t ts) rfl (semGs_cons g2 s2)⟩
        obtain ⟨a, b, _⟩ := chkGs_len (env := X.env) hc
        exact pg_tup gd.g.calm (pgs_cons (g1 X W gd tk) (s1 X W gd tk) (by rw [asgEach_cons h1]; rfl)) a b
    | _ => simp [chkG] at h
theorem sndGs : ∀ (t : Tg) (es : List Expr), chkGs L N sc t es = true → ∃ g : TW TGs, (∀ X W, GoodS L N sc C.B k X → Takes X W → PGs X es (g X.K W)) ∧ SemGs C.bor g (fun l ρ => asgG C t (.p (.tuple l)) ρ)
  | .v i, es, h => by rw [chkGs.eq_def] at h; cases h
  | .ix i ke, es, h => by rw [chkGs.eq_def] at h; cases h
  | .nil, [], h => ⟨fun _ _ => gNil, fun X W _ _ => pgs_nil, fun K W σ0 H0 O0 fp0 σ H O ρ fp vs l Q w st r hh hlen => by
      cases r with
      | nil => simp only [asgG] at hh; exact ⟨rfl, hh σ H O fp st⟩
      | cons _ _ => simp only [asgG] at hh; exact hh.elim⟩
  | .nil, _ :: _, h => by rw [chkGs.eq_def] at h; cases h
  | .cons _ _, [], h => by rw [chkGs.eq_def] at h; cases h
  | .cons t ts, e :: es, h => by
    rw [chkGs.eq_def] at h
    dsimp only at h
    obtain ⟨h, h3⟩ := and2 h
    obtain ⟨h1, h2⟩ := and2 h
    obtain ⟨g, g1, g2⟩ := sndG t e h2
    obtain ⟨gs, s1, s2⟩ := sndGs ts es h3
    exact ⟨fun K W => gCons (g K W) (gs K W), fun X W gd tk => pgs_cons (g1 X W gd tk) (s1 X W gd tk) (by rw [asgEach_cons h1]; rfl), semGs_cons g2 s2⟩
end
end
end Pv

/-! Pv, part X: statements. -/
namespace Pv
open PySem PySem.Spec L2 RZ
open PyProof.Rows hiding St

def SemS (bor : Nat → Bool) (t : TW TS) (f : Env → Fl) : Prop :=
  ∀ K W σ H O ρ fp D, Sit K bor H O σ ρ fp → Fl.Holds K bor σ H O fp (f ρ) D W → t K W D σ H
structure SndS (C : Ctx) (L : Lib) (N : List Str) (sc : Scope) (k : Nat) (f : Env → Fl) (ps : Stmt) : Prop where
  s : ∃ t : TW TS, (∀ X W, GoodS L N sc C.B k X → Takes X W → PS X ps (t X.K W)) ∧ SemS C.bor t f
structure SndSs (C : Ctx) (L : Lib) (N : List Str) (sc : Scope) (k : Nat) (f : Env → Fl) (ps : List Stmt) : Prop where
  s : ∃ t : TW TS, (∀ X W, GoodS L N sc C.B k X → Takes X W → PSs X ps (t X.K W)) ∧ SemS C.bor t f
def notComp : Expr → Bool
  | .ListComp _ _ _ _ => false
  | .SetComp _ _ _ _ => false
  | .DictComp _ _ _ _ _ => false
  | _ => true
theorem no_swap {e : Expr} (h : notComp e = true) {t : Option Expr} {n : Nat} {env : PySem.Env} : swapsWith e t n env = pure false := by
  cases e <;> first | rfl | cases h
def isTup : Expr → Bool
  | .Tuple _ _ _ => true
  | .List _ _ => true
  | _ => false
theorem no_stores {t e : Expr} {env : PySem.Env} (h : isTup t = false ∨ isTup e = false) : swappedStores [t] e env = pure none := by
  rcases h with h | h
  · cases t <;> first | rfl | cases h
  · cases e <;> first | (cases t <;> rfl) | cases h
section
variable {C : Ctx} {L : Lib} {N : List Str} {sc : Scope} {k : Nat}
theorem semS_asg {t : Tg} {e : E} {te : TW TE} {g : TW TG} (h : SemV C.bor te (ev C e)) (hg : SemG C.bor g (asgG C t)) : SemS C.bor (fun K W => tAsg (te K W) (g K W)) (ex C (.asg t e)) := by
  intro K W σ H O ρ fp D s hh
  rw [ex] at hh
  refine h K W σ H O ρ fp _ s ((Rs.holds_fl hh).imp (fun d ρ1 q => ?_) fun x ρ' q => q.ex)
  intro v H1 O1 fp1 G st r tm
  exact hg K W σ H O fp σ H1 O1 ρ1 fp1 v d G D.nx s.w st.toS r tm (Rs.holds_fl q)
theorem snd_asgw {t : Tg} {e : E} {pt pe : Expr} {pos : Pos} (h : chkG L N sc t pt = true) (he : chkE L N sc e pe = true) (hc : notComp pe = true) (hs : ∀ env : PySem.Env, swappedStores [pt] pe env = pure none) (ht : top pt = true) : SndS C L N sc k (ex C (.asg t e)) (.Assign [pt] pe pos) := by
  obtain ⟨te, t1, t2⟩ := (sndE (C := C) (k := k) e sc pe he).v
  obtain ⟨g, g1, g2⟩ := sndG (C := C) (k := k) t pt h
  exact ⟨_, fun X W gd tk => ps_asg (t1 X W gd.g tk) (g1 X W gd tk) (no_swap hc) (hs _) (by rw [asgEach_cons ht]; rfl), semS_asg t2 g2⟩
theorem snd_asg {t : Tg} {e : E} {pt pe : Expr} {pos : Pos} (h : chkG L N sc t pt = true) (he : chkE L N sc e pe = true) (hc : notComp pe = true) (hs : isTup pt = false ∨ isTup pe = false) (ht : top pt = true) : SndS C L N sc k (ex C (.asg t e)) (.Assign [pt] pe pos) :=
  snd_asgw h he hc (fun _ => no_stores hs) ht
/-- a target that no comprehension's value is moved into -/
def swB (sc : Scope) : Expr → Bool
  | .Name y _ => decide (sc.names.lookup y ≠ some .local)
  | _ => true
theorem swaps_off {pt pe : Expr} {n : Nat} (h : swB sc pt = true) : ∀ env : PySem.Env, env.scope = sc → swapsWith pe (some pt) n env = pure false := by
  intro env he
  unfold swapsWith
  split
  · simp only [pure_bind]
    cases pt with
    | Name y py =>
      have h := of_decide_eq_true h
      have hk : env.kindOf y = sc.names.lookup y := by show env.scope.names.lookup y = _; rw [he]
      have : (env.kindOf y == some .local) = false := by rw [hk]; exact beq_eq_false_iff_ne.mpr h
      simp [this]
    | _ => rfl
  · rfl
theorem snd_asgo {t : Tg} {e : E} {pt pe : Expr} {pos : Pos} (h : chkG L N sc t pt = true) (he : chkE L N sc e pe = true) (hc : swB sc pt = true) (hs : ∀ env : PySem.Env, swappedStores [pt] pe env = pure none) (ht : top pt = true) : SndS C L N sc k (ex C (.asg t e)) (.Assign [pt] pe pos) := by
  obtain ⟨te, t1, t2⟩ := (sndE (C := C) (k := k) e sc pe he).v
  obtain ⟨g, g1, g2⟩ := sndG (C := C) (k := k) t pt h
  exact ⟨_, fun X W gd tk => ps_asg (t1 X W gd.g tk) (g1 X W gd tk) (swaps_off hc _ gd.g.sc) (hs _) (by rw [asgEach_cons ht]; rfl), semS_asg t2 g2⟩
/-- a tuple of constants -/
def foldB : Expr → Expr → Bool
  | .Tuple _ _ _, .Tuple vs _ _ => vs.all (foldedForSure 8)
  | _, _ => false
theorem stores_f {pt pe : Expr} {env : PySem.Env} (h : foldB pt pe = true) : swappedStores [pt] pe env = pure none := by
  unfold foldB at h
  split at h
  · unfold swappedStores
    simp only [pure_bind]
    split
    · rfl
    split
    · rfl
    split
    · rfl
    all_goals first
      | rfl
      | (rw [if_pos h]; rfl)
      | (rw [if_pos h])
  · cases h
theorem semS_expr {e : E} {te : TW TE} (h : SemV C.bor te (ev C e)) : SemS C.bor (fun K W => tDrop (te K W)) (ex C (.expr e)) := by
  intro K W σ H O ρ fp D s hh
  rw [ex] at hh
  refine h K W σ H O ρ fp _ s ((Rs.holds_fl hh).imp (fun d ρ1 q => ?_) fun x ρ' q => q.ex)
  exact fun v H1 O1 fp1 G st r tm => q σ H1 O1 fp1 st.toS
theorem semS_ife {c : E} {a b : Ss} {tc : TW TT} {ta tb : TW TS} (h : SemT C.bor tc (evT C c)) (ha : SemS C.bor ta (exs C a)) (hb : SemS C.bor tb (exs C b)) : SemS C.bor (fun K W => tIfS (tc K W) (ta K W) (tb K W)) (ex C (.ife c a b)) := by
  intro K W σ H O ρ fp D s hh
  rw [ex] at hh
  refine h K W σ H O ρ fp _ s ((Rs.holds_fl hh).imp (fun t ρ1 q => ?_) fun x ρ' q => q.ex)
  intro H1 O1 fp1 st
  cases t with
  | true => exact ha K W σ H1 O1 ρ1 fp1 D st.sit (q.after s.w st.toS)
  | false => exact hb K W σ H1 O1 ρ1 fp1 D st.sit (q.after s.w st.toS)
theorem semS_ret {e : E} {te : TW TE} (hv : ∀ i, e ≠ .var i) (h : SemV C.bor te (ev C e)) : SemS C.bor (fun K W => tRet (te K W)) (ex C (.ret e)) := by
  intro K W σ H O ρ fp D s hh
  have e1 : ex C (.ret e) ρ = (ev C e ρ).fl fun d ρ1 => .rt d ρ1 := by
    rw [ex]
    exact hv
  rw [e1] at hh
  refine h K W σ H O ρ fp _ s ((Rs.holds_fl hh).imp (fun d ρ1 q => ?_) fun x ρ' q => q.ex)
  exact fun v H1 O1 fp1 G st r tm => q v σ H1 O1 fp1 G st.toS r tm
theorem semS_retv {i : Nat} : SemS C.bor (fun _ _ => tRet (tVar i)) (ex C (.ret (.var i))) := by
  intro K W σ H O ρ fp D s hh
  rw [ex] at hh
  cases e : ρ.at_ i with
  | none => rw [e] at hh; exact hh.elim
  | some d =>
    rw [e] at hh
    dsimp only at hh
    by_cases hb : C.bor i = true
    · rw [if_pos hb] at hh
      have sv := sem_var (bor := C.bor) (i := i) K W σ H O ρ fp D.rt s
      refine sv ?_
      unfold readVar
      dsimp only
      rw [e]
      exact fun v H1 O1 fp1 G st r tm => hh v σ H1 O1 fp1 G st.toS r tm
    · rw [if_neg hb] at hh
      obtain ⟨v, hv, r⟩ := s.sl.rep i d e
      by_cases ho : d.isOwn = true
      · rw [if_pos ho] at hh
        have sm := sem_mv (B := C.B) (bor := C.bor) (i := i) K W σ H O ρ fp D.rt s
        refine sm ?_
        show Rs.Holds (ev ⟨C.bor, C.B⟩ (.mv i) ρ) _ _
        rw [ev]
        rw [e]
        dsimp only
        rw [if_neg hb]
        exact fun v H1 O1 fp1 G st r tm => hh v σ H1 O1 fp1 G st.toS r tm
      · rw [if_neg ho] at hh
        exact ⟨v, hv, hh v σ H O fp [] (StpS.refl s) (rw_plain r (by simpa using ho)).2.2 Tmp.nil⟩
theorem semS_seq {s : S} {ss : Ss} {t u : TW TS} (h : SemS C.bor t (ex C s)) (h' : SemS C.bor u (exs C ss)) : SemS C.bor (fun K W => tSeq (t K W) (u K W)) (exs C (.cons s ss)) := by
  intro K W σ H O ρ fp D st hh
  rw [exs] at hh
  refine h K W σ H O ρ fp _ st ?_
  cases e : ex C s ρ with
  | nx ρ1 =>
    rw [e] at hh
    exact fun σ1 H1 O1 fp1 s1 => h' K W σ1 H1 O1 ρ1 fp1 D s1.st.sit (Fl.Holds.after hh st.w s1)
  | rt d ρ1 => rw [e] at hh; exact hh
  | bk ρ1 => rw [e] at hh; exact hh
  | ct ρ1 => rw [e] at hh; exact hh
  | exc x ρ1 => rw [e] at hh; exact hh
  | bad => rw [e] at hh; exact hh
/-! ### for -/
def T.slots : T → List Nat
  | .v i => [i]
  | .nil => []
  | .cons t ts => t.slots ++ ts.slots
theorem tgIn_mono {own own' : List Nat} (h : ∀ i, own.contains i = true → own'.contains i = true) : ∀ {t : T}, tgIn own t = true → tgIn own' t = true
  | .v i, e => h i e
  | .nil, _ => rfl
  | .cons t ts, e => by
    rw [tgIn] at e ⊢
    obtain ⟨a, b⟩ := and2 e
    rw [tgIn_mono h a, tgIn_mono h b]; rfl
theorem tgIn_slots : ∀ t : T, tgIn t.slots t = true
  | .v i => by show [i].contains i = true; simp
  | .nil => rfl
  | .cons t ts => by
    show (tgIn (t.slots ++ ts.slots) t && tgIn (t.slots ++ ts.slots) ts) = true
    rw [tgIn_mono (own' := t.slots ++ ts.slots) (fun i h => by simp at h ⊢; exact .inl h) (tgIn_slots t), tgIn_mono (own' := t.slots ++ ts.slots) (fun i h => by simp at h ⊢; exact .inr h) (tgIn_slots ts)]
    rfl
theorem okT_slots : ∀ {t : T} {j : Nat}, forL.okT C t = true → C.bor j = true → t.slots.contains j = false
  | .v i, j, h, hb => by
    rw [forL.okT] at h
    have : i ≠ j := fun e => by rw [e, hb] at h; cases h
    show [i].contains j = false
    simp
    exact fun e => this e.symm
  | .nil, _, _, _ => rfl
  | .cons t ts, j, h, hb => by
    rw [forL.okT] at h
    obtain ⟨a, b⟩ := and2 h
    have h1 := okT_slots a hb
    have h2 := okT_slots b hb
    show (t.slots ++ ts.slots).contains j = false
    simp at h1 h2 ⊢
    exact ⟨h1, h2⟩
theorem semS_for {t : T} {it : It} {b : Ss} {wi : TW TI} {tb : TW TS} (hi : SemI C.bor wi (evI C it)) (hb : SemS C.bor tb (exs C b)) : SemS C.bor (fun K W => tFor (wi K W) (gT K t) (tb K W)) (ex C (.fore t it b)) := by
  intro K W σ H O ρ fp D s hh
  rw [ex] at hh
  refine hi K W σ H O ρ fp _ s ((Rs.holds_fl hh).imp (fun xs ρ1 q => ?_) fun x ρ' q => q.ex)
  intro J H1 O1 fp1 st1 wk
  obtain ⟨Gd, Y, w, stab⟩ := wk
  have q := Fl.Holds.after q s.w st1.toS
  refine for_it w (fun i σ' H' => ∃ O' ρ' fp', StpS K C.bor σ H1 O1 fp1 σ' H' O' ρ' fp' ∧ Fl.Holds K C.bor σ' H' O' fp' (forL C t (exs C b) (xs.drop i) ρ') D W) ⟨O1, ρ1, fp1, StpS.refl st1.sit, q⟩ ?_ ?_ ?_
  · rintro i σ' H' hi' ⟨O', ρ', fp', st, _⟩
    exact (stab (FF fp1) H' O' st.st.le st1.sit.sl.own st.st.sit.w).1
  · rintro i x σ' H' H2 hi' ⟨O', ρ', fp', st, hf⟩ y
    obtain ⟨d, exd, l1, w2, rx⟩ := (stab (FF fp1) H' O' st.st.le st1.sit.sl.own st.st.sit.w).2 i x H2 hi' y
    have edrop : xs.drop i = d :: xs.drop (i + 1) := by
      obtain ⟨hlt, hg⟩ := List.getElem?_eq_some_iff.mp exd
      rw [List.drop_eq_getElem_cons hlt, hg]
    rw [edrop, forL] at hf
    cases ea : forL.asgF C t d ρ' with
    | none => rw [ea] at hf; exact hf.elim
    | some ρa =>
      rw [ea] at hf
      dsimp only at hf
      unfold forL.asgF at ea
      split at ea
      · rename_i hok
        have slc : Sl K H2 O' σ' ρ' fp' := st.st.sit.sl.mono l1 (fun _ z => z.elim) fun _ _ z => z
        obtain ⟨σ2, fp2, hgT, ok⟩ := asg_ok ea rx slc
        have sA : StpS K C.bor σ' H' O' fp' σ2 H2 O' ρa fp2 := ⟨⟨l1.mono fun _ z => z.elim, ⟨w2, ok.sl, fun j hj => ok.some j (st.st.sit.bo j hj)⟩, fun a ha => .inl (ok.fr a ha)⟩, fun j hj => (ok.far t.slots j (tgIn_slots t) (okT_slots hok hj)).1⟩
        refine hgT _ ?_
        refine hb K W σ2 H2 O' ρa fp2 _ sA.st.sit ?_
        have next : ∀ {ρ3 : Env}, Fl.Holds K C.bor σ' H' O' fp' (forL C t (exs C b) (xs.drop (i + 1)) ρ3) D W → ∀ σ3 H3 O3 fp3, StpS K C.bor σ2 H2 O' fp2 σ3 H3 O3 ρ3 fp3 → ∃ O' ρ' fp', StpS K C.bor σ H1 O1 fp1 σ3 H3 O' ρ' fp' ∧ Fl.Holds K C.bor σ3 H3 O' fp' (forL C t (exs C b) (xs.drop (i + 1)) ρ') D W :=
          fun {ρ3} h3 σ3 H3 O3 fp3 s3 => ⟨O3, ρ3, fp3, st.trans st1.sit.w (sA.trans st.st.sit.w s3), h3.after st.st.sit.w (sA.trans st.st.sit.w s3)⟩
        cases eb : exs C b ρa with
        | nx ρ3 => rw [eb] at hf; exact next hf
        | ct ρ3 => rw [eb] at hf; exact next hf
        | bk ρ3 => rw [eb] at hf; exact fun σ3 H3 O3 fp3 s3 => hf σ3 H3 O3 fp3 (sA.trans st.st.sit.w s3)
        | rt d3 ρ3 => rw [eb] at hf; exact fun v σ3 H3 O3 fp3 G s3 r3 t3 => hf v σ3 H3 O3 fp3 G (sA.trans st.st.sit.w s3) r3 (tmp_later sA.st t3)
        | exc x3 ρ3 => rw [eb] at hf; exact XPostS.after hf st.st.sit.w sA
        | bad => rw [eb] at hf; exact hf
      · cases ea
  · rintro σ' H' ⟨O', ρ', fp', st, hf⟩
    rw [List.drop_length, forL] at hf
    exact hf σ' H' O' fp' (StpS.refl st.st.sit)
/-! ### while -/
theorem semS_whl {c : E} {b : Ss} {tc : TW TT} {tb : TW TS} (hc : SemT C.bor tc (evT C c)) (hb : SemS C.bor tb (exs C b)) : SemS C.bor (fun K W => tWhile (tc K W) (tb K W)) (ex C (.whl c b)) := by
  intro K W σ H O ρ fp D s hh
  rw [ex] at hh
  have hne : wS (evT C c) (exs C b) ρ ≠ .bad := fun z => by rw [z] at hh; exact hh
  obtain ⟨n, hn⟩ := wS_some hne
  refine ⟨fun m σ' H' => ∃ O' ρ' fp' r, Sit K C.bor H' O' σ' ρ' fp' ∧ wN (evT C c) (exs C b) m ρ' = some r ∧ Fl.Holds K C.bor σ' H' O' fp' r D W, ⟨n, O, ρ, fp, _, s, hn, hh⟩, ?_⟩
  rintro m σ' H' ⟨O', ρ', fp', r, s', hm, hr⟩
  cases m with
  | zero => cases hm
  | succ m =>
    unfold wN at hm
    refine hc K W σ' H' O' ρ' fp' _ s' ?_
    cases e : evT C c ρ' with
    | bad => rw [e] at hm; cases hm; exact hr
    | exc x ρ1 => rw [e] at hm; cases hm; exact XPostS.ex hr
    | ok t ρ1 =>
      rw [e] at hm
      intro H1 O1 fp1 st
      cases t with
      | false =>
        cases hm
        rw [if_neg Bool.false_ne_true]
        exact hr σ' H1 O1 fp1 st.toS
      | true =>
        rw [if_pos rfl]
        refine ⟨fun σ2 H2 => ∃ O2 ρ2 fp2 r, Sit K C.bor H2 O2 σ2 ρ2 fp2 ∧ wN (evT C c) (exs C b) m ρ2 = some r ∧ Fl.Holds K C.bor σ2 H2 O2 fp2 r D W, fun σ2 H2 h => ⟨m, Nat.lt_succ_self m, h⟩, ?_⟩
        refine hb K W σ' H1 O1 ρ1 fp1 _ st.sit ?_
        dsimp only at hm
        have next : ∀ {ρ3 : Env}, wN (evT C c) (exs C b) m ρ3 = some r → ∀ σ3 H3 O3 fp3, StpS K C.bor σ' H1 O1 fp1 σ3 H3 O3 ρ3 fp3 → ∃ O2 ρ2 fp2 r, Sit K C.bor H3 O2 σ3 ρ2 fp2 ∧ wN (evT C c) (exs C b) m ρ2 = some r ∧ Fl.Holds K C.bor σ3 H3 O2 fp2 r D W :=
          fun {ρ3} h3 σ3 H3 O3 fp3 s3 => ⟨O3, ρ3, fp3, r, s3.st.sit, h3, hr.after s'.w (st.toS.trans s'.w s3)⟩
        cases eb : exs C b ρ1 with
        | nx ρ3 => rw [eb] at hm; exact next hm
        | ct ρ3 => rw [eb] at hm; exact next hm
        | bk ρ3 => rw [eb] at hm; cases hm; exact fun σ3 H3 O3 fp3 s3 => hr σ3 H3 O3 fp3 (st.toS.trans s'.w s3)
        | rt d3 ρ3 => rw [eb] at hm; cases hm; exact fun v σ3 H3 O3 fp3 G s3 r3 t3 => hr v σ3 H3 O3 fp3 G (st.toS.trans s'.w s3) r3 (tmp_later st t3)
        | exc x3 ρ3 => rw [eb] at hm; cases hm; exact XPostS.after hr s'.w st.toS
        | bad => rw [eb] at hm; cases hm; exact hr
end
end Pv

/-! Pv, part Y: append, extend, op=, pairs of targets. -/
namespace Pv
open PySem PySem.Spec L2 RZ
open PyProof.Rows hiding St

section
variable {C : Ctx} {L : Lib} {N : List Str} {sc : Scope} {k : Nat}
theorem RwL.snoc {K : PySem.W.Frag} {H : Hp} {O : Addr → Prop} {vs : List V} {ll : List (List PD)} {F : List Addr} (r : RwL K H O vs ll F) {a : Addr} {xs : List V} {l : List PD} (h : H a = some (.lst xs)) (o : O a) (t : RpAll K H O xs l) : RwL K H O (vs ++ [.ref a]) (ll ++ [l]) (F ++ [a]) := by
  induction r with
  | nil => exact .cons h o t .nil
  | cons h' o' t' _ ih => exact .cons h' o' t' ih
theorem isLst_ty {K : PySem.W.Frag} {H : Hp} {O : Addr → Prop} {v : V} {d : D} {F : List Addr} (r : Rw K H O v d F) (h : isLst (some d) = true) : tyV K "list" v H := by
  cases r with
  | own h1 _ _ => exact .inl ⟨rfl, _, SqL.of h1⟩
  | own2 h1 _ _ => exact .inl ⟨rfl, _, SqL.of h1⟩
  | _ => cases h
theorem semS_app {i : Nat} {e : E} {te : TW TE} (h : SemV C.bor te (ev C e)) : SemS C.bor (fun K W => tDrop (tBM K "list" rAppend (tVar i) (tAll K W [te]))) (ex C (.app i e)) := by
  intro K W σ H O ρ fp D s hh
  rw [ex] at hh
  split at hh
  · exact hh.elim
  rename_i hl
  have hl : isLst (ρ.at_ i) = true := by simpa using hl
  cases e0 : ρ.at_ i with
  | none => rw [e0] at hl; cases hl
  | some d0 =>
    rw [e0] at hl
    obtain ⟨x, hx, rx⟩ := s.sl.rep i d0 e0
    refine ⟨x, hx, isLst_ty rx hl, ?_⟩
    refine h K W σ H O ρ fp _ s ((Rs.holds_fl hh).imp (fun v ρ1 q => ?_) fun x ρ' q => q.ex)
    intro y H1 O1 fp1 G st r tm
    split at q
    · rename_i d ed
      split at q
      · rename_i d' ea
        -- the value let go
        have plain : ∀ l x', d = .own l → v.toPD = some x' → l.length < line → d' = .own (l ++ [x']) → rAppend x [y] H1 (fun _ H1 => D.nx σ H1) := by
          intro l x' el ex hlen ed'
          subst el; subst ed'
          have stO := st.offG s.w tm r.own_mem
          obtain ⟨u', hu', rx'⟩ := stO.sit.sl.rep i _ ed
          rw [hx] at hu'
          cases hu'
          obtain ⟨a, xs, rfl, eF, h1, hO, t1⟩ := rw_own rx'
          have rd : Rp K H1 (offO O1 G) y x' := r.toG (fun _ z => z) ex
          refine ⟨a, xs, y, rfl, rfl, h1, by rw [t1.length, line_eq]; exact hlen, ?_⟩
          have lw : Le (fun x => x = a) H1 (offO O1 G) (upd H1 a (.lst (xs ++ [y]))) (offO O1 G) := Le.write h1 trivial rfl
          have hOa : ∀ b, b = a → offO O1 G b := fun b e => by rw [e]; exact hO
          obtain ⟨fp', s2, _⟩ := slot_write (G := []) s.w stO hx ed (by rw [eF]; exact List.mem_cons_self) h1 trivial (show MutO (.lst _) from trivial) (.own upd_same hO ((t1.append (.cons rd .nil)).mono lw hOa)) (List.nodup_cons.mpr ⟨List.not_mem_nil, List.nodup_nil⟩) Tmp.nil fun b hb => by rw [eF]; exact .inl hb
          exact q σ _ _ fp' s2.toS
        have row : ∀ ll m, d = .own2 ll → v = .own m → ll.length < line → d' = .own2 (ll ++ [m]) → rAppend x [y] H1 (fun _ H1 => D.nx σ H1) := by
          intro ll m el ev' hlen ed'
          subst el; subst ed'; subst ev'
          obtain ⟨u', hu', rx'⟩ := st.sit.sl.rep i _ ed
          rw [hx] at hu'
          cases hu'
          obtain ⟨a, xs, F', rfl, eF, h1, hO, t1⟩ := rw_own2 rx'
          obtain ⟨b, ys, rfl, eG, h2, hO2, t2⟩ := rw_own r
          refine ⟨a, xs, .ref b, rfl, rfl, h1, by rw [t1.length, line_eq]; exact hlen, ?_⟩
          have haF : a ∈ fp1 i := by rw [eF]; exact List.mem_cons_self
          have nd := st.sit.sl.nd i
          rw [eF] at nd
          obtain ⟨n1, n2⟩ := List.nodup_cons.mp nd
          have hbG : b ∈ G := by rw [eG]; exact List.mem_cons_self
          have hbn : ∀ z ∈ fp1 i, b ≠ z := fun z hz e => tm.dj b hbG ⟨i, by rw [e]; exact hz⟩
          have lw : Le (fun x => x = a) H1 O1 (upd H1 a (.lst (xs ++ [.ref b]))) O1 := Le.write h1 trivial rfl
          have hOa : ∀ b, b = a → O1 b := fun b e => by rw [e]; exact hO
          have t1' := t1.mono lw hOa fun z hz e => n1 (by rw [← e]; exact hz)
          have rr : Rw K (upd H1 a (.lst (xs ++ [.ref b]))) O1 (.ref a) (.own2 (ll ++ [m])) (a :: (F' ++ [b])) := .own2 upd_same hO (t1'.snoc (by rw [upd_ne (hbn a haF)]; exact h2) hO2 (t2.mono lw hOa))
          obtain ⟨fp', s2, _⟩ := slot_write s.w st hx ed haF h1 trivial (show MutO (.lst _) from trivial) rr (by
            refine List.nodup_cons.mpr ⟨fun z => ?_, List.nodup_append.mpr ⟨n2, List.nodup_cons.mpr ⟨List.not_mem_nil, List.nodup_nil⟩, fun p hp q hq e => ?_⟩⟩
            · rcases List.mem_append.mp z with z | z
              · exact n1 z
              · exact hbn a haF (List.mem_singleton.mp z).symm
            · rw [List.mem_singleton.mp hq] at e
              exact hbn p (by rw [eF]; exact List.mem_cons_of_mem _ hp) e.symm) tm (fun z hz => by
            rcases List.mem_cons.mp hz with rfl | hz
            · exact .inl haF
            · rcases List.mem_append.mp hz with hz | hz
              · exact .inl (by rw [eF]; exact List.mem_cons_of_mem _ hz)
              · exact .inr (by rw [List.mem_singleton.mp hz]; exact hbG))
          exact q σ _ _ fp' s2.toS
        unfold appD at ea
        split at ea
        · -- the first row
          rename_i m
          cases ea
          obtain ⟨u', hu', rx'⟩ := st.sit.sl.rep i _ ed
          rw [hx] at hu'
          cases hu'
          obtain ⟨a, xs, rfl, eF, h1, hO, t1⟩ := rw_own rx'
          cases t1
          obtain ⟨b, ys, rfl, eG, h2, hO2, t2⟩ := rw_own r
          refine ⟨a, [], .ref b, rfl, rfl, h1, by rw [line_eq]; exact Nat.succ_pos _, ?_⟩
          have haF : a ∈ fp1 i := by rw [eF]; exact List.mem_cons_self
          have hbG : b ∈ G := by rw [eG]; exact List.mem_cons_self
          have hba : b ≠ a := fun e => tm.dj b hbG ⟨i, by rw [e]; exact haF⟩
          have lw : Le (fun x => x = a) H1 O1 (upd H1 a (.lst ([] ++ [.ref b]))) O1 := Le.write h1 trivial rfl
          have hOa : ∀ b, b = a → O1 b := fun b e => by rw [e]; exact hO
          have rr : Rw K (upd H1 a (.lst ([] ++ [.ref b]))) O1 (.ref a) (.own2 [m]) [a, b] := .own2 upd_same hO (.cons (by rw [upd_ne hba]; exact h2) hO2 (t2.mono lw hOa) .nil)
          obtain ⟨fp', s2, _⟩ := slot_write s.w st hx ed haF h1 trivial (show MutO (.lst _) from trivial) rr (List.nodup_cons.mpr ⟨fun z => hba (List.mem_singleton.mp z).symm, List.nodup_cons.mpr ⟨List.not_mem_nil, List.nodup_nil⟩⟩) tm (fun z hz => by
            rcases List.mem_cons.mp hz with rfl | hz
            · exact .inl haF
            · exact .inr (by rw [List.mem_singleton.mp hz]; exact hbG))
          exact q σ _ _ fp' s2.toS
        · split at ea
          · rename_i l' v' _ x' ex
            split at ea
            · rename_i hlen
              cases ea
              exact plain _ _ rfl ex hlen rfl
            · cases ea
          · cases ea
        · split at ea
          · rename_i hlen
            cases ea
            exact row _ _ rfl rfl hlen rfl
          · cases ea
        · cases ea
      · exact q.elim
    · exact q.elim
theorem semS_ext {i : Nat} {e : E} {te : TW TE} (h : SemV C.bor te (ev C e)) : SemS C.bor (fun K W => tDrop (tBM K "list" rExtend (tVar i) (tAll K W [te]))) (ex C (.ext i e)) := by
  intro K W σ H O ρ fp D s hh
  rw [ex] at hh
  split at hh
  · exact hh.elim
  rename_i hl
  have hl : isLst (ρ.at_ i) = true := by simpa using hl
  cases e0 : ρ.at_ i with
  | none => rw [e0] at hl; cases hl
  | some d0 =>
    rw [e0] at hl
    obtain ⟨x, hx, rx⟩ := s.sl.rep i d0 e0
    refine ⟨x, hx, isLst_ty rx hl, ?_⟩
    refine h K W σ H O ρ fp _ s ((Rs.holds_fl hh).imp (fun v ρ1 q => ?_) fun x ρ' q => q.ex)
    intro y H1 O1 fp1 G st r tm
    split at q
    · rename_i d ed
      split at q
      · rename_i d' ea
        unfold extD at ea
        split at ea
        · split at ea
          · rename_i l _ m em
            split at ea
            · rename_i hlen
              cases ea
              have stO := st.offG s.w tm r.own_mem
              obtain ⟨u', hu', rx'⟩ := stO.sit.sl.rep i _ ed
              rw [hx] at hu'
              cases hu'
              obtain ⟨a, xs, rfl, eF, h1, hO, t1⟩ := rw_own rx'
              obtain ⟨b, zs, rfl, h2, _, t2⟩ := rp_lst (r.toG (G := G) (fun _ z => z) (lstD_pd em))
              refine ⟨a, b, xs, zs, rfl, rfl, h1, h2, by rw [t1.length, t2.length, line_eq]; exact hlen, ?_⟩
              have lw : Le (fun x => x = a) H1 (offO O1 G) (upd H1 a (.lst (xs ++ zs))) (offO O1 G) := Le.write h1 trivial rfl
              have hOa : ∀ b, b = a → offO O1 G b := fun b e => by rw [e]; exact hO
              obtain ⟨fp', s2, _⟩ := slot_write (G := []) s.w stO hx ed (by rw [eF]; exact List.mem_cons_self) h1 trivial (show MutO (.lst _) from trivial) (.own upd_same hO ((t1.append t2).mono lw hOa)) (List.nodup_cons.mpr ⟨List.not_mem_nil, List.nodup_nil⟩) Tmp.nil fun b hb => by rw [eF]; exact .inl hb
              exact q σ _ _ fp' s2.toS
            · cases ea
          · cases ea
        · cases ea
      · exact q.elim
    · exact q.elim
theorem semS_aug {i : Nat} {op : Operator} {f : Int → Int → Int} {e : E} {te : TW TE} (hop : (op = .Add ∧ f = fun i j => i + j) ∨ (op = .Sub ∧ f = fun i j => i - j)) (h : SemV C.bor te (ev C e)) : SemS C.bor (fun K W => tAug i (te K W) (ipI f)) (ex C (.aug i op e)) := by
  intro K W σ H O ρ fp D s hh
  rw [ex] at hh
  split at hh
  · rename_i n e0
    obtain ⟨x, hx, rx⟩ := s.sl.rep i _ e0
    have ex := rw_int rx
    subst ex
    refine ⟨_, hx, ?_⟩
    refine h K W σ H O ρ fp _ s ((Rs.holds_fl hh).imp (fun v ρ1 q => ?_) fun x ρ' q => q.ex)
    intro y H1 O1 fp1 G st r tm
    split at q
    · rename_i m
      have ey := rw_int r
      subst ey
      refine ⟨n, m, rfl, rfl, ?_⟩
      rcases hop with ⟨rfl, rfl⟩ | ⟨rfl, rfl⟩
      · dsimp only at q
        split at q
        · rename_i ρ2 ep
          exact q _ H1 O1 _ (stp_put (G := []) s.w st.toS (.p (.int _)) Tmp.nil ep)
        · exact q.elim
      · dsimp only at q
        split at q
        · rename_i ρ2 ep
          exact q _ H1 O1 _ (stp_put (G := []) s.w st.toS (.p (.int _)) Tmp.nil ep)
        · exact q.elim
    · exact q.elim
  · exact hh.elim
def setAll : St → List Nat → List V → St
  | σ, i :: is, v :: vs => setAll (σ.set i (some v)) is vs
  | σ, _, _ => σ
theorem putAll_ok {K : PySem.W.Frag} {σ0 : St} {H0 H : Hp} {O0 O : Addr → Prop} {fp0 : Fp} : ∀ {is : List Nat} {vs : List V} {ds : List D} {G : List Addr} {σ : St} {ρ ρ' : Env} {fp : Fp}, Wok H0 O0 → StpS K C.bor σ0 H0 O0 fp0 σ H O ρ fp → PRw K H O vs ds G → Tmp H0 fp0 fp G →
    putAll C is ds ρ = some ρ' → vs.length = is.length ∧ ∃ fp', StpS K C.bor σ0 H0 O0 fp0 (setAll σ is vs) H O ρ' fp'
  | [], _, _, _, _, _, _, _, w, st, .nil, tm, h => by cases h; exact ⟨rfl, _, st⟩
  | [], _, _, _, _, _, _, _, w, st, .cons _ _, tm, h => by cases h
  | i :: is, _, _, _, _, _, _, _, w, st, .nil, tm, h => by cases h
  | i :: is, _, _, _, σ, ρ, ρ', fp, w, st, .cons (v := v) (F := F) (G := G) rv rr, tm, h => by
    rw [putAll] at h
    split at h
    · rename_i ρ1 e1
      obtain ⟨n1, n2, n3⟩ := List.nodup_append.mp tm.nd
      have s1 := stp_put w st rv ⟨n1, fun a ha => tm.dj a (List.mem_append_left _ ha), fun a ha => tm.fr a (List.mem_append_left _ ha)⟩ e1
      obtain ⟨a, fp', b⟩ := putAll_ok w s1 rr ⟨n2, fun a ha z => by
        rcases FF_set z with z | ⟨j, _, z⟩
        · exact n3 a z a ha rfl
        · exact tm.dj a (List.mem_append_right _ ha) ⟨j, z⟩, fun a ha => tm.fr a (List.mem_append_right _ ha)⟩ h
      exact ⟨by rw [List.length_cons, List.length_cons, a], fp', b⟩
    · cases h
theorem semS_par {is : List Nat} {es : Es} {ta : TW TA} {g : Ends → St → List V → Hp → Prop} (h : SemL C.bor ta (evL C es)) (hg : ∀ D σ vs H, vs.length = is.length → D.nx (setAll σ is vs) H → g D σ vs H) :
    SemS C.bor (fun K W D σ H => ta K W σ H fun vs H1 => g D σ vs H1) (ex C (.par is es)) := by
  intro K W σ H O ρ fp D s hh
  rw [ex] at hh
  refine h K W σ H O ρ fp _ s ((Rs.holds_fl hh).imp (fun ds ρ1 q => ?_) fun x ρ' q => q.ex)
  intro vs H1 O1 fp1 G st r tm
  split at q
  · rename_i ρ2 ep
    obtain ⟨a, fp', b⟩ := putAll_ok s.w st.toS r tm ep
    exact hg D σ vs H1 a (q _ H1 O1 fp' b)
  · exact q.elim
end
end Pv

/-! Pv, part Z: statements, all forms. -/
namespace Pv
open PySem PySem.Spec L2 RZ
open PyProof.Rows hiding St

def nameLoc (N : List Str) (sc : Scope) (i : Nat) (x : Str) : Bool := decide (N[i]? = some x) && decide (sc.names.lookup x = some .local)
def folds (es : List Expr) : Bool := es.all (foldedForSure 8) || es.all (constantsAlone 8)
theorem nb {b : Bool} (h : (!b) = true) : b = false := by cases b <;> first | rfl | cases h
theorem dup2 {x y : Str} (h : x ≠ y) : ([x, y].eraseDups).length = 2 := by
  have h1 : (y == x) = false := by simpa using Ne.symm h
  simp [List.eraseDups, List.eraseDupsBy, List.eraseDupsBy.loop, h1]
theorem dup3 {x y z : Str} (h : x ≠ y) (h2 : x ≠ z) (h3 : y ≠ z) : ([x, y, z].eraseDups).length = 3 := by
  have h1 : (y == x) = false := by simpa using Ne.symm h
  have h2 : (z == x) = false := by simpa using Ne.symm h2
  have h3 : (z == y) = false := by simpa using Ne.symm h3
  simp [List.eraseDups, List.eraseDupsBy, List.eraseDupsBy.loop, h1, h2, h3]
theorem top_star {e : Expr} (h : top e = true) : ∀ v p, e ≠ .Starred v p := fun v p z => by subst z; cases h
section
variable {env : PySem.Env} {x y z : Str} {a b c : Expr} {px py pz pt pt2 : Pos} {kt k2 : Nat}
theorem stores2 (bk : env.blockKind = .function) (kx : env.kindOf x = some .local) (ky : env.kindOf y = some .local) (hl : px.line = py.line) (hxy : x ≠ y) (ta : top a = true) (tb : top b = true)
    (f1 : ([a, b].all (foldedForSure 8)) = false) (f2 : ([a, b].all (constantsAlone 8)) = false) : swappedStores [.Tuple [.Name x px, .Name y py] kt pt] (.Tuple [a, b] k2 pt2) env = pure (some [x, y]) := by
  have sa := top_star ta
  have sb := top_star tb
  have e2 := dup2 hxy
  unfold swappedStores
  simp [bk, kx, ky, hl, e2, f1, f2, Expr.pos]
theorem stores3 (bk : env.blockKind = .function) (kx : env.kindOf x = some .local) (ky : env.kindOf y = some .local) (kz : env.kindOf z = some .local) (hl : px.line = py.line) (hl2 : px.line = pz.line) (hxy : x ≠ y) (hxz : x ≠ z) (hyz : y ≠ z) (ta : top a = true) (tb : top b = true) (tc : top c = true)
    (f1 : ([a, b, c].all (foldedForSure 8)) = false) (f2 : ([a, b, c].all (constantsAlone 8)) = false) : swappedStores [.Tuple [.Name x px, .Name y py, .Name z pz] kt pt] (.Tuple [a, b, c] k2 pt2) env = pure (some [x, y, z]) := by
  have sa := top_star ta
  have sb := top_star tb
  have sc := top_star tc
  have e2 := dup3 hxy hxz hyz
  have h1 : py.line = px.line := hl.symm
  have h2 : pz.line = px.line := hl2.symm
  unfold swappedStores
  simp [bk, kx, ky, kz, h1, h2, e2, f1, f2, Expr.pos]
end
section
variable {C : Ctx} {L : Lib} {N : List Str} {k : Nat}
theorem snd_setLc {sc : Scope} {elt : E} {tg : T} {it : It} {ifs : Es} {own : List Nat} {pelt ptg pit : Expr} {pifs : List Expr} {scope : Scope} {pos spos py : Pos} {i : Nat} {y : Str} (hb : blkB N sc scope own = true) (hin : tgIn own tg = true) (htg : tgB N scope tg ptg = true)
    (hi : ∃ t : TW TI, (∀ X W, Good L N sc C.B k X → Takes X W → PI X ptg pit (t X.K W)) ∧ SemI C.bor t (evI C it)) (hl : pifs.length ≤ 1) (htop : top pit = true) (hf : AllS (Snd C L N (relS scope sc) k) ifs pifs) (he : Snd C L N (relS scope sc) k elt pelt)
    (hy : nameLoc N sc i y = true) (hsw : ∀ env : PySem.Env, env.scope = sc → swapsWith (.ListComp pelt [⟨ptg, pit, pifs, 0⟩] scope pos) (some (.Name y py)) spos.line env = pure true) :
    SndS C L N sc k (ex C (.asg (.v i) (.lc elt tg it ifs own))) (.Assign [.Name y py] (.ListComp pelt [⟨ptg, pit, pifs, 0⟩] scope pos) spos) := by
  obtain ⟨wi, w1, w2⟩ := hi
  obtain ⟨te, e1, e2⟩ := he.v
  obtain ⟨tt, t1, t2⟩ := lc_ifs hl hf
  obtain ⟨hy1, hy2⟩ := and2 hy
  refine ⟨_, fun X W gd tk => ?_, semS_asg (semV_lc hin w2 t2 e2) semG_v⟩
  have g := gd.g
  have ok := blk_ok hb
  have q := ps_setLc (X := X) (pos := pos) (spos := spos) (py := py) (elt := pelt) (ifs := pifs) (te := te X.K Wf) (tt := tt X.K Wf) (g := gT X.K tg) (wi := wi X.K W) g.calm g.nd (by rw [g.N]; exact of_decide_eq_true hy1) (by rw [g.sc]; exact of_decide_eq_true hy2) (hsw X.env g.sc)
    (w1 X W g tk) (by rw [g.N, g.sc]; exact ok) (lc_tg g htg) (fun s H Ca cl fp => t1 _ Wf (good_blk g) takes_blk) (fun s H Ca cl fp => e1 _ Wf (good_blk g) takes_blk) (folded htop)
  rw [ownN_snd] at q
  exact q
end
theorem stores_c {ts vs : List Expr} {kt k2 : Nat} {pt p2 : Pos} {env : PySem.Env} {x : Str} {p : Pos} (hm : Expr.Name x p ∈ ts) (hk : env.kindOf x ≠ some .local) : swappedStores [.Tuple ts kt pt] (.Tuple vs k2 p2) env = pure none := by
  unfold swappedStores
  simp only [pure_bind]
  split
  · rfl
  split
  · rfl
  split
  · rfl
  · rename_i h
    simp at h
    exact absurd (by simp [hk]) (h.1 _ hm)
/-- names, one of them captured: the pair is laid, then taken apart -/
def namesB (N : List Str) (sc : Scope) : List Nat → List Expr → Bool
  | [], [] => true
  | i :: is, .Name x _ :: ts => decide (N[i]? = some x) && locB sc x && namesB N sc is ts
  | _, _ => false
def cellB (sc : Scope) (ts : List Expr) : Bool := ts.any fun t => match t with
  | .Name x _ => decide (sc.names.lookup x = some .cell)
  | _ => false
def parC (N : List Str) (sc : Scope) (is : List Nat) (ts : List Expr) : Bool := namesB N sc is ts && cellB sc ts && decide (is.length ≤ 1000)
def gNames : List Nat → TGs
  | [] => gNil
  | i :: is => gCons (gName i) (gNames is)
theorem gNames_ok : ∀ {is : List Nat} {vs : List V} {σ : St} {H : Hp} {Q : St → Hp → Prop}, vs.length = is.length → Q (setAll σ is vs) H → gNames is vs σ H Q
  | [], [], _, _, _, _, q => ⟨rfl, q⟩
  | [], _ :: _, _, _, _, h, _ => by cases h
  | _ :: _, [], _, _, _, h, _ => by cases h
  | i :: is, v :: vs, _, _, _, h, q => ⟨v, vs, rfl, gNames_ok (by simpa using h) q⟩
theorem names_pg {L : Lib} {N : List Str} {sc : Scope} {B : Nat → List D → CR} {k : Nat} {X : Cx} (gd : GoodS L N sc B k X) : ∀ {is : List Nat} {ts : List Expr}, namesB N sc is ts = true → PGs X ts (gNames is) ∧ (assignEach ts X.env).length = is.length ∧ (assignEach ts X.env).findIdx? (·.1) = none := by
  intro is
  induction is with
  | nil =>
    intro ts h
    cases ts with
    | nil => exact ⟨pgs_nil, rfl, rfl⟩
    | cons _ _ => simp [namesB] at h
  | cons i is ih =>
    intro ts h
    cases ts with
    | nil => simp [namesB] at h
    | cons t ts =>
      cases t with
      | Name x p =>
        rw [namesB] at h
        obtain ⟨h, h3⟩ := and2 h
        obtain ⟨h1, h2⟩ := and2 h
        obtain ⟨a, b, c⟩ := ih h3
        refine ⟨pgs_cons (pg_name gd.g.nd (by rw [gd.g.N]; exact of_decide_eq_true h1) (gd.loc h2) (.inl (gd.fn _))) a (by rfl), ?_, ?_⟩
        · rw [asgEach_cons (by rfl), List.length_cons, b]; rfl
        · rw [asgEach_cons (by rfl), List.findIdx?_cons]
          simp [c]
      | _ => simp [namesB] at h
def lcSw (sc scope : Scope) (y : Str) (py pos : Pos) : Bool := decide (sc.kind = .function) && decide (sc.names.lookup y = some .local) && decide (py.line = pos.line) && !(scope.names.any fun (n, k) => n == y && (k == .local || k == .cell))
theorem swaps_lc {sc scope : Scope} {y : Str} {py pos : Pos} {e : Expr} {gs : List Comprehension} {n : Nat} (h : lcSw sc scope y py pos = true) : ∀ env : PySem.Env, env.scope = sc → swapsWith (.ListComp e gs scope pos) (some (.Name y py)) n env = pure true := by
  intro env he
  unfold lcSw at h
  obtain ⟨h, h4⟩ := and2 h
  obtain ⟨h, h3⟩ := and2 h
  obtain ⟨h1, h2⟩ := and2 h
  have h1 := of_decide_eq_true h1
  have h2 := of_decide_eq_true h2
  have h3 := of_decide_eq_true h3
  have bk : env.blockKind = .function := by unfold Env.blockKind; rw [he, h1]; rfl
  have kx : env.kindOf y = some .local := by show env.scope.names.lookup y = _; rw [he]; exact h2
  unfold swapsWith
  simp only [bk, kx, Expr.pos, h3]
  simp [h4]
def parB (N : List Str) (sc : Scope) : List Nat → List Expr → List Expr → Bool
  | [i, j], [.Name x px, .Name y py], [a, b] => decide (sc.kind = .function) && nameLoc N sc i x && nameLoc N sc j y && decide (px.line = py.line) && decide (x ≠ y) && !([a, b].all (foldedForSure 8)) && !([a, b].all (constantsAlone 8)) && decide (i ≠ j)
  | [i, j, l], [.Name x px, .Name y py, .Name z pz], [a, b, c] => decide (sc.kind = .function) && nameLoc N sc i x && nameLoc N sc j y && nameLoc N sc l z && decide (px.line = py.line) && decide (px.line = pz.line) && decide (x ≠ y) && decide (x ≠ z) && decide (y ≠ z) &&
      !([a, b, c].all (foldedForSure 8)) && !([a, b, c].all (constantsAlone 8)) && decide (i ≠ j) && decide (i ≠ l) && decide (j ≠ l)
  | _, _, _ => false
section
variable (L : Lib) (N : List Str) (sc : Scope)
/-- a comprehension that a name takes at once -/
def lcSet (t : Tg) (e : E) (pt pe : Expr) : Bool := match t, e, pt, pe with
  | .v i, .lc elt tg it ifs own, .Name y py, .ListComp x [⟨tt, ti, cs, 0⟩] scope p => nameLoc N sc i y && lcSw sc scope y py p && chkE L N sc (.lc elt tg it ifs own) (.ListComp x [⟨tt, ti, cs, 0⟩] scope p)
  | _, _, _, _ => false
mutual
def chkS : S → Stmt → Bool
  | .asg t e, .Assign [pt] pe pos => (chkG L N sc t pt && chkE L N sc e pe && notComp pe && (!isTup pt || !isTup pe || foldB pt pe) && top pt) ||
      lcSet L N sc t e pt pe || (chkG L N sc t pt && chkE L N sc e pe && swB sc pt && (!isTup pt || !isTup pe) && top pt)
  | .par is es, .Assign [.Tuple ts _ _] (.Tuple vs _ _) _ => chkEs L N sc es vs && (parB N sc is ts vs || parC N sc is ts)
  | .aug i op e, .AugAssign (.Name x _) op' pe _ => decide (op = op') && decide (op = .Add ∨ op = .Sub) && decide (N[i]? = some x) && locB sc x && chkE L N sc e pe
  | .app i e, .Expr (.Call (.Attribute (.Name x _) m ap) [pe] [] cp) _ => decide (m = "append") && slotB N sc i x && top pe && (ap.endLine == cp.line) && chkE L N sc e pe
  | .ext i e, .Expr (.Call (.Attribute (.Name x _) m ap) [pe] [] cp) _ => decide (m = "extend") && slotB N sc i x && top pe && (ap.endLine == cp.line) && chkE L N sc e pe
  | .expr e, .Expr pe _ => notComp pe && chkE L N sc e pe
  | .ife c a b, .If pc pa pb _ => chkE L N sc c pc && chkSs a pa && chkSs b pb
  | .fore t it b, .For pt pi pb [] _ => top pi && tgB N sc t pt && chkI L N sc it pt pi && chkSs b pb
  | .whl c b, .While pc pb [] _ => chkE L N sc c pc && chkSs b pb
  | .ret e, .Return (some pe) _ => chkE L N sc e pe
  | .retz e, .Return (some pe) _ => chkE L N sc e pe
  | .set2 i a b e, .Assign [.Subscript (.Subscript (.Name x _) pa _) pb _] pe _ => slotB N sc i x && simpB a && simpB b && top pa && top pb && chkE L N sc a pa && chkE L N sc b pb && notComp pe && chkE L N sc e pe
  | .retn, .Return none _ => true
  | .pass, .Pass _ => true
  | .brk, .Break _ => true
  | .cont, .Continue _ => true
  | .never, _ => true
  | _, _ => false
def chkSs : Ss → List Stmt → Bool
  | .nil, [] => true
  | .cons s ss, p :: ps => chkS s p && chkSs ss ps
  | _, _ => false
end
end
section
variable {C : Ctx} {L : Lib} {N : List Str} {k : Nat} {sc : Scope}
theorem snd_set2 {i : Nat} {a b e : E} {x : Str} {p1 p2 p3 pos : Pos} {pa pb pe : Expr} (h1 : slotB N sc i x = true) (ha : simpB a = true) (hb : simpB b = true) (ta : top pa = true) (tb : top pb = true) (ca : chkE L N sc a pa = true) (cb : chkE L N sc b pb = true) (hc : notComp pe = true) (he : chkE L N sc e pe = true) :
    SndS C L N sc k (ex C (.set2 i a b e)) (.Assign [.Subscript (.Subscript (.Name x p1) pa p2) pb p3] pe pos) := by
  obtain ⟨te, t1, t2⟩ := (sndE (C := C) (k := k) e sc pe he).v
  obtain ⟨u, u1, u2⟩ := simp_pe (C := C) (k := k) ha ca
  obtain ⟨v, v1, v2⟩ := simp_pe (C := C) (k := k) hb cb
  refine ⟨fun K W => tAsg (te K W) (gSub (tOp (rIxL K) (tVar i) (u K W)) (v K W) rSetA), fun X W gd tk => ps_asg (t1 X W gd.g tk) (pg_sub (pe_ix ix_list (pe_slot gd.g h1) (u1 X W gd.g tk) (plain_ix ta)) (v1 X W gd.g tk) (set_any gd.g) (asg_sub tb)) (by first | exact no_swap hc | rfl | (unfold swapsWithSole; exact no_swap hc) | (unfold swapsWithSole; simp only []; exact no_swap hc)) (no_stores (.inl rfl)) (by rw [asgEach_cons rfl]; rfl), ?_⟩
  intro K W σ H O ρ fp D s hh
  rw [ex] at hh
  refine t2 K W σ H O ρ fp _ s ((Rs.holds_fl hh).imp (fun w ρ1 q => ?_) fun x ρ' q => q.ex)
  intro y H1 O1 fp1 G st r tm
  unfold two2 at q
  split at q
  · rename_i d x2 ρ2 y2 ρ3 e0 qa qb
    split at q
    · rename_i d' ed
      unfold set2D at ed
      split at ed <;> try (cases ed; done)
      rename_i l m n
      split at ed <;> try (cases ed; done)
      rename_i j ej
      split at ed <;> try (cases ed; done)
      rename_i row er
      split at ed <;> try (cases ed; done)
      rename_i n' dv en ev
      cases ed
      have stO := st.offG s.w tm r.own_mem
      obtain ⟨z, hz, rz⟩ := stO.sit.sl.rep i _ e0
      obtain ⟨p, xs, F', rfl, eF, hp, hO, t1⟩ := rw_own2 rz
      have rd : Rp K H1 (offO O1 G) y dv := r.toG (fun _ z => z) ev
      refine ⟨_, hz, ?_⟩
      refine (u2 K W σ H1 (offO O1 G) ρ1 fp1 m ρ2 _ stO.sit qa).2 fun w1 H2 O2 F1 l1 wk1 r1 _ _ => ?_
      have ew1 := rw_int r1
      subst ew1
      have s1 := Stp.new s.w stO l1 wk1
      have t1' := t1.mono l1 (fun _ z => z.elim) fun _ _ z => z
      have ndF : F'.Nodup := by have := stO.sit.sl.nd i; rw [eF] at this; exact (List.nodup_cons.mp this).2
      obtain ⟨b0, ys, e1, e2, e3, e4, e5, e6⟩ := t1'.at_ er ndF
      have hp2 := l1.ext _ _ hp fun z => z
      refine ⟨p, xs, m, .ref b0, rfl, rfl, SqL.of hp2, by unfold atI; rw [t1.length, ej]; exact e1, ?_⟩
      refine (v2 K W σ H2 O2 ρ1 fp1 n ρ3 _ s1.sit qb).2 fun w2 H3 O3 F2 l2 wk2 r2 _ _ => ?_
      have ew2 := rw_int r2
      subst ew2
      have s2 := Stp.new s.w s1 l2 wk2
      have t2' := t1'.mono l2 (fun _ z => z.elim) fun _ _ z => z
      obtain ⟨b1, ys1, f1, f2, f3, f4, f5, f6⟩ := t2'.at_ er ndF
      rw [e1] at f1
      cases f1
      have rd3 : Rp K H3 O3 y dv := (rd.mono l1 fun _ z => z.elim).mono l2 fun _ z => z.elim
      have hp3 := l2.ext _ _ hp2 fun z => z
      have nd1 := stO.sit.sl.nd i
      rw [eF] at nd1
      have hpb : p ≠ b0 := fun z => (List.nodup_cons.mp nd1).1 (z ▸ f2)
      refine .inl ⟨b0, ys1, n, n', rfl, rfl, f3, by rw [f5.length]; exact en, ?_⟩
      have lw : Le (fun x => x = b0) H3 O3 (upd H3 b0 (.lst (ys1.set n' y))) O3 := Le.write f3 trivial rfl
      have hOb : ∀ c, c = b0 → O3 c := fun c e => by rw [e]; exact f4
      have hO3 : O3 p := l2.own _ (l1.own _ hO fun z => z) fun z => z
      obtain ⟨fp', s3, _⟩ := slot_write (G := []) s.w s2 hz e0 (by rw [eF]; exact List.mem_cons_of_mem _ f2) f3 trivial (show MutO (.lst _) from trivial) (.own2 (by rw [upd_ne hpb]; exact hp3) hO3 (f6 (ys1.set n' y) (row.set n' dv) ((f5.set rd3 n').mono lw hOb))) nd1 Tmp.nil fun c hc => by rw [eF]; exact .inl hc
      exact q σ _ _ fp' s3.toS
    · exact q.elim
  · exact q.elim
theorem snd_lc_set {i : Nat} {elt : E} {tg : T} {it : It} {ifs : Es} {own : List Nat} {y : Str} {py p pos : Pos} {x tt ti : Expr} {cs : List Expr} {scope : Scope} (h1 : nameLoc N sc i y = true) (h2 : lcSw sc scope y py p = true) (h : chkE L N sc (.lc elt tg it ifs own) (.ListComp x [⟨tt, ti, cs, 0⟩] scope p) = true) :
    SndS C L N sc k (ex C (.asg (.v i) (.lc elt tg it ifs own))) (.Assign [.Name y py] (.ListComp x [⟨tt, ti, cs, 0⟩] scope p) pos) := by
  rw [chkE.eq_def] at h
  dsimp only at h
  obtain ⟨h, h8⟩ := and2 h
  obtain ⟨h, h7⟩ := and2 h
  obtain ⟨h, h6⟩ := and2 h
  obtain ⟨h, h5⟩ := and2 h
  obtain ⟨h, h4⟩ := and2 h
  obtain ⟨h, h3⟩ := and2 h
  obtain ⟨ha, hb⟩ := and2 h
  exact snd_setLc ha hb h3 (sndI it sc _ _ h4) (of_decide_eq_true h5) h6 (sndEs ifs _ _ h7) (sndE elt _ _ h8) h1 (swaps_lc h2)
theorem look_loc {X : Cx} (g : Good L N sc C.B k X) {i : Nat} {x : Str} (h : nameLoc N sc i x = true) : X.N[i]? = some x ∧ X.env.scope.names.lookup x = some .local := by
  obtain ⟨a, b⟩ := and2 h
  exact ⟨by rw [g.N]; exact of_decide_eq_true a, by rw [g.sc]; exact of_decide_eq_true b⟩
theorem snd_par {is : List Nat} {es : Es} {ts vs : List Expr} {k1 k2 : Nat} {p1 p2 pos : Pos} (h : chkEs L N sc es vs = true) (hp : parB N sc is ts vs = true) : SndS C L N sc k (ex C (.par is es)) (.Assign [.Tuple ts k1 p1] (.Tuple vs k2 p2) pos) := by
  obtain ⟨ta, t1, t2⟩ := allL (C := C) (k := k) (sndEs es sc vs h)
  unfold parB at hp
  split at hp
  · rename_i i j x px y py a b
    obtain ⟨hp, c8⟩ := and2 hp
    obtain ⟨hp, c7⟩ := and2 hp
    obtain ⟨hp, c6⟩ := and2 hp
    obtain ⟨hp, c5⟩ := and2 hp
    obtain ⟨hp, c4⟩ := and2 hp
    obtain ⟨hp, c3⟩ := and2 hp
    obtain ⟨c1, c2⟩ := and2 hp
    refine ⟨fun K W D σ H => tAll K W ta σ H fun vs H1 => ∃ v w, vs = [v, w] ∧ D.nx ((σ.set i (some v)).set j (some w)) H1, fun X W gd tk => ?_, semS_par t2 fun D σ vs H hl q => ?_⟩
    · have g := gd.g
      obtain ⟨n1, l1⟩ := look_loc g c2
      obtain ⟨n2, l2⟩ := look_loc g c3
      have ps := t1 X W g tk
      have bk : X.env.blockKind = .function := by unfold Env.blockKind; rw [g.sc, of_decide_eq_true c1]; rfl
      exact ps_par g.calm g.nd n1 n2 (of_decide_eq_true c8) l1 l2 ps.pa (stores2 bk l1 l2 (of_decide_eq_true c4) (of_decide_eq_true c5) (ps.tops _ List.mem_cons_self) (ps.tops _ (List.mem_cons_of_mem _ List.mem_cons_self)) (nb c6) (nb c7))
    · match vs, hl, q with
      | [v, w], _, q => exact ⟨v, w, rfl, q⟩
  · rename_i i j l x px y py z pz a b c
    obtain ⟨hp, c14⟩ := and2 hp
    obtain ⟨hp, c13⟩ := and2 hp
    obtain ⟨hp, c12⟩ := and2 hp
    obtain ⟨hp, c11⟩ := and2 hp
    obtain ⟨hp, c10⟩ := and2 hp
    obtain ⟨hp, c9⟩ := and2 hp
    obtain ⟨hp, c8⟩ := and2 hp
    obtain ⟨hp, c7⟩ := and2 hp
    obtain ⟨hp, c6⟩ := and2 hp
    obtain ⟨hp, c5⟩ := and2 hp
    obtain ⟨hp, c4⟩ := and2 hp
    obtain ⟨hp, c3⟩ := and2 hp
    obtain ⟨c1, c2⟩ := and2 hp
    refine ⟨fun K W D σ H => tAll K W ta σ H fun vs H1 => ∃ u v w, vs = [u, v, w] ∧ D.nx (((σ.set i (some u)).set j (some v)).set l (some w)) H1, fun X W gd tk => ?_, semS_par t2 fun D σ vs H hl q => ?_⟩
    · have g := gd.g
      obtain ⟨n1, l1⟩ := look_loc g c2
      obtain ⟨n2, l2⟩ := look_loc g c3
      obtain ⟨n3, l3⟩ := look_loc g c4
      have ps := t1 X W g tk
      have bk : X.env.blockKind = .function := by unfold Env.blockKind; rw [g.sc, of_decide_eq_true c1]; rfl
      exact ps_par3 g.calm g.nd n1 n2 n3 (of_decide_eq_true c12) (of_decide_eq_true c13) (of_decide_eq_true c14) l1 l2 l3 ps.pa (stores3 bk l1 l2 l3 (of_decide_eq_true c5) (of_decide_eq_true c6) (of_decide_eq_true c7) (of_decide_eq_true c8) (of_decide_eq_true c9)
        (ps.tops _ List.mem_cons_self) (ps.tops _ (List.mem_cons_of_mem _ List.mem_cons_self)) (ps.tops _ (List.mem_cons_of_mem _ (List.mem_cons_of_mem _ List.mem_cons_self))) (nb c10) (nb c11))
    · match vs, hl, q with
      | [u, v, w], _, q => exact ⟨u, v, w, rfl, q⟩
  · cases hp
theorem snd_parC {is : List Nat} {es : Es} {ts vs : List Expr} {k1 k2 : Nat} {p1 p2 pos : Pos} (h : chkEs L N sc es vs = true) (hp : parC N sc is ts = true) : SndS C L N sc k (ex C (.par is es)) (.Assign [.Tuple ts k1 p1] (.Tuple vs k2 p2) pos) := by
  obtain ⟨ta, t1, t2⟩ := allL (C := C) (k := k) (sndEs es sc vs h)
  unfold parC at hp
  obtain ⟨hp, h3⟩ := and2 hp
  obtain ⟨h1, h2⟩ := and2 hp
  have h3 := of_decide_eq_true h3
  refine ⟨fun K W => tAsg (tTup (tAll K W ta)) (gTup K is.length (gNames is)), fun X W gd tk => ?_, ?_⟩
  · obtain ⟨a, b, c⟩ := names_pg gd h1
    obtain ⟨t, ht, hc⟩ := List.any_eq_true.mp h2
    cases t with
    | Name x p =>
      have hc := of_decide_eq_true hc
      exact ps_asg (pe_tup (t1 X W gd.g tk).pa) (pg_tup gd.g.calm a b c) (by rfl) (stores_c ht (by show X.env.scope.names.lookup x ≠ _; rw [gd.g.sc, hc]; exact fun z => nomatch z)) (by rfl)
    | _ => cases hc
  · intro K W σ H O ρ fp D s hh
    rw [ex] at hh
    refine t2 K W σ H O ρ fp _ s ((Rs.holds_fl hh).imp (fun ds ρ1 q => ?_) fun x ρ' q => q.ex)
    intro vs H1 O1 fp1 G st r tm
    split at q
    · rename_i ρ2 ep
      obtain ⟨hl, _⟩ := putAll_ok s.w st.toS r tm ep
      refine ⟨by rw [hl, line_eq]; exact Nat.le_trans h3 (by decide), fun p hp => ⟨p, vs, rfl, SqT.of upd_same, hl, gNames_ok hl ?_⟩⟩
      have l2 : Le (fun _ => False) H1 O1 (upd H1 p (.tup vs)) O1 := Le.new_plain hp
      have st2 : Stp K C.bor σ H O fp (upd H1 p (.tup vs)) O1 ρ1 fp1 := ⟨st.le.trans l2 (fun _ z => z.elim) s.w, ⟨st.sit.w.upd_keep (.inl hp), st.sit.sl.mono l2 (fun _ z => z.elim) fun _ _ z => z, st.sit.bo⟩, st.fr⟩
      obtain ⟨_, fp', b⟩ := putAll_ok s.w st2.toS (r.mono l2 (fun _ z => z.elim) fun _ _ z => z) tm ep
      exact q _ _ O1 fp' b
    · exact q.elim
theorem snd_bm {i : Nat} {e : E} {x m : Str} {p1 ap cp pos : Pos} {pe : Expr} {r : V → List V → Hp → VK → Prop} {id : String} (f : Env → Fl) (hx : slotB N sc i x = true) (ht : top pe = true) (hl : (ap.endLine == cp.line) = true) (he : chkE L N sc e pe = true)
    (slot : Slot "list" m id) (hty : typeOf (.builtin id) = pure (.type "method_descriptor")) (hm : ∀ X, MtR X id r) (hs : ∀ te : TW TE, SemV C.bor te (ev C e) → SemS C.bor (fun K W => tDrop (tBM K "list" r (tVar i) (tAll K W [te]))) f) :
    SndS C L N sc k f (.Expr (.Call (.Attribute (.Name x p1) m ap) [pe] [] cp) pos) := by
  obtain ⟨te, t1, t2⟩ := (sndE (C := C) (k := k) e sc pe he).v
  refine ⟨_, fun X W gd tk => ?_, hs te t2⟩
  have hst := not_star (es := []) (env := X.env) ht
  exact ps_expr (pe_bm PySem.F.plainAttrs_list slot hty (hm X) (pe_slot gd.g hx) (pa_cons (t1 X W gd.g tk) pa_nil hst) (by rfl) (by rw [hst]; rfl) hl hst (by rfl))
mutual
theorem sndS : ∀ (s : S) (ps : Stmt), chkS L N sc s ps = true → SndS C L N sc k (ex C s) ps
  | .asg t e, ps, h => by
    cases ps with
    | Assign ts pe pos =>
      match ts, h with
      | [pt], h =>
        rw [chkS, Bool.or_eq_true, Bool.or_eq_true] at h
        rcases h with (h | h) | h
        rotate_right 1
        · obtain ⟨h, h5⟩ := and2 h
          obtain ⟨h, h4⟩ := and2 h
          obtain ⟨h, h3⟩ := and2 h
          obtain ⟨h1, h2⟩ := and2 h
          rw [Bool.or_eq_true] at h4
          exact snd_asgo h1 h2 h3 (fun _ => no_stores (h4.imp nb nb)) h5
        · obtain ⟨h, h5⟩ := and2 h
          obtain ⟨h, h4⟩ := and2 h
          obtain ⟨h, h3⟩ := and2 h
          obtain ⟨h1, h2⟩ := and2 h
          rw [Bool.or_eq_true] at h4
          rcases h4 with h4 | h4
          · exact snd_asg h1 h2 h3 (by rw [Bool.or_eq_true] at h4; exact h4.imp nb nb) h5
          · exact snd_asgw h1 h2 h3 (fun _ => stores_f h4) h5
        · unfold lcSet at h
          split at h
          · obtain ⟨h, h3⟩ := and2 h
            obtain ⟨h1, h2⟩ := and2 h
            exact snd_lc_set h1 h2 h3
          · cases h
      | [], h => simp [chkS] at h
      | _ :: _ :: _, h => simp [chkS] at h
    | _ => simp [chkS] at h
  | .par is es, ps, h => by
    rw [chkS.eq_def] at h
    split at h <;> first | contradiction | skip
    rename_i heq
    injection heq with e1 e2
    subst e1
    subst e2
    obtain ⟨h1, h2⟩ := and2 h
    rw [Bool.or_eq_true] at h2
    rcases h2 with h2 | h2
    · exact snd_par h1 h2
    · exact snd_parC h1 h2
  | .set2 i a b e, ps, h => by
    rw [chkS.eq_def] at h
    split at h <;> first | contradiction | skip
    rename_i heq
    injection heq with e1 e2 e3 e4
    subst e1; subst e2; subst e3; subst e4
    obtain ⟨h, h9⟩ := and2 h
    obtain ⟨h, h8⟩ := and2 h
    obtain ⟨h, h7⟩ := and2 h
    obtain ⟨h, h6⟩ := and2 h
    obtain ⟨h, h5⟩ := and2 h
    obtain ⟨h, h4⟩ := and2 h
    obtain ⟨h, h3⟩ := and2 h
    obtain ⟨h1, h2⟩ := and2 h
    exact snd_set2 h1 h2 h3 h4 h5 h6 h7 h8 h9
  | .retz e, ps, h => by
    cases ps with
    | Return o pos =>
      cases o with
      | none => simp [chkS] at h
      | some pe =>
        rw [chkS] at h
        obtain ⟨te, t1, t2⟩ := (sndE (C := C) (k := k) e sc pe h).v
        exact ⟨fun K W => tRet (te K W), fun X W gd tk => ps_ret (t1 X W gd.g tk), fun K W σ H O ρ fp D s hh => by
          rw [ex] at hh
          refine t2 K W σ H O ρ fp _ s ((Rs.holds_fl hh).imp (fun d ρ1 q => ?_) fun x ρ' q => q.ex)
          exact fun v H1 O1 fp1 G st r tm => q v σ H1 O1 fp1 G st.toS r tm⟩
    | _ => simp [chkS] at h
  | .aug i op e, ps, h => by
    cases ps with
    | AugAssign tg op' pe pos =>
      cases tg with
      | Name x p =>
        rw [chkS] at h
        obtain ⟨h, h5⟩ := and2 h
        obtain ⟨h, h4⟩ := and2 h
        obtain ⟨h, h3⟩ := and2 h
        obtain ⟨h1, h2⟩ := and2 h
        have h1 := of_decide_eq_true h1
        subst h1
        obtain ⟨te, t1, t2⟩ := (sndE (C := C) (k := k) e sc pe h5).v
        rcases of_decide_eq_true h2 with rfl | rfl
        · exact ⟨_, fun X W gd tk => ps_aug gd.g.nd (by rw [gd.g.N]; exact of_decide_eq_true h3) (gd.loc h4) (t1 X W gd.g tk) ip_add (.inl (gd.fn _)), semS_aug (.inl ⟨rfl, rfl⟩) t2⟩
        · exact ⟨_, fun X W gd tk => ps_aug gd.g.nd (by rw [gd.g.N]; exact of_decide_eq_true h3) (gd.loc h4) (t1 X W gd.g tk) ip_sub (.inl (gd.fn _)), semS_aug (.inr ⟨rfl, rfl⟩) t2⟩
      | _ => simp [chkS] at h
    | _ => simp [chkS] at h
  | .app i e, ps, h => by
    rw [chkS.eq_def] at h
    split at h <;> first | contradiction | skip
    rename_i heq
    injection heq with e1 e2
    subst e1
    subst e2
    obtain ⟨h, h5⟩ := and2 h
    obtain ⟨h, h4⟩ := and2 h
    obtain ⟨h, h3⟩ := and2 h
    obtain ⟨h1, h2⟩ := and2 h
    have h1 := of_decide_eq_true h1
    subst h1
    exact snd_bm _ h2 h3 h4 h5 PySem.F.slot_list_append (by rfl) (fun X => mt_append) fun te ht => semS_app ht
  | .ext i e, ps, h => by
    rw [chkS.eq_def] at h
    split at h <;> first | contradiction | skip
    rename_i heq
    injection heq with e1 e2
    subst e1
    subst e2
    obtain ⟨h, h5⟩ := and2 h
    obtain ⟨h, h4⟩ := and2 h
    obtain ⟨h, h3⟩ := and2 h
    obtain ⟨h1, h2⟩ := and2 h
    have h1 := of_decide_eq_true h1
    subst h1
    exact snd_bm _ h2 h3 h4 h5 PySem.F.slot_list_extend (by rfl) (fun X => mt_extend) fun te ht => semS_ext ht
  | .expr e, ps, h => by
    cases ps with
    | Expr pe pos =>
      rw [chkS] at h
      obtain ⟨h1, h2⟩ := and2 h
      obtain ⟨te, t1, t2⟩ := (sndE (C := C) (k := k) e sc pe h2).v
      exact ⟨_, fun X W gd tk => ps_expr (t1 X W gd.g tk) (no_swap h1), semS_expr t2⟩
    | _ => simp [chkS] at h
  | .ife c a b, ps, h => by
    cases ps with
    | If pc pa pb pos =>
      rw [chkS] at h
      obtain ⟨h, h3⟩ := and2 h
      obtain ⟨h1, h2⟩ := and2 h
      obtain ⟨tc, c1, c2⟩ := (sndE (C := C) (k := k) c sc pc h1).t
      obtain ⟨ta, a1, a2⟩ := (sndSs a pa h2).s
      obtain ⟨tb, b1, b2⟩ := (sndSs b pb h3).s
      exact ⟨_, fun X W gd tk => ps_if (c1 X W gd.g tk) (a1 X W gd tk) (b1 X W gd tk), semS_ife c2 a2 b2⟩
    | _ => simp [chkS] at h
  | .fore t it b, ps, h => by
    cases ps with
    | For pt pi pb orelse pos =>
      match orelse, h with
      | [], h =>
        rw [chkS] at h
        obtain ⟨h, h4⟩ := and2 h
        obtain ⟨h, h3⟩ := and2 h
        obtain ⟨h1, h2⟩ := and2 h
        obtain ⟨wi, i1, i2⟩ := sndI (C := C) (k := k) it sc pt pi h3
        obtain ⟨tb, b1, b2⟩ := (sndSs b pb h4).s
        refine ⟨_, fun X W gd tk => ?_, semS_for (t := t) i2 b2⟩
        exact ps_for gd.ow gd.g.calm (i1 X W gd.g tk) (pg_T (sc := sc) gd.g.N gd.g.nd gd.g.calm (fun x hx => ⟨by unfold L2.Loc; rw [gd.g.sc]; exact hx, .inl (gd.fn x)⟩) h2) (b1 X W gd tk) (folded h1)
      | _ :: _, h => simp [chkS] at h
    | _ => simp [chkS] at h
  | .whl c b, ps, h => by
    cases ps with
    | While pc pb orelse pos =>
      match orelse, h with
      | [], h =>
        rw [chkS] at h
        obtain ⟨h1, h2⟩ := and2 h
        obtain ⟨tc, c1, c2⟩ := (sndE (C := C) (k := k) c sc pc h1).t
        obtain ⟨tb, b1, b2⟩ := (sndSs b pb h2).s
        exact ⟨_, fun X W gd tk => ps_while gd.ow (c1 X W gd.g tk) (b1 X W gd tk), semS_whl c2 b2⟩
      | _ :: _, h => simp [chkS] at h
    | _ => simp [chkS] at h
  | .ret e, ps, h => by
    cases ps with
    | Return o pos =>
      cases o with
      | none => simp [chkS] at h
      | some pe =>
        rw [chkS] at h
        have sn := sndE (C := C) (k := k) e sc pe h
        by_cases hv : ∃ i, e = .var i
        · obtain ⟨i, rfl⟩ := hv
          exact ⟨_, fun X W gd tk => ps_ret (sn.s i rfl X gd.g), semS_retv⟩
        · obtain ⟨te, t1, t2⟩ := sn.v
          exact ⟨_, fun X W gd tk => ps_ret (t1 X W gd.g tk), semS_ret (fun i z => hv ⟨i, z⟩) t2⟩
    | _ => simp [chkS] at h
  | .retn, ps, h => by
    cases ps with
    | Return o pos =>
      cases o with
      | none => exact ⟨fun _ _ => tRetN, fun X W gd tk => ps_retN, fun K W σ H O ρ fp D s hh => by rw [ex] at hh; exact hh .non σ H O fp [] (StpS.refl s) (.p .non) Tmp.nil⟩
      | some _ => simp [chkS] at h
    | _ => simp [chkS] at h
  | .pass, ps, h => by
    cases ps with
    | Pass pos => exact ⟨fun _ _ => tNext, fun X W gd tk => ps_pass, fun K W σ H O ρ fp D s hh => by rw [ex] at hh; exact hh σ H O fp (StpS.refl s)⟩
    | _ => simp [chkS] at h
  | .brk, ps, h => by
    cases ps with
    | Break pos => exact ⟨fun _ _ => tBreak, fun X W gd tk => ps_break, fun K W σ H O ρ fp D s hh => by rw [ex] at hh; exact hh σ H O fp (StpS.refl s)⟩
    | _ => simp [chkS] at h
  | .cont, ps, h => by
    cases ps with
    | Continue pos => exact ⟨fun _ _ => tCont, fun X W gd tk => ps_continue, fun K W σ H O ρ fp D s hh => by rw [ex] at hh; exact hh σ H O fp (StpS.refl s)⟩
    | _ => simp [chkS] at h
  | .never, ps, h => ⟨fun _ _ => tNever, fun X W gd tk => ps_never, fun K W σ H O ρ fp D s hh => by rw [ex] at hh; exact hh⟩
theorem sndSs : ∀ (ss : Ss) (ps : List Stmt), chkSs L N sc ss ps = true → SndSs C L N sc k (exs C ss) ps
  | .nil, [], h => ⟨fun _ _ => tNext, fun X W gd tk => pss_nil, fun K W σ H O ρ fp D s hh => by rw [exs] at hh; exact hh σ H O fp (StpS.refl s)⟩
  | .nil, _ :: _, h => by simp [chkSs] at h
  | .cons _ _, [], h => by simp [chkSs] at h
  | .cons s ss, p :: ps, h => by
    rw [chkSs] at h
    obtain ⟨h1, h2⟩ := and2 h
    obtain ⟨t, t1, t2⟩ := (sndS s p h1).s
    obtain ⟨u, u1, u2⟩ := (sndSs ss ps h2).s
    exact ⟨_, fun X W gd tk => pss_cons (t1 X W gd tk) (u1 X W gd tk), semS_seq t2 u2⟩
end
end
end Pv

/-! Pv, part Df: defs. -/
namespace Pv
open PySem PySem.Spec L2 RZ
open PyProof.Rows hiding St

/-! ### a def's body keeps its promise, no guard about -/
theorem fg_of {P : Program} {w : World} {K : PySem.W.Frag} {mg : Str → Option Value} {base : Heap} {k : Nat} {fa : Addr} {nm qu : Str} {ar : Arguments} {bd : List Stmt} {sc : Scope} {v1 v2 v3 v4 cd v5 oc : Value} {an od : Option Addr} {osl : Array (Option Value)} {N ps : List Str} {sp : Sp}
    (hk : K.lookup fa = some ⟨oc, od, .func (PySem.W.fnOf nm qu ar bd sc v1 v2 v3 v4 an cd v5), osl⟩) (hc : PySem.W.codeIn K cd qu = true) (hS : FnScope N ps sc) (hlen : ∀ vs H Q E, sp vs H Q E → vs.length = ps.length)
    (hb : ∀ (A : Around) (outer : List PySem.Env) (s : Shared) (H : Hp) (vs : List V) (Q : VK) (E : XK), A.guards = some [] → Room k (A.deeper (envOfC qu sc s.heap.objs.size fa cd)) → sp vs H Q E →
      ∃ t, PSs (cxOf (L2.CX P w) P w K mg base N qu sc fa cd A outer s H E) bd t ∧ t { nx := fun _ H' => Q .non H', rt := Q } (L2.start N vs) H) :
    Fg P w K mg base (k + 1) fa (PySem.W.fnOf nm qu ar bd sc v1 v2 v3 v4 an cd v5) ps sp where
  len := hlen
  run := by
    intro A outer s H args us vs Q E hg hroom e0 rv bind hsp
    have inS : K.In s.heap := e0.mod.kin.keeps fun b o e => (e0.bs b o e).1
    have par : ∀ y ∈ ps.zip us, sc.names.lookup y.1 = some .local ∨ (sc.names.lookup y.1 = some .cell ∧ ((cellsFrom (s.heap.objs.size + 1) sc.names []).lookup y.1).isSome = true) := by
      rintro ⟨n, v⟩ hy
      exact (hS.par n (List.of_mem_zip hy).1).imp id fun q => ⟨q, PySem.W.cellsFrom_some _ _ _ (.inl q)⟩
    refine codeAny_call_function hroom.depth (inS _ _ hk) rfl hS.co hS.gen rfl (PySem.W.codeRec_of inS hc) (bind _ _ _ _ (wpAny_newFunctionEnv_cells hS.kind par fun env he s1 x => ?_))
    cases he
    obtain ⟨t, ht, q⟩ := hb A outer s H vs Q E hg (hroom.deeper _) hsp
    have I0 := inv_start (CX := L2.CX P w) (P := P) (w := w) (N := N) (qual := qu) (f := fa) (cd := cd) (E := E) hS hroom.hd e0 (hlen _ _ _ _ hsp) rv x
    refine ⟨(e0.mod.nolimit.keeps fun b o e => (e0.bs b o e).1).keeps x.toInCall.keep, codeAny_func (wpAny_mono (ht.run [] s1 _ H _ I0 q) (fun fl s' hs => ?_) fun _ _ z => z)⟩
    cases fl with
    | ret u => obtain ⟨v, _, H', J, r, z⟩ := hs; exact ⟨v, H', J.os, J.bare, J.base, J.hok, r, z⟩
    | next => obtain ⟨_, H', J, z⟩ := hs; exact ⟨V.non, H', J.os, J.bare, J.base, J.hok, rfl, z⟩
    | brk => obtain ⟨_, _, _, z⟩ := hs; exact z.elim
    | cont => obtain ⟨_, _, _, z⟩ := hs; exact z.elim

/-! ### the slots at a def's entry, its parameters at the end -/
section
variable {K : PySem.W.Frag} {H : Hp} {O : Addr → Prop}
theorem pr_fp {vs : List V} {ds : List D} {F : List Addr} (r : PRw K H O vs ds F) : F.Nodup → ∃ fp : Fp, (∀ (i : Nat) d, ds[i]? = some d → ∃ v : V, vs[i]? = some v ∧ Rw K H O v d (fp i)) ∧ (∀ i, ds.length ≤ i → fp i = []) ∧ (∀ i, (fp i).Nodup) ∧
    (∀ i j, i ≠ j → ∀ a, a ∈ fp i → a ∉ fp j) ∧ ∀ i a, a ∈ fp i → a ∈ F := by
  induction r with
  | nil => intro _; exact ⟨fun _ => [], fun i d e => by simp at e, fun _ _ => rfl, fun _ => List.nodup_nil, fun _ _ _ _ h => (nomatch h), fun _ _ h => (nomatch h)⟩
  | @cons v d F G vs ds r _ ih =>
    intro nd
    obtain ⟨n1, n2, n3⟩ := List.nodup_append.mp nd
    obtain ⟨fp, a1, a2, a3, a4, a5⟩ := ih n2
    refine ⟨fun i => match i with | 0 => F | i + 1 => fp i, fun i e he => ?_, fun i hi => ?_, fun i => ?_, fun i j hij a ha hb => ?_, fun i a ha => ?_⟩
    · cases i with
      | zero => simp at he; subst he; exact ⟨v, rfl, r⟩
      | succ i => obtain ⟨u, h1, h2⟩ := a1 i e (by simpa using he); exact ⟨u, by simpa using h1, h2⟩
    · cases i with
      | zero => simp at hi
      | succ i => exact a2 i (by simpa using hi)
    · cases i with
      | zero => exact n1
      | succ i => exact a3 i
    · cases i with
      | zero =>
        cases j with
        | zero => exact hij rfl
        | succ j => exact n3 a ha a (a5 j a hb) rfl
      | succ i =>
        cases j with
        | zero => exact n3 a hb a (a5 i a ha) rfl
        | succ j => exact a4 i j (fun e => hij (by rw [e])) a ha hb
    · cases i with
      | zero => exact List.mem_append_left _ ha
      | succ i => exact List.mem_append_right _ (a5 i a ha)
theorem start_at {fn : Fn} {ds : List D} {i : Nat} : (start fn ds).at_ i = ds[i]? := by
  unfold start Env.at_
  by_cases h : i < ds.length
  · rw [List.getElem?_append_left (by rw [List.length_map]; exact h), List.getElem?_map, List.getElem?_eq_getElem h]
    rfl
  · rw [List.getElem?_append_right (by rw [List.length_map]; omega), List.getElem?_eq_none (l := ds) (by omega)]
    rw [List.getElem?_replicate]
    split <;> rfl
theorem start_V {N : List Str} {vs : List V} {i : Nat} {v : V} (h : vs[i]? = some v) : (L2.start N vs)[i]? = some (some v) := by
  unfold L2.start
  rw [List.getElem?_append_left (by rw [List.length_map]; exact (List.getElem?_eq_some_iff.mp h).1), List.getElem?_map, h]
  rfl
/-- the parameters as they are left -/
theorem back_of {vs : List V} : ∀ {ds : List D} {ρ : Env} {fp : Fp}, vs.length = ds.length → (∀ (i : Nat) (d : D) (v : V), ds[i]? = some d → d.isOwn = true → vs[i]? = some v → ∃ e, ρ.at_ i = some e ∧ Rw K H O v e (fp i)) →
    (∀ i, (fp i).Nodup) → (∀ i j, i ≠ j → ∀ a, a ∈ fp i → a ∉ fp j) → ∃ G, Back K H O vs ds (takeD ds.length ρ) G ∧ G.Nodup ∧ ∀ a ∈ G, ∃ i, a ∈ fp i := by
  induction vs with
  | nil =>
    intro ds ρ fp hl _ _ _
    cases ds with
    | nil => exact ⟨[], by unfold takeD; exact .nil, List.nodup_nil, fun _ h => nomatch h⟩
    | cons _ _ => cases hl
  | cons v vs ih =>
    intro ds ρ fp hl h nd dj
    cases ds with
    | nil => cases hl
    | cons d ds =>
      have sh : ∀ i, Env.at_ ρ.tail i = ρ.at_ (i + 1) := fun i => by
        unfold Env.at_
        cases ρ with
        | nil => rfl
        | cons o ρ => rw [List.tail_cons, List.getElem?_cons_succ]
      obtain ⟨G, b, g1, g2⟩ := ih (ds := ds) (ρ := ρ.tail) (fp := fun i => fp (i + 1)) (by simpa using hl) (fun i d' v' e1 e2 e3 => by
        obtain ⟨e, q1, q2⟩ := h (i + 1) d' v' (by simpa using e1) e2 (by simpa using e3)
        exact ⟨e, by rw [sh]; exact q1, q2⟩) (fun i => nd (i + 1)) fun i j hij => dj (i + 1) (j + 1) (fun e => hij (by omega))
      have et : takeD (d :: ds).length ρ = ((ρ.at_ 0).getD (.p .none)) :: takeD ds.length ρ.tail := rfl
      rw [et]
      by_cases ho : d.isOwn = true
      · obtain ⟨e, q1, q2⟩ := h 0 d v rfl ho rfl
        rw [q1]
        refine ⟨fp 0 ++ G, .own ho q2 b, List.nodup_append.mpr ⟨nd 0, g1, fun x hx y hy exy => ?_⟩, fun a ha => ?_⟩
        · subst exy
          obtain ⟨i, hi⟩ := g2 x hy
          exact dj 0 (i + 1) (fun z => by omega) x hx hi
        · rcases List.mem_append.mp ha with ha | ha
          · exact ⟨0, ha⟩
          · obtain ⟨i, hi⟩ := g2 a ha; exact ⟨i + 1, hi⟩
      · exact ⟨G, .pl (by simpa using ho) b, g1, fun a ha => by obtain ⟨i, hi⟩ := g2 a ha; exact ⟨i + 1, hi⟩⟩
end
/-- a def's run is what its promise says -/
theorem body_ok {L : Lib} {k : Nat} {B : Nat → List D → CR} {fn : Fn} {sc : Scope} {bd : List Stmt} (hc : chkSs L fn.names sc fn.body bd = true) {K : PySem.W.Frag} {H : Hp} {O : Addr → Prop} {vs : List V} {ds : List D} {F : List Addr} {Q : VK} {E : XK} (w : Wok H O) (r : PRw K H O vs ds F) (nd : F.Nodup)
    (hq : match runB B fn ds with | .ok d es => CPost K H O vs ds F d es Q | .exc x es => CXPost K H O vs ds F x es E | .bad => False) :
    ∃ t : TW TS, (∀ X W, GoodS L fn.names sc B k X → Takes X W → PSs X bd (t X.K W)) ∧ t K (fun c a _ H' => E c a H') { nx := fun _ H' => Q .non H', rt := Q } (L2.start fn.names vs) H := by
  unfold runB at hq
  by_cases hlen : ds.length = fn.params.length ∧ ds.length ≤ fn.names.length
  · rw [if_pos hlen] at hq
    obtain ⟨t, t1, t2⟩ := (sndSs (C := ⟨borOf ds, B⟩) (L := L) (N := fn.names) (k := k) (sc := sc) fn.body bd hc).s
    refine ⟨t, t1, ?_⟩
    obtain ⟨fp, a1, a2, a3, a4, a5⟩ := pr_fp r nd
    have hvl := r.len
    have hat : ∀ i, borOf ds i = true → ∃ d v, ds[i]? = some d ∧ d.isOwn = true ∧ vs[i]? = some v ∧ Rw K H O v d (fp i) := fun i hi => by
      unfold borOf at hi
      cases e : ds[i]? with
      | none => rw [e] at hi; cases hi
      | some d =>
        rw [e] at hi
        obtain ⟨v, h1, h2⟩ := a1 i d e
        exact ⟨d, v, rfl, hi, h1, h2⟩
    have sit : Sit K (borOf ds) H O (L2.start fn.names vs) (start fn ds) fp := by
      refine ⟨w, ⟨?_, fun i d e => ?_, fun i e => ?_, a3, a4⟩, fun j hj => ?_⟩
      · unfold L2.start start
        rw [List.length_append, List.length_append, List.length_map, List.length_map, List.length_replicate, List.length_replicate, hvl]
      · rw [start_at] at e
        obtain ⟨v, h1, h2⟩ := a1 i d e
        exact ⟨v, start_V h1, h2⟩
      · rw [start_at] at e
        exact a2 i (List.getElem?_eq_none_iff.mp e)
      · obtain ⟨d, v, e, _⟩ := hat j hj
        rw [start_at, e]
        exact fun z => nomatch z
    have sub : ∀ a, FF fp a → a ∈ F := fun a ⟨i, h⟩ => a5 i a h
    -- the parameters, behind the body
    have back : ∀ {σ' : St} {H' : Hp} {O' : Addr → Prop} {ρ' : Env} {fp' : Fp}, StpS K (borOf ds) (L2.start fn.names vs) H O fp σ' H' O' ρ' fp' → ∃ G, Back K H' O' vs ds (takeD ds.length ρ') G ∧ G.Nodup ∧ (∀ a ∈ G, FF fp' a) := by
      intro σ' H' O' ρ' fp' st
      obtain ⟨G, b, g1, g2⟩ := back_of (K := K) (H := H') (O := O') (vs := vs) (ds := ds) (ρ := ρ') (fp := fp') hvl (fun i d v e1 e2 e3 => by
        have hb : borOf ds i = true := by unfold borOf; rw [e1]; exact e2
        cases eρ : ρ'.at_ i with
        | none => exact absurd eρ (st.st.sit.bo i hb)
        | some e =>
          obtain ⟨u, q1, q2⟩ := st.st.sit.sl.rep i e eρ
          rw [st.fr i hb, start_V e3] at q1
          cases q1
          exact ⟨e, rfl, q2⟩) st.st.sit.sl.nd st.st.sit.sl.dj
      exact ⟨G, b, g1, g2⟩
    refine t2 K _ _ H O _ fp _ sit ?_
    cases er : exs ⟨borOf ds, B⟩ fn.body (start fn ds) with
    | nx ρ' =>
      rw [er] at hq
      intro σ' H' O' fp' st
      obtain ⟨G, b, g1, g2⟩ := back st
      exact hq .non H' O' [] G (st.st.le.mono sub) st.st.sit.w (.p .non) b g1 fun a ha => (st.st.fr a (g2 a ha)).imp (sub a) id
    | rt d ρ' =>
      rw [er] at hq
      intro v σ' H' O' fp' Gv st rv tm
      obtain ⟨G, b, g1, g2⟩ := back st
      refine hq v H' O' Gv G (st.st.le.mono sub) st.st.sit.w rv b (List.nodup_append.mpr ⟨tm.nd, g1, fun x hx y hy e => ?_⟩) fun a ha => ?_
      · subst e; exact tm.dj x hx (g2 x hy)
      · rcases List.mem_append.mp ha with ha | ha
        · exact (tm.fr a ha).imp (sub a) id
        · exact (st.st.fr a (g2 a ha)).imp (sub a) id
    | exc x ρ' =>
      rw [er] at hq
      intro c a σ' H' O' fp' st hx
      obtain ⟨G, b, g1, g2⟩ := back st
      exact hq c a H' O' G (st.st.le.mono sub) st.st.sit.w hx b g1 fun a ha => (st.st.fr a (g2 a ha)).imp (sub a) id
    | bk ρ' => rw [er] at hq; exact hq.elim
    | ct ρ' => rw [er] at hq; exact hq.elim
    | bad => rw [er] at hq; exact hq.elim
  · rw [if_neg hlen] at hq; exact hq.elim
end Pv

/-! Pv, part Lw: all defs of a law, the law's end. -/
namespace Pv
open PySem PySem.Spec L2 RZ
open PyProof.Rows hiding St

/-- one def: own form, its place in the text, its defaults -/
structure Row where
  id : Nat
  fn : Fn
  st : Stmt
  qual : Str
  dvs : List V := []
  kws : List (Str × V) := []
/-- the def with that number -/
def look (rows : List Row) (i : Nat) : Option Row := rows.find? fun r => r.id == i
def tab (rows : List Row) (i : Nat) : Option Fn := (look rows i).map Row.fn
theorem look_mem {rows : List Row} {i : Nat} {r : Row} (h : look rows i = some r) : r ∈ rows := List.mem_of_find?_eq_some h
abbrev Row.Is (r : Row) (K : PySem.W.Frag) (fa : Addr) (fd : FuncData) : Prop := FunD K r.fn.name r.qual (defArgs r.st) (defBody r.st) (defScope r.st) r.dvs r.kws fa fd
/-- what is known of a law's text -/
structure Txt (L : Lib) (rows : List Row) (K : PySem.W.Frag) (mg : Str → Option Value) : Prop where
  df : ∀ r ∈ rows, ∃ fa fd, mg r.fn.name = some (.ref fa) ∧ r.Is K fa fd
  sc : ∀ r ∈ rows, FnScope r.fn.names r.fn.params (defScope r.st)
  chk : ∀ r ∈ rows, chkSs L r.fn.names (defScope r.st) r.fn.body (defBody r.st) = true
  cal : ∀ c ∈ L.cal, ∃ r, look rows c.f = some r ∧ c.name = r.fn.name ∧ c.src.length = r.fn.params.length ∧ ∀ fa fd, r.Is K fa fd → CalBind K fd r.fn.params c
  free : ∀ x, L.free.contains x = true → mg x = none
  imp : L.imp = true → mg "gcd" = some (.builtin "math.gcd")
  glb : ∀ q ∈ L.glb, ∃ v u, mg q.1 = some u ∧ RelV v u ∧ ∀ H O, Rp K H O v q.2
theorem spB_len {K : PySem.W.Frag} {B : Nat → List D → CR} {f n : Nat} {vs : List V} {H : Hp} {Q : VK} {E : XK} (h : spB K B f n vs H Q E) : vs.length = n := by
  obtain ⟨_, _, _, _, _, _, e, _⟩ := h
  exact e
theorem all_fg {P : Program} {w : World} {K : PySem.W.Frag} {mg : Str → Option Value} {base : Heap} {L : Lib} {rows : List Row} (T : Txt L rows K mg) : ∀ (k i : Nat) (r : Row), look rows i = some r → ∀ fa fd, r.Is K fa fd → Fg P w K mg base k fa fd r.fn.params (spB K (run (tab rows) k) i r.fn.params.length) := by
  intro k
  induction k with
  | zero =>
    intro i r hr fa fd hf
    refine ⟨fun vs H Q E h => spB_len h, fun A outer s H args us vs Q E _ _ _ _ _ h => ?_⟩
    obtain ⟨O, ds, F, _, _, _, _, q⟩ := h
    exact q.elim
  | succ k ih =>
    intro i r hr fa fd hf
    have hm := look_mem hr
    obtain ⟨oc, od, dV, kV, doc, pm, an, cdv, ct, osl, rfl, lk, hcd, _, _⟩ := hf.ex
    refine fg_of lk hcd (T.sc r hm) (fun vs H Q E h => spB_len h) fun A outer s H vs Q E hg hroom h => ?_
    obtain ⟨O, ds, F, wk, pr, nd, _, q⟩ := h
    have e1 : run (tab rows) (k + 1) i ds = runB (run (tab rows) k) r.fn ds := by
      show (match tab rows i with | none => CR.bad | some fn => runB (run (tab rows) k) fn ds) = _
      unfold tab
      rw [hr]
      rfl
    rw [e1] at q
    obtain ⟨t, t1, t2⟩ := body_ok (k := k) (T.chk r hm) wk pr nd q
    refine ⟨_, t1 _ (fun c a _ H' => E c a H') ⟨⟨rfl, rfl, (T.sc r hm).nd, rfl, hroom, hg, T.free, T.glb, fun c hc => ?_, T.imp⟩, passes_of rfl, fun _ => rfl⟩ (takes_of rfl rfl rfl rfl), t2⟩
    obtain ⟨r', h1, h2, h3, h4⟩ := T.cal c hc
    obtain ⟨fa', fd', g1, g2⟩ := T.df r' (look_mem h1)
    refine ⟨⟨fa', fd', r'.fn.params, ?_, g2.kp, ?_, h4 _ _ g2⟩⟩
    · rw [h2]; exact g1
    · rw [h3]; exact ih c.f r' h1 fa' fd' g2

/-! ### the law's end -/
theorem caller_guards : callerA.guards = some [] := rfl
/-- what the law's def is asked, at the heap behind the top -/
theorem call_end {P : Program} {w : World} {K : PySem.W.Frag} {mg mb : Str → Option Value} {k : Nat} {fa p : Addr} {fd : FuncData} {x : Str} {sp : Sp} {s : Shared} {us : List Value} {ns : List Int} (hK : K.In s.heap) (n1 : s.heap.Ns mainGlobals mg) (n2 : s.heap.Ns builtinsNs mb)
    (n3 : ∀ x : Str, x ≠ "__name__" → mb x = bootBuiltins x) (n4 : s.heap.NoLimit) (n5 : s.gens = #[]) (hp : s.heap.get? p = some { cls := .type "list", data := .seq us.toArray }) (hi : IntsAre us ns) (hl : ns.length ≤ sizeLine) (hr : Room k callerA)
    (G : ∀ base : Heap, K.In base → base.Ns mainGlobals mg → Fg P w K mg base k fa fd [x] sp) (hb : ∀ (s : Shared) (u : Value), BindsTo s fd ⟨[u], []⟩ [(x, u)]) (hs : ∀ H : Hp, Only H → SqL K H p (ns.map V.int) → sp [.ref p] H (fun v _ => v = .bl true) fun _ _ _ => False) :
    codeAny (model P w) callerA (.call (.ref fa) ⟨[.ref p], []⟩) (fun r s' => r = .ok (.ret (.bool true)) ∧ OldK s.heap s'.heap ∧ s'.os = s.os ∧ AllBare s'.gens) s := by
  have rv : Vals (ns.map V.int) us := vals_ints hi
  -- any way in which the script alone is tracked, or nothing is
  suffices main : ∀ H : Hp, (∀ b u, H b = some u → b = p ∧ K.lookup p = none) → Only H → SqL K H p (ns.map V.int) → HOk P w H s.heap → codeAny (model P w) callerA (.call (.ref fa) ⟨[.ref p], []⟩) (fun r s' => r = .ok (.ret (.bool true)) ∧ OldK s.heap s'.heap ∧ s'.os = s.os ∧ AllBare s'.gens) s by
    cases hk : K.lookup p with
    | some o =>
      have e := hK p o hk
      rw [hp] at e
      cases e
      exact main (fun _ => none) (fun b u z => nomatch z) (fun _ => .inl rfl) (.inr ⟨_, us.toArray, _, hk, rfl, rfl, rfl, by rw [List.size_toArray, hi.length]; exact hl, by simpa using rv⟩) fun b u z => nomatch z
    | none =>
      let ob : Obj := { cls := .type "list", data := .seq us.toArray }
      let H : Hp := fun b => if b = p then some (.frz ob (.lst (ns.map V.int))) else none
      have Hp1 : H p = some (.frz ob (.lst (ns.map V.int))) := if_pos rfl
      have Hn : ∀ b, b ≠ p → H b = none := fun b hb => if_neg hb
      refine main H (fun b u z => ⟨Classical.byContradiction fun hb => (nomatch (Hn b hb).symm.trans z), hk⟩) (fun b => ?_) (.inl (.inr ⟨ob, Hp1⟩)) fun b u z => ?_
      · by_cases hb : b = p
        · subst hb; exact .inr ⟨_, _, Hp1⟩
        · exact .inl (Hn b hb)
      · by_cases hb : b = p
        · subst hb
          rw [Hp1] at z
          cases z
          exact ⟨hp, by rw [List.length_map]; exact hl, us, _, rv, hp⟩
        · rw [Hn b hb] at z; cases z
  intro H hH hO hS hok
  have gone : ∀ {b : Addr} {o : Obj}, s.heap.get? b = some o → H b = none → (hidT s.heap H).get? b = some o := fun a b => hidT_get a b
  have dicts : ∀ {b : Addr} {o : Obj} {es : Array DictEntry} {ep : Nat}, s.heap.get? b = some o → o.data = .dict es ep → H b = none := by
    intro b o es ep e d
    cases q : H b with
    | none => rfl
    | some u =>
      obtain ⟨rfl, _⟩ := hH b u q
      rw [hp] at e
      cases e
      cases d
  have nsOf : ∀ {b : Addr} {m : Str → Option Value}, s.heap.Ns b m → (hidT s.heap H).Ns b m := by
    rintro b m ⟨o, es, ep, e, d, r⟩
    exact ⟨o, es, ep, gone e (dicts e d), d, r⟩
  have kb : K.In (hidT s.heap H) := by
    intro b o e
    refine gone (hK b o e) ?_
    cases q : H b with
    | none => rfl
    | some u =>
      obtain ⟨rfl, z⟩ := hH b u q
      rw [z] at e; cases e
  obtain ⟨mc, l1, l2⟩ := id n4
  have env : Env0 P w K mg (hidT s.heap H) callerA [] s H := by
    refine ⟨rfl, ⟨kb, nsOf n1, ⟨mb, nsOf n2, n3⟩, ⟨mc, nsOf l1, l2⟩⟩, fun b o e => of_hidT e, Nat.le_of_eq (hidT_size _ _), trivial, fun b hb => ?_, hok, .of_eq n5⟩
    cases (show b ∈ ([] : List Addr) from hb)
  have go := (G _ kb (nsOf n1)).run callerA [] s H ⟨[.ref p], []⟩ [.ref p] [.ref p] (fun v _ => v = .bl true) (fun _ _ _ => False) caller_guards hr env (.cons rfl .nil) (hb s (.ref p)) (hs H hO hS)
  refine codeAny_mono go fun r s' q => ?_
  match r, q with
  | .ok (.ret u), ⟨v, H', os, bare, un, hok', rv', ev⟩ =>
    subst ev
    cases (show u = Value.bool true from rv')
    refine ⟨rfl, OldK.of_keep fun b o e => ?_, os, bare⟩
    cases hb' : H b with
    | none => exact un.keep b o e hb' (List.not_mem_nil) List.not_mem_nil
    | some u =>
      rcases hO b with z | ⟨o2, xs, z⟩
      · rw [z] at hb'; cases hb'
      · obtain ⟨e1, _⟩ := hok b _ z
        obtain ⟨e2, _⟩ := hok' b _ (un.frzs b o2 _ z)
        rw [e] at e1
        cases e1
        exact e2
  | .error e, q =>
    obtain ⟨_, _, _, _, _, _, _, _, _, _, _, _, z⟩ := q
    exact z.elim
/-- the law's own answer is all that is left -/
theorem walk_end {l : PySem.W.OpenLaw} {n k : Nat} {q : Program} {loose : List Str} {XP : (Str → Option Value) → Heap → Prop} {YP : World → Heap → Prop} {d : DefRec} {x : Str} {L : Lib} {rows : List Row} {li : Nat} {r : Row}
    (hn : l.most = some n) (hn2 : n ≤ sizeLine) (hdf : d.params.defaults = []) (hr : Room k callerA) (hl : look rows li = some r) (hps : r.fn.params = [x]) (hname : d.name = r.fn.name)
    (F : ∀ (w : World) (mg : Str → Option Value) (h : Heap), YP w h → h.Ns mainGlobals mg → ∃ K : PySem.W.Frag, K.In h ∧ Txt L rows K mg ∧ ∀ fa fd, r.Is K fa fd → ∀ (s : Shared) (u : Value), BindsTo s fd ⟨[u], []⟩ [(x, u)])
    (law : ∀ ns : List Int, ns.length ≤ n → ∃ es, run (tab rows) k li [.frl ns] = .ok (.p (.bool true)) es) :
    PySem.W.WalkO q loose XP YP l.row.toRowW d [] (fun f vs => PySem.call f vs) := by
  refine Att.attach_call hn hdf fun w s₀ s₁ mg mb fa o pm cd doc a vs ns G Y ho hd hcd hmg hobj hints hlen hg => ?_
  obtain ⟨K, KX, T, hb⟩ := F w mg _ Y G.T.g
  obtain ⟨fa', fd, e1, e2⟩ := T.df r (look_mem hl)
  rw [← hname] at e1
  have e3 := hmg.symm.trans e1
  cases e3
  refine call_end KX G.T.g G.T.b G.T.builtins G.T.nolimit hg hobj hints (Nat.le_trans hlen hn2) hr (fun base _ _ => by have z := all_fg (P := l.prog) (w := w) (base := base) T k li r hl fa fd e2; rw [hps] at z; exact z) (hb fa fd e2) fun H hO hS => ?_
  obtain ⟨es, er⟩ := law ns hlen
  have hF : FrL K H a (ns.map V.int) := by
    rcases hS with (h | h) | h
    · rcases hO a with z | ⟨_, _, z⟩
      · rw [h] at z; cases z
      · rw [h] at z; cases z
    · exact .inl h
    · exact .inr h
  refine ⟨fun _ => False, [.frl ns], [], fun _ z => z.elim, PRw.cons (F := []) (.frl hF) .nil, List.nodup_nil, rfl, ?_⟩
  rw [er]
  exact fun v H' O' Fd Gb _ _ rv _ _ _ => rw_bl rv
end Pv

/-! Pv, part Hd: the facts of a law's text (defs without defaults). -/
namespace Pv
open PySem PySem.Spec L2 RZ
open PyProof.Rows hiding St

def dvOf : V → He.Dv
  | .bl b => .bl b
  | .int i => .int i
  | .str x => .str x
  | _ => .non
def dvB : V → Bool
  | .non => true
  | .bl _ => true
  | .int _ => true
  | .str _ => true
  | _ => false
theorem dv_map {K : PySem.W.Frag} : ∀ {l : List V}, l.all dvB = true → (l.map dvOf).map (He.Dv.v K) = l
  | [], _ => rfl
  | v :: l, h => by
    rw [List.all_cons, Bool.and_eq_true] at h
    rw [List.map_cons, List.map_cons, dv_map h.2]
    cases v <;> first | rfl | cases h.1
def defOf (r : Pv.Row) : He.DefD := ⟨(r.fn.name, none), r.fn.name, r.qual, defArgs r.st, defBody r.st, defScope r.st, r.dvs.map dvOf, []⟩
def fnsOf (rows : List Pv.Row) : List He.DefD := rows.map defOf
def glbOf (q : Str × PD) : He.Fa := match q.2 with
  | .int i => .int q.1 i
  | .str s => .str q.1 s
  | _ => .glo q.1
def fasOf (L : Lib) (rows : List Pv.Row) : List He.Fa := rows.map (fun r => .glo r.fn.name) ++ (L.free.map .free ++ L.glb.map glbOf)
def scB (N ps : List Str) (sc : Scope) : Bool := decide (sc.kind = .function) && !sc.isCoroutine && !sc.isGenerator && decide N.Nodup && decide (N.take ps.length = ps) &&
  ps.all (fun x => decide (sc.names.lookup x = some .local ∨ sc.names.lookup x = some .cell)) && sc.names.all fun y => !decide (y.2 = .free)
theorem scB_ok {N ps : List Str} {sc : Scope} (h : scB N ps sc = true) : FnScope N ps sc := by
  unfold scB at h
  obtain ⟨h, h7⟩ := and2 h
  obtain ⟨h, h6⟩ := and2 h
  obtain ⟨h, h5⟩ := and2 h
  obtain ⟨h, h4⟩ := and2 h
  obtain ⟨h, h3⟩ := and2 h
  obtain ⟨h1, h2⟩ := and2 h
  exact ⟨of_decide_eq_true h1, nb h2, nb h3, of_decide_eq_true h4, of_decide_eq_true h5, fun x hx => of_decide_eq_true (List.all_eq_true.mp h6 x hx), fun y hy => of_decide_eq_false (nb (List.all_eq_true.mp h7 y hy))⟩
def rowB (L : Lib) (r : Pv.Row) : Bool := scB r.fn.names r.fn.params (defScope r.st) && chkSs L r.fn.names (defScope r.st) r.fn.body (defBody r.st) && r.dvs.all dvB && decide (r.kws = [])
def glbB (L : Lib) : Bool := L.glb.all fun q => match q.2 with
  | .int _ => true
  | .str _ => true
  | _ => false
/-- gcd is the module's -/
def impB (K : PySem.W.Frag) : Bool := He.eqO (PySem.W.nsIn K mainGlobals "gcd") (some (some (.builtin "math.gcd")))
abbrev AlI : Type := Bool × He.AlD
def obsI (n : Nat) (fa : List He.Fa) (fn : List He.DefD) (g : Addr → Option Obj) : AlI := (impB (He.frG g (He.asD g n)), He.obsDG n fa fn g)
def hookI (n : Nat) (fa : List He.Fa) (fn : List He.DefD) : PySem.W.Hook where
  α := AlI
  obs := fun s => obsI n fa fn s.heap.get?
  val := fun _ => (true, He.valD fn)
  says := fun _ h => ∃ K : PySem.W.Frag, K.In h ∧ He.SaysD fa fn K ∧ impB K = true
  of := fun _ _ e => ⟨_, He.frG_in, congrArg (fun z : AlI => z.2) e, congrArg (fun z : AlI => z.1) e⟩
  keeps := fun _ _ _ ⟨K, hK, c⟩ k => ⟨K, PySem.W.Frag.In.keeps hK k, c⟩
theorem obsI_eq {n : Nat} {fa : List He.Fa} {fn : List He.DefD} {g : Addr → Option Obj} {s : Shared} (h : ∀ a, g a = s.heap.get? a) : obsI n fa fn g = (hookI n fa fn).obs s := by
  have e : g = s.heap.get? := funext h
  rw [e] <;> rfl
section
variable {L : Lib} {rows : List Pv.Row} {K : PySem.W.Frag} {mg : Str → Option Value} {h : Heap}
theorem txt_of (c : He.SaysD (fasOf L rows) (fnsOf rows) K) (X : K.In h) (G : h.Ns mainGlobals mg) (hr : rows.all (rowB L) = true) (hg : glbB L = true)
    (hc : ∀ c ∈ L.cal, ∃ r, look rows c.f = some r ∧ c.name = r.fn.name ∧ c.src.length = r.fn.params.length ∧ ∀ fa fd, r.Is K fa fd → CalBind K fd r.fn.params c) (hi : L.imp = true → impB K = true := by exact fun z => nomatch z) : Txt L rows K mg where
  imp := fun z => PySem.W.mg_of X G (He.eqO_ok (hi z))
  df := fun r hm => by
    obtain ⟨i, hi⟩ := List.getElem?_of_mem hm
    have hb := List.all_eq_true.mp hr r hm
    unfold rowB at hb
    obtain ⟨hb, h4⟩ := and2 hb
    obtain ⟨hb, h3⟩ := and2 hb
    have e1 : (fnsOf rows)[i]? = some (defOf r) := by unfold fnsOf; rw [List.getElem?_map, hi]; rfl
    obtain ⟨fd, F⟩ := c.def_ i e1
    have e2 : (fasOf L rows)[i]? = some (.glo r.fn.name) := by
      unfold fasOf
      rw [List.getElem?_append_left (by rw [List.length_map]; exact (List.getElem?_eq_some_iff.mp hi).1), List.getElem?_map, hi]
      rfl
    refine ⟨_, fd, He.glo_ok X G (c.fact i e2), ?_⟩
    show FunD K r.fn.name r.qual (defArgs r.st) (defBody r.st) (defScope r.st) r.dvs r.kws _ fd
    have e3 : (defOf r).dvs K = r.dvs := dv_map h3
    rw [← e3, of_decide_eq_true h4]
    exact F
  sc := fun r hm => by
    have hb := List.all_eq_true.mp hr r hm
    unfold rowB at hb
    exact scB_ok (and2 (and2 (and2 hb).1).1).1
  chk := fun r hm => by
    have hb := List.all_eq_true.mp hr r hm
    unfold rowB at hb
    exact (and2 (and2 (and2 hb).1).1).2
  cal := hc
  free := fun x hx => by
    have hm : He.Fa.free x ∈ fasOf L rows := List.mem_append_right _ (List.mem_append_left _ (List.mem_map.mpr ⟨x, List.contains_iff_mem.mp hx, rfl⟩))
    obtain ⟨i, hi⟩ := List.getElem?_of_mem hm
    exact He.free_ok X G (c.fact i hi)
  glb := fun q hq => by
    have hm : glbOf q ∈ fasOf L rows := List.mem_append_right _ (List.mem_append_right _ (List.mem_map.mpr ⟨q, hq, rfl⟩))
    obtain ⟨i, hi⟩ := List.getElem?_of_mem hm
    have hf := c.fact i hi
    have hb := List.all_eq_true.mp hg q hq
    obtain ⟨x, d⟩ := q
    cases d with
    | int j =>
      obtain ⟨t, e⟩ := He.int_ok X G (x := x) (i := j) hf
      exact ⟨.int j, _, e, ⟨t, rfl⟩, fun H O => .int j⟩
    | str z =>
      obtain ⟨t, e⟩ := He.str_ok X G (x := x) (z := z) hf
      exact ⟨.str z, _, e, ⟨t, rfl⟩, fun H O => .str z⟩
    | _ => cases hb
theorem fillV0_all : ∀ {src : List (Option PD)} {vs : List V}, src.all (fun o => o.isNone) = true → vs.length = src.length → fillV0 src vs = vs
  | [], [], _, _ => rfl
  | [], _ :: _, _, h => by cases h
  | none :: s, [], _, h => by cases h
  | none :: s, v :: vs, ha, h => by
    show v :: fillV0 s vs = _
    rw [fillV0_all (by simpa using ha) (by simpa using h)]
  | some _ :: _, _, ha, _ => by simp at ha
theorem fillV_all {src : List (Option PD)} {vs : List V} (ha : src.all (fun o => o.isNone) = true) (h : vs.length = src.length) : fillV src vs = vs := by
  have : permOf src = none := by
    cases src with
    | nil => rfl
    | cons o r =>
      cases o with
      | none => rfl
      | some _ => simp at ha
  unfold fillV
  rw [this]
  exact fillV0_all ha h
theorem vals_pick {vs : List V} {us : List Value} (r : Vals vs us) : ∀ js : List Nat, Vals (js.map fun j => (vs[j]?).getD .non) (js.map fun j => (us[j]?).getD .none)
  | [] => .nil
  | j :: js => by
    refine .cons ?_ (vals_pick r js)
    have key : ∀ {vs : List V} {us : List Value} (j : Nat), Vals vs us → RelV ((vs[j]?).getD .non) ((us[j]?).getD .none) := by
      intro vs us j r
      induction r generalizing j with
      | nil => exact (rfl : Value.none = Value.none)
      | cons a _ ih =>
        cases j with
        | zero => exact a
        | succ j => exact ih j
    exact key j r
/-- a call by keywords in another order -/
theorem cal_perm {r : Pv.Row} {c : Cal} {fa : Addr} {fd : FuncData} (hF : r.Is K fa fd) (hd : r.dvs = []) (js : List Nat) (hs : permOf c.src = some js)
    (b : ∀ (kV doc pm : Value) (an : Option Addr) (cdv ct : Value) (us ws : List Value), us.length = c.n → ws.length = c.ks.length → bindArgs (PySem.W.fnOf r.fn.name r.qual (defArgs r.st) (defBody r.st) (defScope r.st) .none kV doc pm an cdv ct) ⟨us, c.ks.zip ws⟩ = pure (r.fn.params.zip (js.map fun j => ((us ++ ws)[j]?).getD .none))) : CalBind K fd r.fn.params c := by
  intro s us ws vs _ h1 h2 rv
  obtain ⟨oc, od, dV, kV, doc, pm, an, cdv, ct, osl, rfl, _, _, hD, _⟩ := hF.ex
  have e : dV = .none := by
    rcases hD with ⟨_, e⟩ | ⟨e, _⟩
    · exact e
    · exact absurd hd e
  subst e
  refine ⟨_, .of_eq (b kV doc pm an cdv ct us ws h1 h2), ?_⟩
  unfold fillV
  rw [hs]
  exact vals_pick rv js
/-- a call in which every parameter is written -/
theorem cal_all {r : Pv.Row} {c : Cal} {fa : Addr} {fd : FuncData} (hF : r.Is K fa fd) (hd : r.dvs = []) (hs : c.src.all (fun o => o.isNone) = true) (hl : c.n + c.ks.length = c.src.length)
    (b : ∀ (kV doc pm : Value) (an : Option Addr) (cdv ct : Value) (us ws : List Value), us.length = c.n → ws.length = c.ks.length → bindArgs (PySem.W.fnOf r.fn.name r.qual (defArgs r.st) (defBody r.st) (defScope r.st) .none kV doc pm an cdv ct) ⟨us, c.ks.zip ws⟩ = pure (r.fn.params.zip (us ++ ws))) : CalBind K fd r.fn.params c := by
  intro s us ws vs _ h1 h2 rv
  obtain ⟨oc, od, dV, kV, doc, pm, an, cdv, ct, osl, rfl, _, _, hD, _⟩ := hF.ex
  have e : dV = .none := by
    rcases hD with ⟨_, e⟩ | ⟨e, _⟩
    · exact e
    · exact absurd hd e
  subst e
  refine ⟨us ++ ws, .of_eq (b kV doc pm an cdv ct us ws h1 h2), ?_⟩
  rw [fillV_all hs (by rw [rv.length, List.length_append]; omega)]
  exact rv
/-- a call in which the last parameters have their defaults -/
theorem cal_dfl {r : Pv.Row} {c : Cal} {fa : Addr} {fd : FuncData} (hF : r.Is K fa fd) (hd : r.dvs ≠ []) (hk : c.ks = []) (j : Nat) (hn : c.n + (r.dvs.length - j) = r.fn.params.length)
    (hv : ∀ vs : List V, vs.length = c.n → fillV c.src vs = vs ++ r.dvs.drop j)
    (b : ∀ (T : Addr) (kV doc pm : Value) (an : Option Addr) (cdv ct : Value) (us its : List Value), us.length = c.n → its.length = r.dvs.length →
      ∃ k, bindArgs (PySem.W.fnOf r.fn.name r.qual (defArgs r.st) (defBody r.st) (defScope r.st) (.ref T) kV doc pm an cdv ct) ⟨us, []⟩ = seqItems? (.ref T) >>= k ∧ k (some its.toArray) = pure (r.fn.params.zip (us ++ its.drop j))) : CalBind K fd r.fn.params c := by
  intro s us ws vs X h1 h2 rv
  obtain ⟨ds, r1, r2⟩ := FunD.binds1 hF c.n j hd hn b
  rw [hk] at h2 ⊢
  have ew : ws = [] := List.length_eq_zero_iff.mp h2
  subst ew
  rw [List.append_nil] at rv
  refine ⟨us ++ ds, r2 s us X ?_, ?_⟩
  · rw [List.length_append, h1]
    have := r1.length
    rw [List.length_drop] at this
    omega
  · rw [hv vs (by rw [rv.length]; exact h1)]
    exact rv.append r1
/-- a call with all written, of a def that has defaults -/
theorem cal_all1 {r : Pv.Row} {c : Cal} {fa : Addr} {fd : FuncData} (hF : r.Is K fa fd) (hd : r.dvs ≠ []) (hs : c.src.all (fun o => o.isNone) = true) (hl : c.n + c.ks.length = c.src.length)
    (b : ∀ (T : Addr) (kV doc pm : Value) (an : Option Addr) (cdv ct : Value) (us ws its : List Value), us.length = c.n → ws.length = c.ks.length → its.length = r.dvs.length →
      (bindArgs (PySem.W.fnOf r.fn.name r.qual (defArgs r.st) (defBody r.st) (defScope r.st) (.ref T) kV doc pm an cdv ct) ⟨us, c.ks.zip ws⟩ = pure (r.fn.params.zip (us ++ ws)) ∨
      ∃ k, bindArgs (PySem.W.fnOf r.fn.name r.qual (defArgs r.st) (defBody r.st) (defScope r.st) (.ref T) kV doc pm an cdv ct) ⟨us, c.ks.zip ws⟩ = seqItems? (.ref T) >>= k ∧ k (some its.toArray) = pure (r.fn.params.zip (us ++ ws)))) : CalBind K fd r.fn.params c := by
  intro s us ws vs X h1 h2 rv
  obtain ⟨oc, od, dV, kV, doc, pm, an, cdv, ct, osl, rfl, _, _, hD, _⟩ := hF.ex
  rcases hD with ⟨e, _⟩ | ⟨_, T, o, its, m, rfl, lT, oT, rT⟩
  · exact absurd e hd
  · refine ⟨us ++ ws, ?_, by rw [fillV_all hs (by rw [rv.length, List.length_append]; omega)]; exact rv⟩
    rcases b T kV doc pm an cdv ct us ws its h1 h2 rT.length.symm with e | ⟨k, e1, e2⟩
    · exact .of_eq e
    · refine BindsTo.of_looks fun M => ?_
      rw [e1]
      exact looks_items X lT oT (.of_pure e2)
end
end Pv

/-! Pv, part Sm: the evaluator's equations, for simp. -/
namespace Pv
open PySem PySem.Spec L2
section
variable {α β : Type} {a : α} {ρ : Env} {x : Exn} {f : α → Env → Rs β} {g : α → Env → Fl} {h : Env → Fl} {d : D} {o : Option D}
@[simp] theorem bind_ok : (Rs.ok a ρ).bind f = f a ρ := rfl
@[simp] theorem bind_exc : (Rs.exc x ρ : Rs α).bind f = .exc x ρ := rfl
@[simp] theorem bind_bad : (Rs.bad : Rs α).bind f = .bad := rfl
@[simp] theorem fl_ok : (Rs.ok a ρ).fl g = g a ρ := rfl
@[simp] theorem fl_exc : (Rs.exc x ρ : Rs α).fl g = .exc x ρ := rfl
@[simp] theorem fl_bad : (Rs.bad : Rs α).fl g = .bad := rfl
@[simp] theorem seq_nx : (Fl.nx ρ).seq h = h ρ := rfl
@[simp] theorem seq_rt : (Fl.rt d ρ).seq h = .rt d ρ := rfl
@[simp] theorem seq_bk : (Fl.bk ρ).seq h = .bk ρ := rfl
@[simp] theorem seq_ct : (Fl.ct ρ).seq h = .ct ρ := rfl
@[simp] theorem seq_bad : Fl.bad.seq h = .bad := rfl
@[simp] theorem ofO_some : Rs.ofO (some a) ρ = .ok a ρ := rfl
@[simp] theorem ofO_none : Rs.ofO (none : Option α) ρ = .bad := rfl
@[simp] theorem at_zero : Env.at_ (o :: ρ) 0 = o := by cases o <;> rfl
@[simp] theorem at_succ {i : Nat} : Env.at_ (o :: ρ) (i + 1) = Env.at_ ρ i := by unfold Env.at_; rw [List.getElem?_cons_succ]
@[simp] theorem at_1 {o1 : Option D} : Env.at_ (o :: o1 :: ρ) 1 = o1 := by rw [show (1 : Nat) = 0 + 1 from rfl, at_succ, at_zero]
@[simp] theorem at_2 {o1 o2 : Option D} : Env.at_ (o :: o1 :: o2 :: ρ) 2 = o2 := by rw [show (2 : Nat) = 1 + 1 from rfl, at_succ, at_1]
@[simp] theorem at_3 {o1 o2 o3 : Option D} : Env.at_ (o :: o1 :: o2 :: o3 :: ρ) 3 = o3 := by rw [show (3 : Nat) = 2 + 1 from rfl, at_succ, at_2]
@[simp] theorem at_4 {o1 o2 o3 o4 : Option D} : Env.at_ (o :: o1 :: o2 :: o3 :: o4 :: ρ) 4 = o4 := by rw [show (4 : Nat) = 3 + 1 from rfl, at_succ, at_3]
@[simp] theorem at_5 {o1 o2 o3 o4 o5 : Option D} : Env.at_ (o :: o1 :: o2 :: o3 :: o4 :: o5 :: ρ) 5 = o5 := by rw [show (5 : Nat) = 4 + 1 from rfl, at_succ, at_4]
@[simp] theorem at_6 {o1 o2 o3 o4 o5 o6 : Option D} : Env.at_ (o :: o1 :: o2 :: o3 :: o4 :: o5 :: o6 :: ρ) 6 = o6 := by rw [show (6 : Nat) = 5 + 1 from rfl, at_succ, at_5]
@[simp] theorem own_p {d : PD} : (D.p d).isOwn = false := rfl
@[simp] theorem own_own {l : List PD} : (D.own l).isOwn = true := rfl
@[simp] theorem own_odt {l : List (List Key × PD)} : (D.odt l).isOwn = true := rfl
@[simp] theorem own_odk {l : List (Key × PD)} : (D.odk l).isOwn = true := rfl
@[simp] theorem own_frl {l : List Int} : (D.frl l).isOwn = false := rfl
@[simp] theorem fz_p {d : PD} : (D.p d).fz = .p d := rfl
@[simp] theorem fz_own {l : List PD} : (D.own l).fz = .p (.list l) := rfl
@[simp] theorem pd_p {d : PD} : (D.p d).toPD = some d := rfl
@[simp] theorem pd_own {l : List PD} : (D.own l).toPD = some (.list l) := rfl
@[simp] theorem tr_bool {b : Bool} : truthD (.p (.bool b)) = some b := rfl
@[simp] theorem tr_int {i : Int} : truthD (.p (.int i)) = some (i != 0) := rfl
@[simp] theorem tr_none : truthD (.p .none) = some false := rfl
@[simp] theorem get_v {d : D} : Arg.get ρ (.v d) = some d := rfl
@[simp] theorem get_s {i : Nat} : Arg.get ρ (.s i) = ρ.at_ i := rfl
@[simp] theorem args_nil : argsGet ρ [] = some [] := rfl
theorem args_cons {b : Arg} {r : List Arg} {d : D} (h : b.get ρ = some d) : argsGet ρ (b :: r) = (argsGet ρ r).map (d :: ·) := by
  rw [argsGet, h]
  cases argsGet ρ r <;> rfl
@[simp] theorem args_v {r : List Arg} : argsGet ρ (.v d :: r) = (argsGet ρ r).map (d :: ·) := args_cons rfl
theorem args_s {i : Nat} {r : List Arg} (h : ρ.at_ i = some d) : argsGet ρ (.s i :: r) = (argsGet ρ r).map (d :: ·) := args_cons h
theorem read_p {i : Nat} {d : PD} (h : ρ.at_ i = some (.p d)) : readVar ρ i = .ok (.p d) ρ := by unfold readVar; rw [h]; rfl
end
@[simp] theorem eqD_int (i j : Int) : eqD (.p (.int i)) (.p (.int j)) = some (decide (i = j)) := by
  simp [eqD, SeqAt.shaped, PyData.eqv, PyData.canLay0, PyData.depth]
  exact Bool.beq_eq_decide_eq i j
theorem eqD_str (i j : Str) (hi : PyData.strOk i = true) (hj : PyData.strOk j = true) : eqD (.p (.str i)) (.p (.str j)) = some (decide (i = j)) := by
  simp [eqD, SeqAt.shaped, PyData.eqv, PyData.canLay0, PyData.depth, hi, hj]
  exact Bool.beq_eq_decide_eq i j
theorem run_succ {prog : Nat → Option Fn} {k f : Nat} {ds : List D} {fn : Fn} (h : prog f = some fn) : run prog (k + 1) f ds = runB (run prog k) fn ds := by
  rw [run.eq_def]
  simp [h]
end Pv

/-! Pv, part Mo: more answers of the defs, more answers. -/
namespace Pv
open PySem PySem.Spec L2

def Rs.Le {α : Type} (r r' : Rs α) : Prop := r ≠ .bad → r' = r
def Fl.Le (r r' : Fl) : Prop := r ≠ .bad → r' = r
theorem Rs.Le.refl {α : Type} (r : Rs α) : Rs.Le r r := fun _ => rfl
theorem Fl.Le.refl (r : Fl) : Fl.Le r r := fun _ => rfl
theorem bind_le {α β : Type} {r r' : Rs α} {f f' : α → Env → Rs β} (h : Rs.Le r r') (hf : ∀ a ρ, Rs.Le (f a ρ) (f' a ρ)) : Rs.Le (r.bind f) (r'.bind f') := by
  intro n
  cases r with
  | bad => exact absurd rfl n
  | exc x ρ => rw [h fun z => nomatch z]; rfl
  | ok a ρ => rw [h fun z => nomatch z]; exact hf a ρ n
theorem fl_le {α : Type} {r r' : Rs α} {f f' : α → Env → Fl} (h : Rs.Le r r') (hf : ∀ a ρ, Fl.Le (f a ρ) (f' a ρ)) : Fl.Le (r.fl f) (r'.fl f') := by
  intro n
  cases r with
  | bad => exact absurd rfl n
  | exc x ρ => rw [h fun z => nomatch z]; rfl
  | ok a ρ => rw [h fun z => nomatch z]; exact hf a ρ n
theorem seq_le {r r' : Fl} {f f' : Env → Fl} (h : Fl.Le r r') (hf : ∀ ρ, Fl.Le (f ρ) (f' ρ)) : Fl.Le (r.seq f) (r'.seq f') := by
  intro n
  cases r with
  | bad => exact absurd rfl n
  | nx ρ => rw [h fun z => nomatch z]; exact hf ρ n
  | _ => rw [h fun z => nomatch z]; rfl
theorem two_le {ρ : Env} {o : Option D} {r r' u u' : Rs D} (h : Rs.Le r r') (g : Rs.Le u u') : Rs.Le (two ρ o r u) (two ρ o r' u') := by
  intro n
  have hr : r ≠ .bad := fun z => n (by
    subst z
    cases o with
    | none => rfl
    | some d => cases d <;> rfl)
  have hu : u ≠ .bad := fun z => n (by
    subst z
    cases o with
    | none => rfl
    | some d =>
      cases d with
      | own2 l =>
        cases r with
        | ok d _ => cases d with
          | p d => cases d <;> rfl
          | _ => rfl
        | _ => rfl
      | _ => rfl)
  rw [h hr, g hu]
theorem two_fl {ρ1 : Env} {i : Nat} {o : Option D} {v : D} {r r' u u' : Rs D} (h : Rs.Le r r') (g : Rs.Le u u') : Fl.Le (two2 ρ1 i v o r u) (two2 ρ1 i v o r' u') := by
  intro n
  have hr : r ≠ .bad := fun z => n (by subst z; cases o <;> rfl)
  have hu : u ≠ .bad := fun z => n (by
    subst z
    cases o with
    | none => rfl
    | some d => cases r <;> rfl)
  rw [h hr, g hu]
section
variable {bor : Nat → Bool} {B B' : Nat → List D → CR} (hB : ∀ f ds, B f ds ≠ .bad → B' f ds = B f ds)
include hB
theorem call_le {f : Nat} {src : List (Option PD)} {as : List Arg} {ρ : Env} : Rs.Le (doCall ⟨bor, B⟩ f src as ρ) (doCall ⟨bor, B'⟩ f src as ρ) := by
  intro n
  unfold doCall at n ⊢
  split at n
  · exact absurd rfl n
  · split at n
    · exact absurd rfl n
    · split at n
      · rename_i ps _ hnd
        simp only [hnd, if_true]
        dsimp only at n ⊢
        have : B f ps ≠ .bad := fun z => by rw [z] at n; exact n rfl
        rw [hB f ps this]
      · rename_i hnd
        exact absurd rfl n
end
theorem lcLoop_le {step step' : PD → Env → Rs (Option D)} (h : ∀ x ρ, Rs.Le (step x ρ) (step' x ρ)) : ∀ (xs : List PD) (ρ : Env), Rs.Le (lcLoop step xs ρ) (lcLoop step' xs ρ)
  | [], ρ => Rs.Le.refl _
  | x :: xs, ρ => by
    intro n
    unfold lcLoop at n ⊢
    cases e : step x ρ with
    | bad => rw [e] at n; exact absurd rfl n
    | exc y ρ1 => rw [e] at n; exact absurd rfl n
    | ok o ρ1 =>
      rw [h x ρ (by rw [e]; exact fun z => nomatch z), e]
      rw [e] at n
      dsimp only at n ⊢
      have : lcLoop step xs ρ1 ≠ .bad := fun z => by rw [z] at n; exact n rfl
      rw [lcLoop_le h xs ρ1 this]
section
variable {bor : Nat → Bool} {B B' : Nat → List D → CR} (hB : ∀ f ds, B f ds ≠ .bad → B' f ds = B f ds)
include hB
mutual
theorem ev_le : ∀ (e : E) (ρ : Env), Rs.Le (ev ⟨bor, B⟩ e ρ) (ev ⟨bor, B'⟩ e ρ)
  | .var i, ρ => by rw [ev, ev]; exact Rs.Le.refl _
  | .mv i, ρ => by rw [ev, ev]; exact Rs.Le.refl _
  | .non, ρ => by rw [ev, ev]; exact Rs.Le.refl _
  | .bl b, ρ => by rw [ev, ev]; exact Rs.Le.refl _
  | .int i, ρ => by rw [ev, ev]; exact Rs.Le.refl _
  | .str s, ρ => by rw [ev, ev]; exact Rs.Le.refl _
  | .glb x d, ρ => by rw [ev, ev]; exact Rs.Le.refl _
  | .prim p es, ρ => by rw [ev, ev]; exact bind_le (evA_le es ρ) fun as ρ1 => Rs.Le.refl _
  | .idx2 i a b, ρ => by
    have ha := ev_le a ρ
    have hb := ev_le b ρ
    rw [ev, ev]
    exact two_le ha hb
  | .sl a lo hi, ρ => by
    rw [ev_sl, ev_sl]
    refine bind_le ?_ fun x ρ1 => bind_le (evO_le lo ρ1) fun l ρ2 => bind_le (evO_le hi ρ2) fun h ρ3 => Rs.Le.refl _
    by_cases h : ∃ i, a = .var i
    · obtain ⟨i, rfl⟩ := h; exact Rs.Le.refl _
    · have e : ∀ C : Ctx, evX C a ρ = (ev C a ρ).bind fun d ρ1 => .ok (.v d) ρ1 := fun C => by cases a <;> first | rfl | exact absurd ⟨_, rfl⟩ h
      rw [e, e]
      exact bind_le (ev_le a ρ) fun d ρ1 => Rs.Le.refl _
  | .tup es, ρ => by rw [ev, ev]; exact bind_le (evL_le es ρ) fun as ρ1 => Rs.Le.refl _
  | .lst es, ρ => by rw [ev, ev]; exact bind_le (evL_le es ρ) fun as ρ1 => Rs.Le.refl _
  | .dnew t, ρ => by rw [ev, ev]; exact Rs.Le.refl _
  | .dlit k v, ρ => by rw [ev, ev]; exact bind_le (ev_le k ρ) fun d ρ1 => bind_le (ev_le v ρ1) fun d ρ2 => Rs.Le.refl _
  | .bop op es, ρ => by rw [ev, ev]; exact evB_le op es ρ
  | .nt a, ρ => by rw [ev, ev]; exact bind_le (ev_le a ρ) fun d ρ1 => Rs.Le.refl _
  | .ite c a b, ρ => by
    rw [ev, ev]
    refine bind_le (ev_le c ρ) fun d ρ1 => ?_
    split
    · exact ev_le a ρ1
    · exact ev_le b ρ1
    · exact Rs.Le.refl _
  | .chain o1 o2 a b c, ρ => by
    rw [ev, ev]
    refine bind_le (ev_le a ρ) fun da ρ1 => bind_le (ev_le b ρ1) fun db ρ2 => ?_
    split
    · exact bind_le (ev_le c ρ2) fun dc ρ3 => Rs.Le.refl _
    · exact Rs.Le.refl _
    · exact Rs.Le.refl _
  | .call f src es kes, ρ => by rw [ev, ev]; exact bind_le (evA_le es ρ) fun as ρ1 => bind_le (evA_le kes ρ1) fun bs ρ2 => call_le hB
  | .lc elt tg it ifs own, ρ => by
    rw [ev_lc, ev_lc]
    refine bind_le (evI_le it ρ) fun xs ρ1 => ?_
    intro n
    dsimp only at n ⊢
    split at n
    · exact absurd rfl n
    · rename_i hh
      rw [if_neg hh, if_neg hh]
      have st : ∀ x ρ, Rs.Le (lcStep ⟨bor, B⟩ tg ifs elt own x ρ) (lcStep ⟨bor, B'⟩ tg ifs elt own x ρ) := fun x ρ => by
        unfold lcStep
        split
        · refine bind_le (evC_le ifs _) fun b ρ3 => ?_
          split
          · exact bind_le (ev_le elt ρ3) fun d ρ4 => Rs.Le.refl _
          · exact Rs.Le.refl _
        · exact Rs.Le.refl _
      have nb : lcLoop (lcStep ⟨bor, B⟩ tg ifs elt own) xs ρ1 ≠ .bad := fun z => by rw [z] at n; exact n rfl
      rw [lcLoop_le st xs ρ1 nb]
  | .pop i, ρ => by rw [ev, ev]; exact Rs.Le.refl _
  | .popAt i e, ρ => by rw [ev, ev]; exact bind_le (ev_le e ρ) fun d ρ1 => Rs.Le.refl _
theorem evA_le : ∀ (es : Es) (ρ : Env), Rs.Le (evA ⟨bor, B⟩ es ρ) (evA ⟨bor, B'⟩ es ρ)
  | .nil, ρ => by rw [evA, evA]; exact Rs.Le.refl _
  | .cons e es, ρ => by
    by_cases h : ∃ i, e = .var i
    · obtain ⟨i, rfl⟩ := h
      rw [evA, evA]
      split
      · exact bind_le (evA_le es ρ) fun as ρ1 => Rs.Le.refl _
      · exact Rs.Le.refl _
    · rw [evA_cons fun i z => h ⟨i, z⟩, evA_cons fun i z => h ⟨i, z⟩]
      exact bind_le (ev_le e ρ) fun d ρ1 => bind_le (evA_le es ρ1) fun as ρ2 => Rs.Le.refl _
theorem evO_le : ∀ (es : Es) (ρ : Env), Rs.Le (evO ⟨bor, B⟩ es ρ) (evO ⟨bor, B'⟩ es ρ)
  | .nil, ρ => by rw [evO, evO]; exact Rs.Le.refl _
  | .cons e es, ρ => by rw [evO, evO]; exact bind_le (ev_le e ρ) fun d ρ1 => Rs.Le.refl _
theorem evL_le : ∀ (es : Es) (ρ : Env), Rs.Le (evL ⟨bor, B⟩ es ρ) (evL ⟨bor, B'⟩ es ρ)
  | .nil, ρ => by rw [evL, evL]; exact Rs.Le.refl _
  | .cons e es, ρ => by rw [evL, evL]; exact bind_le (ev_le e ρ) fun d ρ1 => bind_le (evL_le es ρ1) fun ds ρ2 => Rs.Le.refl _
theorem evB_le (op : BoolOp) : ∀ (es : Es) (ρ : Env), Rs.Le (evB ⟨bor, B⟩ op es ρ) (evB ⟨bor, B'⟩ op es ρ)
  | .nil, ρ => by rw [evB, evB]; exact Rs.Le.refl _
  | .cons e .nil, ρ => by rw [evB, evB]; exact ev_le e ρ
  | .cons e (.cons e2 es), ρ => by
    rw [evB_cons, evB_cons]
    refine bind_le (ev_le e ρ) fun d ρ1 => ?_
    cases truthD d with
    | none => exact Rs.Le.refl _
    | some b =>
      have q := evB_le op (.cons e2 es) ρ1
      cases op <;> cases b <;> first | exact Rs.Le.refl _ | exact q
theorem evC_le : ∀ (es : Es) (ρ : Env), Rs.Le (evC ⟨bor, B⟩ es ρ) (evC ⟨bor, B'⟩ es ρ)
  | .nil, ρ => by rw [evC, evC]; exact Rs.Le.refl _
  | .cons e es, ρ => by
    rw [evC, evC]
    refine bind_le (ev_le e ρ) fun d ρ1 => ?_
    split
    · exact evC_le es ρ1
    · exact Rs.Le.refl _
    · exact Rs.Le.refl _
theorem evI_le : ∀ (it : It) (ρ : Env), Rs.Le (evI ⟨bor, B⟩ it ρ) (evI ⟨bor, B'⟩ it ρ)
  | .seq e, ρ => by rw [evI, evI]; exact bind_le (ev_le e ρ) fun d ρ1 => Rs.Le.refl _
  | .range es, ρ => by rw [evI, evI]; exact bind_le (evA_le es ρ) fun as ρ1 => Rs.Le.refl _
  | .enum e, ρ => by rw [evI, evI]; exact bind_le (ev_le e ρ) fun d ρ1 => Rs.Le.refl _
  | .zip a b, ρ => by rw [evI, evI]; exact bind_le (ev_le a ρ) fun x ρ1 => bind_le (ev_le b ρ1) fun y ρ2 => Rs.Le.refl _
  | .rev e, ρ => by rw [evI, evI]; exact bind_le (ev_le e ρ) fun d ρ1 => Rs.Le.refl _
end
theorem evT_le (e : E) (ρ : Env) : Rs.Le (evT ⟨bor, B⟩ e ρ) (evT ⟨bor, B'⟩ e ρ) := bind_le (ev_le hB e ρ) fun d ρ1 => Rs.Le.refl _
theorem asgG_le : ∀ (t : Tg) (d : D) (ρ : Env), Rs.Le (asgG ⟨bor, B⟩ t d ρ) (asgG ⟨bor, B'⟩ t d ρ)
  | .v i, d, ρ => by rw [asgG.eq_def, asgG.eq_def]; exact Rs.Le.refl _
  | .ix i k, d, ρ => by
    rw [asgG.eq_def, asgG.eq_def]
    dsimp only
    by_cases h : (ρ.at_ i).isSome = true
    · rw [if_pos h, if_pos h]; exact bind_le (ev_le hB k ρ) fun kd ρ1 => Rs.Le.refl _
    · rw [if_neg h, if_neg h]; exact Rs.Le.refl _
  | .nil, d, ρ => by rw [asgG.eq_def, asgG.eq_def]; exact Rs.Le.refl _
  | .cons t ts, d, ρ => by
    rw [asgG.eq_def, asgG.eq_def ⟨bor, B'⟩]
    dsimp only
    split
    · rename_i x xs
      by_cases h : (ts.isL && xs.length == ts.len) = true
      · rw [if_pos h, if_pos h]; exact bind_le (asgG_le t (.p x) ρ) fun _ ρ1 => asgG_le ts (.p (.tuple xs)) ρ1
      · rw [if_neg h, if_neg h]; exact Rs.Le.refl _
    · exact Rs.Le.refl _
theorem putAll_same : ∀ (is : List Nat) (ds : List D) (ρ : Env), putAll ⟨bor, B⟩ is ds ρ = putAll ⟨bor, B'⟩ is ds ρ
  | [], [], ρ => rfl
  | [], _ :: _, ρ => rfl
  | _ :: _, [], ρ => rfl
  | i :: is, d :: ds, ρ => by
    rw [putAll, putAll]
    show (match putS ⟨bor, B⟩ i d ρ with | some ρ1 => putAll ⟨bor, B⟩ is ds ρ1 | none => none) = (match putS ⟨bor, B⟩ i d ρ with | some ρ1 => putAll ⟨bor, B'⟩ is ds ρ1 | none => none)
    cases putS ⟨bor, B⟩ i d ρ with
    | none => rfl
    | some ρ1 => exact putAll_same is ds ρ1
theorem okT_same : ∀ t : T, forL.okT ⟨bor, B⟩ t = forL.okT ⟨bor, B'⟩ t
  | .v i => rfl
  | .nil => rfl
  | .cons t ts => by rw [forL.okT, forL.okT, okT_same t, okT_same ts]
theorem forL_le {t : T} {b b' : Env → Fl} (h : ∀ ρ, Fl.Le (b ρ) (b' ρ)) : ∀ (xs : List PD) (ρ : Env), Fl.Le (forL ⟨bor, B⟩ t b xs ρ) (forL ⟨bor, B'⟩ t b' xs ρ)
  | [], ρ => Fl.Le.refl _
  | x :: xs, ρ => by
    intro n
    rw [forL] at n
    have e : forL.asgF ⟨bor, B'⟩ t x ρ = forL.asgF ⟨bor, B⟩ t x ρ := by unfold forL.asgF; rw [okT_same hB t]
    rw [forL, forL, e]
    cases ea : forL.asgF ⟨bor, B⟩ t x ρ with
    | none => rfl
    | some ρa =>
      rw [ea] at n
      dsimp only at n ⊢
      cases eb : b ρa with
      | bad => rw [eb] at n; exact absurd rfl n
      | nx ρ2 => rw [h ρa (by rw [eb]; exact fun z => nomatch z), eb]; rw [eb] at n; exact forL_le h xs ρ2 n
      | ct ρ2 => rw [h ρa (by rw [eb]; exact fun z => nomatch z), eb]; rw [eb] at n; exact forL_le h xs ρ2 n
      | bk ρ2 => rw [h ρa (by rw [eb]; exact fun z => nomatch z), eb]
      | rt d ρ2 => rw [h ρa (by rw [eb]; exact fun z => nomatch z), eb]
      | exc y ρ2 => rw [h ρa (by rw [eb]; exact fun z => nomatch z), eb]
theorem wN_le {c c' : Env → Rs Bool} {b b' : Env → Fl} (hc : ∀ ρ, Rs.Le (c ρ) (c' ρ)) (hb : ∀ ρ, Fl.Le (b ρ) (b' ρ)) : ∀ (n : Nat) (ρ : Env) (r : Fl), wN c b n ρ = some r → r ≠ .bad → wN c' b' n ρ = some r
  | 0, _, _, h, _ => by cases h
  | n + 1, ρ, r, h, nb => by
    unfold wN at h ⊢
    cases ec : c ρ with
    | bad => rw [ec] at h; cases h; exact absurd rfl nb
    | exc x ρ1 => rw [hc ρ (by rw [ec]; exact fun z => nomatch z), ec]; rw [ec] at h; exact h
    | ok t ρ1 =>
      rw [hc ρ (by rw [ec]; exact fun z => nomatch z), ec]
      rw [ec] at h
      cases t with
      | false => exact h
      | true =>
        dsimp only at h ⊢
        cases eb : b ρ1 with
        | bad => rw [eb] at h; cases h; exact absurd rfl nb
        | nx ρ2 => rw [hb ρ1 (by rw [eb]; exact fun z => nomatch z), eb]; rw [eb] at h; exact wN_le hc hb n ρ2 r h nb
        | ct ρ2 => rw [hb ρ1 (by rw [eb]; exact fun z => nomatch z), eb]; rw [eb] at h; exact wN_le hc hb n ρ2 r h nb
        | bk ρ2 => rw [hb ρ1 (by rw [eb]; exact fun z => nomatch z), eb]; rw [eb] at h; exact h
        | rt d ρ2 => rw [hb ρ1 (by rw [eb]; exact fun z => nomatch z), eb]; rw [eb] at h; exact h
        | exc y ρ2 => rw [hb ρ1 (by rw [eb]; exact fun z => nomatch z), eb]; rw [eb] at h; exact h
theorem wS_le {c c' : Env → Rs Bool} {b b' : Env → Fl} (hc : ∀ ρ, Rs.Le (c ρ) (c' ρ)) (hb : ∀ ρ, Fl.Le (b ρ) (b' ρ)) (ρ : Env) : Fl.Le (wS c b ρ) (wS c' b' ρ) := by
  intro n
  obtain ⟨m, hm⟩ := wS_some n
  exact wS_of (wN_le hB hc hb m ρ _ hm n)
mutual
theorem ex_le : ∀ (s : S) (ρ : Env), Fl.Le (ex ⟨bor, B⟩ s ρ) (ex ⟨bor, B'⟩ s ρ)
  | .asg t e, ρ => by rw [ex, ex]; exact fl_le (ev_le hB e ρ) fun d ρ1 => fl_le (asgG_le hB t d ρ1) fun _ ρ2 => Fl.Le.refl _
  | .par is es, ρ => by
    rw [ex, ex]
    refine fl_le (evL_le hB es ρ) fun ds ρ1 => ?_
    rw [putAll_same hB is ds ρ1]
    exact Fl.Le.refl _
  | .set2 i a b e, ρ => by rw [ex, ex]; exact fl_le (ev_le hB e ρ) fun v ρ1 => two_fl (ev_le hB a ρ1) (ev_le hB b ρ1)
  | .retz e, ρ => by rw [ex, ex]; exact fl_le (ev_le hB e ρ) fun v ρ1 => Fl.Le.refl _
  | .aug i op e, ρ => by
    rw [ex, ex]
    split
    · exact fl_le (ev_le hB e ρ) fun v ρ1 => Fl.Le.refl _
    · exact Fl.Le.refl _
  | .app i e, ρ => by
    rw [ex, ex]
    by_cases h : isLst (ρ.at_ i) = false
    · rw [if_pos h, if_pos h]; exact Fl.Le.refl _
    · rw [if_neg h, if_neg h]; exact fl_le (ev_le hB e ρ) fun v ρ1 => Fl.Le.refl _
  | .ext i e, ρ => by
    rw [ex, ex]
    by_cases h : isLst (ρ.at_ i) = false
    · rw [if_pos h, if_pos h]; exact Fl.Le.refl _
    · rw [if_neg h, if_neg h]; exact fl_le (ev_le hB e ρ) fun v ρ1 => Fl.Le.refl _
  | .expr e, ρ => by rw [ex, ex]; exact fl_le (ev_le hB e ρ) fun v ρ1 => Fl.Le.refl _
  | .ife c a b, ρ => by
    rw [ex, ex]
    refine fl_le (evT_le hB c ρ) fun t ρ1 => ?_
    cases t with
    | true => exact exs_le a ρ1
    | false => exact exs_le b ρ1
  | .fore t it b, ρ => by rw [ex, ex]; exact fl_le (evI_le hB it ρ) fun xs ρ1 => forL_le hB (fun ρ => exs_le b ρ) xs ρ1
  | .whl c b, ρ => by rw [ex, ex]; exact wS_le hB (evT_le hB c) (fun ρ => exs_le b ρ) ρ
  | .ret e, ρ => by
    by_cases h : ∃ i, e = .var i
    · obtain ⟨i, rfl⟩ := h; rw [ex, ex]; exact Fl.Le.refl _
    · rw [ex, ex]
      · exact fl_le (ev_le hB e ρ) fun v ρ1 => Fl.Le.refl _
      · exact fun i z => h ⟨i, z⟩
      · exact fun i z => h ⟨i, z⟩
  | .retn, ρ => by rw [ex, ex]; exact Fl.Le.refl _
  | .pass, ρ => by rw [ex, ex]; exact Fl.Le.refl _
  | .brk, ρ => by rw [ex, ex]; exact Fl.Le.refl _
  | .cont, ρ => by rw [ex, ex]; exact Fl.Le.refl _
  | .never, ρ => by rw [ex, ex]; exact Fl.Le.refl _
theorem exs_le : ∀ (ss : Ss) (ρ : Env), Fl.Le (exs ⟨bor, B⟩ ss ρ) (exs ⟨bor, B'⟩ ss ρ)
  | .nil, ρ => by rw [exs, exs]; exact Fl.Le.refl _
  | .cons s ss, ρ => by rw [exs, exs]; exact seq_le (ex_le s ρ) fun ρ1 => exs_le ss ρ1
end
/-- a def whose callees answer as the table says answers as with the table -/
theorem runB_le {fn : Fn} {ds : List D} (n : runB B fn ds ≠ .bad) : runB B' fn ds = runB B fn ds := by
  unfold runB at n ⊢
  by_cases h : ds.length = fn.params.length ∧ ds.length ≤ fn.names.length
  · rw [if_pos h] at n
    rw [if_pos h, if_pos h]
    have : exs ⟨borOf ds, B⟩ fn.body (start fn ds) ≠ .bad := fun z => by rw [z] at n; exact n rfl
    rw [exs_le hB fn.body (start fn ds) this]
  · rw [if_neg h] at n; exact absurd rfl n
end
/-- by the callees' table -/
theorem run_by {prog : Nat → Option Fn} {k f : Nat} {ds : List D} {fn : Fn} {T : Nat → List D → CR} {r : CR} (h : prog f = some fn) (hT : ∀ g es, T g es ≠ .bad → run prog k g es = T g es) (e : runB T fn ds = r) (nb : r ≠ .bad) : run prog (k + 1) f ds = r := by
  rw [run_succ h, runB_le hT (by rw [e]; exact nb), e]
end Pv

/-! Pv, part Wk: steps for walks. -/
namespace Pv
open PySem PySem.Spec L2
section
variable {C : Ctx} {ρ ρ1 ρ2 : Env}
theorem and_one {e : E} {b : Bool} (h : ev C e ρ = .ok (.p (.bool b)) ρ1) : evB C .And (.cons e .nil) ρ = .ok (.p (.bool b)) ρ1 := by rw [evB]; exact h
theorem or_one {e : E} {b : Bool} (h : ev C e ρ = .ok (.p (.bool b)) ρ1) : evB C .Or (.cons e .nil) ρ = .ok (.p (.bool b)) ρ1 := by rw [evB]; exact h
theorem and_c {e e2 : E} {es : Es} {b c : Bool} (h : ev C e ρ = .ok (.p (.bool b)) ρ1) (h2 : b = true → evB C .And (.cons e2 es) ρ1 = .ok (.p (.bool c)) ρ1) : evB C .And (.cons e (.cons e2 es)) ρ = .ok (.p (.bool (b && c))) ρ1 := by
  rw [evB_cons, h]
  cases b with
  | true => exact h2 rfl
  | false => rfl
theorem or_c {e e2 : E} {es : Es} {b c : Bool} (h : ev C e ρ = .ok (.p (.bool b)) ρ1) (h2 : b = false → evB C .Or (.cons e2 es) ρ1 = .ok (.p (.bool c)) ρ1) : evB C .Or (.cons e (.cons e2 es)) ρ = .ok (.p (.bool (b || c))) ρ1 := by
  rw [evB_cons, h]
  cases b with
  | true => rfl
  | false => exact h2 rfl
theorem bop_c {op : BoolOp} {es : Es} {d : D} (h : evB C op es ρ = .ok d ρ1) : ev C (.bop op es) ρ = .ok d ρ1 := by rw [ev]; exact h
theorem nt_c {e : E} {b : Bool} (h : ev C e ρ = .ok (.p (.bool b)) ρ1) : ev C (.nt e) ρ = .ok (.p (.bool (!b))) ρ1 := by rw [ev, h]; rfl
theorem ife_c {c : E} {a b : Ss} {t : Bool} (h : ev C c ρ = .ok (.p (.bool t)) ρ1) : ex C (.ife c a b) ρ = if t then exs C a ρ1 else exs C b ρ1 := by
  rw [ex]
  unfold evT
  rw [h]
  rfl
theorem seq_c {s : S} {ss : Ss} (h : ex C s ρ = .nx ρ1) : exs C (.cons s ss) ρ = exs C ss ρ1 := by rw [exs, h]; rfl
theorem seq_rt_c {s : S} {ss : Ss} {d : D} (h : ex C s ρ = .rt d ρ1) : exs C (.cons s ss) ρ = .rt d ρ1 := by rw [exs, h]; rfl
theorem seq_if {c : E} {a b ss : Ss} {t : Bool} (h : ev C c ρ = .ok (.p (.bool t)) ρ1) : exs C (.cons (.ife c a b) ss) ρ = (if t then exs C a ρ1 else exs C b ρ1).seq (exs C ss) := by rw [exs, ife_c h]
theorem asg_c {i : Nat} {e : E} {d : D} (h : ev C e ρ = .ok d ρ1) (hb : C.bor i = false) (hi : i < ρ1.length) : ex C (.asg (.v i) e) ρ = .nx (ρ1.put i d) := by
  rw [ex, h]
  show Rs.fl (asgG C (.v i) d ρ1) _ = _
  rw [asgG.eq_def]
  dsimp only
  unfold putS
  rw [if_pos ⟨hb, hi⟩]
  rfl
theorem ret_c {e : E} {d : D} (hv : ∀ i, e ≠ .var i) (h : ev C e ρ = .ok d ρ1) : ex C (.ret e) ρ = .rt d ρ1 := by
  rw [ex]
  · rw [h]; rfl
  · exact hv
theorem nil_c : exs C .nil ρ = .nx ρ := by rw [exs]
theorem chain_c {o1 o2 : CmpOp} {a b c : E} {da db dc : D} {x y : Bool} (h1 : ev C a ρ = .ok da ρ) (h2 : ev C b ρ = .ok db ρ) (h3 : cmpD o1 da db = some x) (h4 : x = true → ev C c ρ = .ok dc ρ ∧ cmpD o2 db dc = some y) : ev C (.chain o1 o2 a b c) ρ = .ok (.p (.bool (x && y))) ρ := by
  rw [ev, h1]
  simp only [bind_ok]
  rw [h2]
  simp only [bind_ok]
  rw [h3]
  cases x with
  | false => rfl
  | true =>
    obtain ⟨e1, e2⟩ := h4 rfl
    dsimp only
    rw [e1]
    simp only [bind_ok]
    rw [e2]
    rfl
end
end Pv

/-! Pv, part St: steps for walks, in the form "what is left". -/
namespace Pv
open PySem PySem.Spec L2
section
variable {C : Ctx} {ρ ρ1 ρ2 : Env} {R : Fl}
theorem st_s {s : S} {ss : Ss} (h : ex C s ρ = .nx ρ2) (k : exs C ss ρ2 = R) : exs C (.cons s ss) ρ = R := (seq_c h).trans k
theorem asg_s {i : Nat} {e : E} {ss : Ss} {d : D} (h : ev C e ρ = .ok d ρ1) (hb : C.bor i = false) (hi : i < ρ1.length) (he : ρ1.put i d = ρ2) (k : exs C ss ρ2 = R) : exs C (.cons (.asg (.v i) e) ss) ρ = R := st_s (he ▸ asg_c h hb hi) k
theorem ret_s {e : E} {ss : Ss} {d : D} (hv : ∀ i, e ≠ .var i) (h : ev C e ρ = .ok d ρ1) : exs C (.cons (.ret e) ss) ρ = .rt d ρ1 := seq_rt_c (ret_c hv h)
theorem evT_b {c : E} {t : Bool} (h : ev C c ρ = .ok (.p (.bool t)) ρ1) : evT C c ρ = .ok t ρ1 := by unfold evT; rw [h]; rfl
theorem ex_if {c : E} {a b : Ss} {t : Bool} (h : evT C c ρ = .ok t ρ1) : ex C (.ife c a b) ρ = if t then exs C a ρ1 else exs C b ρ1 := by rw [ex, h]; rfl
theorem ift_rt {c : E} {a b ss : Ss} {d : D} (h : evT C c ρ = .ok true ρ1) (k : exs C a ρ1 = .rt d ρ2) : exs C (.cons (.ife c a b) ss) ρ = .rt d ρ2 := by
  rw [exs, ex_if h, if_pos rfl, k]; rfl
theorem iff_rt {c : E} {a b ss : Ss} {d : D} (h : evT C c ρ = .ok false ρ1) (k : exs C b ρ1 = .rt d ρ2) : exs C (.cons (.ife c a b) ss) ρ = .rt d ρ2 := by
  rw [exs, ex_if h, if_neg Bool.false_ne_true, k]; rfl
theorem ift_nx {c : E} {a b ss : Ss} (h : evT C c ρ = .ok true ρ1) (ka : exs C a ρ1 = .nx ρ2) (k : exs C ss ρ2 = R) : exs C (.cons (.ife c a b) ss) ρ = R := by
  rw [exs, ex_if h, if_pos rfl, ka]; exact k
theorem iff_nx {c : E} {a b ss : Ss} (h : evT C c ρ = .ok false ρ1) (kb : exs C b ρ1 = .nx ρ2) (k : exs C ss ρ2 = R) : exs C (.cons (.ife c a b) ss) ρ = R := by
  rw [exs, ex_if h, if_neg Bool.false_ne_true, kb]; exact k
theorem iff_s {c : E} {a ss : Ss} (h : evT C c ρ = .ok false ρ1) (k : exs C ss ρ1 = R) : exs C (.cons (.ife c a .nil) ss) ρ = R := iff_nx h nil_c k
/-- if c: return d -/
theorem if_rt {c : E} {a ss : Ss} {t : Bool} {d d2 : D} {ρ3 : Env} (h : evT C c ρ = .ok t ρ1) (ka : t = true → exs C a ρ1 = .rt d ρ2) (kb : t = false → exs C ss ρ1 = .rt d2 ρ3) : exs C (.cons (.ife c a .nil) ss) ρ = if t then .rt d ρ2 else .rt d2 ρ3 := by
  cases t with
  | true => exact ift_rt h (ka rfl)
  | false => exact iff_s h (kb rfl)
theorem for_c {t : T} {it : It} {b : Ss} {xs : List PD} (hi : evI C it ρ = .ok xs ρ1) (hl : forL C t (exs C b) xs ρ1 = R) : ex C (.fore t it b) ρ = R := by rw [ex, hi]; exact hl
theorem for_s {t : T} {it : It} {b ss : Ss} {xs : List PD} (hi : evI C it ρ = .ok xs ρ1) (hl : forL C t (exs C b) xs ρ1 = .nx ρ2) (k : exs C ss ρ2 = R) : exs C (.cons (.fore t it b) ss) ρ = R := st_s (for_c hi hl) k
theorem for_rt {t : T} {it : It} {b ss : Ss} {xs : List PD} {d : D} (hi : evI C it ρ = .ok xs ρ1) (hl : forL C t (exs C b) xs ρ1 = .rt d ρ2) : exs C (.cons (.fore t it b) ss) ρ = .rt d ρ2 := seq_rt_c (for_c hi hl)
theorem forL_nil {t : T} {b : Env → Fl} : forL C t b [] ρ = .nx ρ := by rw [forL]
theorem forL_cons {t : T} {b : Env → Fl} {x : PD} {xs : List PD} (ha : forL.asgF C t x ρ = some ρ1) (hb : b ρ1 = .nx ρ2) (k : forL C t b xs ρ2 = R) : forL C t b (x :: xs) ρ = R := by
  rw [forL, ha]; dsimp only; rw [hb]; exact k
theorem forL_rt {t : T} {b : Env → Fl} {x : PD} {xs : List PD} {d : D} (ha : forL.asgF C t x ρ = some ρ1) (hb : b ρ1 = .rt d ρ2) : forL C t b (x :: xs) ρ = .rt d ρ2 := by
  rw [forL, ha]; dsimp only; rw [hb]
theorem whl_s {c : E} {b ss : Ss} (hw : wS (evT C c) (exs C b) ρ = .nx ρ2) (k : exs C ss ρ2 = R) : exs C (.cons (.whl c b) ss) ρ = R := st_s (by rw [ex]; exact hw) k
theorem wS_f {c : Env → Rs Bool} {b : Env → Fl} (hc : c ρ = .ok false ρ1) : wS c b ρ = .nx ρ1 := by rw [wS_step, hc]
theorem wS_t {c : Env → Rs Bool} {b : Env → Fl} (hc : c ρ = .ok true ρ1) (hb : b ρ1 = .nx ρ2) (k : wS c b ρ2 = R) : wS c b ρ = R := by rw [wS_step, hc]; dsimp only; rw [hb]; exact k
theorem runB_rt {B : Nat → List D → CR} {f : Fn} {ds es : List D} {d : D} (hl : decide (ds.length = f.params.length ∧ ds.length ≤ f.names.length) = true) (h : exs ⟨borOf ds, B⟩ f.body (start f ds) = .rt d ρ) (ht : takeD ds.length ρ = es) : runB B f ds = .ok d es := by
  unfold runB
  rw [if_pos (of_decide_eq_true hl), h]
  exact congrArg _ ht
theorem runB_nx {B : Nat → List D → CR} {f : Fn} {ds es : List D} (hl : decide (ds.length = f.params.length ∧ ds.length ≤ f.names.length) = true) (h : exs ⟨borOf ds, B⟩ f.body (start f ds) = .nx ρ) (ht : takeD ds.length ρ = es) : runB B f ds = .ok (.p .none) es := by
  unfold runB
  rw [if_pos (of_decide_eq_true hl), h]
  exact congrArg _ ht
/-! expressions -/
theorem prim1 {p : Prim} {e : E} {d r : D} (hv : ∀ i, e ≠ .var i) (h : ev C e ρ = .ok d ρ1) (hp : prD p [d] = some r) : ev C (.prim p (.cons e .nil)) ρ = .ok r ρ1 := by
  have : evA C (.cons e .nil) ρ = .ok [.v d] ρ1 := by
    rw [evA]
    · rw [h]; rfl
    · exact hv
  rw [ev, this]
  simp only [bind_ok, args_v, args_nil, Option.map_some, hp, ofO_some]
theorem prim2 {p : Prim} {e f : E} {a b r : D} (hv : ∀ i, e ≠ .var i) (hv2 : ∀ i, f ≠ .var i) (h : ev C e ρ = .ok a ρ1) (h2 : ev C f ρ1 = .ok b ρ2) (hp : prD p [a, b] = some r) : ev C (.prim p (.cons e (.cons f .nil))) ρ = .ok r ρ2 := by
  have q : evA C (.cons f .nil) ρ1 = .ok [.v b] ρ2 := by
    rw [evA]
    · rw [h2]; rfl
    · exact hv2
  have : evA C (.cons e (.cons f .nil)) ρ = .ok [.v a, .v b] ρ2 := by
    rw [evA]
    · rw [h]; simp only [bind_ok]; rw [q]; rfl
    · exact hv
  rw [ev, this]
  simp only [bind_ok, args_v, args_nil, Option.map_some, hp, ofO_some]
/-- by the arguments -/
theorem prim_c {p : Prim} {es : Es} {as : List Arg} {ds : List D} {r : D} (h : evA C es ρ = .ok as ρ1) (hg : argsGet ρ1 as = some ds) (hp : prD p ds = some r) : ev C (.prim p es) ρ = .ok r ρ1 := by
  rw [ev, h]
  simp only [bind_ok, hg, hp, ofO_some]
theorem call_c {f : Nat} {src : List (Option PD)} {es kes : Es} {as bs : List Arg} {ds ps qs : List D} {d : D} {ρ3 : Env} {bor : Nat → Bool} {B : Nat → List D → CR} (h : evA ⟨bor, B⟩ es ρ = .ok as ρ1) (h2 : evA ⟨bor, B⟩ kes ρ1 = .ok bs ρ2) (hg : argsGet ρ2 (as ++ bs) = some ds) (hf : fill src ds = some ps)
    (hn : nodupB ((lent ρ2 (as ++ bs)).filterMap id) = true) (hB : B f ps = .ok d qs) (he : giveBack (lent ρ2 (as ++ bs)) (unfill src qs) (wipeE ρ2 ((lent ρ2 (as ++ bs)).filterMap id)) = ρ3) : ev ⟨bor, B⟩ (.call f src es kes) ρ = .ok d ρ3 := by
  rw [ev, h]
  simp only [bind_ok]
  rw [h2]
  simp only [bind_ok]
  unfold doCall
  rw [hg]
  dsimp only
  rw [hf]
  dsimp only
  rw [if_pos hn]
  show (match B f ps with | .ok d es => _ | .exc x es => _ | .bad => _) = _
  rw [hB]
  dsimp only
  rw [he]
theorem tup_c {es : Es} {ds : List D} {l : List PD} (h : evL C es ρ = .ok ds ρ1) (hl : fzAll ds = some l) (hn : l.length ≤ line) : ev C (.tup es) ρ = .ok (.p (.tuple l)) ρ1 := by
  rw [ev, h]; simp only [bind_ok]; rw [hl]; dsimp only; rw [if_pos hn]
theorem lst_c {es : Es} {ds : List D} {d : D} (h : evL C es ρ = .ok ds ρ1) (hn : ds.length ≤ line) (hl : mkL ds = some d) : ev C (.lst es) ρ = .ok d ρ1 := by
  rw [ev, h]; simp only [bind_ok]; rw [if_pos hn, hl]; rfl
theorem evL_c {e : E} {es : Es} {d : D} {ds : List D} (h : ev C e ρ = .ok d ρ1) (k : evL C es ρ1 = .ok ds ρ2) : evL C (.cons e es) ρ = .ok (d :: ds) ρ2 := by
  rw [evL, h]; simp only [bind_ok]; rw [k]; rfl
theorem evL_n : evL C .nil ρ = .ok [] ρ := by rw [evL]
theorem evA_c {e : E} {es : Es} {d : D} {ds : List Arg} (hv : ∀ i, e ≠ .var i) (h : ev C e ρ = .ok d ρ1) (k : evA C es ρ1 = .ok ds ρ2) : evA C (.cons e es) ρ = .ok (.v d :: ds) ρ2 := by
  rw [evA]
  · rw [h]; simp only [bind_ok]; rw [k]; rfl
  · exact hv
theorem evA_v {i : Nat} {es : Es} {ds : List Arg} (h : (ρ.at_ i).isSome = true) (k : evA C es ρ = .ok ds ρ2) : evA C (.cons (.var i) es) ρ = .ok (.s i :: ds) ρ2 := by
  rw [evA, if_pos h, k]; rfl
theorem evA_n : evA C .nil ρ = .ok [] ρ := by rw [evA]
/-! a pure comprehension -/
theorem backE_at {ρ0 ρ : Env} : ∀ (own : List Nat) (i : Nat), (backE ρ0 ρ own).length = ρ.length ∧ (backE ρ0 ρ own)[i]? = if own.contains i ∧ i < ρ.length then some (ρ0.at_ i) else ρ[i]?
  | [], i => ⟨rfl, rfl⟩
  | v :: vs, i => by
    obtain ⟨hl, hi⟩ := backE_at (ρ0 := ρ0) (ρ := ρ) vs i
    refine ⟨by unfold backE; rw [List.length_set]; exact hl, ?_⟩
    unfold backE
    rw [List.getElem?_set, hi, hl]
    by_cases e : v = i
    · subst e
      by_cases g : v < ρ.length
      · simp [g]
      · simp [g]
    · have e2 : (i == v) = false := beq_eq_false_iff_ne.mpr (fun z => e z.symm)
      rw [if_neg e, List.contains_cons, e2, Bool.false_or]
theorem wipeE_at {ρ : Env} : ∀ (own : List Nat) (i : Nat), (wipeE ρ own).length = ρ.length ∧ (wipeE ρ own)[i]? = if own.contains i ∧ i < ρ.length then some none else ρ[i]?
  | [], i => ⟨rfl, rfl⟩
  | v :: vs, i => by
    obtain ⟨hl, hi⟩ := wipeE_at (ρ := ρ) vs i
    refine ⟨by unfold wipeE; rw [List.length_set]; exact hl, ?_⟩
    unfold wipeE
    rw [List.getElem?_set, hi, hl]
    by_cases e : v = i
    · subst e
      by_cases g : v < ρ.length
      · simp [g]
      · simp [g]
    · have e2 : (i == v) = false := beq_eq_false_iff_ne.mpr (fun z => e z.symm)
      rw [if_neg e, List.contains_cons, e2, Bool.false_or]
theorem backE_self {ρ0 ρ : Env} {own : List Nat} (h : wipeE ρ own = wipeE ρ0 own) : backE ρ0 ρ own = ρ0 := by
  have hl : ρ.length = ρ0.length := by
    have := congrArg List.length h
    rw [(wipeE_at own 0).1, (wipeE_at own 0).1] at this
    exact this
  refine List.ext_getElem? fun i => ?_
  rw [(backE_at own i).2]
  have hi : (wipeE ρ own)[i]? = (wipeE ρ0 own)[i]? := congrArg (fun l => l[i]?) h
  rw [(wipeE_at own i).2, (wipeE_at own i).2, hl] at hi
  rw [hl]
  by_cases c : own.contains i = true ∧ i < ρ0.length
  · rw [if_pos c]
    unfold Env.at_
    rw [List.getElem?_eq_getElem c.2]
    rfl
  · rw [if_neg c]
    rw [if_neg c, if_neg c] at hi
    exact hi
theorem wipeE_wipeE {own : List Nat} : wipeE (wipeE ρ own) own = wipeE ρ own := by
  refine List.ext_getElem? fun i => ?_
  rw [(wipeE_at own i).2, (wipeE_at own i).2, (wipeE_at own i).1]
  by_cases c : own.contains i = true ∧ i < ρ.length
  · rw [if_pos c, if_pos c]
  · rw [if_neg c]
theorem lcLoop_pure {step : PD → Env → Rs (Option D)} {g : PD → Option D} {own : List Nat} (ρ0 : Env) : ∀ (xs : List PD), (∀ x ∈ xs, ∀ ρ, wipeE ρ own = wipeE ρ0 own → ∃ ρ', step x ρ = .ok (g x) ρ' ∧ wipeE ρ' own = wipeE ρ0 own) →
    ∀ ρ, wipeE ρ own = wipeE ρ0 own → ∃ ρ', lcLoop step xs ρ = .ok (xs.filterMap g) ρ' ∧ wipeE ρ' own = wipeE ρ0 own
  | [], _, ρ, h => ⟨ρ, rfl, h⟩
  | x :: xs, hx, ρ, h => by
    obtain ⟨ρ1, e1, w1⟩ := hx x List.mem_cons_self ρ h
    obtain ⟨ρ2, e2, w2⟩ := lcLoop_pure ρ0 xs (fun y hy => hx y (List.mem_cons_of_mem _ hy)) ρ1 w1
    refine ⟨ρ2, ?_, w2⟩
    rw [lcLoop, e1]
    dsimp only
    rw [e2]
    dsimp only
    rw [List.filterMap_cons]
    cases g x <;> rfl
/-- the step's own slots are wiped first -/
theorem lc_pure {elt : E} {tg : T} {it : It} {ifs : Es} {own : List Nat} {xs : List PD} {g : PD → Option D} {d : D} (hi : evI C it ρ = .ok xs ρ1)
    (hown : own.all (fun v => !C.bor v && (match ρ1.at_ v with | some d => !d.isOwn | none => true)) = true)
    (hx : ∀ x ∈ xs, ∃ ρx b, asgT tg x (wipeE ρ1 own) = some ρx ∧ wipeE ρx own = wipeE ρ1 own ∧ evC C ifs ρx = .ok b ρx ∧ (if b then ∃ y, g x = some y ∧ ev C elt ρx = .ok y ρx else g x = none))
    (hl : (xs.filterMap g).length ≤ line) (hm : mkR own (xs.filterMap g) = some d) : ev C (.lc elt tg it ifs own) ρ = .ok d ρ1 := by
  rw [ev, hi]
  simp only [bind_ok]
  refine (if_neg (fun z => ?_)).trans ?_
  · exact absurd ((Eq.symm hown).trans z) Bool.noConfusion
  obtain ⟨ρ2, e, w⟩ := lcLoop_pure (step := fun x ρ => match asgT tg x (wipeE ρ own) with
        | some ρ2 => (evC C ifs ρ2).bind fun b ρ3 => if b then (ev C elt ρ3).bind fun d ρ4 => .ok (some d) ρ4 else .ok none ρ3
        | none => .bad) (g := g) ρ1 xs (fun x hxs ρ' hw => by
      obtain ⟨ρx, b, a1, a2, a3, a4⟩ := hx x hxs
      rw [hw, a1]
      dsimp only
      rw [a3]
      simp only [bind_ok]
      cases b with
      | true =>
        obtain ⟨y, b1, b2⟩ := a4
        rw [if_pos rfl, b2, b1]
        exact ⟨ρx, rfl, a2⟩
      | false =>
        have a4 : g x = none := a4
        rw [if_neg Bool.false_ne_true, a4]
        exact ⟨ρx, rfl, a2⟩) ρ1 rfl
  refine (congrArg (fun r => match r with
    | Rs.ok ds ρ2 => if ds.length ≤ line then Rs.ofO (mkR own ds) (backE ρ1 ρ2 own) else Rs.bad
    | Rs.exc x ρ2 => Rs.exc x ρ2
    | Rs.bad => Rs.bad) e).trans ?_
  dsimp only
  rw [if_pos hl, hm, backE_self w]
  rfl
/-- without ifs -/
theorem lc_map {elt : E} {tg : T} {it : It} {own : List Nat} {xs : List PD} {g : PD → D} {d : D} (hi : evI C it ρ = .ok xs ρ1)
    (hown : own.all (fun v => !C.bor v && (match ρ1.at_ v with | some d => !d.isOwn | none => true)) = true)
    (hx : ∀ x ∈ xs, ∃ ρx, asgT tg x (wipeE ρ1 own) = some ρx ∧ wipeE ρx own = wipeE ρ1 own ∧ ev C elt ρx = .ok (g x) ρx)
    (hl : xs.length ≤ line) (hm : mkR own (xs.map g) = some d) : ev C (.lc elt tg it .nil own) ρ = .ok d ρ1 := by
  have e : xs.filterMap (fun x => some (g x)) = xs.map g := congrFun List.filterMap_eq_map xs
  refine lc_pure (g := fun x => some (g x)) hi hown (fun x hxs => ?_) (by rw [e, List.length_map]; exact hl) (by rw [e]; exact hm)
  obtain ⟨ρx, a1, a2, a3⟩ := hx x hxs
  exact ⟨ρx, true, a1, a2, by rw [evC], g x, rfl, a3⟩
theorem allP_map (l : List PD) : allP (l.map .p) = some l := by
  induction l with
  | nil => rfl
  | cons x l ih => rw [List.map_cons, allP, ih]; rfl
theorem mkL_p {α : Type} (xs : List α) (f : α → PD) : mkL (xs.map fun x => .p (f x)) = some (.own (xs.map f)) := by
  have : (xs.map fun x => D.p (f x)) = (xs.map f).map .p := by rw [List.map_map]; rfl
  rw [this]; unfold mkL; rw [allP_map]
theorem fzAll_p {α : Type} (xs : List α) (f : α → PD) : fzAll (xs.map fun x => .p (f x)) = some (xs.map f) := by
  induction xs with
  | nil => rfl
  | cons x l ih => rw [List.map_cons, fzAll, ih]; rfl
theorem mkR_p {own : List Nat} {α : Type} (xs : List α) (f : α → PD) : mkR own (xs.map fun x => .p (f x)) = some (.own (xs.map f)) := by
  unfold mkR
  split
  · split
    · rw [fzAll_p]; rfl
    · exact mkL_p xs f
  · exact mkL_p xs f
theorem boolsP_map {α : Type} (xs : List α) (f : α → Bool) : boolsP (xs.map fun x => .bool (f x)) = some (xs.map f) := by
  induction xs with
  | nil => rfl
  | cons x l ih => rw [List.map_cons, boolsP, ih]; rfl
theorem all_own {α : Type} (xs : List α) (f : α → Bool) : prD (.bf .all) [.own (xs.map fun x => .bool (f x))] = some (.p (.bool (xs.all f))) := by
  show (Option.bind (some (xs.map fun x => PyData.bool (f x))) fun l => (boolsP l).map fun bs => D.p (.bool (bs.all id))) = _
  simp only [Option.bind_some, boolsP_map, Option.map_some, List.all_map]
  rfl
end
end Pv

/-! Pv, part Sh: what is shown. -/
namespace Pv
open PySem PySem.Spec L2
theorem char_lt (c : Char) : c.toNat < 0x110000 := by
  have h := c.valid
  have : c.toNat = c.val.toNat := rfl
  rcases h with h | h
  · rw [this]; have : c.val.toNat < 0xd800 := h; omega
  · rw [this]; have : c.val.toNat < 0x110000 := h.2; omega
def okC (l : List Nat) : Prop := ∀ c ∈ l, c < 0x110000
theorem strOk_iff {x : Str} : PyData.strOk x = true ↔ okC x.cps.toList := by
  unfold PyData.strOk okC
  rw [Array.all_eq_true_iff_forall_mem]
  constructor
  · intro h c hc; exact of_decide_eq_true (h c (Array.mem_toList_iff.mp hc))
  · intro h c hc; exact decide_eq_true (h c (Array.mem_toList_iff.mpr hc))
theorem strOk_app {a b : Str} (h1 : PyData.strOk a = true) (h2 : PyData.strOk b = true) : PyData.strOk (a ++ b) = true := by
  rw [strOk_iff] at *
  show okC (a.cps ++ b.cps).toList
  rw [Array.toList_append]
  intro c hc
  rcases List.mem_append.mp hc with h | h
  · exact h1 c h
  · exact h2 c h
theorem strOk_of (s : String) : PyData.strOk (Str.ofString s) = true := by
  rw [strOk_iff, Str.ofString_eq_toList]
  intro c hc
  obtain ⟨x, _, e⟩ := List.mem_map.mp hc
  rw [← e]; exact char_lt x
theorem strOk_join {sep : Str} (hs : PyData.strOk sep = true) : ∀ {ts : List Str}, (∀ t ∈ ts, PyData.strOk t = true) → PyData.strOk (Str.join sep ts) = true
  | [], _ => by rw [strOk_iff]; exact fun c hc => nomatch hc
  | [x], h => h x List.mem_cons_self
  | x :: y :: r, h => strOk_app (strOk_app (h x List.mem_cons_self) hs) (strOk_join hs fun t ht => h t (List.mem_cons_of_mem _ ht))
theorem strOk_from : ∀ {ts : List Str} {k : Nat} {acc : Str}, PyData.strOk acc = true → (∀ t ∈ ts, PyData.strOk t = true) → PyData.strOk (textFrom k acc ts) = true
  | [], _, _, h, _ => h
  | t :: ts, k, acc, h, ht => by
    unfold textFrom
    exact strOk_from (ts := ts) (strOk_app (strOk_app h (strOk_of _)) (ht t List.mem_cons_self)) fun u hu => ht u (List.mem_cons_of_mem _ hu)
theorem okC_reprChar {q c : Nat} (hc : c < 0x110000) : okC (Builtin.Str.reprChar q c) := by
  have hx : ∀ n, okC (List.replicate n 48 ++ (Nat.toDigits 16 c).map Char.toNat) := by
    intro n x hx
    rcases List.mem_append.mp hx with h | h
    · rw [(List.mem_replicate.mp h).2]; decide
    · obtain ⟨y, _, e⟩ := List.mem_map.mp h
      rw [← e]; exact char_lt y
  have h2 : ∀ {a b : Nat} {l : List Nat}, a < 0x110000 → b < 0x110000 → okC l → okC ([a, b] ++ l) := by
    intro a b l ha hb hl x hx
    rcases List.mem_append.mp hx with h | h
    · rcases List.mem_cons.mp h with h | h
      · rw [h]; exact ha
      · rw [List.mem_singleton.mp h]; exact hb
    · exact hl x h
  have h0 : okC [] := fun x hx => nomatch hx
  have p2 : ∀ {a b : Nat}, a < 0x110000 → b < 0x110000 → okC [a, b] := fun ha hb => h2 ha hb h0
  unfold Builtin.Str.reprChar
  dsimp only
  split
  · exact p2 (by decide) hc
  split
  · exact p2 (by decide) (by decide)
  split
  · exact p2 (by decide) (by decide)
  split
  · exact p2 (by decide) (by decide)
  split
  · intro x hx; rw [List.mem_singleton.mp hx]; exact hc
  split
  · exact h2 (by decide) (by decide) (hx _)
  split
  · exact h2 (by decide) (by decide) (hx _)
  · exact h2 (by decide) (by decide) (hx _)
theorem strOk_reprText {x : Str} (h : PyData.strOk x = true) : PyData.strOk (reprText x) = true := by
  have hq : reprQuote x < 0x110000 := by unfold reprQuote; split <;> decide
  rw [strOk_iff] at *
  have fold : ∀ (l : List Nat) (acc : Array Nat), okC l → okC acc.toList → okC (l.foldl (fun out c => out ++ (Builtin.Str.reprChar (reprQuote x) c).toArray) acc).toList := by
    intro l
    induction l with
    | nil => intro acc _ ha; exact ha
    | cons c l ih =>
      intro acc hl ha
      refine ih _ (fun y hy => hl y (List.mem_cons_of_mem _ hy)) ?_
      rw [Array.toList_append]
      intro y hy
      rcases List.mem_append.mp hy with g | g
      · exact ha y g
      · exact okC_reprChar (hl c List.mem_cons_self) y g
  show okC ((x.cps.foldl (fun out c => out ++ (Builtin.Str.reprChar (reprQuote x) c).toArray) #[reprQuote x]).push (reprQuote x)).toList
  rw [Array.toList_push, ← Array.foldl_toList]
  intro y hy
  rcases List.mem_append.mp hy with g | g
  · exact fold _ _ h (fun z hz => by rw [List.mem_singleton.mp hz]; exact hq) y g
  · rw [List.mem_singleton.mp g]; exact hq
mutual
theorem strOk_shown : ∀ {d : PD}, d.canLay0 = true → PyData.strOk d.shown = true
  | .none, _ => by decide +kernel
  | .bool true, _ => by decide +kernel
  | .bool false, _ => by decide +kernel
  | .int i, _ => strOk_of _
  | .str x, h => strOk_reprText (by simpa only [PyData.canLay0] using h)
  | .list xs, h => by
    have h' : PyData.canLayAll0 xs = true := by simpa only [PyData.canLay0] using h
    show PyData.strOk (textFrom 0 "[" (PyData.shownAll xs) ++ "]") = true
    exact strOk_app (strOk_from (strOk_of _) (strOk_shownAll h')) (strOk_of _)
  | .tuple xs, h => by
    have h' : PyData.canLayAll0 xs = true := by simpa only [PyData.canLay0] using h
    show PyData.strOk (("(" : Str) ++ Str.join ", " (PyData.shownAll xs) ++ (if (PyData.shownAll xs).length == 1 then ",)" else ")" : String)) = true
    exact strOk_app (strOk_app (strOk_of _) (strOk_join (strOk_of _) (strOk_shownAll h'))) (strOk_of _)
  | .dict _, h => by simp only [PyData.canLay0] at h; cases h
theorem strOk_shownAll : ∀ {ds : List PD}, PyData.canLayAll0 ds = true → ∀ t ∈ PyData.shownAll ds, PyData.strOk t = true
  | [], _ => fun t ht => nomatch ht
  | d :: ds, h => by
    have h' : d.canLay0 = true ∧ PyData.canLayAll0 ds = true := by simpa only [PyData.canLayAll0, Bool.and_eq_true] using h
    intro t ht
    rcases List.mem_cons.mp ht with e | e
    · rw [e]; exact strOk_shown h'.1
    · exact strOk_shownAll h'.2 t e
end
/-! a bound of what is shown -/
mutual
def sz : PD → Nat
  | .none => 4
  | .bool _ => 5
  | .int i => (PyData.shown (.int i)).length
  | .str x => (reprText x).length
  | .list xs => szAll xs + 3
  | .tuple xs => szAll xs + 3
  | .dict _ => 0
def szAll : List PD → Nat
  | [] => 0
  | x :: xs => sz x + 2 + szAll xs
end
theorem szAll_app : ∀ {a b : List PD}, szAll (a ++ b) = szAll a + szAll b
  | [], b => by rw [List.nil_append, szAll]; omega
  | x :: a, b => by rw [List.cons_append, szAll, szAll, szAll_app (a := a)]; omega
mutual
theorem shown_sz : ∀ {d : PD}, d.canLay0 = true → d.shown.length ≤ sz d
  | .none, _ => by unfold sz; exact Nat.le_of_eq rfl
  | .bool true, _ => by unfold sz; exact (by decide +kernel : (PyData.shown (.bool true)).length ≤ 5)
  | .bool false, _ => by unfold sz; exact (by decide +kernel : (PyData.shown (.bool false)).length ≤ 5)
  | .int i, _ => by unfold sz; exact Nat.le_refl _
  | .str x, _ => by unfold sz; exact Nat.le_refl _
  | .list xs, h => by
    have h' : PyData.canLayAll0 xs = true := by simpa only [PyData.canLay0] using h
    have h1 := shown_szAll h'
    have h2 := listText_len_le (PyData.shownAll xs)
    rw [PyData.shownAll_length] at h2
    show (listText (PyData.shownAll xs)).length ≤ _
    unfold sz
    omega
  | .tuple xs, h => by
    have h' : PyData.canLayAll0 xs = true := by simpa only [PyData.canLay0] using h
    have h1 := shown_szAll h'
    have h2 := tupleText_len_le (PyData.shownAll xs)
    rw [PyData.shownAll_length] at h2
    show (tupleText (PyData.shownAll xs)).length ≤ _
    unfold sz
    omega
  | .dict _, h => by simp only [PyData.canLay0] at h; cases h
theorem shown_szAll : ∀ {ds : List PD}, PyData.canLayAll0 ds = true → ((PyData.shownAll ds).map (·.length)).sum + 2 * ds.length ≤ szAll ds
  | [], _ => by unfold szAll; exact Nat.le_refl _
  | d :: ds, h => by
    have h' : d.canLay0 = true ∧ PyData.canLayAll0 ds = true := by simpa only [PyData.canLayAll0, Bool.and_eq_true] using h
    have h1 := shown_sz h'.1
    have h2 := shown_szAll h'.2
    unfold szAll
    show ((d.shown :: PyData.shownAll ds).map (·.length)).sum + 2 * (ds.length + 1) ≤ _
    rw [List.map_cons, List.sum_cons]
    omega
end
/-- a value that may be shown and compared: deep at most n, shown in at most B signs -/
structure Nice (n B : Nat) (d : PD) : Prop where
  lay : d.canLay0 = true
  show_ : d.showable = true
  deep : d.depth ≤ n
  size : sz d ≤ B
structure NiceL (n B : Nat) (l : List PD) : Prop where
  lay : PyData.canLayAll0 l = true
  show_ : PyData.showableAll l = true
  deep : PyData.depthAll l ≤ n
  size : szAll l ≤ B
theorem Nice.shaped {n B : Nat} {d : PD} (h : Nice n B d) (hn : n ≤ 64) : SeqAt.shaped d = true := by
  have := h.deep
  unfold SeqAt.shaped
  rw [h.lay, Bool.true_and]
  exact decide_eq_true (by omega)
theorem Nice.repr {n B : Nat} {d : PD} (h : Nice n B d) (hn : n ≤ 64) (hB : B ≤ line) : reprD (.p d) = some (.p (.str d.shown)) := by
  unfold reprD
  rw [pd_p, Option.bind_some, if_pos ⟨h.shaped hn, h.show_, Nat.le_trans (shown_sz h.lay) (Nat.le_trans h.size hB)⟩]
theorem Nice.mono {n B n' B' : Nat} {d : PD} (h : Nice n B d) (hn : n ≤ n') (hB : B ≤ B') : Nice n' B' d := ⟨h.lay, h.show_, Nat.le_trans h.deep hn, Nat.le_trans h.size hB⟩
theorem NiceL.mono {n B n' B' : Nat} {d : List PD} (h : NiceL n B d) (hn : n ≤ n') (hB : B ≤ B') : NiceL n' B' d := ⟨h.lay, h.show_, Nat.le_trans h.deep hn, Nat.le_trans h.size hB⟩
theorem nice_tuple {n B : Nat} {l : List PD} (h : NiceL n B l) : Nice (n + 1) (B + 3) (.tuple l) :=
  ⟨by simpa only [PyData.canLay0] using h.lay, by simpa only [PyData.showable] using h.show_, by have := h.deep; simp only [PyData.depth]; omega, by have := h.size; unfold sz; omega⟩
theorem nice_list {n B : Nat} {l : List PD} (h : NiceL n B l) : Nice (n + 1) (B + 3) (.list l) :=
  ⟨by simpa only [PyData.canLay0] using h.lay, by simpa only [PyData.showable] using h.show_, by have := h.deep; simp only [PyData.depth]; omega, by have := h.size; unfold sz; omega⟩
theorem tuple_nice {n B : Nat} {l : List PD} (h : Nice n B (.tuple l)) : NiceL (n - 1) (B - 3) l ∧ 1 ≤ n ∧ 3 ≤ B :=
  ⟨⟨by have := h.lay; simpa only [PyData.canLay0] using this, by have := h.show_; simpa only [PyData.showable] using this, by have := h.deep; simp only [PyData.depth] at this; omega, by have := h.size; unfold sz at this; omega⟩,
   by have := h.deep; simp only [PyData.depth] at this; omega, by have := h.size; unfold sz at this; omega⟩
theorem niceL_nil {n B : Nat} : NiceL n B [] := ⟨rfl, rfl, Nat.zero_le _, Nat.zero_le _⟩
theorem niceL_cons {n B n' B' : Nat} {d : PD} {l : List PD} (h : Nice n B d) (hl : NiceL n B' l) : NiceL n (B + 2 + B') (d :: l) :=
  ⟨by simp only [PyData.canLayAll0, h.lay, hl.lay, Bool.and_self], by simp only [PyData.showableAll, h.show_, hl.show_, Bool.and_self], by have := h.deep; have := hl.deep; simp only [PyData.depthAll]; omega, by have := h.size; have := hl.size; simp only [szAll]; omega⟩
theorem niceL_app : ∀ {n B B' : Nat} {a b : List PD}, NiceL n B a → NiceL n B' b → NiceL n (B + B') (a ++ b)
  | n, B, B', [], b, _, h => h.mono (Nat.le_refl _) (by omega)
  | n, B, B', x :: a, b, ha, hb => by
    have h1 := ha.lay; have h2 := ha.show_; have h3 := ha.deep; have h4 := ha.size
    simp only [PyData.canLayAll0, Bool.and_eq_true] at h1
    simp only [PyData.showableAll, Bool.and_eq_true] at h2
    simp only [PyData.depthAll] at h3
    simp only [szAll] at h4
    have ih := niceL_app (a := a) (B := B - sz x - 2) ⟨h1.2, h2.2, by omega, by omega⟩ hb
    have := niceL_cons (n' := 0) (B' := B - sz x - 2 + B') (d := x) (B := sz x) ⟨h1.1, h2.1, by omega, Nat.le_refl _⟩ ih
    exact this.mono (Nat.le_refl _) (by omega)
theorem nice_none {n : Nat} : Nice n 4 .none := ⟨rfl, rfl, Nat.zero_le _, by unfold sz; exact Nat.le_refl _⟩
theorem nice_bool {n : Nat} {b : Bool} : Nice n 5 (.bool b) := ⟨rfl, rfl, Nat.zero_le _, by unfold sz; exact Nat.le_refl _⟩
theorem nice_int {n : Nat} {i : Int} (h : i.natAbs < 10 ^ 12) : Nice n 13 (.int i) :=
  ⟨rfl, by
    simp only [PyData.showable, decide_eq_true_eq]
    by_cases z : i.natAbs = 0
    · rw [z]; decide
    · have := (Nat.log2_lt (k := 40) z).mpr (Nat.lt_of_lt_of_le h (by decide : 10 ^ 12 ≤ 2 ^ 40)); omega, Nat.zero_le _, by unfold sz; exact PyData.shown_int_le h⟩
end Pv

/-! Pv, part Tl: small tools. -/
namespace Pv
open PySem PySem.Spec L2
theorem sIx_int {n d : Nat} {i : Int} (h : 0 ≤ i) : HT.sIx n d (some i) = min i.toNat n := by
  show (if i < 0 then (i + (n : Int)).toNat else min i.toNat n) = min i.toNat n
  rw [if_neg (by omega)]
theorem cut_from {α : Type} {xs : List α} {i : Int} (h : 0 ≤ i) : cut xs (some i) none = xs.drop i.toNat := by
  unfold cut
  rw [sIx_int h, HT.sIx_none]
  by_cases g : i.toNat ≤ xs.length
  · rw [Nat.min_eq_left g, List.take_of_length_le (by rw [List.length_drop]; exact Nat.le_refl _)]
  · rw [Nat.min_eq_right (by omega), List.drop_length, List.drop_of_length_le (by omega), List.take_nil]
theorem cut_to {α : Type} {xs : List α} {i : Int} (h : 0 ≤ i) : cut xs none (some i) = xs.take i.toNat := by
  unfold cut
  rw [sIx_int h, HT.sIx_none, List.drop_zero, Nat.sub_zero]
  by_cases g : i.toNat ≤ xs.length
  · rw [Nat.min_eq_left g]
  · rw [Nat.min_eq_right (by omega), List.take_length, List.take_of_length_le (by omega)]
theorem cut_ft {α : Type} {xs : List α} {i j : Int} (h : 0 ≤ i) (hj : 0 ≤ j) : cut xs (some i) (some j) = (xs.drop i.toNat).take (j.toNat - i.toNat) := by
  unfold cut
  rw [sIx_int h, sIx_int hj]
  by_cases g : i.toNat ≤ xs.length
  · rw [Nat.min_eq_left g]
    by_cases g2 : j.toNat ≤ xs.length
    · rw [Nat.min_eq_left g2]
    · rw [Nat.min_eq_right (by omega), List.take_of_length_le (by rw [List.length_drop]; omega), List.take_of_length_le (by rw [List.length_drop]; omega)]
  · rw [List.drop_of_length_le (by omega), List.drop_of_length_le (by omega), List.take_nil, List.take_nil]
theorem eqD_sh {x y : PD} (hx : SeqAt.shaped x = true) (hy : SeqAt.shaped y = true) : eqD (.p x) (.p y) = some (PyData.eqv x y) := by
  unfold eqD; rw [pd_p, pd_p]; dsimp only; rw [if_pos ⟨hx, hy⟩]
def isS (s : Str) : PD → Bool
  | .str t => decide (t = s)
  | _ => false
theorem shaped_str {s : Str} (h : PyData.strOk s = true) : SeqAt.shaped (.str s) = true := by
  unfold SeqAt.shaped PyData.canLay0 PyData.depth; rw [h]; rfl
theorem eqD_s {x : PD} {s : Str} (hx : SeqAt.shaped x = true) (hs : PyData.strOk s = true) : eqD (.p x) (.p (.str s)) = some (isS s x) := by
  rw [eqD_sh hx (shaped_str hs)]
  cases x with
  | str t => show some (t == s) = some (decide (t = s)); rw [Bool.beq_eq_decide_eq]
  | _ => rfl
theorem shaped_all {l : List PD} (h : SeqAt.shaped (.tuple l) = true) : ∀ x ∈ l, SeqAt.shaped x = true := by
  unfold SeqAt.shaped at h
  rw [Bool.and_eq_true] at h
  obtain ⟨h1, h2⟩ := h
  have h2 := of_decide_eq_true h2
  simp only [PyData.canLay0] at h1
  simp only [PyData.depth] at h2
  have key : ∀ (l : List PD), PyData.canLayAll0 l = true → PyData.depthAll l + 1 ≤ 64 → ∀ x ∈ l, SeqAt.shaped x = true := by
    intro l
    induction l with
    | nil => intro _ _ x hx; cases hx
    | cons y l ih =>
      intro h1 h2 x hx
      simp only [PyData.canLayAll0, Bool.and_eq_true] at h1
      simp only [PyData.depthAll] at h2
      rcases List.mem_cons.mp hx with e | e
      · subst e
        unfold SeqAt.shaped
        rw [h1.1, Bool.true_and]
        exact decide_eq_true (by omega)
      · exact ih h1.2 (by omega) x e
  exact key l h1 h2
section
variable {C : Pv.Ctx} {ρ ρ1 ρ2 : Pv.Env}
theorem len_ne {i : Nat} {l : List PD} {k : Int} (h : ρ.at_ i = some (.p (.tuple l))) : ev C (.prim (.cmp .NotEq) (.cons (.prim (.bf .len) (.cons (.var i) .nil)) (.cons (.int k) .nil))) ρ = .ok (.p (.bool (!decide ((l.length : Int) = k)))) ρ := by
  refine prim2 (fun i z => by cases z) (fun i z => by cases z) (a := .p (.int l.length)) (b := .p (.int k)) (prim_c (as := [.s i]) (ds := [.p (.tuple l)]) (evA_v (by rw [h]; rfl) evA_n) (by rw [args_s h]; rfl) rfl) (by rw [ev]) ?_
  show (Option.map (fun c => D.p (.bool c)) ((eqD (.p (.int l.length)) (.p (.int k))).map (!·))) = _
  rw [eqD_int]; rfl
/-- e != 's' -/
theorem ne_s {e : E} {x : PD} {s : Str} (hv : ∀ i, e ≠ .var i) (h : ev C e ρ = .ok (.p x) ρ1) (hx : SeqAt.shaped x = true) (hs : PyData.strOk s = true) : ev C (.prim (.cmp .NotEq) (.cons e (.cons (.str s) .nil))) ρ = .ok (.p (.bool (!isS s x))) ρ1 := by
  refine prim2 hv (fun i z => by cases z) h (by rw [ev]) ?_
  show (Option.map (fun c => D.p (.bool c)) ((eqD (.p x) (.p (.str s))).map (!·))) = _
  rw [eqD_s hx hs]; rfl
theorem all_c {e : E} {α : Type} {xs : List α} {f : α → Bool} (hv : ∀ i, e ≠ .var i) (h : ev C e ρ = .ok (.own (xs.map fun x => .bool (f x))) ρ1) : ev C (.prim (.bf .all) (.cons e .nil)) ρ = .ok (.p (.bool (xs.all f))) ρ1 := prim1 hv h (all_own xs f)
/-- all([f(x) for x in ..]) -/
theorem all_lc {elt : E} {tg : T} {it : It} {own : List Nat} {xs : List PD} {f : PD → Bool} (hi : evI C it ρ = .ok xs ρ1)
    (hown : own.all (fun v => !C.bor v && (match ρ1.at_ v with | some d => !d.isOwn | none => true)) = true)
    (hl : xs.length ≤ line)
    (hx : ∀ x ∈ xs, ∃ ρx, asgT tg x (wipeE ρ1 own) = some ρx ∧ wipeE ρx own = wipeE ρ1 own ∧ ev C elt ρx = .ok (.p (.bool (f x))) ρx) : ev C (.prim (.bf .all) (.cons (.lc elt tg it .nil own) .nil)) ρ = .ok (.p (.bool (xs.all f))) ρ1 :=
  all_c (fun i z => by cases z) (lc_map (g := fun x => .p (.bool (f x))) hi hown hx hl (mkR_p xs fun x => .bool (f x)))
end
end Pv

/-! Pv, part Rt: walks that end in a return. -/
namespace Pv
open PySem PySem.Spec L2
/-- from here the text returns d, with Q -/
def Wr (C : Pv.Ctx) (ss : Ss) (ρ : Pv.Env) (Q : D → Pv.Env → Prop) : Prop := ∃ d ρ', exs C ss ρ = .rt d ρ' ∧ Q d ρ'
def Gv (d0 : D) (es : List D) : D → Pv.Env → Prop := fun d ρ => d = d0 ∧ takeD es.length ρ = es
section
variable {C : Pv.Ctx} {ρ ρ1 ρ2 : Pv.Env} {Q : D → Pv.Env → Prop}
theorem Wr.st {s : S} {ss : Ss} (h : ex C s ρ = .nx ρ2) (k : Wr C ss ρ2 Q) : Wr C (.cons s ss) ρ Q := by
  obtain ⟨d, ρ', e, q⟩ := k
  exact ⟨d, ρ', st_s h e, q⟩
theorem Wr.asg {i : Nat} {e : E} {ss : Ss} {d : D} (h : ev C e ρ = .ok d ρ1) (hb : C.bor i = false) (hi : decide (i < ρ1.length) = true) (he : ρ1.put i d = ρ2) (k : Wr C ss ρ2 Q) : Wr C (.cons (.asg (.v i) e) ss) ρ Q :=
  .st (he ▸ asg_c h hb (of_decide_eq_true hi)) k
theorem Wr.ret {e : E} {ss : Ss} {d : D} (hv : ∀ i, e ≠ .var i) (h : ev C e ρ = .ok d ρ1) (q : Q d ρ1) : Wr C (.cons (.ret e) ss) ρ Q := ⟨d, ρ1, ret_s hv h, q⟩
theorem Wr.rt {ss : Ss} {d : D} (h : exs C ss ρ = .rt d ρ1) (q : Q d ρ1) : Wr C ss ρ Q := ⟨d, ρ1, h, q⟩
theorem Wr.srt {s : S} {ss : Ss} {d : D} (h : ex C s ρ = .rt d ρ1) (q : Q d ρ1) : Wr C (.cons s ss) ρ Q := ⟨d, ρ1, seq_rt_c h, q⟩
/-- if c: .. return -/
theorem Wr.ifr {c : E} {a ss : Ss} {t : Bool} (h : evT C c ρ = .ok t ρ1) (kt : t = true → Wr C a ρ1 Q) (kf : t = false → Wr C ss ρ1 Q) : Wr C (.cons (.ife c a .nil) ss) ρ Q := by
  cases t with
  | true => obtain ⟨d, ρ', e, q⟩ := kt rfl; exact ⟨d, ρ', ift_rt h e, q⟩
  | false => obtain ⟨d, ρ', e, q⟩ := kf rfl; exact ⟨d, ρ', iff_s h e, q⟩
/-- if c: return .. else: .. -/
theorem Wr.ife {c : E} {a b ss : Ss} {t : Bool} (h : evT C c ρ = .ok t ρ1) (kt : t = true → Wr C a ρ1 Q) (kf : t = false → Wr C b ρ1 Q) : Wr C (.cons (.ife c a b) ss) ρ Q := by
  cases t with
  | true => obtain ⟨d, ρ', e, q⟩ := kt rfl; exact ⟨d, ρ', ift_rt h e, q⟩
  | false => obtain ⟨d, ρ', e, q⟩ := kf rfl; exact ⟨d, ρ', iff_rt h e, q⟩
theorem Wr.mono {ss : Ss} {Q' : D → Pv.Env → Prop} (h : Wr C ss ρ Q) (m : ∀ d ρ', Q d ρ' → Q' d ρ') : Wr C ss ρ Q' := by
  obtain ⟨d, ρ', e, q⟩ := h; exact ⟨d, ρ', e, m d ρ' q⟩
/-- a loop that ends or returns -/
theorem Wr.for_ {t : T} {it : It} {b ss : Ss} {xs : List PD} (hi : evI C it ρ = .ok xs ρ1)
    (hl : (∃ ρ2, forL C t (exs C b) xs ρ1 = .nx ρ2 ∧ Wr C ss ρ2 Q) ∨ (∃ d ρ2, forL C t (exs C b) xs ρ1 = .rt d ρ2 ∧ Q d ρ2)) : Wr C (.cons (.fore t it b) ss) ρ Q := by
  rcases hl with ⟨ρ2, h, k⟩ | ⟨d, ρ2, h, q⟩
  · exact .st (for_c hi h) k
  · exact ⟨d, ρ2, for_rt hi h, q⟩
theorem runB_ex {B : Nat → List D → CR} {f : Fn} {ds : List D} (hl : decide (ds.length = f.params.length ∧ ds.length ≤ f.names.length) = true) (h : Wr ⟨borOf ds, B⟩ f.body (start f ds) Q) : ∃ d ρ', runB B f ds = .ok d (takeD ds.length ρ') ∧ Q d ρ' := by
  obtain ⟨d, ρ', e, q⟩ := h
  exact ⟨d, ρ', runB_rt hl e rfl, q⟩
theorem runB_gv {B : Nat → List D → CR} {f : Fn} {ds es : List D} {d : D} (hl : decide (ds.length = f.params.length ∧ ds.length ≤ f.names.length) = true) (hn : es.length = ds.length) (h : Wr ⟨borOf ds, B⟩ f.body (start f ds) (Gv d es)) : runB B f ds = .ok d es := by
  obtain ⟨d, ρ', e, q1, q2⟩ := h
  subst q1
  exact runB_rt hl e (by rw [← hn]; exact q2)
/-- if .. : return x -/
theorem Wr.ifc {e : E} {c : E} {ss : Ss} {t : Bool} {d : D} (hv : ∀ i, e ≠ .var i) (h : ev C c ρ = .ok (.p (.bool t)) ρ1) (h2 : t = true → ev C e ρ1 = .ok d ρ1) (q : t = true → Q d ρ1) (kf : t = false → Wr C ss ρ1 Q) : Wr C (.cons (.ife c (.cons (.ret e) .nil) .nil) ss) ρ Q :=
  .ifr (evT_b h) (fun z => .ret hv (h2 z) (q z)) kf
theorem gv {d : D} {es : List D} (h : takeD es.length ρ = es) : Gv d es d ρ := ⟨rfl, h⟩
end
/-- a table of callees, from a list of facts -/
theorem tab_ok {P : Nat → List D → CR} {T : Nat → List D → CR} (h : ∀ g es, T g es = .bad ∨ P g es = T g es) : ∀ g es, T g es ≠ .bad → P g es = T g es := fun g es n => (h g es).resolve_left n
end Pv

/-! Pv, part Pt: the pot of draws. -/
namespace Pv
open PySem PySem.Spec L2
abbrev Pot (a b : Int) : D := .own [.int a, .int b]
def PotOk (a b : Int) : Prop := 0 ≤ a ∧ 0 ≤ b ∧ b < 2147483648
/-- picks: one of the list -/
def Picks (B : Nat → List D → CR) (f : Nat) : Prop := ∀ (a b : Int) (l : List PD), PotOk a b → l ≠ [] → l.length < 1073741824 → ∃ x a' b', x ∈ l ∧ PotOk a' b' ∧ B f [Pot a b, .own l] = .ok (.p x) [Pot a' b', .own l]
/-- draws: a number from 0 to m - 1 -/
def Draws (B : Nat → List D → CR) (f : Nat) : Prop := ∀ a b m : Int, PotOk a b → 0 < m → m < 1073741824 → ∃ r a' b', (0 ≤ r ∧ r < m) ∧ PotOk a' b' ∧ B f [Pot a b, .p (.int m)] = .ok (.p (.int r)) [Pot a' b', .p (.int m)]
theorem log2_small {n : Nat} (h : n < 2 ^ 64) : n.log2 < 64 := by
  by_cases z : n = 0
  · subst z; decide
  · exact (Nat.log2_lt z).mpr h
theorem mulOk_small {i j : Int} (h : i.natAbs < 18446744073709551616) (g : j.natAbs < 18446744073709551616) : mulOk i j = true := by
  unfold mulOk
  have h1 := log2_small (n := i.natAbs) h
  have h2 := log2_small (n := j.natAbs) g
  exact decide_eq_true (by omega)
theorem mul_pr {i j : Int} (h : i.natAbs < 18446744073709551616) (g : j.natAbs < 18446744073709551616) : prD (.bin .Mult) [.p (.int i), .p (.int j)] = some (.p (.int (i * j))) := by
  show Option.map _ (if mulOk i j then some (i * j) else none) = _
  rw [mulOk_small h g, if_pos rfl]; rfl
theorem mod_pr {i j : Int} (h : 0 < j) : prD (.bin .Mod) [.p (.int i), .p (.int j)] = some (.p (.int (i % j))) := by
  show Option.map _ (if 0 < j then some (i % j) else if j ≠ 0 then some (i.fmod j) else none) = _
  rw [if_pos h]; rfl
theorem div_pr {i j : Int} (h : 0 < j) (g : j.natAbs < 18446744073709551616) : prD (.bin .FloorDiv) [.p (.int i), .p (.int j)] = some (.p (.int (i / j))) := by
  show Option.map _ (if 0 < j ∧ j.natAbs.log2 < 9000 then some (i / j) else if j ≠ 0 ∧ j.natAbs < 1073741824 then some (i.fdiv j) else none) = _
  rw [if_pos ⟨h, by have := log2_small (n := j.natAbs) g; omega⟩]; rfl
theorem dm_pr {i j : Int} (h : 0 < j) (g : j < 1073741824) : prD (.bf .divmod) [.p (.int i), .p (.int j)] = some (.p (.tuple [.int (i / j), .int (i % j)])) := by
  show (if 0 < j ∧ j < 1073741824 then some (D.p (.tuple [.int (i / j), .int (i % j)])) else none) = _
  rw [if_pos ⟨h, g⟩]
section
variable {C : Pv.Ctx} {ρ ρ1 ρ2 : Pv.Env} {Q : D → Pv.Env → Prop}
theorem draw_c {f i : Nat} {e : E} {a b m : Int} {x : Arg} (h : Draws C.B f) (ok : PotOk a b) (hp : ρ.at_ i = some (Pot a b)) (he : evA C (.cons e .nil) ρ = .ok [x] ρ) (hx : x.get ρ = some (.p (.int m))) (m0 : 0 < m) (m1 : m < 1073741824) :
    ∃ r a' b', (0 ≤ r ∧ r < m) ∧ PotOk a' b' ∧ ev C (.call f [none, none] (.cons (.var i) (.cons e .nil)) .nil) ρ = .ok (.p (.int r)) (ρ.put i (Pot a' b')) := by
  obtain ⟨r, a', b', hr, ok', hB⟩ := h a b m ok m0 m1
  have hl : lent ρ [.s i, x] = [some i, none] := by
    have : lent ρ [x] = [none] := by
      cases x with
      | v d => rfl
      | s j => show (match ρ.at_ j with | some d => if d.isOwn then some j else none | none => none) :: lent ρ [] = _; rw [show ρ.at_ j = _ from hx]; rfl
    show (match ρ.at_ i with | some d => if d.isOwn then some i else none | none => none) :: lent ρ [x] = _
    rw [hp, this]; rfl
  refine ⟨r, a', b', hr, ok', call_c (as := [.s i, x]) (bs := []) (ds := [Pot a b, .p (.int m)]) (ps := [Pot a b, .p (.int m)]) (qs := [Pot a' b', .p (.int m)]) (evA_v (by rw [hp]; rfl) he) evA_n ?_ rfl ?_ hB ?_⟩
  · show argsGet ρ [.s i, x] = _
    rw [args_s hp, args_cons hx]; rfl
  · show nodupB ((lent ρ [.s i, x]).filterMap id) = true
    rw [hl]; rfl
  · show giveBack (lent ρ [.s i, x]) _ (wipeE ρ ((lent ρ [.s i, x]).filterMap id)) = _
    rw [hl]
    show (ρ.set i none).set i (some (Pot a' b')) = _
    rw [List.set_set]; rfl
end
end Pv

/-! Pv, part Nc: parts of nice values. -/
namespace Pv
open PySem PySem.Spec L2
theorem niceL_split {n B : Nat} {p q : List PD} {x : PD} (h : NiceL n B (p ++ x :: q)) : ∃ B1 B2 B3, NiceL n B1 p ∧ Nice n B2 x ∧ NiceL n B3 q ∧ B1 + (B2 + 2) + B3 ≤ B := by
  induction p generalizing B with
  | nil =>
    obtain ⟨h1, h2, h3, h4⟩ := h
    rw [List.nil_append] at h1 h2 h3 h4
    simp only [PyData.canLayAll0, Bool.and_eq_true] at h1
    simp only [PyData.showableAll, Bool.and_eq_true] at h2
    simp only [PyData.depthAll] at h3
    simp only [szAll] at h4
    exact ⟨0, sz x, szAll q, niceL_nil, ⟨h1.1, h2.1, by omega, Nat.le_refl _⟩, ⟨h1.2, h2.2, by omega, Nat.le_refl _⟩, by omega⟩
  | cons y p ih =>
    obtain ⟨h1, h2, h3, h4⟩ := h
    rw [List.cons_append] at h1 h2 h3 h4
    simp only [PyData.canLayAll0, Bool.and_eq_true] at h1
    simp only [PyData.showableAll, Bool.and_eq_true] at h2
    simp only [PyData.depthAll] at h3
    simp only [szAll] at h4
    obtain ⟨B1, B2, B3, g1, g2, g3, g4⟩ := ih (B := szAll (p ++ x :: q)) ⟨h1.2, h2.2, by omega, Nat.le_refl _⟩
    exact ⟨sz y + 2 + B1, B2, B3, niceL_cons (n' := 0) (B' := B1) ⟨h1.1, h2.1, by omega, Nat.le_refl _⟩ g1, g2, g3, by omega⟩
theorem szAll_len : ∀ {l : List PD}, 2 * l.length ≤ szAll l
  | [] => Nat.zero_le _
  | x :: l => by have := szAll_len (l := l); rw [szAll, List.length_cons]; omega
theorem NiceL.len {n B : Nat} {l : List PD} (h : NiceL n B l) : 2 * l.length ≤ B := Nat.le_trans szAll_len h.size
theorem niceL_one {n B : Nat} {x : PD} (h : Nice n B x) : NiceL n (B + 2) [x] := (niceL_cons (n' := 0) h niceL_nil (B' := 0)).mono (Nat.le_refl _) (by omega)
theorem niceL_tk {n B : Nat} {l : List PD} (k : Nat) (h : NiceL n B l) : ∃ B1 B2, NiceL n B1 (l.take k) ∧ NiceL n B2 (l.drop k) ∧ B1 + B2 ≤ B := by
  by_cases g : k < l.length
  · have e : l = l.take k ++ l[k] :: l.drop (k + 1) := by rw [← List.drop_eq_getElem_cons (by omega), List.take_append_drop]
    rw [e] at h
    obtain ⟨B1, B2, B3, h1, h2, h3, h4⟩ := niceL_split h
    refine ⟨B1, B2 + 2 + B3, h1, ?_, by omega⟩
    have e2 : l.drop k = l[k] :: l.drop (k + 1) := List.drop_eq_getElem_cons g
    rw [e2]
    exact niceL_cons (n' := 0) h2 h3
  · exact ⟨B, 0, by rw [List.take_of_length_le (by omega)]; exact h, by rw [List.drop_of_length_le (by omega)]; exact niceL_nil, by omega⟩
theorem split_at {l : List PD} {r : Int} (h0 : 0 ≤ r) (h1 : r < l.length) : ∃ p x q, l = p ++ x :: q ∧ r = p.length := by
  refine ⟨l.take r.toNat, l[r.toNat]'(by omega), l.drop (r.toNat + 1), by rw [← List.drop_eq_getElem_cons (by omega), List.take_append_drop], ?_⟩
  rw [List.length_take]; omega
section
variable {p q : List PD} {x : PD}
theorem cut_p : cut (p ++ x :: q) none (some (p.length : Int)) = p := by
  rw [cut_to (by omega)]
  rw [show ((p.length : Int)).toNat = p.length from by omega, List.take_left]
theorem cut_px : cut (p ++ x :: q) none (some ((p.length : Int) + 1)) = p ++ [x] := by
  rw [cut_to (by omega), show ((p.length : Int) + 1).toNat = (p ++ [x]).length from by simp]
  rw [show p ++ x :: q = (p ++ [x]) ++ q from by simp, List.take_left]
theorem cut_q : cut (p ++ x :: q) (some ((p.length : Int) + 1)) none = q := by
  rw [cut_from (by omega), show ((p.length : Int) + 1).toNat = (p ++ [x]).length from by simp]
  rw [show p ++ x :: q = (p ++ [x]) ++ q from by simp, List.drop_left]
theorem cut_xq : cut (p ++ x :: q) (some (p.length : Int)) none = x :: q := by
  rw [cut_from (by omega), show ((p.length : Int)).toNat = p.length from by omega, List.drop_left]
theorem cut_q1 : cut (p ++ x :: q) (some ((p.length : Int) + 1)) (some ((p.length : Int) + 2)) = q.take 1 := by
  rw [cut_ft (by omega) (by omega), show ((p.length : Int) + 2).toNat - ((p.length : Int) + 1).toNat = 1 from by omega, show ((p.length : Int) + 1).toNat = (p ++ [x]).length from by simp]
  rw [show p ++ x :: q = (p ++ [x]) ++ q from by simp, List.drop_left]
theorem cut_x : cut (p ++ x :: q) (some (p.length : Int)) (some ((p.length : Int) + 1)) = [x] := by
  rw [cut_ft (by omega) (by omega), show ((p.length : Int) + 1).toNat - ((p.length : Int)).toNat = 1 from by omega, show ((p.length : Int)).toNat = p.length from by omega, List.drop_left]; rfl
theorem cut_q2 : cut (p ++ x :: q) (some ((p.length : Int) + 2)) none = q.drop 1 := by
  rw [cut_from (by omega), show ((p.length : Int) + 2).toNat = (p ++ [x]).length + 1 from by simp; omega]
  rw [show p ++ x :: q = (p ++ [x]) ++ q from by simp, ← List.drop_drop, List.drop_left]
theorem atI_p : atI (p ++ x :: q) (p.length : Int) = some x := by
  unfold atI ixN
  rw [if_pos (by omega), if_pos (by simp; omega)]
  simp
end
theorem tadd_pr {x y : List PD} (h : x.length + y.length ≤ line) : prD (.bin .Add) [.p (.tuple x), .p (.tuple y)] = some (.p (.tuple (x ++ y))) := by
  show (if Operator.Add = .Add ∧ x.length + y.length ≤ line then some (D.p (.tuple (x ++ y))) else none) = _
  rw [if_pos ⟨rfl, h⟩]
theorem ladd_pr {x y : List PD} (h : x.length + y.length ≤ line) : prD (.bin .Add) [.own x, .own y] = some (.own (x ++ y)) := by
  show (if Operator.Add = .Add ∧ x.length + y.length ≤ line then some (D.own (x ++ y)) else none) = _
  rw [if_pos ⟨rfl, h⟩]
/-- plain, or a list of its own -/
def Val (r : D) (y : PD) : Prop := r = .p y ∨ ∃ l, r = .own l ∧ y = .list l
theorem Val.pd {r : D} {y : PD} (h : Val r y) : r.toPD = some y := by
  rcases h with h | ⟨l, h1, h2⟩
  · rw [h]; rfl
  · rw [h1, h2]; rfl
section
variable {C : Pv.Ctx} {ρ ρ1 ρ2 ρ3 : Pv.Env} {Q : D → Pv.Env → Prop}
theorem Wr.ifF {c : E} {a ss : Ss} {t : Bool} (h : ev C c ρ = .ok (.p (.bool t)) ρ1) (ht : t = false) (k : Wr C ss ρ1 Q) : Wr C (.cons (.ife c a .nil) ss) ρ Q := .ifr (evT_b h) (fun z => by rw [ht] at z; cases z) fun _ => k
/-- if ..: return e, and it does -/
theorem Wr.ifT {e : E} {c : E} {ss : Ss} {t : Bool} {d : D} (h : ev C c ρ = .ok (.p (.bool t)) ρ1) (ht : t = true) (hv : ∀ i, e ≠ .var i) (h2 : ev C e ρ1 = .ok d ρ2) (q : Q d ρ2) : Wr C (.cons (.ife c (.cons (.ret e) .nil) .nil) ss) ρ Q := .ifr (evT_b h) (fun _ => .ret hv h2 q) fun z => by rw [ht] at z; cases z
theorem par2_c {i j : Nat} {e1 e2 : E} {d1 d2 : D} (h1 : ev C e1 ρ = .ok d1 ρ1) (h2 : ev C e2 ρ1 = .ok d2 ρ2) (hp : putAll C [i, j] [d1, d2] ρ2 = some ρ3) : ex C (.par [i, j] (.cons e1 (.cons e2 .nil))) ρ = .nx ρ3 := by
  rw [ex, evL_c h1 (evL_c h2 evL_n)]
  show (match putAll C [i, j] [d1, d2] ρ2 with | some ρ2 => Fl.nx ρ2 | none => Fl.bad) = _
  rw [hp]
theorem eq_i {i : Nat} {x k : Int} (h : ρ.at_ i = some (.p (.int x))) : ev C (.prim (.cmp .Eq) (.cons (.var i) (.cons (.int k) .nil))) ρ = .ok (.p (.bool (decide (x = k)))) ρ := by
  refine prim_c (as := [.s i, .v (.p (.int k))]) (ds := [.p (.int x), .p (.int k)]) (evA_v (by rw [h]; rfl) (evA_c (fun i z => by cases z) (by rw [ev]) evA_n)) (by rw [args_s h]; rfl) ?_
  show Option.map (fun c => D.p (.bool c)) (eqD (.p (.int x)) (.p (.int k))) = _
  rw [eqD_int]; rfl
theorem eq_nil {i : Nat} {l : List PD} (h : ρ.at_ i = some (.p (.tuple l))) (hs : SeqAt.shaped (.tuple l) = true) : ev C (.prim (.cmp .Eq) (.cons (.var i) (.cons (.tup .nil) .nil))) ρ = .ok (.p (.bool l.isEmpty)) ρ := by
  refine prim_c (as := [.s i, .v (.p (.tuple []))]) (ds := [.p (.tuple l), .p (.tuple [])]) (evA_v (by rw [h]; rfl) (evA_c (fun i z => by cases z) (tup_c evL_n rfl (Nat.zero_le _)) evA_n)) (by rw [args_s h]; rfl) ?_
  show Option.map (fun c => D.p (.bool c)) (eqD (.p (.tuple l)) (.p (.tuple []))) = _
  rw [eqD_sh hs rfl]
  cases l <;> rfl
end
end Pv

/-! Pv, part Dk: dicts with keys of three ints; sorted keys; more steps. -/
namespace Pv
open PySem PySem.Spec L2
abbrev R4 := Int × Int × Int × Int
def mkRd (t : R4) : List Key × PD := ([.inl t.1, .inl t.2.1, .inl t.2.2.1], .int t.2.2.2)
def ky (t : R4) : List Int := [t.1, t.2.1, t.2.2.1]
def ky3 (a b c : Int) : List Key := [.inl a, .inl b, .inl c]
theorem mkR_key {t : R4} {a b c : Int} : (mkRd t).1 = ky3 a b c ↔ ky t = [a, b, c] := by
  unfold mkRd ky3 ky
  simp
theorem putD_mk (M : List R4) (a b c v : Int) : ∃ M' : List R4, putD (M.map mkRd) (ky3 a b c) (.int v) = M'.map mkRd ∧ (∀ t ∈ M', t ∈ M ∨ t = (a, b, c, v)) ∧ ((M.map ky).Nodup → (M'.map ky).Nodup) ∧ M'.length ≤ M.length + 1 := by
  unfold putD
  by_cases h : ((M.map mkRd).any fun q => decide (q.1 = ky3 a b c)) = true
  · rw [if_pos h]
    refine ⟨M.map fun t => if ky t = [a, b, c] then (a, b, c, v) else t, ?_, ?_, ?_, by rw [List.length_map]; omega⟩
    · rw [List.map_map, List.map_map]
      refine List.map_congr_left fun t _ => ?_
      simp only [Function.comp]
      by_cases g : ky t = [a, b, c]
      · rw [if_pos (mkR_key.mpr g), if_pos g, mkR_key.mpr g]; rfl
      · rw [if_neg (fun z => g (mkR_key.mp z)), if_neg g]
    · intro t ht
      obtain ⟨s, hs, e⟩ := List.mem_map.mp ht
      by_cases g : ky s = [a, b, c]
      · rw [if_pos g] at e; exact .inr e.symm
      · rw [if_neg g] at e; exact .inl (e ▸ hs)
    · intro hn
      rw [List.map_map]
      have : (ky ∘ fun t => if ky t = [a, b, c] then (a, b, c, v) else t) = ky := by
        funext t
        simp only [Function.comp]
        by_cases g : ky t = [a, b, c]
        · rw [if_pos g, g]; rfl
        · rw [if_neg g]
      rw [this]; exact hn
  · rw [if_neg h]
    refine ⟨M ++ [(a, b, c, v)], by rw [List.map_append]; rfl, ?_, ?_, by rw [List.length_append]; exact Nat.le_refl _⟩
    · intro t ht
      rcases List.mem_append.mp ht with e | e
      · exact .inl e
      · exact .inr (List.mem_singleton.mp e)
    · intro hn
      rw [List.map_append, List.nodup_append]
      refine ⟨hn, List.nodup_cons.mpr ⟨fun z => (nomatch z), List.nodup_nil⟩, fun x hx y hy e => ?_⟩
      obtain ⟨t, ht, e1⟩ := List.mem_map.mp hx
      rw [List.map_singleton, List.mem_singleton] at hy
      refine h (List.any_eq_true.mpr ⟨mkRd t, List.mem_map.mpr ⟨t, ht, rfl⟩, decide_eq_true (mkR_key.mpr ?_)⟩)
      rw [e1, e, hy]; rfl
theorem lookD_mk {M : List R4} (hn : (M.map ky).Nodup) {t : R4} (ht : t ∈ M) : lookD (M.map mkRd) (ky3 t.1 t.2.1 t.2.2.1) = some (.int t.2.2.2) := by
  induction M with
  | nil => cases ht
  | cons s M ih =>
    rw [List.map_cons, List.nodup_cons] at hn
    unfold lookD
    rw [List.map_cons, List.find?_cons]
    rcases List.mem_cons.mp ht with e | e
    · subst e
      rw [decide_eq_true (mkR_key.mpr rfl)]; rfl
    · have ne : ky s ≠ ky t := fun z => hn.1 (z ▸ List.mem_map.mpr ⟨t, e, rfl⟩)
      rw [decide_eq_false (fun z => ne ((mkR_key.mp z).trans rfl))]
      exact ih hn.2 e
theorem tupsI_mk (M : List R4) : tupsI (M.map fun t => .tuple ((mkRd t).1.map kPD)) = some (M.map ky) := by
  induction M with
  | nil => rfl
  | cons t M ih =>
    rw [List.map_cons, List.map_cons]
    show (match intsP [.int t.1, .int t.2.1, .int t.2.2.1], tupsI (M.map fun t => .tuple ((mkRd t).1.map kPD)) with
      | some (y :: ys), some r => some ((y :: ys) :: r)
      | _, _ => none) = _
    rw [ih]; rfl
theorem sortD_mk (M : List R4) : sortD (.odt (M.map mkRd)) = some (.own ((sortI (M.map ky)).map fun x => .tuple (x.map .int))) := by
  show Option.map D.own (sortP ((M.map mkRd).map fun q => .tuple (q.1.map kPD))) = _
  rw [List.map_map]
  cases M with
  | nil => rfl
  | cons t M =>
    unfold sortP
    have : intsP ((t :: M).map ((fun q : List Key × PD => PyData.tuple (q.1.map kPD)) ∘ mkRd)) = none := rfl
    rw [this]
    dsimp only
    have e := tupsI_mk (t :: M)
    rw [show ((t :: M).map ((fun q : List Key × PD => PyData.tuple (q.1.map kPD)) ∘ mkRd)) = (t :: M).map fun t => .tuple ((mkRd t).1.map kPD) from rfl, e]
    rfl
/-- sorted keys, none twice: each below the next -/
theorem sortI_lt {ks : List (List Int)} (hn : ks.Nodup) : (sortI ks).Pairwise (fun x y => ltL x y = true) ∧ (sortI ks).Perm ks := by
  have hp : (sortI ks).Perm ks := sortG_perm swo_ltL ks
  refine ⟨?_, hp⟩
  have hs : SrtO.Srtd ltL (sortI ks) := sortG_srt swo_ltL ks
  have hn2 : (sortI ks).Nodup := hp.nodup_iff.mpr hn
  refine (List.Pairwise.and hs hn2).imp ?_
  intro x y h
  by_cases c : ltL x y = true
  · exact c
  · exact absurd (ltL_anti x y (Bool.eq_false_iff.mpr c) h.1) h.2
theorem setD_mk {M : List R4} {a b c v : Int} (h : M.length < line) : setD (.odt (M.map mkRd)) (.p (.tuple [.int a, .int b, .int c])) (.p (.int v)) = some (.odt (putD (M.map mkRd) (ky3 a b c) (.int v))) := by
  show (if (M.map mkRd).length < line then some (D.odt (putD (M.map mkRd) (ky3 a b c) (.int v))) else none) = _
  rw [List.length_map, if_pos h]
theorem app_p {l : List PD} {d : PD} : appD (.own l) (.p d) = if l.length < line then some (.own (l ++ [d])) else none := by cases l <;> rfl
section
variable {C : Pv.Ctx} {ρ ρ1 ρ2 ρ3 : Pv.Env} {Q : D → Pv.Env → Prop}
theorem app_c {i : Nat} {e : E} {l : List PD} {d : PD} (h : isLst (ρ.at_ i) = true) (he : ev C e ρ = .ok (.p d) ρ1) (hat : ρ1.at_ i = some (.own l)) (hl : l.length < line) (hp : ρ1.put i (.own (l ++ [d])) = ρ2) : ex C (.app i e) ρ = .nx ρ2 := by
  rw [ex, if_neg (by rw [h]; exact Bool.noConfusion), he]
  simp only [fl_ok]
  rw [hat]
  dsimp only
  rw [app_p, if_pos hl]
  dsimp only
  rw [hp]
theorem app_v {i : Nat} {e : E} {l : List PD} {d : PD} {r : D} (h : isLst (ρ.at_ i) = true) (hv : Val r d) (he : ev C e ρ = .ok r ρ1) (hat : ρ1.at_ i = some (.own l)) (hne : l ≠ []) (hl : l.length < line) (hp : ρ1.put i (.own (l ++ [d])) = ρ2) : ex C (.app i e) ρ = .nx ρ2 := by
  rw [ex, if_neg (by rw [h]; exact Bool.noConfusion), he]
  simp only [fl_ok]
  rw [hat]
  dsimp only
  have : appD (.own l) r = some (.own (l ++ [d])) := by
    cases l with
    | nil => exact absurd rfl hne
    | cons x l =>
      rcases hv with e | ⟨m, e, e2⟩
      · subst e; rw [app_p, if_pos hl]
      · subst e e2
        show (if (x :: l).length < line then some (D.own ((x :: l) ++ [.list m])) else none) = _
        rw [if_pos hl]
  rw [this]
  dsimp only
  rw [hp]
end
end Pv
namespace Pv
open PySem PySem.Spec L2
theorem niceL_all {n B : Nat} : ∀ {l : List PD}, (∀ x ∈ l, Nice n B x) → NiceL n (l.length * (B + 2)) l
  | [], _ => niceL_nil.mono (Nat.le_refl _) (Nat.zero_le _)
  | x :: l, h => (niceL_cons (n' := 0) (h x List.mem_cons_self) (niceL_all fun y hy => h y (List.mem_cons_of_mem _ hy))).mono (Nat.le_refl _) (by rw [List.length_cons, Nat.succ_mul]; omega)
theorem niceL_n {n B N : Nat} {l : List PD} (h : ∀ x ∈ l, Nice n B x) (hn : l.length ≤ N) : NiceL n (N * (B + 2)) l := (niceL_all h).mono (Nat.le_refl _) (Nat.mul_le_mul_right _ hn)
theorem rangeL_len {lo hi : Int} : (rangeL lo hi).length = (hi - lo).toNat := by unfold rangeL; rw [List.length_map, List.length_range]
theorem small_ok {n : Int} (h : 0 ≤ n) (g : n < 1000000) : small n = true := by
  unfold small; exact decide_eq_true (by omega)
section
variable {C : Pv.Ctx} {ρ ρ1 ρ2 ρ3 : Pv.Env} {Q : D → Pv.Env → Prop}
theorem setx_c {i : Nat} {k e : E} {v kd x y : D} (he : ev C e ρ = .ok v ρ1) (hi : (ρ1.at_ i).isSome = true) (hk : ev C k ρ1 = .ok kd ρ2) (hx : ρ2.at_ i = some x) (hs : setD x kd v = some y) (hp : ρ2.put i y = ρ3) : ex C (.asg (.ix i k) e) ρ = .nx ρ3 := by
  rw [ex, he]
  simp only [fl_ok]
  rw [asgG.eq_def]
  dsimp only
  rw [if_pos hi, hk]
  simp only [bind_ok]
  rw [hx]
  dsimp only
  rw [hs]
  dsimp only
  rw [hp]
  rfl
theorem range_v {i : Nat} {n : Int} (h : ρ.at_ i = some (.p (.int n))) (h0 : 0 ≤ n) (h1 : n < 1000000) : evI C (.range (.cons (.var i) .nil)) ρ = .ok (rangeL 0 n) ρ := by
  rw [evI, evA_v (by rw [h]; rfl) evA_n]
  simp only [bind_ok]
  rw [args_s h]
  show (if small n then _ else _) = _
  rw [small_ok h0 h1, if_pos rfl]
theorem range_e {e : E} {n : Int} (hv : ∀ i, e ≠ .var i) (h : ev C e ρ = .ok (.p (.int n)) ρ1) (h0 : 0 ≤ n) (h1 : n < 1000000) : evI C (.range (.cons e .nil)) ρ = .ok (rangeL 0 n) ρ1 := by
  rw [evI, evA_c hv h evA_n]
  simp only [bind_ok]
  show (if small n then _ else _) = _
  rw [small_ok h0 h1, if_pos rfl]
end
end Pv
namespace Pv
open PySem PySem.Spec L2
theorem atI_range {α : Type} {f : Nat → α} {n : Nat} {i : Int} (h0 : 0 ≤ i) (h1 : i < n) : atI ((List.range n).map f) i = some (f i.toNat) := by
  unfold atI ixN
  rw [List.length_map, List.length_range, if_pos h0, if_pos h1]
  show ((List.range n).map f)[i.toNat]? = _
  rw [List.getElem?_map, List.getElem?_range (by omega)]
  rfl
theorem range_snoc {α : Type} {f : Nat → α} {n : Nat} : (List.range n).map f ++ [f n] = (List.range (n + 1)).map f := by
  rw [List.range_succ, List.map_append]; rfl
theorem rangeL_nil {lo hi : Int} (h : hi ≤ lo) : rangeL lo hi = [] := by
  unfold rangeL; rw [show (hi - lo).toNat = 0 from by omega]; rfl
theorem rangeL_cons {lo hi : Int} (h : lo < hi) : rangeL lo hi = .int lo :: rangeL (lo + 1) hi := by
  unfold rangeL
  obtain ⟨m, hm⟩ : ∃ m : Nat, (hi - lo).toNat = m + 1 := ⟨(hi - lo).toNat - 1, by omega⟩
  rw [hm, show (hi - (lo + 1)).toNat = m from by omega, List.range_succ_eq_map, List.map_cons, List.map_map]
  refine congr (congrArg _ (by simp)) (List.map_congr_left fun k _ => ?_)
  show PyData.int (lo + ((k + 1 : Nat) : Int)) = .int (lo + 1 + (k : Int))
  congr 1; omega
theorem range2 {C : Pv.Ctx} {ρ ρ1 : Pv.Env} {e f : E} {a b : Int} {x y : Arg} (h : evA C (.cons e (.cons f .nil)) ρ = .ok [x, y] ρ1) (hx : x.get ρ1 = some (.p (.int a))) (hy : y.get ρ1 = some (.p (.int b))) (a0 : 0 ≤ a) (a1 : a < 1000000) (b0 : 0 ≤ b) (b1 : b < 1000000) : evI C (.range (.cons e (.cons f .nil))) ρ = .ok (rangeL a b) ρ1 := by
  rw [evI, h]
  simp only [bind_ok]
  rw [args_cons hx, args_cons hy, args_nil]
  show (if small a && small b then _ else _) = _
  rw [small_ok a0 a1, small_ok b0 b1]; rfl
theorem sum_filter {α : Type} (c : α → Bool) (v : α → Int) : ∀ l : List α, ((l.filter c).map v).sum = (l.map fun t => if c t then v t else 0).sum
  | [] => rfl
  | x :: l => by
    rw [List.map_cons, List.sum_cons, ← sum_filter c v l, List.filter_cons]
    by_cases h : c x = true
    · rw [if_pos h, if_pos h, List.map_cons, List.sum_cons]
    · rw [if_neg h, if_neg h, Int.zero_add]
theorem filterMap_if {α β : Type} (c : α → Bool) (v : α → β) : ∀ l : List α, l.filterMap (fun t => if c t then some (v t) else none) = (l.filter c).map v
  | [] => rfl
  | x :: l => by
    rw [List.filterMap_cons, List.filter_cons, filterMap_if c v l]
    by_cases h : c x = true
    · rw [if_pos h, if_pos h]; rfl
    · rw [if_neg h, if_neg h]
theorem mul_big {i j : Int} (h : i.natAbs < 2 ^ 2000) (g : j.natAbs < 2 ^ 2000) : prD (.bin .Mult) [.p (.int i), .p (.int j)] = some (.p (.int (i * j))) := by
  have lg : ∀ {n : Nat}, n < 2 ^ 2000 → n.log2 < 2000 := fun {n} hn => by
    by_cases z : n = 0
    · subst z; decide
    · exact (Nat.log2_lt z).mpr hn
  show Option.map _ (if mulOk i j then some (i * j) else none) = _
  have : mulOk i j = true := by
    unfold mulOk
    have h1 := lg h
    have h2 := lg g
    exact decide_eq_true (by omega)
  rw [this, if_pos rfl]; rfl
theorem sum_pr (ns : List Int) : prD (.bf .sum) [.own (ns.map .int)] = some (.p (.int ns.sum)) := by
  show Option.bind (some (ns.map PyData.int)) (fun l => (intsP l).map fun ns => D.p (.int ns.sum)) = _
  rw [Option.bind_some, intsP_map]; rfl
end Pv
namespace Pv
open PySem PySem.Spec L2
/-! tables of ints, written x[a][b] = v -/
def tbl (f : Nat → Nat → Int) (m n : Nat) : List (List PD) := (List.range m).map fun (L : Nat) => (List.range n).map fun (q : Nat) => .int (f L q)
def upd2 (f : Nat → Nat → Int) (i j : Nat) (v : Int) : Nat → Nat → Int := fun a b => if a = i ∧ b = j then v else f a b
theorem atI_tbl {f : Nat → Nat → Int} {m n : Nat} {x y : Int} (x0 : 0 ≤ x) (x1 : x < m) (y0 : 0 ≤ y) (y1 : y < n) : ((atI (tbl f m n) x).bind fun r => atI r y) = some (.int (f x.toNat y.toNat)) := by
  unfold tbl
  rw [atI_range x0 x1, Option.bind_some, atI_range y0 y1]
theorem set_range {α : Type} {f : Nat → α} {n i : Nat} {v : α} (h : i < n) : ((List.range n).map f).set i v = (List.range n).map fun j => if j = i then v else f j := by
  refine List.ext_getElem? fun k => ?_
  rw [List.getElem?_set, List.length_map, List.length_range]
  by_cases e : i = k
  · subst e
    rw [if_pos rfl, if_pos h, List.getElem?_map, List.getElem?_range h]
    simp
  · rw [if_neg e, List.getElem?_map, List.getElem?_map]
    by_cases g : k < n
    · rw [List.getElem?_range g]; simp [Ne.symm e]
    · rw [List.getElem?_eq_none (by rw [List.length_range]; omega)]; rfl
theorem ixN_nat {n : Nat} {x : Int} (h0 : 0 ≤ x) (h1 : x < n) : ixN n x = some x.toNat := by
  unfold ixN; rw [if_pos h0, if_pos h1]
theorem set2_tbl {f : Nat → Nat → Int} {m n : Nat} {x y v : Int} (x0 : 0 ≤ x) (x1 : x < m) (y0 : 0 ≤ y) (y1 : y < n) : set2D (.own2 (tbl f m n)) (.p (.int x)) (.p (.int y)) (.p (.int v)) = some (.own2 (tbl (upd2 f x.toNat y.toNat v) m n)) := by
  have hl : (tbl f m n).length = m := by unfold tbl; rw [List.length_map, List.length_range]
  have hr : (tbl f m n)[x.toNat]? = some ((List.range n).map fun (q : Nat) => .int (f x.toNat q)) := by
    unfold tbl; rw [List.getElem?_map, List.getElem?_range (by omega)]; rfl
  unfold set2D
  dsimp only
  rw [hl, ixN_nat x0 x1]
  dsimp only
  rw [hr]
  dsimp only
  rw [List.length_map, List.length_range, ixN_nat y0 y1, pd_p]
  dsimp only
  refine congrArg (fun l => some (D.own2 l)) ?_
  unfold tbl
  rw [set_range (by omega), set_range (by omega)]
  refine List.map_congr_left fun L hL => ?_
  by_cases e : L = x.toNat
  · rw [if_pos e]
    refine List.map_congr_left fun q hq => ?_
    unfold upd2
    by_cases g : q = y.toNat
    · rw [if_pos g, if_pos ⟨e, g⟩]
    · rw [if_neg g, if_neg (fun z => g z.2), e]
  · rw [if_neg e]
    refine List.map_congr_left fun q hq => ?_
    unfold upd2
    rw [if_neg (fun z => e z.1)]
theorem tbl_congr {f g : Nat → Nat → Int} {m n : Nat} (h : ∀ L < m, ∀ q < n, f L q = g L q) : tbl f m n = tbl g m n := by
  unfold tbl
  refine List.map_congr_left fun L hL => List.map_congr_left fun q hq => ?_
  rw [h L (List.mem_range.mp hL) q (List.mem_range.mp hq)]
section
variable {C : Pv.Ctx} {ρ ρ1 ρ2 ρ3 ρ4 : Pv.Env}
theorem idx2_c {i : Nat} {a b : E} {f : Nat → Nat → Int} {m n : Nat} {x y : Int} (hi : ρ.at_ i = some (.own2 (tbl f m n))) (ha : ev C a ρ = .ok (.p (.int x)) ρ1) (hb : ev C b ρ = .ok (.p (.int y)) ρ2) (x0 : 0 ≤ x) (x1 : x < m) (y0 : 0 ≤ y) (y1 : y < n) : ev C (.idx2 i a b) ρ = .ok (.p (.int (f x.toNat y.toNat))) ρ := by
  rw [ev, hi, ha, hb]
  unfold two
  dsimp only
  rw [atI_tbl x0 x1 y0 y1]
theorem set2_c {i : Nat} {a b e : E} {f : Nat → Nat → Int} {m n : Nat} {x y v : Int} (he : ev C e ρ = .ok (.p (.int v)) ρ1) (hi : ρ1.at_ i = some (.own2 (tbl f m n))) (ha : ev C a ρ1 = .ok (.p (.int x)) ρ2) (hb : ev C b ρ1 = .ok (.p (.int y)) ρ3) (x0 : 0 ≤ x) (x1 : x < m) (y0 : 0 ≤ y) (y1 : y < n)
    (hp : ρ1.put i (.own2 (tbl (upd2 f x.toNat y.toNat v) m n)) = ρ4) : ex C (.set2 i a b e) ρ = .nx ρ4 := by
  rw [ex, he]
  simp only [fl_ok]
  rw [hi, ha, hb]
  unfold two2
  dsimp only
  rw [set2_tbl x0 x1 y0 y1]
  dsimp only
  rw [hp]
theorem app_o {i : Nat} {e : E} {d d' v : D} (h : isLst (ρ.at_ i) = true) (he : ev C e ρ = .ok v ρ1) (hat : ρ1.at_ i = some d) (ha : appD d v = some d') (hp : ρ1.put i d' = ρ2) : ex C (.app i e) ρ = .nx ρ2 := by
  rw [ex, if_neg (by rw [h]; exact Bool.noConfusion), he]
  simp only [fl_ok]
  rw [hat]
  dsimp only
  rw [ha]
  dsimp only
  rw [hp]
theorem retz_c {e : E} {ss : Ss} {d : D} {Q : D → Pv.Env → Prop} (h : ev C e ρ = .ok d ρ1) (q : Q d ρ1) : Wr C (.cons (.retz e) ss) ρ Q := by
  refine .srt (d := d) (ρ1 := ρ1) ?_ q
  rw [ex, h]; rfl
end
end Pv

/-! Pv, part Ds: a dict of roads, in the order of its keys; drawn machines as data. -/
namespace Pv
open PySem PySem.Spec L2
def lk (M : List R4) (s : List Int) : R4 := (M.find? fun t => decide (ky t = s)).getD (0, 0, 0, 0)
theorem lk_ky : ∀ {M : List R4}, (M.map ky).Nodup → ∀ t ∈ M, lk M (ky t) = t
  | [], _, _, h => by cases h
  | u :: M, hn, t, ht => by
    rw [List.map_cons, List.nodup_cons] at hn
    unfold lk
    rw [List.find?_cons]
    rcases List.mem_cons.mp ht with e | e
    · subst e; rw [decide_eq_true rfl]; rfl
    · have ne : ky u ≠ ky t := fun z => hn.1 (z ▸ List.mem_map.mpr ⟨t, e, rfl⟩)
      rw [decide_eq_false ne]
      exact lk_ky hn.2 t e
/-- the roads in the order of their keys -/
theorem sorted_roads {M : List R4} (hn : (M.map ky).Nodup) : ∃ R : List R4, R.Perm M ∧ R.map ky = sortI (M.map ky) ∧ (R.map ky).Pairwise fun x y => ltL x y = true := by
  obtain ⟨hp, hperm⟩ := sortI_lt hn
  refine ⟨(sortI (M.map ky)).map (lk M), ?_, ?_, ?_⟩
  · have h := hperm.map (lk M)
    rw [List.map_map] at h
    have e : M.map (lk M ∘ ky) = M := (List.map_congr_left (g := id) fun t ht => lk_ky hn t ht).trans (List.map_id M)
    rw [e] at h
    exact h
  · rw [List.map_map]
    have : (sortI (M.map ky)).map (ky ∘ lk M) = (sortI (M.map ky)).map id := List.map_congr_left fun s hs => by
      obtain ⟨t, ht, e⟩ := List.mem_map.mp (hperm.mem_iff.mp hs)
      show ky (lk M s) = s
      rw [← e, lk_ky hn t ht]
    rw [this, List.map_id]
  · have : ((sortI (M.map ky)).map (lk M)).map ky = sortI (M.map ky) := by
      rw [List.map_map]
      have : (sortI (M.map ky)).map (ky ∘ lk M) = (sortI (M.map ky)).map id := List.map_congr_left fun s hs => by
        obtain ⟨t, ht, e⟩ := List.mem_map.mp (hperm.mem_iff.mp hs)
        show ky (lk M s) = s
        rw [← e, lk_ky hn t ht]
      rw [this, List.map_id]
    rw [this]; exact hp
def rdP (t : R4) : PD := .tuple [.int t.1, .int t.2.1, .int t.2.2.1, .int t.2.2.2]
def tk (t : R4) : PD := .tuple ((ky t).map .int)
theorem sortD_roads {M R : List R4} (h : R.map ky = sortI (M.map ky)) : sortD (.odt (M.map mkRd)) = some (.own (R.map tk)) := by
  rw [sortD_mk, ← h, List.map_map]; rfl
/-- tuple([key + (roads[key],) for key in sorted(roads)]) -/
def gR (M : List R4) : PD → PD
  | .tuple [.int a, .int b, .int c] => .tuple [.int a, .int b, .int c, (lookD (M.map mkRd) (ky3 a b c)).getD .none]
  | _ => .none
theorem gR_tk {M : List R4} (hn : (M.map ky).Nodup) {t : R4} (ht : t ∈ M) : gR M (tk t) = rdP t := by
  show PyData.tuple [.int t.1, .int t.2.1, .int t.2.2.1, (lookD (M.map mkRd) (ky3 t.1 t.2.1 t.2.2.1)).getD .none] = _
  rw [lookD_mk hn ht]; rfl
theorem gR_map {M R : List R4} (hn : (M.map ky).Nodup) (hp : R.Perm M) : (R.map tk).map (gR M) = R.map rdP := by
  rw [List.map_map]
  exact List.map_congr_left fun t ht => gR_tk hn (hp.mem_iff.mp ht)
theorem roads_ev {C : Pv.Ctx} {ρ : Pv.Env} {M R : List R4} {i j : Nat} (hi : ρ.at_ i = some (.odt (M.map mkRd))) (hn : (M.map ky).Nodup) (hp : R.Perm M) (hs : R.map ky = sortI (M.map ky)) (hl : R.length ≤ line)
    (hj : j < ρ.length) (hij : i ≠ j) (ho : [j].all (fun v => !C.bor v && (match ρ.at_ v with | some d => !d.isOwn | none => true)) = true) :
    ev C (.prim (.bf .tuple) (.cons (.lc (.prim (.bin .Add) (.cons (.var j) (.cons (.tup (.cons (.prim .idx (.cons (.var i) (.cons (.var j) .nil))) .nil)) .nil))) (.v j) (.seq (.prim (.bf .sorted) (.cons (.var i) .nil))) .nil [j]) .nil)) ρ = .ok (.p (.tuple (R.map rdP))) ρ := by
  refine prim1 (d := .own (R.map rdP)) (fun i z => by cases z) (lc_map (xs := R.map tk) (g := fun x => .p (gR M x)) ?_ ho (fun x hx => ?_) (by rw [List.length_map]; exact hl) ?_) rfl
  · have hs : ev C (.prim (.bf .sorted) (.cons (.var i) .nil)) ρ = .ok (.own (R.map tk)) ρ :=
      prim_c (as := [.s i]) (ds := [.odt (M.map mkRd)]) (evA_v (by rw [hi]; rfl) evA_n) (by rw [args_s hi]; rfl) (sortD_roads hs)
    rw [evI, hs]; rfl
  · obtain ⟨t, ht, rfl⟩ := List.mem_map.mp hx
    have ht := hp.mem_iff.mp ht
    have w : wipeE ρ [j] = ρ.set j none := rfl
    have at_j : Env.at_ (Env.put (ρ.set j none) j (.p (tk t))) j = some (.p (tk t)) := at_put_self (by rw [List.length_set]; exact hj)
    have at_i : Env.at_ (Env.put (ρ.set j none) j (.p (tk t))) i = some (.odt (M.map mkRd)) := by
      rw [at_put_ne (fun e => hij e.symm), at_set_ne (fun e => hij e.symm)]; exact hi
    refine ⟨Env.put (ρ.set j none) j (.p (tk t)), ?_, ?_, ?_⟩
    · rw [w, asgT, if_pos (by rw [List.length_set]; exact hj)]
    · show (Env.put (ρ.set j none) j (.p (tk t))).set j none = ρ.set j none
      unfold Env.put
      rw [List.set_set, List.set_set]
    · have hix : ev C (.prim .idx (.cons (.var i) (.cons (.var j) .nil))) (Env.put (ρ.set j none) j (.p (tk t))) = .ok (.p (.int t.2.2.2)) (Env.put (ρ.set j none) j (.p (tk t))) := by
        refine prim_c (as := [.s i, .s j]) (ds := [.odt (M.map mkRd), .p (tk t)]) (evA_v (by rw [at_i]; rfl) (evA_v (by rw [at_j]; rfl) evA_n)) (by rw [args_s at_i, args_s at_j]; rfl) ?_
        show Option.map D.p (lookD (M.map mkRd) (ky3 t.1 t.2.1 t.2.2.1)) = _
        rw [lookD_mk hn ht]; rfl
      rw [gR_tk hn ht]
      exact prim_c (as := [.s j, .v (.p (.tuple [.int t.2.2.2]))]) (ds := [.p (tk t), .p (.tuple [.int t.2.2.2])]) (evA_v (by rw [at_j]; rfl) (evA_c (fun i z => by cases z) (tup_c (evL_c hix evL_n) rfl (of_decide_eq_true rfl)) evA_n)) (by rw [args_s at_j]; rfl) (tadd_pr (of_decide_eq_true rfl))
  · rw [← gR_map hn hp]; exact mkR_p _ _
end Pv

namespace Law_k41
open PySem PySem.Spec L2 Pv
def top (i : Nat) : Stmt := PySem.Challenge.pw_pacedprices_k41_whole_beats_and_hubs.main.body.getD i (.Pass ⟨0, 0, 0, 0⟩)
def f_is_integer : Fn := ⟨"is_integer", ["value"], ["value"], (.cons (.ret (.bop .And (.cons (.prim (.isi .int) (.cons (.var 0) .nil)) (.cons (.nt (.prim (.isi .bool) (.cons (.var 0) .nil))) .nil)))) .nil)⟩
def f_is_count : Fn := ⟨"is_count", ["value"], ["value"], (.cons (.ret (.bop .And (.cons (.call 0 [none] (.cons (.var 0) .nil) .nil) (.cons (.prim (.cmp .GtE) (.cons (.var 0) (.cons (.int 0) .nil))) .nil)))) .nil)⟩
def f_is_road : Fn := ⟨"is_road", ["value", "places"], ["value", "places", "number", "one", "other", "length", "many"], (.cons (.ife (.bop .Or (.cons (.nt (.prim (.isi .tuple) (.cons (.var 0) .nil))) (.cons (.prim (.cmp .NotEq) (.cons (.prim (.bf .len) (.cons (.var 0) .nil)) (.cons (.int 4) .nil))) (.cons (.nt (.prim (.bf .all) (.cons (.lc (.call 1 [none] (.cons (.var 2) .nil) .nil) (.v 2) (.seq (.var 0)) .nil [2]) .nil))) .nil)))) (.cons (.ret (.bl false)) .nil) .nil) (.cons (.asg (.cons (.v 3) (.cons (.v 4) (.cons (.v 5) (.cons (.v 6) .nil)))) (.var 0)) (.cons (.ret (.bop .And (.cons (.prim (.cmp .Lt) (.cons (.var 3) (.cons (.var 1) .nil))) (.cons (.prim (.cmp .Lt) (.cons (.var 4) (.cons (.var 1) .nil))) (.cons (.chain .LtE .LtE (.int 1) (.var 5) (.glb "MOST_LENGTH" (.int (400)))) (.cons (.chain .LtE .Lt (.int 1) (.var 6) (.glb "MANY_BOUND" (.int (10000000000000000000000000000000000000000000000000000000000000000000000000000000000000000000000000000000000000000000000000000000000000000000000000000000000000000000000000000000000000000000000000000000000000000000000000000000000000000000000000000000000000000000000000000000000000000000000000000000000000000000000000000000000000000000000000000000000000000000000000000000000000000000000000000000000000000)))) .nil)))))) .nil)))⟩
def f_is_machine : Fn := ⟨"is_machine", ["value"], ["value", "places", "roads", "road", "near", "far"], (.cons (.ife (.bop .Or (.cons (.nt (.prim (.isi .tuple) (.cons (.var 0) .nil))) (.cons (.prim (.cmp .NotEq) (.cons (.prim (.bf .len) (.cons (.var 0) .nil)) (.cons (.int 3) .nil))) (.cons (.nt (.prim (.isi .str) (.cons (.prim .idx (.cons (.var 0) (.cons (.int 0) .nil))) .nil))) (.cons (.prim (.cmp .NotEq) (.cons (.prim .idx (.cons (.var 0) (.cons (.int 0) .nil))) (.cons (.str "machine") .nil))) .nil))))) (.cons (.ret (.bl false)) .nil) .nil) (.cons (.par [1, 2] (.cons (.prim .idx (.cons (.var 0) (.cons (.int 1) .nil))) (.cons (.prim .idx (.cons (.var 0) (.cons (.int 2) .nil))) .nil))) (.cons (.ife (.bop .Or (.cons (.nt (.call 0 [none] (.cons (.var 1) .nil) .nil)) (.cons (.nt (.chain .LtE .LtE (.int 1) (.var 1) (.glb "MOST_PLACES" (.int (12))))) .nil))) (.cons (.ret (.bl false)) .nil) .nil) (.cons (.ife (.bop .Or (.cons (.nt (.prim (.isi .tuple) (.cons (.var 2) .nil))) (.cons (.prim (.cmp .Gt) (.cons (.prim (.bf .len) (.cons (.var 2) .nil)) (.cons (.glb "MOST_ROADS" (.int (60))) .nil))) .nil))) (.cons (.ret (.bl false)) .nil) .nil) (.cons (.ife (.nt (.prim (.bf .all) (.cons (.lc (.call 2 [none, none] (.cons (.var 3) (.cons (.var 1) .nil)) .nil) (.v 3) (.seq (.var 2)) .nil [3]) .nil))) (.cons (.ret (.bl false)) .nil) .nil) (.cons (.ret (.prim (.bf .all) (.cons (.lc (.prim (.cmp .Lt) (.cons (.sl (.var 4) .nil (.cons (.int 3) .nil)) (.cons (.sl (.var 5) .nil (.cons (.int 3) .nil)) .nil))) (.cons (.v 4) (.cons (.v 5) .nil)) (.zip (.var 2) (.sl (.var 2) (.cons (.int 1) .nil) .nil)) .nil [4, 5]) .nil))) .nil))))))⟩
def f_want_machine : Fn := ⟨"want_machine", ["value"], ["value"], (.cons (.ife (.nt (.call 3 [none] (.cons (.var 0) .nil) .nil)) (.cons .never .nil) .nil) (.cons (.ret (.var 0)) .nil))⟩
def f_roads_from : Fn := ⟨"roads_from", ["machine", "place"], ["machine", "place", "one", "other", "length", "many"], (.cons (.ret (.lc (.tup (.cons (.var 3) (.cons (.var 4) (.cons (.var 5) .nil)))) (.cons (.v 2) (.cons (.v 3) (.cons (.v 4) (.cons (.v 5) .nil)))) (.seq (.prim .idx (.cons (.var 0) (.cons (.int 2) .nil)))) (.cons (.prim (.cmp .Eq) (.cons (.var 2) (.cons (.var 1) .nil))) .nil) [2, 3, 4, 5])) .nil)⟩
def f_reach_of : Fn := ⟨"reach_of", ["machine", "place"], ["machine", "place", "known", "late", "other", "length", "many"], (.cons (.par [2, 3] (.cons (.lst .nil) (.cons (.lst (.cons (.var 1) .nil)) .nil))) (.cons (.whl (.prim (.cmp .NotEq) (.cons (.var 3) (.cons (.lst .nil) .nil))) (.cons (.fore (.cons (.v 4) (.cons (.v 5) (.cons (.v 6) .nil))) (.seq (.call 23 [none, none] (.cons (.var 0) (.cons (.pop 3) .nil)) .nil)) (.cons (.ife (.prim (.cmp .NotIn) (.cons (.var 4) (.cons (.var 2) .nil))) (.cons (.app 2 (.var 4)) (.cons (.app 3 (.var 4)) .nil)) .nil) .nil)) .nil)) (.cons (.ret (.prim (.bf .sorted) (.cons (.var 2) .nil))) .nil)))⟩
def f_together_of : Fn := ⟨"together_of", ["machine"], ["machine", "places", "place"], (.cons (.asg (.v 1) (.prim .lrg (.cons (.prim .idx (.cons (.var 0) (.cons (.int 1) .nil))) .nil))) (.cons (.ret (.prim (.bf .all) (.cons (.lc (.prim (.cmp .Eq) (.cons (.call 36 [none, none] (.cons (.var 0) (.cons (.var 2) .nil)) .nil) (.cons (.var 1) .nil))) (.v 2) (.seq (.var 1)) .nil [2]) .nil))) .nil))⟩
def f_parts_together : Fn := ⟨"parts_together", ["machine"], ["machine", "reach", "found", "done", "place", "part", "other"], (.cons (.par [1, 2, 3] (.cons (.lc (.call 36 [none, none] (.cons (.var 0) (.cons (.var 4) .nil)) .nil) (.v 4) (.range (.cons (.prim .idx (.cons (.var 0) (.cons (.int 1) .nil))) .nil)) .nil [4, 4]) (.cons (.lst .nil) (.cons (.lst .nil) .nil)))) (.cons (.fore (.v 4) (.range (.cons (.prim .idx (.cons (.var 0) (.cons (.int 1) .nil))) .nil)) (.cons (.ife (.bop .And (.cons (.prim (.cmp .In) (.cons (.var 4) (.cons (.prim .idx (.cons (.var 1) (.cons (.var 4) .nil))) .nil))) (.cons (.prim (.cmp .NotIn) (.cons (.var 4) (.cons (.var 3) .nil))) .nil))) (.cons (.asg (.v 5) (.lc (.var 6) (.v 6) (.seq (.prim .idx (.cons (.var 1) (.cons (.var 4) .nil)))) (.cons (.prim (.cmp .In) (.cons (.var 4) (.cons (.prim .idx (.cons (.var 1) (.cons (.var 6) .nil))) .nil))) .nil) [6])) (.cons (.app 2 (.var 5)) (.cons (.asg (.v 3) (.prim (.bin .Add) (.cons (.var 3) (.cons (.var 5) .nil)))) .nil))) .nil) .nil)) (.cons (.ret (.var 2)) .nil)))⟩
def f_part_beat : Fn := ⟨"part_beat", ["machine", "part"], ["machine", "part", "far", "late", "found", "place", "other", "length", "many", "one"], (.cons (.par [2, 3, 4] (.cons (.dlit (.prim .idx (.cons (.var 1) (.cons (.int 0) .nil))) (.int 0)) (.cons (.lst (.cons (.prim .idx (.cons (.var 1) (.cons (.int 0) .nil))) .nil)) (.cons (.int 0) .nil)))) (.cons (.whl (.prim (.cmp .NotEq) (.cons (.var 3) (.cons (.lst .nil) .nil))) (.cons (.asg (.v 5) (.pop 3)) (.cons (.fore (.cons (.v 6) (.cons (.v 7) (.cons (.v 8) .nil))) (.seq (.call 23 [none, none] (.cons (.var 0) (.cons (.var 5) .nil)) .nil)) (.cons (.ife (.bop .And (.cons (.prim (.cmp .In) (.cons (.var 6) (.cons (.var 1) .nil))) (.cons (.prim (.cmp .NotIn) (.cons (.var 6) (.cons (.var 2) .nil))) .nil))) (.cons (.asg (.ix 2 (.var 6)) (.prim (.bin .Add) (.cons (.prim .idx (.cons (.var 2) (.cons (.var 5) .nil))) (.cons (.var 7) .nil)))) (.cons (.app 3 (.var 6)) .nil)) .nil) .nil)) .nil))) (.cons (.fore (.cons (.v 9) (.cons (.v 6) (.cons (.v 7) (.cons (.v 8) .nil)))) (.seq (.prim .idx (.cons (.var 0) (.cons (.int 2) .nil)))) (.cons (.ife (.bop .And (.cons (.prim (.cmp .In) (.cons (.var 9) (.cons (.var 1) .nil))) (.cons (.prim (.cmp .In) (.cons (.var 6) (.cons (.var 1) .nil))) .nil))) (.cons (.asg (.v 4) (.prim .gcd (.cons (.var 4) (.cons (.prim (.bin .Sub) (.cons (.prim (.bin .Add) (.cons (.prim .idx (.cons (.var 2) (.cons (.var 9) .nil))) (.cons (.var 7) .nil))) (.cons (.prim .idx (.cons (.var 2) (.cons (.var 6) .nil))) .nil))) .nil)))) .nil) .nil) .nil)) (.cons (.ret (.var 4)) .nil))))⟩
def f_beat_of : Fn := ⟨"beat_of", ["machine"], ["machine", "found", "part"], (.cons (.asg (.v 1) (.int 0)) (.cons (.fore (.v 2) (.seq (.call 38 [none] (.cons (.var 0) .nil) .nil)) (.cons (.asg (.v 1) (.prim .gcd (.cons (.var 1) (.cons (.call 39 [none, none] (.cons (.var 0) (.cons (.var 2) .nil)) .nil) .nil)))) .nil)) (.cons (.ret (.var 1)) .nil)))⟩
def f_has_rounds_without : Fn := ⟨"has_rounds_without", ["machine", "place"], ["machine", "place", "left", "before", "other", "one", "length", "many"], (.cons (.par [2, 3] (.cons (.lc (.var 4) (.v 4) (.range (.cons (.prim .idx (.cons (.var 0) (.cons (.int 1) .nil))) .nil)) (.cons (.prim (.cmp .NotEq) (.cons (.var 4) (.cons (.var 1) .nil))) .nil) [4]) (.cons (.prim .idx (.cons (.var 0) (.cons (.int 1) .nil))) .nil))) (.cons (.whl (.prim (.cmp .Lt) (.cons (.prim (.bf .len) (.cons (.var 2) .nil)) (.cons (.var 3) .nil))) (.cons (.asg (.v 3) (.prim (.bf .len) (.cons (.var 2) .nil))) (.cons (.asg (.v 2) (.lc (.var 5) (.v 5) (.seq (.var 2)) (.cons (.prim (.cmp .NotEq) (.cons (.lc (.int 1) (.cons (.v 4) (.cons (.v 6) (.cons (.v 7) .nil))) (.seq (.call 23 [none, none] (.cons (.var 0) (.cons (.var 5) .nil)) .nil)) (.cons (.prim (.cmp .In) (.cons (.var 4) (.cons (.var 2) .nil))) .nil) [4, 6, 7]) (.cons (.lst .nil) .nil))) .nil) [5])) .nil))) (.cons (.ret (.prim (.cmp .NotEq) (.cons (.var 2) (.cons (.lst .nil) .nil)))) .nil)))⟩
def f_is_together : Fn := ⟨"is_together", ["machine"], ["machine"], (.cons (.ret (.call 37 [none] (.cons (.call 21 [none] (.cons (.var 0) .nil) .nil) .nil) .nil)) .nil)⟩
def f_beat : Fn := ⟨"beat", ["machine"], ["machine"], (.cons (.ret (.call 40 [none] (.cons (.call 21 [none] (.cons (.var 0) .nil) .nil) .nil) .nil)) .nil)⟩
def f_hubs : Fn := ⟨"hubs", ["machine"], ["machine", "place"], (.cons (.expr (.call 21 [none] (.cons (.var 0) .nil) .nil)) (.cons (.ret (.lc (.var 1) (.v 1) (.range (.cons (.prim .idx (.cons (.var 0) (.cons (.int 1) .nil))) .nil)) (.cons (.nt (.call 41 [none, none] (.cons (.var 0) (.cons (.var 1) .nil)) .nil)) .nil) [1])) .nil))⟩
def f__law_pot : Fn := ⟨"_law_pot", ["script", "k"], ["script", "k", "cell", "mixed"], (.cons (.asg (.v 2) (.ite (.prim (.cmp .Lt) (.cons (.var 1) (.cons (.prim (.bf .len) (.cons (.var 0) .nil)) .nil))) (.prim (.bf .abs) (.cons (.prim .idx (.cons (.var 0) (.cons (.var 1) .nil))) .nil)) (.prim (.bin .Add) (.cons (.prim (.bin .Mult) (.cons (.int 719) (.cons (.var 1) .nil))) (.cons (.int 151) .nil))))) (.cons (.asg (.v 3) (.prim (.bin .Add) (.cons (.prim (.bin .Mod) (.cons (.prim (.bf .int) (.cons (.prim (.bin .Add) (.cons (.prim (.bin .Add) (.cons (.prim (.bin .Mult) (.cons (.prim (.bin .Mod) (.cons (.prim (.bf .int) (.cons (.var 2) .nil)) (.cons (.int 2147483549) .nil))) (.cons (.int 40153) .nil))) (.cons (.prim (.bin .Mult) (.cons (.int 9371) (.cons (.var 1) .nil))) .nil))) (.cons (.int 73) .nil))) .nil)) (.cons (.int 2147483563) .nil))) (.cons (.int 1) .nil)))) (.cons (.ret (.lst (.cons (.prim (.bf .max) (.cons (.int 0) (.cons (.prim (.bin .Sub) (.cons (.var 2) (.cons (.prim (.bin .Pow) (.cons (.int 10) (.cons (.int 18) .nil))) .nil))) .nil))) (.cons (.var 3) .nil)))) .nil)))⟩
def f__law_draw : Fn := ⟨"_law_draw", ["pot", "many"], ["pot", "many", "digit"], (.cons (.ife (.prim (.cmp .Gt) (.cons (.prim .idx (.cons (.var 0) (.cons (.int 0) .nil))) (.cons (.int 0) .nil))) (.cons (.asg (.cons (.ix 0 (.int 0)) (.cons (.v 2) .nil)) (.prim (.bf .divmod) (.cons (.prim .idx (.cons (.var 0) (.cons (.int 0) .nil))) (.cons (.var 1) .nil)))) (.cons (.ret (.var 2)) .nil)) .nil) (.cons (.asg (.ix 0 (.int 1)) (.prim (.bin .Mod) (.cons (.prim (.bf .int) (.cons (.prim (.bin .Add) (.cons (.prim (.bin .Mult) (.cons (.prim .idx (.cons (.var 0) (.cons (.int 1) .nil))) (.cons (.int 40014) .nil))) (.cons (.int 9371) .nil))) .nil)) (.cons (.int 2147483587) .nil)))) (.cons (.ret (.prim (.bin .Mod) (.cons (.prim (.bf .int) (.cons (.prim (.bin .FloorDiv) (.cons (.prim (.bin .Mod) (.cons (.prim (.bf .int) (.cons (.prim (.bin .Mult) (.cons (.prim .idx (.cons (.var 0) (.cons (.int 1) .nil))) (.cons (.prim .idx (.cons (.var 0) (.cons (.int 1) .nil))) .nil))) .nil)) (.cons (.int 2147483549) .nil))) (.cons (.int 19) .nil))) .nil)) (.cons (.var 1) .nil)))) .nil)))⟩
def f__law_machine : Fn := ⟨"_law_machine", ["pot"], ["pot", "is_great", "places", "roads", "step", "heights", "place", "turn", "one", "other", "length", "key"], (.cons (.asg (.v 1) (.prim (.cmp .Eq) (.cons (.call 46 [none, none] (.cons (.var 0) (.cons (.int 4) .nil)) .nil) (.cons (.int 0) .nil)))) (.cons (.par [2, 3] (.cons (.prim (.bin .Add) (.cons (.int 1) (.cons (.call 46 [none, none] (.cons (.var 0) (.cons (.ite (.var 1) (.int 12) (.int 5)) .nil)) .nil) .nil))) (.cons (.dnew true) .nil))) (.cons (.par [4, 5] (.cons (.prim (.bin .Add) (.cons (.int 1) (.cons (.call 46 [none, none] (.cons (.var 0) (.cons (.int 4) .nil)) .nil) .nil))) (.cons (.lst .nil) .nil))) (.cons (.fore (.v 6) (.range (.cons (.var 2) .nil)) (.cons (.app 5 (.call 46 [none, none] (.cons (.var 0) (.cons (.var 4) .nil)) .nil)) .nil)) (.cons (.fore (.v 7) (.range (.cons (.prim (.bin .Add) (.cons (.int 1) (.cons (.call 46 [none, none] (.cons (.var 0) (.cons (.ite (.var 1) (.int 16) (.int 8)) .nil)) .nil) .nil))) .nil)) (.cons (.par [8, 9] (.cons (.call 46 [none, none] (.cons (.var 0) (.cons (.var 2) .nil)) .nil) (.cons (.call 46 [none, none] (.cons (.var 0) (.cons (.var 2) .nil)) .nil) .nil))) (.cons (.ife (.bop .And (.cons (.var 1) (.cons (.prim (.cmp .Lt) (.cons (.var 7) (.cons (.var 2) .nil))) (.cons (.prim (.cmp .Lt) (.cons (.var 4) (.cons (.int 3) .nil))) .nil)))) (.cons (.par [8, 9] (.cons (.var 7) (.cons (.prim (.bin .Mod) (.cons (.prim (.bf .int) (.cons (.prim (.bin .Add) (.cons (.var 7) (.cons (.int 1) .nil))) .nil)) (.cons (.var 2) .nil))) .nil))) .nil) .nil) (.cons (.asg (.v 10) (.prim (.bin .Add) (.cons (.prim (.bin .Mod) (.cons (.prim (.bf .int) (.cons (.prim (.bin .Sub) (.cons (.prim .idx (.cons (.var 5) (.cons (.var 9) .nil))) (.cons (.prim .idx (.cons (.var 5) (.cons (.var 8) .nil))) .nil))) .nil)) (.cons (.var 4) .nil))) (.cons (.prim (.bin .Mult) (.cons (.var 4) (.cons (.call 46 [none, none] (.cons (.var 0) (.cons (.int 3) .nil)) .nil) .nil))) .nil)))) (.cons (.asg (.ix 3 (.tup (.cons (.var 8) (.cons (.var 9) (.cons (.ite (.prim (.cmp .Gt) (.cons (.var 10) (.cons (.int 0) .nil))) (.var 10) (.var 4)) .nil))))) (.prim (.bin .Add) (.cons (.int 1) (.cons (.call 46 [none, none] (.cons (.var 0) (.cons (.int 2) .nil)) .nil) .nil)))) .nil))))) (.cons (.ret (.tup (.cons (.str "machine") (.cons (.var 2) (.cons (.prim (.bf .tuple) (.cons (.lc (.prim (.bin .Add) (.cons (.var 11) (.cons (.tup (.cons (.prim .idx (.cons (.var 3) (.cons (.var 11) .nil))) .nil)) .nil))) (.v 11) (.seq (.prim (.bf .sorted) (.cons (.var 3) .nil))) .nil [11]) .nil)) .nil))))) .nil))))))⟩
def f__law_closed : Fn := ⟨"_law_closed", ["machine"], ["machine", "places", "leads", "place", "one", "other", "length", "many", "between"], (.cons (.asg (.v 1) (.prim .lrg (.cons (.prim .idx (.cons (.var 0) (.cons (.int 1) .nil))) .nil))) (.cons (.asg (.v 2) (.lc (.prim (.bin .Mult) (.cons (.lst (.cons (.bl false) .nil)) (.cons (.prim .idx (.cons (.var 0) (.cons (.int 1) .nil))) .nil))) (.v 3) (.seq (.var 1)) .nil [3])) (.cons (.fore (.cons (.v 4) (.cons (.v 5) (.cons (.v 6) (.cons (.v 7) .nil)))) (.seq (.prim .idx (.cons (.var 0) (.cons (.int 2) .nil)))) (.cons (.set2 2 (.var 4) (.var 5) (.bl true)) .nil)) (.cons (.fore (.v 8) (.seq (.var 1)) (.cons (.fore (.v 4) (.seq (.var 1)) (.cons (.fore (.v 5) (.seq (.var 1)) (.cons (.ife (.bop .And (.cons (.idx2 2 (.var 4) (.var 8)) (.cons (.idx2 2 (.var 8) (.var 5)) .nil))) (.cons (.set2 2 (.var 4) (.var 5) (.bl true)) .nil) .nil) .nil)) .nil)) .nil)) (.cons (.retz (.var 2)) .nil)))))⟩
def f__law_rounds : Fn := ⟨"_law_rounds", ["machine"], ["machine", "found", "late", "place", "row", "far", "one", "other", "length", "many"], (.cons (.par [1, 2] (.cons (.lst .nil) (.cons (.lc (.tup (.cons (.lst (.cons (.var 3) .nil)) (.cons (.int 0) .nil))) (.v 3) (.range (.cons (.prim .idx (.cons (.var 0) (.cons (.int 1) .nil))) .nil)) .nil [3]) .nil))) (.cons (.whl (.prim (.cmp .NotEq) (.cons (.var 2) (.cons (.lst .nil) .nil))) (.cons (.asg (.cons (.v 4) (.cons (.v 5) .nil)) (.pop 2)) (.cons (.fore (.cons (.v 6) (.cons (.v 7) (.cons (.v 8) (.cons (.v 9) .nil)))) (.seq (.prim .idx (.cons (.var 0) (.cons (.int 2) .nil)))) (.cons (.ife (.bop .And (.cons (.prim (.cmp .Eq) (.cons (.var 6) (.cons (.prim .idx (.cons (.var 4) (.cons (.prim .neg (.cons (.int 1) .nil)) .nil))) .nil))) (.cons (.prim (.cmp .Eq) (.cons (.var 7) (.cons (.prim .idx (.cons (.var 4) (.cons (.int 0) .nil))) .nil))) .nil))) (.cons (.app 1 (.tup (.cons (.var 4) (.cons (.prim (.bin .Add) (.cons (.var 5) (.cons (.var 8) .nil))) .nil)))) .nil) (.cons (.ife (.bop .And (.cons (.prim (.cmp .Eq) (.cons (.var 6) (.cons (.prim .idx (.cons (.var 4) (.cons (.prim .neg (.cons (.int 1) .nil)) .nil))) .nil))) (.cons (.prim (.cmp .Gt) (.cons (.var 7) (.cons (.prim .idx (.cons (.var 4) (.cons (.int 0) .nil))) .nil))) (.cons (.prim (.cmp .NotIn) (.cons (.var 7) (.cons (.var 4) .nil))) .nil)))) (.cons (.app 2 (.tup (.cons (.prim (.bin .Add) (.cons (.var 4) (.cons (.lst (.cons (.var 7) .nil)) .nil))) (.cons (.prim (.bin .Add) (.cons (.var 5) (.cons (.var 8) .nil))) .nil)))) .nil) .nil) .nil)) .nil)) .nil))) (.cons (.ret (.var 1)) .nil)))⟩
def f__law_common : Fn := ⟨"_law_common", ["numbers"], ["numbers", "found", "number", "one", "other"], (.cons (.asg (.v 1) (.int 0)) (.cons (.fore (.v 2) (.seq (.var 0)) (.cons (.par [3, 4] (.cons (.var 1) (.cons (.var 2) .nil))) (.cons (.whl (.prim (.cmp .Gt) (.cons (.var 4) (.cons (.int 0) .nil))) (.cons (.par [3, 4] (.cons (.var 4) (.cons (.prim (.bin .Mod) (.cons (.prim (.bf .int) (.cons (.var 3) .nil)) (.cons (.var 4) .nil))) .nil))) .nil)) (.cons (.asg (.v 1) (.var 3)) .nil)))) (.cons (.ret (.var 1)) .nil)))⟩
def f__law_right : Fn := ⟨"_law_right", ["pot"], ["pot", "machine", "shown", "leads", "rounds", "due", "row", "length", "far", "places", "place", "told"], (.cons (.asg (.v 1) (.call 47 [none] (.cons (.var 0) .nil) .nil)) (.cons (.par [2, 3, 4] (.cons (.prim (.bf .repr) (.cons (.var 1) .nil)) (.cons (.call 48 [none] (.cons (.var 1) .nil) .nil) (.cons (.call 49 [none] (.cons (.var 1) .nil) .nil) .nil)))) (.cons (.asg (.v 5) (.prim (.cmp .Eq) (.cons (.lc (.var 6) (.v 6) (.seq (.var 3)) (.cons (.prim (.cmp .In) (.cons (.bl false) (.cons (.var 6) .nil))) .nil) [6]) (.cons (.lst .nil) .nil)))) (.cons (.ife (.prim (.cmp .NotEq) (.cons (.prim (.bf .repr) (.cons (.lst (.cons (.call 42 [none] (.cons (.var 1) .nil) .nil) (.cons (.call 42 [none] .nil (.cons (.var 1) .nil)) .nil))) .nil)) (.cons (.prim (.bf .repr) (.cons (.lst (.cons (.var 5) (.cons (.var 5) .nil))) .nil)) .nil))) (.cons (.ret (.bl false)) .nil) .nil) (.cons (.asg (.v 7) (.call 50 [none] (.cons (.lc (.var 8) (.cons (.v 6) (.cons (.v 8) .nil)) (.seq (.var 4)) .nil [6, 8]) .nil) .nil)) (.cons (.ife (.prim (.cmp .NotEq) (.cons (.prim (.bf .repr) (.cons (.lst (.cons (.call 43 [none] (.cons (.var 1) .nil) .nil) (.cons (.call 43 [none] .nil (.cons (.var 1) .nil)) .nil))) .nil)) (.cons (.prim (.bf .repr) (.cons (.lst (.cons (.var 7) (.cons (.var 7) .nil))) .nil)) .nil))) (.cons (.ret (.bl false)) .nil) .nil) (.cons (.asg (.v 9) (.lst .nil)) (.cons (.fore (.v 10) (.range (.cons (.prim .idx (.cons (.var 1) (.cons (.int 1) .nil))) .nil)) (.cons (.ife (.prim (.cmp .Eq) (.cons (.lc (.var 6) (.cons (.v 6) (.cons (.v 8) .nil)) (.seq (.var 4)) (.cons (.prim (.cmp .NotIn) (.cons (.var 10) (.cons (.var 6) .nil))) .nil) [6, 8]) (.cons (.lst .nil) .nil))) (.cons (.app 9 (.var 10)) .nil) .nil) .nil)) (.cons (.asg (.v 11) (.call 44 [none] (.cons (.var 1) .nil) .nil)) (.cons (.ife (.bop .Or (.cons (.prim (.cmp .NotEq) (.cons (.var 11) (.cons (.var 9) .nil))) (.cons (.prim (.cmp .NotEq) (.cons (.prim (.bf .repr) (.cons (.var 1) .nil)) (.cons (.var 2) .nil))) .nil))) (.cons (.ret (.bl false)) .nil) .nil) (.cons (.app 11 .non) (.cons (.ret (.prim (.cmp .Eq) (.cons (.call 44 [none] .nil (.cons (.var 1) .nil)) (.cons (.var 9) .nil)))) .nil))))))))))))⟩
def f_law : Fn := ⟨"law", ["script"], ["script"], (.cons (.ret (.call 51 [none] (.cons (.call 45 [none, none] (.cons (.var 0) (.cons (.int 0) .nil)) .nil) .nil) .nil)) .nil)⟩
abbrev s_is_integer : Stmt := top 5
abbrev s_is_count : Stmt := top 6
abbrev s_is_road : Stmt := top 12
abbrev s_is_machine : Stmt := top 13
abbrev s_want_machine : Stmt := top 14
abbrev s_roads_from : Stmt := top 15
abbrev s_reach_of : Stmt := top 16
abbrev s_together_of : Stmt := top 17
abbrev s_parts_together : Stmt := top 18
abbrev s_part_beat : Stmt := top 19
abbrev s_beat_of : Stmt := top 20
abbrev s_has_rounds_without : Stmt := top 21
abbrev s_is_together : Stmt := top 22
abbrev s_beat : Stmt := top 23
abbrev s_hubs : Stmt := top 24
abbrev s__law_pot : Stmt := top 26
abbrev s__law_draw : Stmt := top 27
abbrev s__law_machine : Stmt := top 28
abbrev s__law_closed : Stmt := top 29
abbrev s__law_rounds : Stmt := top 30
abbrev s__law_common : Stmt := top 31
abbrev s__law_right : Stmt := top 32
abbrev s_law : Stmt := top 33
def rows : List Pv.Row := [⟨0, f_is_integer, s_is_integer, "is_integer", [], []⟩, ⟨1, f_is_count, s_is_count, "is_count", [], []⟩, ⟨2, f_is_road, s_is_road, "is_road", [], []⟩, ⟨3, f_is_machine, s_is_machine, "is_machine", [], []⟩, ⟨21, f_want_machine, s_want_machine, "want_machine", [], []⟩, ⟨23, f_roads_from, s_roads_from, "roads_from", [], []⟩, ⟨36, f_reach_of, s_reach_of, "reach_of", [], []⟩, ⟨37, f_together_of, s_together_of, "together_of", [], []⟩, ⟨38, f_parts_together, s_parts_together, "parts_together", [], []⟩, ⟨39, f_part_beat, s_part_beat, "part_beat", [], []⟩, ⟨40, f_beat_of, s_beat_of, "beat_of", [], []⟩, ⟨41, f_has_rounds_without, s_has_rounds_without, "has_rounds_without", [], []⟩, ⟨42, f_is_together, s_is_together, "is_together", [], []⟩, ⟨43, f_beat, s_beat, "beat", [], []⟩, ⟨44, f_hubs, s_hubs, "hubs", [], []⟩, ⟨45, f__law_pot, s__law_pot, "_law_pot", [], []⟩, ⟨46, f__law_draw, s__law_draw, "_law_draw", [], []⟩, ⟨47, f__law_machine, s__law_machine, "_law_machine", [], []⟩, ⟨48, f__law_closed, s__law_closed, "_law_closed", [], []⟩, ⟨49, f__law_rounds, s__law_rounds, "_law_rounds", [], []⟩, ⟨50, f__law_common, s__law_common, "_law_common", [], []⟩, ⟨51, f__law_right, s__law_right, "_law_right", [], []⟩, ⟨52, f_law, s_law, "law", [], []⟩]
def cals : List Cal := [⟨0, "is_integer", 1, [], [none]⟩,
  ⟨1, "is_count", 1, [], [none]⟩,
  ⟨2, "is_road", 2, [], [none, none]⟩,
  ⟨3, "is_machine", 1, [], [none]⟩,
  ⟨23, "roads_from", 2, [], [none, none]⟩,
  ⟨36, "reach_of", 2, [], [none, none]⟩,
  ⟨38, "parts_together", 1, [], [none]⟩,
  ⟨39, "part_beat", 2, [], [none, none]⟩,
  ⟨37, "together_of", 1, [], [none]⟩,
  ⟨21, "want_machine", 1, [], [none]⟩,
  ⟨40, "beat_of", 1, [], [none]⟩,
  ⟨41, "has_rounds_without", 2, [], [none, none]⟩,
  ⟨46, "_law_draw", 2, [], [none, none]⟩,
  ⟨47, "_law_machine", 1, [], [none]⟩,
  ⟨48, "_law_closed", 1, [], [none]⟩,
  ⟨49, "_law_rounds", 1, [], [none]⟩,
  ⟨42, "is_together", 1, [], [none]⟩,
  ⟨42, "is_together", 0, ["machine"], [none]⟩,
  ⟨50, "_law_common", 1, [], [none]⟩,
  ⟨43, "beat", 1, [], [none]⟩,
  ⟨43, "beat", 0, ["machine"], [none]⟩,
  ⟨44, "hubs", 1, [], [none]⟩,
  ⟨44, "hubs", 0, ["machine"], [none]⟩,
  ⟨51, "_law_right", 1, [], [none]⟩,
  ⟨45, "_law_pot", 2, [], [none, none]⟩]
def lib : Lib := ⟨[("MOST_LENGTH", (.int (400))), ("MANY_BOUND", (.int (10000000000000000000000000000000000000000000000000000000000000000000000000000000000000000000000000000000000000000000000000000000000000000000000000000000000000000000000000000000000000000000000000000000000000000000000000000000000000000000000000000000000000000000000000000000000000000000000000000000000000000000000000000000000000000000000000000000000000000000000000000000000000000000000000000000000000000))), ("MOST_PLACES", (.int (12))), ("MOST_ROADS", (.int (60)))], ["isinstance", "int", "bool", "tuple", "len", "all", "str", "zip", "sorted", "list", "range", "abs", "max", "divmod", "repr"], cals, true⟩
theorem rows_ok : rows.all (rowB lib) = true := by decide +kernel
theorem glb_ok : glbB lib = true := by decide +kernel
theorem cal_ok {K : PySem.W.Frag} : ∀ c ∈ lib.cal, ∃ r, look rows c.f = some r ∧ c.name = r.fn.name ∧ c.src.length = r.fn.params.length ∧ ∀ fa fd, r.Is K fa fd → CalBind K fd r.fn.params c :=
  List.forall_mem_cons.mpr ⟨⟨(⟨0, f_is_integer, s_is_integer, "is_integer", [], []⟩ : Pv.Row), rfl, rfl, rfl, fun fa fd F => cal_all F rfl rfl rfl fun _ _ _ _ _ _ us ws h1 h2 => match us, ws, h1, h2 with | [_], [], _, _ => rfl⟩,
  List.forall_mem_cons.mpr ⟨⟨(⟨1, f_is_count, s_is_count, "is_count", [], []⟩ : Pv.Row), rfl, rfl, rfl, fun fa fd F => cal_all F rfl rfl rfl fun _ _ _ _ _ _ us ws h1 h2 => match us, ws, h1, h2 with | [_], [], _, _ => rfl⟩,
  List.forall_mem_cons.mpr ⟨⟨(⟨2, f_is_road, s_is_road, "is_road", [], []⟩ : Pv.Row), rfl, rfl, rfl, fun fa fd F => cal_all F rfl rfl rfl fun _ _ _ _ _ _ us ws h1 h2 => match us, ws, h1, h2 with | [_, _], [], _, _ => rfl⟩,
  List.forall_mem_cons.mpr ⟨⟨(⟨3, f_is_machine, s_is_machine, "is_machine", [], []⟩ : Pv.Row), rfl, rfl, rfl, fun fa fd F => cal_all F rfl rfl rfl fun _ _ _ _ _ _ us ws h1 h2 => match us, ws, h1, h2 with | [_], [], _, _ => rfl⟩,
  List.forall_mem_cons.mpr ⟨⟨(⟨23, f_roads_from, s_roads_from, "roads_from", [], []⟩ : Pv.Row), rfl, rfl, rfl, fun fa fd F => cal_all F rfl rfl rfl fun _ _ _ _ _ _ us ws h1 h2 => match us, ws, h1, h2 with | [_, _], [], _, _ => rfl⟩,
  List.forall_mem_cons.mpr ⟨⟨(⟨36, f_reach_of, s_reach_of, "reach_of", [], []⟩ : Pv.Row), rfl, rfl, rfl, fun fa fd F => cal_all F rfl rfl rfl fun _ _ _ _ _ _ us ws h1 h2 => match us, ws, h1, h2 with | [_, _], [], _, _ => rfl⟩,
  List.forall_mem_cons.mpr ⟨⟨(⟨38, f_parts_together, s_parts_together, "parts_together", [], []⟩ : Pv.Row), rfl, rfl, rfl, fun fa fd F => cal_all F rfl rfl rfl fun _ _ _ _ _ _ us ws h1 h2 => match us, ws, h1, h2 with | [_], [], _, _ => rfl⟩,
  List.forall_mem_cons.mpr ⟨⟨(⟨39, f_part_beat, s_part_beat, "part_beat", [], []⟩ : Pv.Row), rfl, rfl, rfl, fun fa fd F => cal_all F rfl rfl rfl fun _ _ _ _ _ _ us ws h1 h2 => match us, ws, h1, h2 with | [_, _], [], _, _ => rfl⟩,
  List.forall_mem_cons.mpr ⟨⟨(⟨37, f_together_of, s_together_of, "together_of", [], []⟩ : Pv.Row), rfl, rfl, rfl, fun fa fd F => cal_all F rfl rfl rfl fun _ _ _ _ _ _ us ws h1 h2 => match us, ws, h1, h2 with | [_], [], _, _ => rfl⟩,
  List.forall_mem_cons.mpr ⟨⟨(⟨21, f_want_machine, s_want_machine, "want_machine", [], []⟩ : Pv.Row), rfl, rfl, rfl, fun fa fd F => cal_all F rfl rfl rfl fun _ _ _ _ _ _ us ws h1 h2 => match us, ws, h1, h2 with | [_], [], _, _ => rfl⟩,
  List.forall_mem_cons.mpr ⟨⟨(⟨40, f_beat_of, s_beat_of, "beat_of", [], []⟩ : Pv.Row), rfl, rfl, rfl, fun fa fd F => cal_all F rfl rfl rfl fun _ _ _ _ _ _ us ws h1 h2 => match us, ws, h1, h2 with | [_], [], _, _ => rfl⟩,
  List.forall_mem_cons.mpr ⟨⟨(⟨41, f_has_rounds_without, s_has_rounds_without, "has_rounds_without", [], []⟩ : Pv.Row), rfl, rfl, rfl, fun fa fd F => cal_all F rfl rfl rfl fun _ _ _ _ _ _ us ws h1 h2 => match us, ws, h1, h2 with | [_, _], [], _, _ => rfl⟩,
  List.forall_mem_cons.mpr ⟨⟨(⟨46, f__law_draw, s__law_draw, "_law_draw", [], []⟩ : Pv.Row), rfl, rfl, rfl, fun fa fd F => cal_all F rfl rfl rfl fun _ _ _ _ _ _ us ws h1 h2 => match us, ws, h1, h2 with | [_, _], [], _, _ => rfl⟩,
  List.forall_mem_cons.mpr ⟨⟨(⟨47, f__law_machine, s__law_machine, "_law_machine", [], []⟩ : Pv.Row), rfl, rfl, rfl, fun fa fd F => cal_all F rfl rfl rfl fun _ _ _ _ _ _ us ws h1 h2 => match us, ws, h1, h2 with | [_], [], _, _ => rfl⟩,
  List.forall_mem_cons.mpr ⟨⟨(⟨48, f__law_closed, s__law_closed, "_law_closed", [], []⟩ : Pv.Row), rfl, rfl, rfl, fun fa fd F => cal_all F rfl rfl rfl fun _ _ _ _ _ _ us ws h1 h2 => match us, ws, h1, h2 with | [_], [], _, _ => rfl⟩,
  List.forall_mem_cons.mpr ⟨⟨(⟨49, f__law_rounds, s__law_rounds, "_law_rounds", [], []⟩ : Pv.Row), rfl, rfl, rfl, fun fa fd F => cal_all F rfl rfl rfl fun _ _ _ _ _ _ us ws h1 h2 => match us, ws, h1, h2 with | [_], [], _, _ => rfl⟩,
  List.forall_mem_cons.mpr ⟨⟨(⟨42, f_is_together, s_is_together, "is_together", [], []⟩ : Pv.Row), rfl, rfl, rfl, fun fa fd F => cal_all F rfl rfl rfl fun _ _ _ _ _ _ us ws h1 h2 => match us, ws, h1, h2 with | [_], [], _, _ => rfl⟩,
  List.forall_mem_cons.mpr ⟨⟨(⟨42, f_is_together, s_is_together, "is_together", [], []⟩ : Pv.Row), rfl, rfl, rfl, fun fa fd F => cal_all F rfl rfl rfl fun _ _ _ _ _ _ us ws h1 h2 => match us, ws, h1, h2 with | [], [_], _, _ => rfl⟩,
  List.forall_mem_cons.mpr ⟨⟨(⟨50, f__law_common, s__law_common, "_law_common", [], []⟩ : Pv.Row), rfl, rfl, rfl, fun fa fd F => cal_all F rfl rfl rfl fun _ _ _ _ _ _ us ws h1 h2 => match us, ws, h1, h2 with | [_], [], _, _ => rfl⟩,
  List.forall_mem_cons.mpr ⟨⟨(⟨43, f_beat, s_beat, "beat", [], []⟩ : Pv.Row), rfl, rfl, rfl, fun fa fd F => cal_all F rfl rfl rfl fun _ _ _ _ _ _ us ws h1 h2 => match us, ws, h1, h2 with | [_], [], _, _ => rfl⟩,
  List.forall_mem_cons.mpr ⟨⟨(⟨43, f_beat, s_beat, "beat", [], []⟩ : Pv.Row), rfl, rfl, rfl, fun fa fd F => cal_all F rfl rfl rfl fun _ _ _ _ _ _ us ws h1 h2 => match us, ws, h1, h2 with | [], [_], _, _ => rfl⟩,
  List.forall_mem_cons.mpr ⟨⟨(⟨44, f_hubs, s_hubs, "hubs", [], []⟩ : Pv.Row), rfl, rfl, rfl, fun fa fd F => cal_all F rfl rfl rfl fun _ _ _ _ _ _ us ws h1 h2 => match us, ws, h1, h2 with | [_], [], _, _ => rfl⟩,
  List.forall_mem_cons.mpr ⟨⟨(⟨44, f_hubs, s_hubs, "hubs", [], []⟩ : Pv.Row), rfl, rfl, rfl, fun fa fd F => cal_all F rfl rfl rfl fun _ _ _ _ _ _ us ws h1 h2 => match us, ws, h1, h2 with | [], [_], _, _ => rfl⟩,
  List.forall_mem_cons.mpr ⟨⟨(⟨51, f__law_right, s__law_right, "_law_right", [], []⟩ : Pv.Row), rfl, rfl, rfl, fun fa fd F => cal_all F rfl rfl rfl fun _ _ _ _ _ _ us ws h1 h2 => match us, ws, h1, h2 with | [_], [], _, _ => rfl⟩,
  List.forall_mem_cons.mpr ⟨⟨(⟨45, f__law_pot, s__law_pot, "_law_pot", [], []⟩ : Pv.Row), rfl, rfl, rfl, fun fa fd F => cal_all F rfl rfl rfl fun _ _ _ _ _ _ us ws h1 h2 => match us, ws, h1, h2 with | [_, _], [], _, _ => rfl⟩,
  fun _ h => nomatch h⟩⟩⟩⟩⟩⟩⟩⟩⟩⟩⟩⟩⟩⟩⟩⟩⟩⟩⟩⟩⟩⟩⟩⟩⟩
abbrev Rw_ : PySem.W.OpenRow := PySem.W.OpenLaw.row PySem.Challenge.rw_pacedprices_k41_whole_beats_and_hubs
abbrev hk : PySem.W.Hook := Pv.hookI 4 (fasOf lib rows) (fnsOf rows)
def ob (s : PySem.W.SharedT) : Pv.AlI := Pv.obsI 4 (fasOf lib rows) (fnsOf rows) (HandSHeadRun.getT s)
theorem ob_eq (s : PySem.W.SharedT) : ob s = hk.obs s.abs := Pv.obsI_eq (HandSHeadRun.getT_eq s)
theorem run_ (w : World) : HandSHeadRun.RunEqI Rw_ (PySem.W.view Rw_.prog [0, 33]) hk ob 8000 ["PaceError", "InvalidMachine", "is_integer", "is_count", "MOST_PLACES", "MOST_ROADS", "MOST_LENGTH", "MANY_BOUND", "is_road", "is_machine", "want_machine", "roads_from", "reach_of", "together_of", "parts_together", "part_beat", "beat_of", "has_rounds_without", "is_together", "beat", "hubs", "_law_pot", "_law_draw", "_law_machine", "_law_closed", "_law_rounds", "_law_common", "_law_right"] w := by
  unfold HandSHeadRun.RunEqI
  kernel_rfl
-- law at row 52, top 33; loose: "gcd", "PaceError", "InvalidMachine", "is_integer", "is_count", "MOST_PLACES", "MOST_ROADS", "MOST_LENGTH", "MANY_BOUND", "is_road", "is_machine", "want_machine", "roads_from", "reach_of", "together_of", "parts_together", "part_beat", "beat_of", "has_rounds_without", "is_together", "beat", "hubs", "_law_pot", "_law_draw", "_law_machine", "_law_closed", "_law_rounds", "_law_common", "_law_right"
end Law_k41

namespace Law_k41
open PySem PySem.Spec L2 Pv
abbrev prog : Nat → Option Fn := tab rows
def isI : PD → Bool
  | .int _ => true
  | _ => false
theorem r_is_integer (k : Nat) (d : PD) : run prog (k + 1) 0 [.p d] = .ok (.p (.bool (isI d))) [.p d] := by
  rw [run_succ (fn := f_is_integer) rfl]
  cases d <;> rfl
def isCount (d : PD) : Bool := match d with | .int i => decide (0 ≤ i) | _ => false
theorem isCount_inv {d : PD} (h : isCount d = true) : ∃ i, d = .int i ∧ 0 ≤ i := by
  cases d with
  | int i => exact ⟨i, rfl, of_decide_eq_true h⟩
  | _ => cases h
theorem r_is_count (k : Nat) (d : PD) : run prog (k + 2) 1 [.p d] = .ok (.p (.bool (isCount d))) [.p d] := by
  rw [run_succ (fn := f_is_count) rfl]
  cases d <;> rfl
def road (d : PD) (n : Int) : Bool := match d with
  | .tuple [.int a, .int b, .int c, .int e] => (decide (0 ≤ a) && (decide (0 ≤ b) && (decide (0 ≤ c) && decide (0 ≤ e)))) && (decide (a < n) && (decide (b < n) && ((decide (1 ≤ c) && decide (c ≤ 400)) && (decide (1 ≤ e) && decide (e < 10000000000000000000000000000000000000000000000000000000000000000000000000000000000000000000000000000000000000000000000000000000000000000000000000000000000000000000000000000000000000000000000000000000000000000000000000000000000000000000000000000000000000000000000000000000000000000000000000000000000000000000000000000000000000000000000000000000000000000000000000000000000000000000000000000000000000000)))))
  | _ => false
theorem road_inv {d : PD} {n : Int} (h : road d n = true) : ∃ a b c e, d = .tuple [.int a, .int b, .int c, .int e] ∧ 0 ≤ a ∧ 0 ≤ b ∧ a < n ∧ b < n ∧ 1 ≤ c ∧ c ≤ 400 ∧ 1 ≤ e ∧ e < 10000000000000000000000000000000000000000000000000000000000000000000000000000000000000000000000000000000000000000000000000000000000000000000000000000000000000000000000000000000000000000000000000000000000000000000000000000000000000000000000000000000000000000000000000000000000000000000000000000000000000000000000000000000000000000000000000000000000000000000000000000000000000000000000000000000000000000 := by
  unfold road at h
  split at h
  · simp only [Bool.and_eq_true, decide_eq_true_eq] at h
    exact ⟨_, _, _, _, rfl, h.1.1, h.1.2.1, h.2.1, h.2.2.1, h.2.2.2.1.1, h.2.2.2.1.2, h.2.2.2.2.1, h.2.2.2.2.2⟩
  · cases h
def T1 : Nat → List D → CR
  | 1, [.p d] => .ok (.p (.bool (isCount d))) [.p d]
  | _, _ => .bad
theorem T1_ok (k : Nat) : ∀ g es, T1 g es ≠ .bad → run prog (k + 2) g es = T1 g es := by
  intro g es h
  unfold T1 at h ⊢
  split at h
  · exact r_is_count k _
  · exact absurd rfl h
theorem road_false {d : PD} {n : Int} (h : ∀ a b c e, 0 ≤ a → 0 ≤ b → 0 ≤ c → 0 ≤ e → d ≠ .tuple [.int a, .int b, .int c, .int e]) : road d n = false := by
  rw [Bool.eq_false_iff]
  intro z
  obtain ⟨a, b, c, e, q, h1⟩ := road_inv z
  exact h a b c e (by omega) (by omega) (by omega) (by omega) q
theorem r_is_road (k : Nat) (d : PD) (n : Int) : run prog (k + 3) 2 [.p d, .p (.int n)] = .ok (.p (.bool (road d n))) [.p d, .p (.int n)] := by
  refine run_by (fn := f_is_road) (T := T1) rfl (T1_ok k) ?_ (fun z => nomatch z)
  cases d with
  | tuple l =>
    by_cases hl : l.length = 4
    · match l, hl with
      | [a, b, c, e], _ =>
        refine runB_gv rfl rfl (Wr.ifc (ρ1 := [some (.p (.tuple [a, b, c, e])), some (.p (.int n)), none, none, none, none, none]) (t := !([a, b, c, e].all isCount)) (d := .p (.bool false)) (fun i z => by cases z) (bop_c (or_c (b := false) (c := !([a, b, c, e].all isCount)) rfl fun _ => or_c (b := false) rfl fun _ => or_one (nt_c (all_lc (xs := [a, b, c, e]) (f := isCount) rfl rfl (of_decide_eq_true rfl) fun x hx => ⟨_, rfl, rfl, rfl⟩)))) (fun _ => rfl) (fun t => ?_) (fun t => ?_))
        · have : road (.tuple [a, b, c, e]) n = false := by
            refine road_false fun a b c e ha hb hc he q => ?_
            cases q
            rw [Bool.not_eq_true'] at t
            have hh : [PyData.int a, .int b, .int c, .int e].all isCount = true := by
              simp only [List.all_cons, List.all_nil, isCount, Bool.and_eq_true, decide_eq_true_eq, and_true]
              exact ⟨ha, hb, hc, he⟩
            rw [hh] at t; cases t
          rw [this]
          exact gv rfl
        · simp only [List.all_cons, List.all_nil, Bool.not_eq_false', Bool.and_eq_true] at t
          obtain ⟨a, rfl, ha⟩ := isCount_inv t.1
          obtain ⟨b, rfl, hb⟩ := isCount_inv t.2.1
          obtain ⟨c, rfl, hc⟩ := isCount_inv t.2.2.1
          obtain ⟨e, rfl, he⟩ := isCount_inv t.2.2.2.1
          have e1 : road (.tuple [.int a, .int b, .int c, .int e]) n = (decide (a < n) && (decide (b < n) && ((decide (1 ≤ c) && decide (c ≤ 400)) && (decide (1 ≤ e) && decide (e < 10000000000000000000000000000000000000000000000000000000000000000000000000000000000000000000000000000000000000000000000000000000000000000000000000000000000000000000000000000000000000000000000000000000000000000000000000000000000000000000000000000000000000000000000000000000000000000000000000000000000000000000000000000000000000000000000000000000000000000000000000000000000000000000000000000000000000000))))) := by
            unfold road; dsimp only; rw [decide_eq_true ha, decide_eq_true hb, decide_eq_true hc, decide_eq_true he]; rfl
          rw [e1]
          refine .st (ρ2 := [some (.p (.tuple [.int a, .int b, .int c, .int e])), some (.p (.int n)), none, some (.p (.int a)), some (.p (.int b)), some (.p (.int c)), some (.p (.int e))]) rfl ?_
          exact .ret (fun i z => by cases z) (bop_c (and_c (b := decide (a < n)) rfl fun _ => and_c (b := decide (b < n)) rfl fun _ => and_c (b := decide (1 ≤ c) && decide (c ≤ 400)) (chain_c (da := .p (.int 1)) (db := .p (.int c)) (dc := .p (.int 400)) rfl rfl rfl fun _ => ⟨rfl, rfl⟩) fun _ => and_one (chain_c (x := decide (1 ≤ e)) (y := decide (e < 10000000000000000000000000000000000000000000000000000000000000000000000000000000000000000000000000000000000000000000000000000000000000000000000000000000000000000000000000000000000000000000000000000000000000000000000000000000000000000000000000000000000000000000000000000000000000000000000000000000000000000000000000000000000000000000000000000000000000000000000000000000000000000000000000000000000000000)) (da := .p (.int 1)) (db := .p (.int e)) (dc := .p (.int (10000000000000000000000000000000000000000000000000000000000000000000000000000000000000000000000000000000000000000000000000000000000000000000000000000000000000000000000000000000000000000000000000000000000000000000000000000000000000000000000000000000000000000000000000000000000000000000000000000000000000000000000000000000000000000000000000000000000000000000000000000000000000000000000000000000000000000))) rfl rfl rfl fun _ => ⟨rfl, rfl⟩))) (gv rfl)
    · rw [road_false fun a b c e _ _ _ _ q => hl (by cases q; rfl)]
      refine runB_gv rfl rfl (Wr.ifc (ρ1 := [some (.p (.tuple l)), some (.p (.int n)), none, none, none, none, none]) (t := true) (d := .p (.bool false)) (fun i z => by cases z) (bop_c (or_c (b := false) (c := true) rfl fun _ => or_c (b := true) (c := false) ((len_ne (l := l) rfl).trans ?_) fun z => nomatch z)) (fun _ => rfl) (fun t => gv rfl) (fun t => nomatch t))
      rw [decide_eq_false (by omega)]
      rfl
  | _ => rw [road_false (by intro _ _ _ _ _ _ _ _ q; cases q)]; kernel_rfl
/-- the first three of a road -/
def k3 : PD → List Int
  | .tuple (.int a :: .int b :: .int c :: _) => [a, b, c]
  | _ => []
def lt3 : PD → Bool
  | .tuple [x, y] => ltL (k3 x) (k3 y)
  | _ => false
def mach (d : PD) : Bool := match d with
  | .tuple [.str s, .int n, .tuple rs] => decide (s = "machine") && (decide (1 ≤ n) && decide (n ≤ 12) && decide (rs.length ≤ 60) && rs.all (fun r => road r n) && (pairUp rs (rs.drop 1)).all lt3)
  | _ => false
def T2 : Nat → List D → CR
  | 0, [.p d] => .ok (.p (.bool (isI d))) [.p d]
  | 2, [.p d, .p (.int n)] => .ok (.p (.bool (road d n))) [.p d, .p (.int n)]
  | _, _ => .bad
theorem T2_ok (k : Nat) : ∀ g es, T2 g es ≠ .bad → run prog (k + 3) g es = T2 g es := by
  intro g es h
  unfold T2 at h ⊢
  split at h
  · exact r_is_integer (k + 2) _
  · exact r_is_road k _ _
  · exact absurd rfl h
theorem mach_inv {d : PD} (h : mach d = true) : ∃ n rs, d = .tuple [.str "machine", .int n, .tuple rs] ∧ 1 ≤ n ∧ n ≤ 12 ∧ rs.length ≤ 60 ∧ (rs.all fun r => road r n) = true ∧ (pairUp rs (rs.drop 1)).all lt3 = true := by
  unfold mach at h
  split at h
  · simp only [Bool.and_eq_true, decide_eq_true_eq] at h
    obtain ⟨rfl, h⟩ := h
    exact ⟨_, _, rfl, h.1.1.1.1, h.1.1.1.2, h.1.1.2, h.1.2, h.2⟩
  · cases h
theorem mach_false {d : PD} (h : ∀ n rs, 1 ≤ n → n ≤ 12 → rs.length ≤ 60 → (rs.all fun r => road r n) = true → d ≠ .tuple [.str "machine", .int n, .tuple rs]) : mach d = false := by
  rw [Bool.eq_false_iff]
  intro z
  obtain ⟨n, rs, q, h1, h2, h3, h4, _⟩ := mach_inv z
  exact h n rs h1 h2 h3 h4 q
theorem isS_inv {s : Str} {d : PD} (h : isS s d = true) : d = .str s := by
  cases d with
  | str t => rw [show t = s from of_decide_eq_true h]
  | _ => cases h
theorem r_is_machine (k : Nat) (d : PD) (hd : SeqAt.shaped d = true) : run prog (k + 4) 3 [.p d] = .ok (.p (.bool (mach d))) [.p d] := by
  refine run_by (fn := f_is_machine) (T := T2) rfl (T2_ok k) ?_ (fun z => nomatch z)
  cases d with
  | tuple l =>
    by_cases hl : l.length = 3
    · match l, hl with
      | [x, y, z], _ =>
        have hx := shaped_all hd x (by simp)
        cases x with
        | str s =>
          refine runB_gv rfl rfl (Wr.ifc (ρ1 := [some (.p (.tuple [.str s, y, z])), none, none, none, none, none]) (t := !isS "machine" (.str s)) (d := .p (.bool false)) (fun i z => by cases z) (bop_c (or_c (b := false) (c := !isS "machine" (.str s)) rfl fun _ => or_c (b := false) rfl fun _ => or_c (b := false) rfl fun _ => or_one (ne_s (x := .str s) (fun i z => by cases z) rfl hx (by decide +kernel)))) (fun _ => rfl) (fun t => ?_) (fun t => ?_))
          · rw [mach_false fun n rs _ _ _ _ q => by cases q; cases t]
            exact gv rfl
          · cases isS_inv (by rw [Bool.not_eq_false'] at t; exact t)
            refine .st (ρ2 := [some (.p (.tuple [.str "machine", y, z])), some (.p y), some (.p z), none, none, none]) rfl ?_
            cases y with
            | int n =>
              refine Wr.ifc (ρ1 := [some (.p (.tuple [.str "machine", .int n, z])), some (.p (.int n)), some (.p z), none, none, none]) (t := !(decide (1 ≤ n) && decide (n ≤ 12))) (d := .p (.bool false)) (fun i z => by cases z) (bop_c (or_c (b := false) (c := !(decide (1 ≤ n) && decide (n ≤ 12))) rfl fun _ => or_one (nt_c (chain_c (da := .p (.int 1)) (db := .p (.int n)) (dc := .p (.int 12)) rfl rfl rfl fun _ => ⟨rfl, rfl⟩)))) (fun _ => rfl) (fun t => ?_) (fun t => ?_)
              · rw [mach_false fun n' rs h1 h2 _ _ q => by cases q; rw [decide_eq_true h1, decide_eq_true h2] at t; cases t]
                exact gv rfl
              · cases z with
                | tuple rs =>
                  refine Wr.ifc (ρ1 := [some (.p (.tuple [.str "machine", .int n, .tuple rs])), some (.p (.int n)), some (.p (.tuple rs)), none, none, none]) (t := decide (60 < (rs.length : Int))) (d := .p (.bool false)) (fun i z => by cases z) (bop_c (or_c (b := false) (c := decide (60 < (rs.length : Int))) rfl fun _ => or_one rfl)) (fun _ => rfl) (fun t => ?_) (fun t2 => ?_)
                  · rw [mach_false fun n' rs' _ _ h3 _ q => by cases q; have := of_decide_eq_true t; omega]
                    exact gv rfl
                  · have h60 : rs.length ≤ 60 := by have := of_decide_eq_false t2; omega
                    refine Wr.ifc (ρ1 := [some (.p (.tuple [.str "machine", .int n, .tuple rs])), some (.p (.int n)), some (.p (.tuple rs)), none, none, none]) (t := !(rs.all fun r => road r n)) (d := .p (.bool false)) (fun i z => by cases z) (nt_c (all_lc (xs := rs) (f := fun r => road r n) rfl rfl (Nat.le_trans h60 (by decide)) (fun x hx => ⟨_, rfl, rfl, rfl⟩))) (fun _ => rfl) (fun t => ?_) (fun t3 => ?_)
                    · rw [mach_false fun n' rs' _ _ _ h4 q => by cases q; rw [h4] at t; cases t]
                      exact gv rfl
                    · have hr : (rs.all fun r => road r n) = true := by simpa using t3
                      have e1 : mach (.tuple [.str "machine", .int n, .tuple rs]) = (pairUp rs (rs.drop 1)).all lt3 := by
                        rw [Bool.not_eq_false'] at t
                        show (decide (("machine" : Str) = "machine") && ((decide (1 ≤ n) && decide (n ≤ 12)) && decide (rs.length ≤ 60) && (rs.all fun r => road r n) && (pairUp rs (rs.drop 1)).all lt3)) = _
                        rw [t, hr, decide_eq_true h60, decide_eq_true rfl]; rfl
                      rw [e1]
                      refine .ret (ρ1 := [some (.p (.tuple [.str "machine", .int n, .tuple rs])), some (.p (.int n)), some (.p (.tuple rs)), none, none, none]) (fun i z => by cases z) (all_lc (xs := pairUp rs (rs.drop 1)) (f := lt3) ?_ rfl ?_ ?_) (gv rfl)
                      · have e2 : rs.drop 1 = cut rs (some 1) none := (cut_from (i := 1) (by decide)).symm
                        rw [e2]; rfl
                      · unfold pairUp; rw [List.length_map, List.length_zip]; exact Nat.le_trans (Nat.min_le_left _ _) (Nat.le_trans h60 (by decide))
                      · intro q hq
                        obtain ⟨⟨x, y⟩, hxy, rfl⟩ := List.mem_map.mp hq
                        have hx := road_inv (List.all_eq_true.mp hr x (List.of_mem_zip hxy).1)
                        have hy := road_inv (List.all_eq_true.mp hr y (List.mem_of_mem_drop (List.of_mem_zip hxy).2))
                        obtain ⟨a, b, c, e, rfl, _⟩ := hx
                        obtain ⟨a', b', c', e', rfl, _⟩ := hy
                        exact ⟨_, rfl, rfl, rfl⟩
                | _ =>
                  rw [mach_false (by intro _ _ _ _ _ _ q; cases q)]
                  exact .ifc (t := true) (fun i z => by cases z) rfl (fun _ => rfl) (fun _ => gv rfl) (fun t => nomatch t)
            | _ =>
              rw [mach_false (by intro _ _ _ _ _ _ q; cases q)]
              exact .ifc (t := true) (fun i z => by cases z) rfl (fun _ => rfl) (fun _ => gv rfl) (fun t => nomatch t)
        | _ => rw [mach_false (by intro _ _ _ _ _ _ q; cases q)]; kernel_rfl
    · rw [mach_false fun n rs _ _ _ _ q => hl (by cases q; rfl)]
      refine runB_gv rfl rfl (Wr.ifc (ρ1 := [some (.p (.tuple l)), none, none, none, none, none]) (t := true) (d := .p (.bool false)) (fun i z => by cases z) (bop_c (or_c (b := false) (c := true) rfl fun _ => or_c (b := true) (c := false) ((len_ne (l := l) rfl).trans ?_) fun z => nomatch z)) (fun _ => rfl) (fun t => gv rfl) (fun t => nomatch t))
      rw [decide_eq_false (by omega)]
      rfl
  | _ => rw [mach_false (by intro _ _ _ _ _ _ q; cases q)]; kernel_rfl
theorem r_draw (k : Nat) : Draws (run prog (k + 1)) 46 := by
  intro a b m ok m0 m1
  obtain ⟨ha, hb, hb2⟩ := ok
  rw [run_succ (fn := f__law_draw) rfl]
  by_cases h : 0 < a
  · refine ⟨a % m, a / m, b, ⟨Int.emod_nonneg _ (by omega), Int.emod_lt_of_pos _ m0⟩, ⟨Int.ediv_nonneg ha (by omega), hb, hb2⟩, ?_⟩
    refine runB_gv rfl rfl (.ifr (ρ1 := [some (Pot a b), some (.p (.int m)), none]) (t := true) ((evT_b (t := decide (0 < a)) rfl).trans (by rw [decide_eq_true h]; rfl)) (fun _ => ?_) (fun z => nomatch z))
    refine .st (ρ2 := [some (Pot (a / m) b), some (.p (.int m)), some (.p (.int (a % m)))]) ?_ (.rt rfl (gv rfl))
    rw [ex, prim_c (as := [.v (.p (.int a)), .s 1]) (ds := [.p (.int a), .p (.int m)]) (ρ1 := [some (Pot a b), some (.p (.int m)), none]) rfl rfl (dm_pr m0 m1)]
    rfl
  · have a0 : a = 0 := by omega
    subst a0
    have b1 : 0 ≤ (b * 40014 + 9371) % 2147483587 := Int.emod_nonneg _ (by decide)
    have b2 : (b * 40014 + 9371) % 2147483587 < 2147483587 := Int.emod_lt_of_pos _ (by decide)
    generalize hc : (b * 40014 + 9371) % 2147483587 = c at b1 b2
    refine ⟨(c * c % 2147483549 / 19) % m, 0, c, ⟨Int.emod_nonneg _ (by omega), Int.emod_lt_of_pos _ m0⟩, ⟨Int.le_refl _, b1, by omega⟩, ?_⟩
    refine runB_gv rfl rfl (.ifr (ρ1 := [some (Pot 0 b), some (.p (.int m)), none]) (t := false) ((evT_b (t := decide ((0 : Int) < 0)) rfl).trans rfl) (fun z => nomatch z) (fun _ => ?_))
    refine .st (ρ2 := [some (Pot 0 c), some (.p (.int m)), none]) ?_ ?_
    · have e1 : ev ⟨borOf [Pot 0 b, .p (.int m)], run prog k⟩ (.prim (.bin .Mult) (.cons (.prim .idx (.cons (.var 0) (.cons (.int 1) .nil))) (.cons (.int 40014) .nil))) [some (Pot 0 b), some (.p (.int m)), none] = .ok (.p (.int (b * 40014))) [some (Pot 0 b), some (.p (.int m)), none] :=
        prim_c (as := [.v (.p (.int b)), .v (.p (.int 40014))]) (ds := [.p (.int b), .p (.int 40014)]) rfl rfl (mul_pr (by omega) (by decide))
      have e2 : ev ⟨borOf [Pot 0 b, .p (.int m)], run prog k⟩ (.prim (.bf .int) (.cons (.prim (.bin .Add) (.cons (.prim (.bin .Mult) (.cons (.prim .idx (.cons (.var 0) (.cons (.int 1) .nil))) (.cons (.int 40014) .nil))) (.cons (.int 9371) .nil))) .nil)) [some (Pot 0 b), some (.p (.int m)), none] = .ok (.p (.int (b * 40014 + 9371))) [some (Pot 0 b), some (.p (.int m)), none] :=
        prim1 (fun i z => by cases z) (prim2 (fun i z => by cases z) (fun i z => by cases z) e1 (b := .p (.int 9371)) rfl rfl) rfl
      rw [ex, prim2 (fun i z => by cases z) (fun i z => by cases z) e2 (b := .p (.int 2147483587)) rfl (mod_pr (by decide)), hc]
      rfl
    · have cc : 0 ≤ c * c := Int.mul_nonneg b1 b1
      have e1 : ev ⟨borOf [Pot 0 b, .p (.int m)], run prog k⟩ (.prim (.bin .Mult) (.cons (.prim .idx (.cons (.var 0) (.cons (.int 1) .nil))) (.cons (.prim .idx (.cons (.var 0) (.cons (.int 1) .nil))) .nil))) [some (Pot 0 c), some (.p (.int m)), none] = .ok (.p (.int (c * c))) [some (Pot 0 c), some (.p (.int m)), none] :=
        prim_c (as := [.v (.p (.int c)), .v (.p (.int c))]) (ds := [.p (.int c), .p (.int c)]) rfl rfl (mul_pr (by omega) (by omega))
      have e2 := prim1 (p := .bf .int) (r := .p (.int (c * c))) (fun i z => by cases z) e1 rfl
      have e3 := prim2 (p := .bin .Mod) (f := .int 2147483549) (b := .p (.int 2147483549)) (fun i z => by cases z) (fun i z => by cases z) e2 rfl (mod_pr (by decide))
      have e4 := prim2 (p := .bin .FloorDiv) (f := .int 19) (b := .p (.int 19)) (fun i z => by cases z) (fun i z => by cases z) e3 rfl (div_pr (by decide) (by decide))
      have e5 := prim1 (p := .bf .int) (r := .p (.int (c * c % 2147483549 / 19))) (fun i z => by cases z) e4 rfl
      refine .ret (fun i z => by cases z) (prim_c (as := [.v (.p (.int (c * c % 2147483549 / 19))), .s 1]) (ds := [.p (.int (c * c % 2147483549 / 19)), .p (.int m)]) (evA_c (fun i z => by cases z) e5 (evA_v rfl evA_n)) rfl (mod_pr m0)) (gv rfl)
theorem r_pot (k : Nat) (ns : List Int) : ∃ a b, PotOk a b ∧ run prog (k + 1) 45 [.frl ns, .p (.int 0)] = .ok (Pot a b) [.frl ns, .p (.int 0)] := by
  rw [run_succ (fn := f__law_pot) rfl]
  obtain ⟨c, hc, hcell⟩ : ∃ c : Int, 0 ≤ c ∧ ∀ C : Pv.Ctx, ev C (.ite (.prim (.cmp .Lt) (.cons (.var 1) (.cons (.prim (.bf .len) (.cons (.var 0) .nil)) .nil))) (.prim (.bf .abs) (.cons (.prim .idx (.cons (.var 0) (.cons (.var 1) .nil))) .nil)) (.prim (.bin .Add) (.cons (.prim (.bin .Mult) (.cons (.int 739) (.cons (.var 1) .nil))) (.cons (.int 151) .nil)))) [some (.frl ns), some (.p (.int 0)), none, none] = .ok (.p (.int c)) [some (.frl ns), some (.p (.int 0)), none, none] := by
    cases ns with
    | nil => exact ⟨151, by decide, fun C => rfl⟩
    | cons n ns =>
      refine ⟨if n < 0 then -n else n, by split <;> omega, fun C => ?_⟩
      have h1 : decide ((0 : Int) < ((n :: ns).length : Int)) = true := decide_eq_true (by simp only [List.length_cons]; omega)
      have h2 : ev C (.prim (.cmp .Lt) (.cons (.var 1) (.cons (.prim (.bf .len) (.cons (.var 0) .nil)) .nil))) [some (.frl (n :: ns)), some (.p (.int 0)), none, none] = .ok (.p (.bool (decide ((0 : Int) < ((n :: ns).length : Int))))) [some (.frl (n :: ns)), some (.p (.int 0)), none, none] := rfl
      rw [ev, h2, h1]
      have h3 : atI (n :: ns) 0 = some n := by
        unfold atI ixN; rw [if_pos (Int.le_refl _), if_pos (of_decide_eq_true h1)]; rfl
      have h4 : ev C (.prim .idx (.cons (.var 0) (.cons (.var 1) .nil))) [some (.frl (n :: ns)), some (.p (.int 0)), none, none] = .ok (.p (.int n)) [some (.frl (n :: ns)), some (.p (.int 0)), none, none] :=
        prim_c (as := [.s 0, .s 1]) (ds := [.frl (n :: ns), .p (.int 0)]) rfl rfl (by show Option.map _ (atI (n :: ns) 0) = _; rw [h3]; rfl)
      exact prim1 (fun i z => by cases z) h4 rfl
  have b1 : 0 ≤ (c % 2147483549 * 40153 + 9371 * 0 + 73) % 2147483563 := Int.emod_nonneg _ (by decide)
  have b2 : (c % 2147483549 * 40153 + 9371 * 0 + 73) % 2147483563 < 2147483563 := Int.emod_lt_of_pos _ (by decide)
  have m1 : 0 ≤ c % 2147483549 := Int.emod_nonneg _ (by decide)
  have m2 : c % 2147483549 < 2147483549 := Int.emod_lt_of_pos _ (by decide)
  refine ⟨if c - 10 ^ 18 > 0 then c - 10 ^ 18 else 0, (c % 2147483549 * 40153 + 9371 * 0 + 73) % 2147483563 + 1, ⟨by split <;> omega, by omega, by omega⟩, ?_⟩
  refine runB_gv rfl rfl (.asg (ρ1 := [some (.frl ns), some (.p (.int 0)), none, none]) (ρ2 := [some (.frl ns), some (.p (.int 0)), some (.p (.int c)), none]) (hcell _) rfl rfl rfl ?_)
  have e1 : ev ⟨borOf [.frl ns, .p (.int 0)], run prog k⟩ (.prim (.bin .Mod) (.cons (.prim (.bf .int) (.cons (.var 2) .nil)) (.cons (.int 2147483549) .nil))) [some (.frl ns), some (.p (.int 0)), some (.p (.int c)), none] = .ok (.p (.int (c % 2147483549))) [some (.frl ns), some (.p (.int 0)), some (.p (.int c)), none] :=
    prim_c (as := [.v (.p (.int c)), .v (.p (.int 2147483549))]) (ds := [.p (.int c), .p (.int 2147483549)]) rfl rfl (mod_pr (by decide))
  have e2 := prim2 (p := .bin .Mult) (f := .int 40153) (b := .p (.int 40153)) (fun i z => by cases z) (fun i z => by cases z) e1 rfl (mul_pr (by omega) (by decide))
  have e3 := prim2 (p := .bin .Add) (f := .prim (.bin .Mult) (.cons (.int 9371) (.cons (.var 1) .nil))) (b := .p (.int (9371 * 0))) (r := .p (.int (c % 2147483549 * 40153 + 9371 * 0))) (fun i z => by cases z) (fun i z => by cases z) e2 rfl rfl
  have e4 := prim2 (p := .bin .Add) (f := .int 73) (b := .p (.int 73)) (r := .p (.int (c % 2147483549 * 40153 + 9371 * 0 + 73))) (fun i z => by cases z) (fun i z => by cases z) e3 rfl rfl
  have e5 := prim1 (p := .bf .int) (r := .p (.int (c % 2147483549 * 40153 + 9371 * 0 + 73))) (fun i z => by cases z) e4 rfl
  have e6 := prim2 (p := .bin .Mod) (f := .int 2147483563) (b := .p (.int 2147483563)) (fun i z => by cases z) (fun i z => by cases z) e5 rfl (mod_pr (by decide))
  have e7 := prim2 (p := .bin .Add) (f := .int 1) (b := .p (.int 1)) (r := .p (.int ((c % 2147483549 * 40153 + 9371 * 0 + 73) % 2147483563 + 1))) (fun i z => by cases z) (fun i z => by cases z) e6 rfl rfl
  refine .asg (ρ2 := [some (.frl ns), some (.p (.int 0)), some (.p (.int c)), some (.p (.int ((c % 2147483549 * 40153 + 9371 * 0 + 73) % 2147483563 + 1)))]) e7 rfl rfl rfl ?_
  refine .ret (ρ1 := [some (.frl ns), some (.p (.int 0)), some (.p (.int c)), some (.p (.int ((c % 2147483549 * 40153 + 9371 * 0 + 73) % 2147483563 + 1)))]) (fun i z => by cases z) (lst_c (ds := [.p (.int (if c - 10 ^ 18 > 0 then c - 10 ^ 18 else 0)), .p (.int ((c % 2147483549 * 40153 + 9371 * 0 + 73) % 2147483563 + 1))]) (evL_c (ρ1 := [some (.frl ns), some (.p (.int 0)), some (.p (.int c)), some (.p (.int ((c % 2147483549 * 40153 + 9371 * 0 + 73) % 2147483563 + 1)))]) (by kernel_rfl) (evL_c (ρ1 := [some (.frl ns), some (.p (.int 0)), some (.p (.int c)), some (.p (.int ((c % 2147483549 * 40153 + 9371 * 0 + 73) % 2147483563 + 1)))]) rfl evL_n)) (of_decide_eq_true rfl) rfl) (gv rfl)
def rd (t : R4) : PD := .tuple [.int t.1, .int t.2.1, .int t.2.2.1, .int t.2.2.2]
def mPD (n : Nat) (R : List R4) : PD := .tuple [.str "machine", .int n, .tuple (R.map rd)]
theorem r_want_machine (k : Nat) (d : PD) (hd : SeqAt.shaped d = true) (hm : mach d = true) : run prog (k + 5) 21 [.p d] = .ok (.p d) [.p d] := by
  refine (run_succ (fn := f_want_machine) rfl).trans ?_
  refine runB_gv rfl rfl (.ifF (ρ1 := [some (.p d)]) (t := !mach d) (nt_c (call_c (as := [.s 0]) (bs := []) (ds := [.p d]) (ps := [.p d]) (qs := [.p d]) (ρ1 := [some (.p d)]) (ρ2 := [some (.p d)]) rfl evA_n rfl rfl rfl (r_is_machine k d hd) rfl)) (by rw [hm]; rfl) (.rt rfl (gv rfl)))
def tr (t : R4) : PD := .tuple [.int t.2.1, .int t.2.2.1, .int t.2.2.2]
def lead (R : List R4) (p : Int) : List PD := (R.filter fun t => decide (t.1 = p)).map tr
theorem r_roads_from (k : Nat) (n : Nat) (R : List R4) (p : Int) (hR : R.length ≤ 1000) : run prog (k + 1) 23 [.p (mPD n R), .p (.int p)] = .ok (.own (lead R p)) [.p (mPD n R), .p (.int p)] := by
  refine (run_succ (fn := f_roads_from) rfl).trans ?_
  have e : (R.map rd).filterMap (fun x => match x with | .tuple [.int a, b, c, e] => if decide (a = p) then some (D.p (.tuple [b, c, e])) else none | _ => none) = ((R.filter fun t => decide (t.1 = p)).map fun t => D.p (tr t)) := by
    rw [List.filterMap_map]
    exact filterMap_if (fun t : R4 => decide (t.1 = p)) (fun t => D.p (tr t)) R
  refine runB_gv rfl rfl (.ret (ρ1 := [some (.p (mPD n R)), some (.p (.int p)), none, none, none, none]) (fun i z => by cases z) (lc_pure (ρ1 := [some (.p (mPD n R)), some (.p (.int p)), none, none, none, none]) (xs := R.map rd) (g := fun x => match x with | .tuple [.int a, b, c, e] => if decide (a = p) then some (D.p (.tuple [b, c, e])) else none | _ => none) rfl rfl (fun x hx => ?_) ?_ ?_) (gv rfl))
  · obtain ⟨t, ht, rfl⟩ := List.mem_map.mp hx
    refine ⟨[some (.p (mPD n R)), some (.p (.int p)), some (.p (.int t.1)), some (.p (.int t.2.1)), some (.p (.int t.2.2.1)), some (.p (.int t.2.2.2))], decide (t.1 = p), rfl, rfl, ?_, ?_⟩
    · rw [evC]
      have : ev ⟨borOf [.p (mPD n R), .p (.int p)], run prog k⟩ (.prim (.cmp .Eq) (.cons (.var 2) (.cons (.var 1) .nil))) [some (.p (mPD n R)), some (.p (.int p)), some (.p (.int t.1)), some (.p (.int t.2.1)), some (.p (.int t.2.2.1)), some (.p (.int t.2.2.2))] = .ok (.p (.bool (decide (t.1 = p)))) [some (.p (mPD n R)), some (.p (.int p)), some (.p (.int t.1)), some (.p (.int t.2.1)), some (.p (.int t.2.2.1)), some (.p (.int t.2.2.2))] :=
        prim_c (as := [.s 2, .s 1]) (ds := [.p (.int t.1), .p (.int p)]) rfl rfl (by
          show Option.map (fun c => D.p (.bool c)) (eqD (.p (.int t.1)) (.p (.int p))) = _
          rw [eqD_int]; rfl)
      rw [this]
      simp only [bind_ok, tr_bool]
      cases decide (t.1 = p)
      · rfl
      · show evC _ .nil _ = _; rw [evC]
    · by_cases h : t.1 = p
      · rw [decide_eq_true h]
        exact ⟨.p (tr t), by show (if decide (t.1 = p) then _ else _) = _; rw [decide_eq_true h]; rfl, rfl⟩
      · rw [decide_eq_false h]
        show (if decide (t.1 = p) then _ else _) = _
        rw [decide_eq_false h]; rfl
  · rw [e, List.length_map]
    exact Nat.le_trans (List.length_filter_le _ _) (Nat.le_trans hR (by decide))
  · rw [e]; exact mkL_p _ _
end Law_k41

namespace Law_k41
open PySem PySem.Spec L2 Pv
/-- a road leads from p to q -/
def Ed (R : List R4) (p q : Int) : Prop := ∃ t ∈ R, t.1 = p ∧ t.2.1 = q
inductive Rch (R : List R4) : Int → Int → Prop
  | one {p q : Int} : Ed R p q → Rch R p q
  | step {p m q : Int} : Ed R p m → Rch R m q → Rch R p q
theorem Rch.snoc {R : List R4} {p m q : Int} (h : Rch R p m) (e : Ed R m q) : Rch R p q := by
  induction h with
  | one a => exact .step a (.one e)
  | step a _ ih => exact .step a (ih e)
theorem Rch.trans {R : List R4} {p m q : Int} (h : Rch R p m) (e : Rch R m q) : Rch R p q := by
  induction h with
  | one a => exact .step a e
  | step a _ ih => exact .step a (ih e)
noncomputable def rc (R : List R4) (p q : Int) : Bool := @decide (Rch R p q) (Classical.propDecidable _)
theorem rc_iff {R : List R4} {p q : Int} : rc R p q = true ↔ Rch R p q := by unfold rc; exact @decide_eq_true_iff _ (Classical.propDecidable _)
structure GoodR (n : Nat) (R : List R4) : Prop where
  len : R.length ≤ 16
  one : ∀ t ∈ R, 0 ≤ t.1 ∧ t.1 < n
  two : ∀ t ∈ R, 0 ≤ t.2.1 ∧ t.2.1 < n
  far : ∀ t ∈ R, 1 ≤ t.2.2.1 ∧ t.2.2.1 ≤ 100
theorem Rch.rng {n : Nat} {R : List R4} (g : GoodR n R) {p q : Int} (h : Rch R p q) : 0 ≤ q ∧ q < n := by
  induction h with
  | one e => obtain ⟨t, ht, _, rfl⟩ := e; exact g.two t ht
  | step _ _ ih => exact ih
theorem ints_lay : ∀ ks : List Int, PyData.canLayAll0 (ks.map .int) = true ∧ PyData.depthAll (ks.map .int) = 0
  | [] => ⟨rfl, rfl⟩
  | k :: ks => by
    obtain ⟨h1, h2⟩ := ints_lay ks
    exact ⟨by rw [List.map_cons, PyData.canLayAll0, h1]; rfl, by rw [List.map_cons, PyData.depthAll, h2]; rfl⟩
theorem shaped_ints (ks : List Int) : SeqAt.shaped (.list (ks.map .int)) = true := by
  obtain ⟨h1, h2⟩ := ints_lay ks
  unfold SeqAt.shaped
  simp only [PyData.canLay0, PyData.depth, h1, h2]
  decide
theorem any_ints (x : Int) : ∀ ks : List Int, ((ks.map PyData.int).any fun y => PyData.eqv y (.int x)) = decide (x ∈ ks)
  | [] => by simp
  | k :: ks => by
    rw [List.map_cons, List.any_cons, any_ints x ks]
    show ((k == x) || decide (x ∈ ks)) = _
    by_cases h : k = x
    · subst h; simp
    · have : (k == x) = false := beq_eq_false_iff_ne.mpr h
      rw [this, Bool.false_or]
      simp [Ne.symm h]
theorem in_ints {x : Int} {ks : List Int} {b : D} (hb : seqD b = some (ks.map .int)) : inD (.p (.int x)) b = some (decide (x ∈ ks)) := by
  unfold inD
  dsimp only
  rw [hb]
  dsimp only
  rw [if_pos ⟨rfl, shaped_ints ks⟩, any_ints]
theorem eqv_ints : ∀ a b : List Int, PyData.eqvAll (a.map .int) (b.map .int) = decide (a = b)
  | [], [] => rfl
  | [], _ :: _ => rfl
  | _ :: _, [] => rfl
  | x :: a, y :: b => by
    rw [List.map_cons, List.map_cons, PyData.eqvAll, eqv_ints a b]
    show ((x == y) && decide (a = b)) = _
    by_cases h : x = y
    · subst h; simp
    · have : (x == y) = false := beq_eq_false_iff_ne.mpr h
      rw [this, Bool.false_and]; simp [h]
theorem eq_ints {x y : D} {a b : List Int} (hx : x.toPD = some (.list (a.map .int))) (hy : y.toPD = some (.list (b.map .int))) : eqD x y = some (decide (a = b)) := by
  unfold eqD
  rw [hx, hy]
  dsimp only
  rw [if_pos ⟨shaped_ints a, shaped_ints b⟩]
  show some (PyData.eqvAll (a.map .int) (b.map .int)) = _
  rw [eqv_ints]
theorem pop_c {C : Pv.Ctx} {ρ : Pv.Env} {i : Nat} {l : List PD} {d : PD} (h : ρ.at_ i = some (.own (l ++ [d]))) : ev C (.pop i) ρ = .ok (.p d) (ρ.put i (.own l)) := by
  rw [ev, h]
  dsimp only
  rw [List.getLast?_append, List.dropLast_concat]
  rfl
/-- a row's ends that are new come to what is known, and to what waits -/
def visit : List Int → List Int → List Int → List Int × List Int
  | [], k, l => (k, l)
  | q :: qs, k, l => if q ∈ k then visit qs k l else visit qs (k ++ [q]) (l ++ [q])
theorem visit_ok : ∀ (qs k l : List Int), k.Nodup → (visit qs k l).1.Nodup ∧ (∀ x ∈ k, x ∈ (visit qs k l).1) ∧ (∀ x ∈ qs, x ∈ (visit qs k l).1) ∧ (∀ x ∈ (visit qs k l).1, x ∈ k ∨ x ∈ qs) ∧
    (∀ x ∈ l, x ∈ (visit qs k l).2) ∧ (∀ x ∈ (visit qs k l).2, x ∈ l ∨ x ∈ (visit qs k l).1) ∧ (∀ x ∈ (visit qs k l).1, x ∈ k ∨ x ∈ (visit qs k l).2) ∧ (visit qs k l).2.length + k.length = l.length + (visit qs k l).1.length
  | [], k, l, h => ⟨h, fun x hx => hx, fun x hx => (nomatch hx), fun x hx => .inl hx, fun x hx => hx, fun x hx => .inl hx, fun x hx => .inl hx, rfl⟩
  | q :: qs, k, l, h => by
    unfold visit
    by_cases c : q ∈ k
    · rw [if_pos c]
      obtain ⟨h1, h2, h3, h4, h5, h6, h7, h8⟩ := visit_ok qs k l h
      refine ⟨h1, h2, fun x hx => ?_, fun x hx => (h4 x hx).imp id (List.mem_cons_of_mem _), h5, h6, h7, h8⟩
      rcases List.mem_cons.mp hx with e | e
      · rw [e]; exact h2 q c
      · exact h3 x e
    · rw [if_neg c]
      have hk : (k ++ [q]).Nodup := by
        rw [List.nodup_append]
        exact ⟨h, List.nodup_cons.mpr ⟨List.not_mem_nil, List.nodup_nil⟩, fun x hx y hy e => c (by rw [List.mem_singleton.mp hy] at e; exact e ▸ hx)⟩
      obtain ⟨h1, h2, h3, h4, h5, h6, h7, h8⟩ := visit_ok qs (k ++ [q]) (l ++ [q]) hk
      refine ⟨h1, fun x hx => h2 x (List.mem_append_left _ hx), fun x hx => ?_, fun x hx => ?_, fun x hx => h5 x (List.mem_append_left _ hx), fun x hx => ?_, fun x hx => ?_, ?_⟩
      · rcases List.mem_cons.mp hx with e | e
        · rw [e]; exact h2 q (List.mem_append_right _ (List.mem_singleton.mpr rfl))
        · exact h3 x e
      · rcases h4 x hx with e | e
        · rcases List.mem_append.mp e with e | e
          · exact .inl e
          · exact .inr (by rw [List.mem_singleton.mp e]; exact List.mem_cons_self)
        · exact .inr (List.mem_cons_of_mem _ e)
      · rcases h6 x hx with e | e
        · rcases List.mem_append.mp e with e | e
          · exact .inl e
          · exact .inr (h2 x (List.mem_append_right _ e))
        · exact .inr e
      · rcases h7 x hx with e | e
        · rcases List.mem_append.mp e with e | e
          · exact .inl e
          · exact .inr (h5 x (List.mem_append_right _ e))
        · exact .inr e
      · simp only [List.length_append, List.length_singleton] at h8
        omega
theorem nodup_len : ∀ {l m : List Int}, l.Nodup → (∀ x ∈ l, x ∈ m) → l.length ≤ m.length
  | [], _, _, _ => Nat.zero_le _
  | x :: l, m, hn, h => by
    rw [List.nodup_cons] at hn
    have hx := h x List.mem_cons_self
    have := nodup_len (l := l) (m := m.erase x) hn.2 fun y hy => (List.mem_erase_of_ne (fun e => hn.1 (by rw [← e]; exact hy))).mpr (h y (List.mem_cons_of_mem _ hy))
    rw [List.length_erase_of_mem hx] at this
    have : 0 < m.length := List.length_pos_iff.mpr (List.ne_nil_of_mem hx)
    rw [List.length_cons]; omega
def rngZ (n : Nat) : List Int := (List.range n).map fun (q : Nat) => (q : Int)
theorem mem_rngZ {n : Nat} {x : Int} : x ∈ rngZ n ↔ 0 ≤ x ∧ x < n := by
  unfold rngZ
  rw [List.mem_map]
  constructor
  · rintro ⟨q, hq, rfl⟩; have := List.mem_range.mp hq; omega
  · rintro ⟨h0, h1⟩; exact ⟨x.toNat, List.mem_range.mpr (by omega), by omega⟩
noncomputable def reachL (R : List R4) (n : Nat) (p : Int) : List Int := (rngZ n).filter fun q => rc R p q
theorem rngZ_lt (n : Nat) : (rngZ n).Pairwise (· < ·) := by
  unfold rngZ
  rw [List.pairwise_map]
  exact (List.pairwise_lt_range).imp fun h => by omega
theorem nodup_lt {l : List Int} (h : l.Pairwise (· < ·)) : l.Nodup := h.imp fun h e => by omega
theorem sort_reach {R : List R4} {n : Nat} {p : Int} {k : List Int} (hn : k.Nodup) (hm : ∀ x, x ∈ k ↔ Rch R p x) (hr : ∀ x ∈ k, 0 ≤ x ∧ x < n) : sortZ k = reachL R n p := by
  have h1 : (reachL R n p).Pairwise (· < ·) := (rngZ_lt n).filter _
  refine (sortZ_uniq (h1.imp fun h => by omega) ?_).symm
  refine (List.perm_ext_iff_of_nodup (nodup_lt h1) hn).mpr fun x => ?_
  unfold reachL
  rw [List.mem_filter, mem_rngZ, rc_iff, hm]
  exact ⟨fun h => h.2, fun h => ⟨hr x ((hm x).mpr h), h⟩⟩
def ends (R : List R4) (x : Int) : List Int := (R.filter fun t => decide (t.1 = x)).map fun t => t.2.1
theorem mem_ends {R : List R4} {x q : Int} : q ∈ ends R x ↔ Ed R x q := by
  unfold ends Ed
  rw [List.mem_map]
  constructor
  · rintro ⟨t, ht, e⟩
    obtain ⟨h1, h2⟩ := List.mem_filter.mp ht
    exact ⟨t, h1, of_decide_eq_true h2, e⟩
  · rintro ⟨t, ht, h1, h2⟩
    exact ⟨t, List.mem_filter.mpr ⟨ht, decide_eq_true h1⟩, h2⟩
theorem tr_end (t : R4) : ∃ a b : Int, tr t = .tuple [.int t.2.1, .int a, .int b] := ⟨_, _, rfl⟩
theorem app_i {C : Pv.Ctx} {ρ ρ1 ρ2 : Pv.Env} {i : Nat} {e : E} {l : List Int} {x : Int} (h : isLst (ρ.at_ i) = true) (he : ev C e ρ = .ok (.p (.int x)) ρ1) (hat : ρ1.at_ i = some (.own (l.map .int))) (hl : l.length < line) (hp : ρ1.put i (.own ((l ++ [x]).map .int)) = ρ2) : ex C (.app i e) ρ = .nx ρ2 :=
  app_c h he hat (by rw [List.length_map]; exact hl) (by rw [← hp, List.map_append]; rfl)
def b_reach_of_0 : Ss := (.cons (.fore (.cons (.v 4) (.cons (.v 5) (.cons (.v 6) .nil))) (.seq (.call 23 [none, none] (.cons (.var 0) (.cons (.pop 3) .nil)) .nil)) (.cons (.ife (.prim (.cmp .NotIn) (.cons (.var 4) (.cons (.var 2) .nil))) (.cons (.app 2 (.var 4)) (.cons (.app 3 (.var 4)) .nil)) .nil) .nil)) .nil)
def c_reach_of_0 : E := (.prim (.cmp .NotEq) (.cons (.var 3) (.cons (.lst .nil) .nil)))
def b_reach_of_1 : Ss := (.cons (.ife (.prim (.cmp .NotIn) (.cons (.var 4) (.cons (.var 2) .nil))) (.cons (.app 2 (.var 4)) (.cons (.app 3 (.var 4)) .nil)) .nil) .nil)
def t_reach_of_1 : T := (.cons (.v 4) (.cons (.v 5) (.cons (.v 6) .nil)))
noncomputable abbrev Co (n : Nat) (R : List R4) (p : Int) (kk : Nat) : Pv.Ctx := ⟨borOf [.p (mPD n R), .p (.int p)], run prog kk⟩
theorem reach_in (kk n : Nat) (R : List R4) (p : Int) : ∀ (ts : List R4) (k l : List Int) (d1 d2 d3 : Option D), k.length + ts.length ≤ 1000 → l.length + ts.length ≤ 1000 →
    ∃ e1 e2 e3, forL (Co n R p kk) t_reach_of_1 (exs (Co n R p kk) b_reach_of_1) (ts.map tr) [some (.p (mPD n R)), some (.p (.int p)), some (.own (k.map .int)), some (.own (l.map .int)), d1, d2, d3] = .nx [some (.p (mPD n R)), some (.p (.int p)), some (.own ((visit (ts.map fun t => t.2.1) k l).1.map .int)), some (.own ((visit (ts.map fun t => t.2.1) k l).2.map .int)), e1, e2, e3]
  | [], k, l, d1, d2, d3, _, _ => ⟨d1, d2, d3, forL_nil⟩
  | t :: ts, k, l, d1, d2, d3, h1, h2 => by
    rw [List.length_cons] at h1 h2
    have hc : evT (Co n R p kk) (.prim (.cmp .NotIn) (.cons (.var 4) (.cons (.var 2) .nil))) [some (.p (mPD n R)), some (.p (.int p)), some (.own (k.map .int)), some (.own (l.map .int)), some (.p (.int t.2.1)), some (.p (.int t.2.2.1)), some (.p (.int t.2.2.2))] = .ok (!decide (t.2.1 ∈ k)) [some (.p (mPD n R)), some (.p (.int p)), some (.own (k.map .int)), some (.own (l.map .int)), some (.p (.int t.2.1)), some (.p (.int t.2.2.1)), some (.p (.int t.2.2.2))] :=
      evT_b (prim_c (as := [.s 4, .s 2]) (ds := [.p (.int t.2.1), .own (k.map .int)]) rfl rfl (by
        show Option.map (fun c => D.p (.bool c)) ((inD (.p (.int t.2.1)) (.own (k.map .int))).map (!·)) = _
        rw [in_ints (b := .own (k.map .int)) rfl]; rfl))
    rw [List.map_cons, List.map_cons]
    unfold visit
    by_cases c : t.2.1 ∈ k
    · rw [if_pos c]
      obtain ⟨e1, e2, e3, ih⟩ := reach_in kk n R p ts k l (some (.p (.int t.2.1))) (some (.p (.int t.2.2.1))) (some (.p (.int t.2.2.2))) (by omega) (by omega)
      exact ⟨e1, e2, e3, forL_cons (ρ1 := [some (.p (mPD n R)), some (.p (.int p)), some (.own (k.map .int)), some (.own (l.map .int)), some (.p (.int t.2.1)), some (.p (.int t.2.2.1)), some (.p (.int t.2.2.2))]) rfl (iff_s (hc.trans (by rw [decide_eq_true c]; rfl)) nil_c) ih⟩
    · rw [if_neg c]
      obtain ⟨e1, e2, e3, ih⟩ := reach_in kk n R p ts (k ++ [t.2.1]) (l ++ [t.2.1]) (some (.p (.int t.2.1))) (some (.p (.int t.2.2.1))) (some (.p (.int t.2.2.2))) (by rw [List.length_append, List.length_singleton]; omega) (by rw [List.length_append, List.length_singleton]; omega)
      refine ⟨e1, e2, e3, forL_cons (ρ1 := [some (.p (mPD n R)), some (.p (.int p)), some (.own (k.map .int)), some (.own (l.map .int)), some (.p (.int t.2.1)), some (.p (.int t.2.2.1)), some (.p (.int t.2.2.2))]) (ρ2 := [some (.p (mPD n R)), some (.p (.int p)), some (.own ((k ++ [t.2.1]).map .int)), some (.own ((l ++ [t.2.1]).map .int)), some (.p (.int t.2.1)), some (.p (.int t.2.2.1)), some (.p (.int t.2.2.2))]) rfl (ift_nx (hc.trans (by rw [decide_eq_false c]; rfl)) (st_s (app_i (ρ1 := [some (.p (mPD n R)), some (.p (.int p)), some (.own (k.map .int)), some (.own (l.map .int)), some (.p (.int t.2.1)), some (.p (.int t.2.2.1)), some (.p (.int t.2.2.2))]) (ρ2 := [some (.p (mPD n R)), some (.p (.int p)), some (.own ((k ++ [t.2.1]).map .int)), some (.own (l.map .int)), some (.p (.int t.2.1)), some (.p (.int t.2.2.1)), some (.p (.int t.2.2.2))]) (l := k) (x := t.2.1) rfl rfl rfl (Nat.lt_of_le_of_lt (by omega : k.length ≤ 1000) (by decide)) rfl) (st_s (app_i (ρ1 := [some (.p (mPD n R)), some (.p (.int p)), some (.own ((k ++ [t.2.1]).map .int)), some (.own (l.map .int)), some (.p (.int t.2.1)), some (.p (.int t.2.2.1)), some (.p (.int t.2.2.2))]) (ρ2 := [some (.p (mPD n R)), some (.p (.int p)), some (.own ((k ++ [t.2.1]).map .int)), some (.own ((l ++ [t.2.1]).map .int)), some (.p (.int t.2.1)), some (.p (.int t.2.2.1)), some (.p (.int t.2.2.2))]) (l := l) (x := t.2.1) rfl rfl rfl (Nat.lt_of_le_of_lt (by omega : l.length ≤ 1000) (by decide)) rfl) nil_c)) nil_c) ih⟩
theorem reach_loop (kk n : Nat) (R : List R4) (p : Int) (g : GoodR n R) (n12 : n ≤ 12) : ∀ (N : Nat) (k l : List Int) (d1 d2 d3 : Option D), 2 * (n - k.length) + l.length ≤ N → k.Nodup → (∀ x ∈ k, Rch R p x) → (∀ x ∈ l, x = p ∨ x ∈ k) → l.length ≤ 1 + k.length → (∀ x, x = p ∨ x ∈ k → x ∉ l → ∀ q, Ed R x q → q ∈ k) →
    ∃ k' e1 e2 e3, wS (evT (Co n R p (kk + 1)) c_reach_of_0) (exs (Co n R p (kk + 1)) b_reach_of_0) [some (.p (mPD n R)), some (.p (.int p)), some (.own (k.map .int)), some (.own (l.map .int)), d1, d2, d3] = .nx [some (.p (mPD n R)), some (.p (.int p)), some (.own (List.map .int k')), some (.own []), e1, e2, e3] ∧ k'.Nodup ∧ ∀ x, x ∈ k' ↔ Rch R p x
  | N, k, l, d1, d2, d3, hN, hk, hs, hl, hll, hc => by
    have hkn : k.length ≤ n := by
      have := nodup_len (m := rngZ n) hk fun x hx => mem_rngZ.mpr ((hs x hx).rng g)
      unfold rngZ at this
      rw [List.length_map, List.length_range] at this; exact this
    have hcond : evT (Co n R p (kk + 1)) c_reach_of_0 [some (.p (mPD n R)), some (.p (.int p)), some (.own (k.map .int)), some (.own (l.map .int)), d1, d2, d3] = .ok (!decide (l = [])) [some (.p (mPD n R)), some (.p (.int p)), some (.own (k.map .int)), some (.own (l.map .int)), d1, d2, d3] :=
      evT_b (prim_c (as := [.s 3, .v (.own [])]) (ds := [.own (l.map .int), .own []]) rfl rfl (by
        show Option.map (fun c => D.p (.bool c)) ((eqD (.own (l.map .int)) (.own [])).map (!·)) = _
        rw [eq_ints (a := l) (b := []) rfl rfl]; rfl))
    rcases List.eq_nil_or_concat l with e | ⟨l0, x, e⟩
    · subst e
      refine ⟨k, d1, d2, d3, wS_f (hcond.trans (by rw [decide_eq_true rfl]; rfl)), hk, fun x => ⟨hs x, fun h => ?_⟩⟩
      have key : ∀ y q, Rch R y q → (y = p ∨ y ∈ k) → q ∈ k := by
        intro y q h
        induction h with
        | one e => exact fun hy => hc _ hy List.not_mem_nil _ e
        | step e _ ih => exact fun hy => ih (.inr (hc _ hy List.not_mem_nil _ e))
      exact key p x h (.inl rfl)
    · rw [List.concat_eq_append] at e
      subst e
      have hx := hl x (List.mem_append_right _ (List.mem_singleton.mpr rfl))
      obtain ⟨v1, v2, v3, v4, v5, v6, v7, v8⟩ := visit_ok (ends R x) k l0 hk
      have hlen : ((R.filter fun t => decide (t.1 = x)).length) ≤ 16 := Nat.le_trans (List.length_filter_le _ _) g.len
      rw [List.length_append, List.length_singleton] at hll hN
      obtain ⟨e1, e2, e3, hin⟩ := reach_in (kk + 1) n R p (R.filter fun t => decide (t.1 = x)) k l0 d1 d2 d3 (by omega) (by omega)
      have hs' : ∀ y ∈ (visit (ends R x) k l0).1, Rch R p y := fun y hy => by
        rcases v4 y hy with q | q
        · exact hs y q
        · have := mem_ends.mp q
          rcases hx with rfl | hx
          · exact .one this
          · exact (hs x hx).snoc this
      have hkn' : (visit (ends R x) k l0).1.length ≤ n := by
        have := nodup_len (m := rngZ n) v1 fun y hy => mem_rngZ.mpr ((hs' y hy).rng g)
        unfold rngZ at this
        rw [List.length_map, List.length_range] at this; exact this
      have hkk : k.length ≤ (visit (ends R x) k l0).1.length := nodup_len hk v2
      match N, hN with
      | 0, hN => omega
      | N + 1, hN =>
        obtain ⟨k', f1, f2, f3, w, r1, r2⟩ := reach_loop kk n R p g n12 N (visit (ends R x) k l0).1 (visit (ends R x) k l0).2 e1 e2 e3 (by omega) v1 hs' (fun y hy => by
          rcases v6 y hy with q | q
          · exact (hl y (List.mem_append_left _ q)).imp id (v2 y)
          · exact .inr q) (by omega) (fun y hy hny q hq => by
          by_cases hyx : y = x
          · subst hyx
            exact v3 q (mem_ends.mpr hq)
          · have hy' : y = p ∨ y ∈ k := by
              rcases hy with h | h
              · exact .inl h
              · rcases v7 y h with h | h
                · exact .inr h
                · exact absurd h hny
            refine v2 q (hc y hy' (fun z => ?_) q hq)
            rcases List.mem_append.mp z with z | z
            · exact hny (v5 y z)
            · exact hyx (List.mem_singleton.mp z))
        refine ⟨k', f1, f2, f3, wS_t (ρ1 := [some (.p (mPD n R)), some (.p (.int p)), some (.own (k.map .int)), some (.own ((l0 ++ [x]).map .int)), d1, d2, d3]) (hcond.trans ?_) (st_s (for_c (xs := lead R x) (ρ1 := [some (.p (mPD n R)), some (.p (.int p)), some (.own (k.map .int)), some (.own (l0.map .int)), d1, d2, d3]) ?_ hin) nil_c) w, r1, r2⟩
        · rw [decide_eq_false (by simp)]; rfl
        · have hp : ev (Co n R p (kk + 1)) (.pop 3) [some (.p (mPD n R)), some (.p (.int p)), some (.own (k.map .int)), some (.own ((l0 ++ [x]).map .int)), d1, d2, d3] = .ok (.p (.int x)) [some (.p (mPD n R)), some (.p (.int p)), some (.own (k.map .int)), some (.own (l0.map .int)), d1, d2, d3] := by
            refine (pop_c (l := l0.map .int) (d := .int x) ?_).trans rfl
            rw [List.map_append]; rfl
          have hcall : ev (Co n R p (kk + 1)) (.call 23 [none, none] (.cons (.var 0) (.cons (.pop 3) .nil)) .nil) [some (.p (mPD n R)), some (.p (.int p)), some (.own (k.map .int)), some (.own ((l0 ++ [x]).map .int)), d1, d2, d3] = .ok (.own (lead R x)) [some (.p (mPD n R)), some (.p (.int p)), some (.own (k.map .int)), some (.own (l0.map .int)), d1, d2, d3] :=
            call_c (as := [.s 0, .v (.p (.int x))]) (bs := []) (ds := [.p (mPD n R), .p (.int x)]) (ps := [.p (mPD n R), .p (.int x)]) (qs := [.p (mPD n R), .p (.int x)]) (ρ1 := [some (.p (mPD n R)), some (.p (.int p)), some (.own (k.map .int)), some (.own (l0.map .int)), d1, d2, d3]) (ρ2 := [some (.p (mPD n R)), some (.p (.int p)), some (.own (k.map .int)), some (.own (l0.map .int)), d1, d2, d3]) (evA_v rfl (evA_c (fun i z => by cases z) hp evA_n)) evA_n rfl rfl rfl (r_roads_from kk n R x (Nat.le_trans g.len (by decide))) rfl
          rw [evI, hcall]; rfl
theorem r_reach_of (kk n : Nat) (R : List R4) (p : Int) (g : GoodR n R) (n12 : n ≤ 12) : run prog (kk + 2) 36 [.p (mPD n R), .p (.int p)] = .ok (.own ((reachL R n p).map .int)) [.p (mPD n R), .p (.int p)] := by
  refine (run_succ (fn := f_reach_of) rfl).trans ?_
  obtain ⟨k', e1, e2, e3, w, h1, h2⟩ := reach_loop kk n R p g n12 (2 * n + 1) [] [p] none none none (by simp) List.nodup_nil (fun x hx => nomatch hx) (fun x hx => .inl (List.mem_singleton.mp hx)) (by simp) (fun x hx hn q hq => by
    rcases hx with rfl | hx
    · exact absurd (List.mem_singleton.mpr rfl) hn
    · cases hx)
  refine runB_gv rfl rfl (.st (ρ2 := [some (.p (mPD n R)), some (.p (.int p)), some (.own (List.map .int [])), some (.own ([p].map .int)), none, none, none]) rfl (.st (ρ2 := [some (.p (mPD n R)), some (.p (.int p)), some (.own (k'.map .int)), some (.own []), e1, e2, e3]) (by rw [ex]; exact w) ?_))
  refine .ret (ρ1 := [some (.p (mPD n R)), some (.p (.int p)), some (.own (k'.map .int)), some (.own []), e1, e2, e3]) (fun i z => by cases z) (prim_c (as := [.s 2]) (ds := [.own (k'.map .int)]) rfl rfl ?_) (gv rfl)
  show Option.map D.own (sortP (k'.map .int)) = _
  unfold sortP
  rw [intsP_map]
  show some (D.own ((sortZ k').map .int)) = _
  rw [sort_reach h1 h2 fun x hx => ((h2 x).mp hx).rng g]
end Law_k41

namespace Law_k41
open PySem PySem.Spec L2 Pv
theorem rangeL_rngZ (n : Nat) : rangeL 0 n = (rngZ n).map .int := by
  unfold rangeL rngZ
  rw [List.map_map, show ((n : Int) - 0).toNat = n from by omega]
  refine List.map_congr_left fun q _ => ?_
  show PyData.int (0 + (q : Int)) = .int (q : Int)
  rw [Int.zero_add]
theorem lrg_pr {n : Nat} (h : n ≤ 12) : prD .lrg [.p (.int n)] = some (.own ((rngZ n).map .int)) := by
  show (if rgB 0 n then some (D.own (rangeL 0 n)) else none) = _
  have : rgB 0 n = true := by
    unfold rgB
    rw [small_ok (Int.le_refl _) (by decide), small_ok (by omega) (by omega)]
    exact decide_eq_true (by omega)
  rw [this, if_pos rfl, rangeL_rngZ]
noncomputable def allR (R : List R4) (n : Nat) : Bool := (rngZ n).all fun p => (rngZ n).all fun q => rc R p q
theorem reach_all {R : List R4} {n : Nat} {p : Int} : decide (reachL R n p = rngZ n) = (rngZ n).all fun q => rc R p q := by
  rw [Bool.eq_iff_iff, decide_eq_true_eq]
  unfold reachL
  rw [List.filter_eq_self, List.all_eq_true]
structure MOk (n : Nat) (R : List R4) : Prop where
  g : GoodR n R
  n1 : 1 ≤ n
  n12 : n ≤ 12
  sh : SeqAt.shaped (mPD n R) = true
  ok : mach (mPD n R) = true
theorem r_together_of (k n : Nat) (R : List R4) (M : MOk n R) : run prog (k + 3) 37 [.p (mPD n R)] = .ok (.p (.bool (allR R n))) [.p (mPD n R)] := by
  refine (run_succ (fn := f_together_of) rfl).trans ?_
  have hidx : ∀ C : Pv.Ctx, ev C (.prim .idx (.cons (.var 0) (.cons (.int 1) .nil))) [some (.p (mPD n R)), none, none] = .ok (.p (.int n)) [some (.p (mPD n R)), none, none] := fun C => rfl
  have h0 : ev ⟨borOf [.p (mPD n R)], run prog (k + 2)⟩ (.prim .lrg (.cons (.prim .idx (.cons (.var 0) (.cons (.int 1) .nil))) .nil)) [some (.p (mPD n R)), none, none] = .ok (.own ((rngZ n).map .int)) [some (.p (mPD n R)), none, none] :=
    prim1 (fun i z => by cases z) (hidx _) (lrg_pr M.n12)
  refine runB_gv rfl rfl (.asg (ρ1 := [some (.p (mPD n R)), none, none]) (ρ2 := [some (.p (mPD n R)), some (.own ((rngZ n).map .int)), none]) h0 rfl rfl rfl ?_)
  refine .ret (ρ1 := [some (.p (mPD n R)), some (.p (.list ((rngZ n).map .int))), none]) (fun i z => by cases z) ((all_lc (xs := (rngZ n).map .int) (f := fun x => match x with | .int p => decide (reachL R n p = rngZ n) | _ => false) rfl rfl ?_ (fun x hx => ?_)).trans ?_) (gv rfl)
  · unfold rngZ; rw [List.length_map, List.length_map, List.length_range]; exact Nat.le_trans M.n12 (by decide)
  · obtain ⟨p, hp, rfl⟩ := List.mem_map.mp hx
    refine ⟨[some (.p (mPD n R)), some (.p (.list ((rngZ n).map .int))), some (.p (.int p))], rfl, rfl, ?_⟩
    have hcall : ev ⟨borOf [.p (mPD n R)], run prog (k + 2)⟩ (.call 36 [none, none] (.cons (.var 0) (.cons (.var 2) .nil)) .nil) [some (.p (mPD n R)), some (.p (.list ((rngZ n).map .int))), some (.p (.int p))] = .ok (.own ((reachL R n p).map .int)) [some (.p (mPD n R)), some (.p (.list ((rngZ n).map .int))), some (.p (.int p))] :=
      call_c (as := [.s 0, .s 2]) (bs := []) (ds := [.p (mPD n R), .p (.int p)]) (ps := [.p (mPD n R), .p (.int p)]) (qs := [.p (mPD n R), .p (.int p)]) (ρ1 := [some (.p (mPD n R)), some (.p (.list ((rngZ n).map .int))), some (.p (.int p))]) (ρ2 := [some (.p (mPD n R)), some (.p (.list ((rngZ n).map .int))), some (.p (.int p))]) rfl evA_n rfl rfl rfl (r_reach_of k n R p M.g M.n12) rfl
    refine prim_c (as := [.v (.own ((reachL R n p).map .int)), .s 1]) (ds := [.own ((reachL R n p).map .int), .p (.list ((rngZ n).map .int))]) (evA_c (fun i z => by cases z) hcall (evA_v rfl evA_n)) rfl ?_
    show Option.map (fun c => D.p (.bool c)) (eqD (.own ((reachL R n p).map .int)) (.p (.list ((rngZ n).map .int)))) = _
    rw [eq_ints (a := reachL R n p) (b := rngZ n) rfl rfl]; rfl
  · rw [List.all_map]
    unfold allR
    refine congrArg (fun b => Rs.ok (D.p (PyData.bool b)) _) ?_
    refine congrArg (fun f => (rngZ n).all f) ?_
    funext p
    exact reach_all
theorem r_is_together (k n : Nat) (R : List R4) (M : MOk n R) : run prog (k + 6) 42 [.p (mPD n R)] = .ok (.p (.bool (allR R n))) [.p (mPD n R)] := by
  refine (run_succ (fn := f_is_together) rfl).trans ?_
  refine runB_gv rfl rfl (.ret (ρ1 := [some (.p (mPD n R))]) (fun i z => by cases z) (call_c (as := [.v (.p (mPD n R))]) (bs := []) (ds := [.p (mPD n R)]) (ps := [.p (mPD n R)]) (qs := [.p (mPD n R)]) (ρ1 := [some (.p (mPD n R))]) (ρ2 := [some (.p (mPD n R))]) (evA_c (fun i z => by cases z) (call_c (as := [.s 0]) (bs := []) (ds := [.p (mPD n R)]) (ps := [.p (mPD n R)]) (qs := [.p (mPD n R)]) (ρ1 := [some (.p (mPD n R))]) (ρ2 := [some (.p (mPD n R))]) rfl evA_n rfl rfl rfl (r_want_machine k _ M.sh M.ok) rfl) evA_n) evA_n rfl rfl rfl (r_together_of (k + 2) n R M) rfl) (gv rfl))
/-! tables of truths -/
def tbb (f : Nat → Nat → Bool) (n : Nat) : List (List PD) := (List.range n).map fun (i : Nat) => (List.range n).map fun (j : Nat) => .bool (f i j)
def upb (f : Nat → Nat → Bool) (i j : Nat) : Nat → Nat → Bool := fun a b => if a = i ∧ b = j then true else f a b
theorem atI_tbb {f : Nat → Nat → Bool} {n : Nat} {x y : Int} (x0 : 0 ≤ x) (x1 : x < n) (y0 : 0 ≤ y) (y1 : y < n) : ((atI (tbb f n) x).bind fun r => atI r y) = some (.bool (f x.toNat y.toNat)) := by
  unfold tbb
  rw [atI_range x0 x1, Option.bind_some, atI_range y0 y1]
theorem set2_tbb {f : Nat → Nat → Bool} {n : Nat} {x y : Int} (x0 : 0 ≤ x) (x1 : x < n) (y0 : 0 ≤ y) (y1 : y < n) : set2D (.own2 (tbb f n)) (.p (.int x)) (.p (.int y)) (.p (.bool true)) = some (.own2 (tbb (upb f x.toNat y.toNat) n)) := by
  have hl : (tbb f n).length = n := by unfold tbb; rw [List.length_map, List.length_range]
  have hr : (tbb f n)[x.toNat]? = some ((List.range n).map fun (q : Nat) => .bool (f x.toNat q)) := by
    unfold tbb; rw [List.getElem?_map, List.getElem?_range (by omega)]; rfl
  unfold set2D
  dsimp only
  rw [hl, ixN_nat x0 x1]
  dsimp only
  rw [hr]
  dsimp only
  rw [List.length_map, List.length_range, ixN_nat y0 y1, pd_p]
  dsimp only
  refine congrArg (fun l => some (D.own2 l)) ?_
  unfold tbb
  rw [set_range (by omega), set_range (by omega)]
  refine List.map_congr_left fun L hL => ?_
  by_cases e : L = x.toNat
  · rw [if_pos e]
    refine List.map_congr_left fun q hq => ?_
    unfold upb
    by_cases g : q = y.toNat
    · rw [if_pos g, if_pos ⟨e, g⟩]
    · rw [if_neg g, if_neg (fun z => g z.2), e]
  · rw [if_neg e]
    refine List.map_congr_left fun q hq => ?_
    unfold upb
    rw [if_neg (fun z => e z.1)]
section
variable {C : Pv.Ctx} {ρ ρ1 ρ2 ρ3 ρ4 : Pv.Env}
theorem idxb_c {i : Nat} {a b : E} {f : Nat → Nat → Bool} {n : Nat} {x y : Int} (hi : ρ.at_ i = some (.own2 (tbb f n))) (ha : ev C a ρ = .ok (.p (.int x)) ρ1) (hb : ev C b ρ = .ok (.p (.int y)) ρ2) (x0 : 0 ≤ x) (x1 : x < n) (y0 : 0 ≤ y) (y1 : y < n) : ev C (.idx2 i a b) ρ = .ok (.p (.bool (f x.toNat y.toNat))) ρ := by
  rw [ev, hi, ha, hb]
  unfold two
  dsimp only
  rw [atI_tbb x0 x1 y0 y1]
theorem setb_c {i : Nat} {a b e : E} {f : Nat → Nat → Bool} {n : Nat} {x y : Int} (he : ev C e ρ = .ok (.p (.bool true)) ρ1) (hi : ρ1.at_ i = some (.own2 (tbb f n))) (ha : ev C a ρ1 = .ok (.p (.int x)) ρ2) (hb : ev C b ρ1 = .ok (.p (.int y)) ρ3) (x0 : 0 ≤ x) (x1 : x < n) (y0 : 0 ≤ y) (y1 : y < n)
    (hp : ρ1.put i (.own2 (tbb (upb f x.toNat y.toNat) n)) = ρ4) : ex C (.set2 i a b e) ρ = .nx ρ4 := by
  rw [ex, he]
  simp only [fl_ok]
  rw [hi, ha, hb]
  unfold two2
  dsimp only
  rw [set2_tbb x0 x1 y0 y1]
  dsimp only
  rw [hp]
end
/-! Warshall -/
abbrev TB := Nat → Nat → Bool
def w3 (k i : Nat) (js : List Nat) (f : TB) : TB := js.foldl (fun f j => if f i k && f k j then upb f i j else f) f
def w2 (n k : Nat) (is : List Nat) (f : TB) : TB := is.foldl (fun f i => w3 k i (List.range n) f) f
def w1 (n : Nat) (ks : List Nat) (f : TB) : TB := ks.foldl (fun f k => w2 n k (List.range n) f) f
def w0 (ts : List R4) (f : TB) : TB := ts.foldl (fun f t => upb f t.1.toNat t.2.1.toNat) f
def Sd (R : List R4) (f : TB) : Prop := ∀ i j : Nat, f i j = true → Rch R i j
def LeB (f g : TB) : Prop := ∀ i j, f i j = true → g i j = true
theorem LeB.up {f : TB} {i j : Nat} : LeB f (upb f i j) := fun a b h => by
  unfold upb
  split
  · rfl
  · exact h
theorem w3_le (k i : Nat) : ∀ (js : List Nat) (f : TB), LeB f (w3 k i js f)
  | [], f => fun _ _ h => h
  | j :: js, f => fun a b h => by
    show w3 k i js (if f i k && f k j then upb f i j else f) a b = true
    refine w3_le k i js _ a b ?_
    split
    · exact LeB.up a b h
    · exact h
theorem w2_le (n k : Nat) : ∀ (is : List Nat) (f : TB), LeB f (w2 n k is f)
  | [], f => fun _ _ h => h
  | i :: is, f => fun a b h => w2_le n k is _ a b (w3_le k i _ f a b h)
theorem w3_sd {R : List R4} (k i : Nat) : ∀ (js : List Nat) (f : TB), Sd R f → Sd R (w3 k i js f)
  | [], f, h => h
  | j :: js, f, h => by
    refine w3_sd k i js _ ?_
    intro a b hab
    have hab : (if f i k && f k j then upb f i j else f) a b = true := hab
    split at hab
    · rename_i c
      rw [Bool.and_eq_true] at c
      unfold upb at hab
      split at hab
      · rename_i e; rw [e.1, e.2]; exact (h i k c.1).trans (h k j c.2)
      · exact h a b hab
    · exact h a b hab
theorem w2_sd {R : List R4} (n k : Nat) : ∀ (is : List Nat) (f : TB), Sd R f → Sd R (w2 n k is f)
  | [], f, h => h
  | i :: is, f, h => w2_sd n k is _ (w3_sd k i _ f h)
theorem w1_sd {R : List R4} (n : Nat) : ∀ (ks : List Nat) (f : TB), Sd R f → Sd R (w1 n ks f)
  | [], f, h => h
  | k :: ks, f, h => w1_sd n ks _ (w2_sd n k _ f h)
/-- a way whose inner places lie below k -/
def Pk (R : List R4) : Nat → Int → Int → Prop
  | 0, i, j => Ed R i j
  | k + 1, i, j => Pk R k i j ∨ (Pk R k i k ∧ Pk R k k j)
def Cm (R : List R4) (k : Nat) (f : TB) : Prop := ∀ i j : Nat, Pk R k i j → f i j = true
theorem w3_cm {R : List R4} (k i : Nat) : ∀ (js : List Nat) (f : TB), Cm R k f → ∀ j ∈ js, Pk R (k + 1) i j → w3 k i js f i j = true
  | [], f, _, j, hj, _ => nomatch hj
  | j0 :: js, f, h, j, hj, hp => by
    show w3 k i js (if f i k && f k j0 then upb f i j0 else f) i j = true
    rcases List.mem_cons.mp hj with e | e
    · subst e
      refine w3_le k i js _ i j ?_
      rcases hp with hp | ⟨h1, h2⟩
      · split
        · exact LeB.up i j (h i j hp)
        · exact h i j hp
      · rw [h i k h1, h k j h2]
        show upb f i j i j = true
        unfold upb; rw [if_pos ⟨rfl, rfl⟩]
    · refine w3_cm k i js _ (fun a b hab => ?_) j e hp
      split
      · exact LeB.up a b (h a b hab)
      · exact h a b hab
theorem w2_cm {R : List R4} (n k : Nat) : ∀ (is : List Nat) (f : TB), Cm R k f → ∀ i ∈ is, ∀ j < n, Pk R (k + 1) i j → w2 n k is f i j = true
  | [], f, _, i, hi, _, _, _ => nomatch hi
  | i0 :: is, f, h, i, hi, j, hj, hp => by
    show w2 n k is (w3 k i0 (List.range n) f) i j = true
    rcases List.mem_cons.mp hi with e | e
    · subst e
      exact w2_le n k is _ i j (w3_cm k i (List.range n) f h j (List.mem_range.mpr hj) hp)
    · exact w2_cm n k is _ (fun a b hab => w3_le k i0 _ f a b (h a b hab)) i e j hj hp
theorem Pk.rng {n : Nat} {R : List R4} (g : GoodR n R) : ∀ {k : Nat} {i j : Int}, Pk R k i j → (0 ≤ i ∧ i < n) ∧ (0 ≤ j ∧ j < n)
  | 0, _, _, ⟨t, ht, e1, e2⟩ => by rw [← e1, ← e2]; exact ⟨g.one t ht, g.two t ht⟩
  | k + 1, _, _, .inl h => Pk.rng g h
  | k + 1, _, _, .inr ⟨h1, h2⟩ => ⟨(Pk.rng g h1).1, (Pk.rng g h2).2⟩
theorem w1_cm {n : Nat} {R : List R4} (g : GoodR n R) : ∀ (c k : Nat) (f : TB), Cm R k f → Cm R (k + c) (w1 n (List.range' k c) f)
  | 0, k, f, h => h
  | c + 1, k, f, h => by
    rw [List.range'_succ]
    show Cm R (k + (c + 1)) (w1 n (List.range' (k + 1) c) (w2 n k (List.range n) f))
    rw [show k + (c + 1) = (k + 1) + c from by omega]
    refine w1_cm g c (k + 1) _ fun i j hp => ?_
    have r := Pk.rng g hp
    exact w2_cm n k (List.range n) f h i (List.mem_range.mpr (by omega)) j (by omega) hp
theorem Pk_mono {R : List R4} {k : Nat} {i j : Int} (h : Pk R k i j) : ∀ c : Nat, Pk R (k + c) i j
  | 0 => h
  | c + 1 => .inl (Pk_mono h c)
theorem Pk_trans {R : List R4} : ∀ (k : Nat) (m : Nat), m < k → ∀ i j : Int, Pk R k i m → Pk R k m j → Pk R k i j
  | 0, m, h, _, _, _, _ => by omega
  | k + 1, m, h, i, j, h1, h2 => by
    by_cases e : m = k
    · subst e
      have a : Pk R m i m := h1.elim id fun z => z.1
      have b : Pk R m m j := h2.elim id fun z => z.2
      exact .inr ⟨a, b⟩
    · have hm : m < k := by omega
      rcases h1 with h1 | ⟨a1, a2⟩
      · rcases h2 with h2 | ⟨b1, b2⟩
        · exact .inl (Pk_trans k m hm i j h1 h2)
        · exact .inr ⟨Pk_trans k m hm i k h1 b1, b2⟩
      · rcases h2 with h2 | ⟨b1, b2⟩
        · exact .inr ⟨a1, Pk_trans k m hm k j a2 h2⟩
        · exact .inr ⟨a1, b2⟩
theorem Pk_all {n : Nat} {R : List R4} (g : GoodR n R) {i j : Int} (h : Rch R i j) : Pk R n i j := by
  have z : ∀ {a b : Int}, Ed R a b → Pk R n a b := fun {a b} e => by
    have := Pk_mono (k := 0) (i := a) (j := b) e n
    rw [Nat.zero_add] at this; exact this
  induction h with
  | one e => exact z e
  | @step p m q e _ ih =>
    obtain ⟨t, ht, _, e2⟩ := e
    have r := g.two t ht
    rw [e2] at r
    have hm : m = ((m.toNat : Nat) : Int) := by omega
    have a := z ⟨t, ht, ‹_›, e2⟩
    rw [hm] at a ih
    exact Pk_trans n m.toNat (by omega) p q a ih
theorem w0_ok {n : Nat} {R : List R4} (g : GoodR n R) : ∀ (ts : List R4) (f : TB), (∀ t ∈ ts, t ∈ R) → ∀ i j : Nat, w0 ts f i j = true ↔ f i j = true ∨ ∃ t ∈ ts, t.1 = i ∧ t.2.1 = j
  | [], f, _, i, j => ⟨.inl, fun h => h.elim id fun ⟨_, z, _⟩ => nomatch z⟩
  | t :: ts, f, hs, i, j => by
    have ht := hs t List.mem_cons_self
    have r1 := g.one t ht
    have r2 := g.two t ht
    show w0 ts (upb f t.1.toNat t.2.1.toNat) i j = true ↔ _
    rw [w0_ok g ts _ (fun u hu => hs u (List.mem_cons_of_mem _ hu)) i j]
    unfold upb
    constructor
    · rintro (h | ⟨u, hu, h⟩)
      · split at h
        · rename_i e; exact .inr ⟨t, List.mem_cons_self, by omega, by omega⟩
        · exact .inl h
      · exact .inr ⟨u, List.mem_cons_of_mem _ hu, h⟩
    · rintro (h | ⟨u, hu, h1, h2⟩)
      · left
        split
        · rfl
        · exact h
      · rcases List.mem_cons.mp hu with e | e
        · subst e; left; rw [if_pos ⟨by omega, by omega⟩]
        · exact .inr ⟨u, e, h1, h2⟩
def ff : TB := fun _ _ => false
theorem warshall {n : Nat} {R : List R4} (g : GoodR n R) (i j : Nat) : w1 n (List.range n) (w0 R ff) i j = rc R i j := by
  have h0 : Sd R (w0 R ff) := fun a b h => by
    rcases (w0_ok g R ff (fun t ht => ht) a b).mp h with h | ⟨t, ht, e1, e2⟩
    · cases h
    · exact .one ⟨t, ht, e1, e2⟩
  have h1 : Cm R 0 (w0 R ff) := fun a b ⟨t, ht, e1, e2⟩ => (w0_ok g R ff (fun t ht => ht) a b).mpr (.inr ⟨t, ht, e1, e2⟩)
  rw [Bool.eq_iff_iff, rc_iff]
  constructor
  · exact w1_sd n _ _ h0 i j
  · intro h
    have := w1_cm g n 0 (w0 R ff) h1 i j (by rw [Nat.zero_add]; exact Pk_all g h)
    rw [← List.range_eq_range'] at this
    exact this
end Law_k41

namespace Law_k41
open PySem PySem.Spec L2 Pv
theorem mkL_own {α : Type} (f : α → List PD) (x : α) (xs : List α) : mkL ((x :: xs).map fun y => .own (f y)) = some (.own2 ((x :: xs).map f)) := by
  have h1 : allP ((x :: xs).map fun y => D.own (f y)) = none := rfl
  have h2 : ∀ l : List α, allO (l.map fun y => D.own (f y)) = some (l.map f) := by
    intro l
    induction l with
    | nil => rfl
    | cons y l ih => rw [List.map_cons, allO, ih]; rfl
  unfold mkL
  rw [h1, h2]
def natL (l : List Nat) : List PD := l.map fun (j : Nat) => PyData.int (j : Int)
theorem rng_natL (n : Nat) : (rngZ n).map PyData.int = natL (List.range n) := by
  unfold rngZ natL; rw [List.map_map]; rfl
def bFalse (n : Nat) : List PD := (List.range n).map fun (q : Nat) => .bool false
theorem rep_false (c : Nat) : rep [PyData.bool false] (c : Int) = bFalse c := by
  unfold rep bFalse
  rw [show ((c : Int)).toNat = c from by omega]
  induction c with
  | zero => rfl
  | succ c ih => rw [List.replicate_succ, List.flatten_cons, ih, List.range_succ_eq_map, List.map_cons, List.map_map]; rfl
theorem mul_false {n : Nat} (hn : n ≤ 12) : prD (.bin .Mult) [.own [.bool false], .p (.int n)] = some (.own (bFalse n)) := by
  rw [← rep_false]
  have hc : Operator.Mult = .Mult ∧ -(2 ^ 63) ≤ (n : Int) ∧ (n : Int) < 2 ^ 63 ∧ [PyData.bool false].length * ((n : Int)).toNat ≤ line := by
    have hl : line = 16777216 := rfl
    refine ⟨rfl, by omega, by omega, ?_⟩
    rw [List.length_singleton, Nat.one_mul, hl]; omega
  simp only [Pv.prD, binD, binL]
  rw [if_pos ⟨trivial, hc.2⟩]
def b__law_closed_0 : Ss := (.cons (.set2 2 (.var 4) (.var 5) (.bl true)) .nil)
def t__law_closed_0 : T := (.cons (.v 4) (.cons (.v 5) (.cons (.v 6) (.cons (.v 7) .nil))))
def b__law_closed_1 : Ss := (.cons (.fore (.v 4) (.seq (.var 1)) (.cons (.fore (.v 5) (.seq (.var 1)) (.cons (.ife (.bop .And (.cons (.idx2 2 (.var 4) (.var 8)) (.cons (.idx2 2 (.var 8) (.var 5)) .nil))) (.cons (.set2 2 (.var 4) (.var 5) (.bl true)) .nil) .nil) .nil)) .nil)) .nil)
def t__law_closed_1 : T := (.v 8)
def b__law_closed_2 : Ss := (.cons (.fore (.v 5) (.seq (.var 1)) (.cons (.ife (.bop .And (.cons (.idx2 2 (.var 4) (.var 8)) (.cons (.idx2 2 (.var 8) (.var 5)) .nil))) (.cons (.set2 2 (.var 4) (.var 5) (.bl true)) .nil) .nil) .nil)) .nil)
def t__law_closed_2 : T := (.v 4)
def b__law_closed_3 : Ss := (.cons (.ife (.bop .And (.cons (.idx2 2 (.var 4) (.var 8)) (.cons (.idx2 2 (.var 8) (.var 5)) .nil))) (.cons (.set2 2 (.var 4) (.var 5) (.bl true)) .nil) .nil) .nil)
def t__law_closed_3 : T := (.v 5)
noncomputable abbrev Ck (n : Nat) (R : List R4) (k : Nat) : Pv.Ctx := ⟨borOf [.p (mPD n R)], run prog k⟩
theorem cl_0 (kk n : Nat) (R : List R4) (g : GoodR n R) : ∀ (ts : List R4) (f : TB) (d1 d2 d3 d4 d5 : Option D), (∀ t ∈ ts, t ∈ R) →
    ∃ e1 e2 e3 e4, forL (Ck n R kk) t__law_closed_0 (exs (Ck n R kk) b__law_closed_0) (ts.map rd) [some (.p (mPD n R)), some (.p (.list (natL (List.range n)))), some (.own2 (tbb f n)), none, d1, d2, d3, d4, d5] = .nx [some (.p (mPD n R)), some (.p (.list (natL (List.range n)))), some (.own2 (tbb (w0 ts f) n)), none, e1, e2, e3, e4, d5]
  | [], f, d1, d2, d3, d4, d5, _ => ⟨d1, d2, d3, d4, forL_nil⟩
  | t :: ts, f, d1, d2, d3, d4, d5, hs => by
    have ht := hs t List.mem_cons_self
    have r1 := g.one t ht
    have r2 := g.two t ht
    obtain ⟨e1, e2, e3, e4, ih⟩ := cl_0 kk n R g ts (upb f t.1.toNat t.2.1.toNat) (some (.p (.int t.1))) (some (.p (.int t.2.1))) (some (.p (.int t.2.2.1))) (some (.p (.int t.2.2.2))) d5 (fun u hu => hs u (List.mem_cons_of_mem _ hu))
    refine ⟨e1, e2, e3, e4, ?_⟩
    exact forL_cons (ρ1 := [some (.p (mPD n R)), some (.p (.list (natL (List.range n)))), some (.own2 (tbb f n)), none, some (.p (.int t.1)), some (.p (.int t.2.1)), some (.p (.int t.2.2.1)), some (.p (.int t.2.2.2)), d5]) rfl (st_s (setb_c (x := t.1) (y := t.2.1) rfl rfl rfl rfl r1.1 r1.2 r2.1 r2.2 rfl) nil_c) ih
theorem cl_3 (kk n : Nat) (R : List R4) (i k : Nat) (hi : i < n) (hk : k < n) : ∀ (js : List Nat) (f : TB) (d2 d3 d4 : Option D), (∀ j ∈ js, j < n) →
    ∃ e2, forL (Ck n R kk) t__law_closed_3 (exs (Ck n R kk) b__law_closed_3) (natL js) [some (.p (mPD n R)), some (.p (.list (natL (List.range n)))), some (.own2 (tbb f n)), none, some (.p (.int (i : Nat))), d2, d3, d4, some (.p (.int (k : Nat)))] = .nx [some (.p (mPD n R)), some (.p (.list (natL (List.range n)))), some (.own2 (tbb (w3 k i js f) n)), none, some (.p (.int (i : Nat))), e2, d3, d4, some (.p (.int (k : Nat)))]
  | [], f, d2, d3, d4, _ => ⟨d2, forL_nil⟩
  | j :: js, f, d2, d3, d4, hs => by
    have hj := hs j List.mem_cons_self
    obtain ⟨e2, ih⟩ := cl_3 kk n R i k hi hk js (if f i k && f k j then upb f i j else f) (some (.p (.int (j : Int)))) d3 d4 (fun u hu => hs u (List.mem_cons_of_mem _ hu))
    refine ⟨e2, ?_⟩
    have q1 := idxb_c (C := Ck n R kk) (ρ := [some (.p (mPD n R)), some (.p (.list (natL (List.range n)))), some (.own2 (tbb f n)), none, some (.p (.int (i : Nat))), some (.p (.int (j : Int))), d3, d4, some (.p (.int (k : Nat)))]) (i := 2) (a := .var 4) (b := .var 8) (f := f) (n := n) (x := (i : Int)) (y := (k : Int)) rfl rfl rfl (by omega) (by omega) (by omega) (by omega)
    have q2 := idxb_c (C := Ck n R kk) (ρ := [some (.p (mPD n R)), some (.p (.list (natL (List.range n)))), some (.own2 (tbb f n)), none, some (.p (.int (i : Nat))), some (.p (.int (j : Int))), d3, d4, some (.p (.int (k : Nat)))]) (i := 2) (a := .var 8) (b := .var 5) (f := f) (n := n) (x := (k : Int)) (y := (j : Int)) rfl rfl rfl (by omega) (by omega) (by omega) (by omega)
    rw [show ((i : Int)).toNat = i from by omega, show ((k : Int)).toNat = k from by omega] at q1
    rw [show ((j : Int)).toNat = j from by omega, show ((k : Int)).toNat = k from by omega] at q2
    have hc : evT (Ck n R kk) (.bop .And (.cons (.idx2 2 (.var 4) (.var 8)) (.cons (.idx2 2 (.var 8) (.var 5)) .nil))) [some (.p (mPD n R)), some (.p (.list (natL (List.range n)))), some (.own2 (tbb f n)), none, some (.p (.int (i : Nat))), some (.p (.int (j : Int))), d3, d4, some (.p (.int (k : Nat)))] = .ok (f i k && f k j) [some (.p (mPD n R)), some (.p (.list (natL (List.range n)))), some (.own2 (tbb f n)), none, some (.p (.int (i : Nat))), some (.p (.int (j : Int))), d3, d4, some (.p (.int (k : Nat)))] :=
      evT_b (bop_c (and_c (b := f i k) (c := f k j) q1 fun _ => and_one q2))
    by_cases c : (f i k && f k j) = true
    · rw [if_pos c] at ih
      have e : w3 k i (j :: js) f = w3 k i js (upb f i j) := by show w3 k i js (if f i k && f k j then upb f i j else f) = _; rw [if_pos c]
      rw [e]
      refine forL_cons (ρ1 := [some (.p (mPD n R)), some (.p (.list (natL (List.range n)))), some (.own2 (tbb f n)), none, some (.p (.int (i : Nat))), some (.p (.int (j : Int))), d3, d4, some (.p (.int (k : Nat)))]) (ρ2 := [some (.p (mPD n R)), some (.p (.list (natL (List.range n)))), some (.own2 (tbb (upb f i j) n)), none, some (.p (.int (i : Nat))), some (.p (.int (j : Int))), d3, d4, some (.p (.int (k : Nat)))]) rfl (ift_nx (hc.trans (by rw [c])) (st_s (setb_c (x := (i : Int)) (y := (j : Int)) rfl rfl rfl rfl (by omega) (by omega) (by omega) (by omega) ?_) nil_c) nil_c) ih
      rw [show ((i : Int)).toNat = i from by omega, show ((j : Int)).toNat = j from by omega]; rfl
    · rw [if_neg c] at ih
      have e : w3 k i (j :: js) f = w3 k i js f := by show w3 k i js (if f i k && f k j then upb f i j else f) = _; rw [if_neg c]
      rw [e]
      exact forL_cons (ρ1 := [some (.p (mPD n R)), some (.p (.list (natL (List.range n)))), some (.own2 (tbb f n)), none, some (.p (.int (i : Nat))), some (.p (.int (j : Int))), d3, d4, some (.p (.int (k : Nat)))]) rfl (iff_s (hc.trans (by rw [Bool.eq_false_iff.mpr c])) nil_c) ih
theorem cl_2 (kk n : Nat) (R : List R4) (k : Nat) (hk : k < n) : ∀ (is : List Nat) (f : TB) (d1 d2 d3 d4 : Option D), (∀ i ∈ is, i < n) →
    ∃ e1 e2, forL (Ck n R kk) t__law_closed_2 (exs (Ck n R kk) b__law_closed_2) (natL is) [some (.p (mPD n R)), some (.p (.list (natL (List.range n)))), some (.own2 (tbb f n)), none, d1, d2, d3, d4, some (.p (.int (k : Nat)))] = .nx [some (.p (mPD n R)), some (.p (.list (natL (List.range n)))), some (.own2 (tbb (w2 n k is f) n)), none, e1, e2, d3, d4, some (.p (.int (k : Nat)))]
  | [], f, d1, d2, d3, d4, _ => ⟨d1, d2, forL_nil⟩
  | i :: is, f, d1, d2, d3, d4, hs => by
    have hi := hs i List.mem_cons_self
    obtain ⟨a2, h3⟩ := cl_3 kk n R i k hi hk (List.range n) f d2 d3 d4 (fun j hj => List.mem_range.mp hj)
    obtain ⟨e1, e2, ih⟩ := cl_2 kk n R k hk is (w3 k i (List.range n) f) (some (.p (.int (i : Int)))) a2 d3 d4 (fun u hu => hs u (List.mem_cons_of_mem _ hu))
    refine ⟨e1, e2, ?_⟩
    exact forL_cons (ρ1 := [some (.p (mPD n R)), some (.p (.list (natL (List.range n)))), some (.own2 (tbb f n)), none, some (.p (.int (i : Int))), d2, d3, d4, some (.p (.int (k : Nat)))]) rfl (st_s (for_c (xs := natL (List.range n)) (ρ1 := [some (.p (mPD n R)), some (.p (.list (natL (List.range n)))), some (.own2 (tbb f n)), none, some (.p (.int (i : Int))), d2, d3, d4, some (.p (.int (k : Nat)))]) rfl h3) nil_c) ih
theorem cl_1 (kk n : Nat) (R : List R4) : ∀ (ks : List Nat) (f : TB) (d1 d2 d3 d4 d5 : Option D), (∀ k ∈ ks, k < n) →
    ∃ e1 e2 e5, forL (Ck n R kk) t__law_closed_1 (exs (Ck n R kk) b__law_closed_1) (natL ks) [some (.p (mPD n R)), some (.p (.list (natL (List.range n)))), some (.own2 (tbb f n)), none, d1, d2, d3, d4, d5] = .nx [some (.p (mPD n R)), some (.p (.list (natL (List.range n)))), some (.own2 (tbb (w1 n ks f) n)), none, e1, e2, d3, d4, e5]
  | [], f, d1, d2, d3, d4, d5, _ => ⟨d1, d2, d5, forL_nil⟩
  | k :: ks, f, d1, d2, d3, d4, d5, hs => by
    have hk := hs k List.mem_cons_self
    obtain ⟨a1, a2, h3⟩ := cl_2 kk n R k hk (List.range n) f d1 d2 d3 d4 (fun j hj => List.mem_range.mp hj)
    obtain ⟨e1, e2, e5, ih⟩ := cl_1 kk n R ks (w2 n k (List.range n) f) a1 a2 d3 d4 (some (.p (.int (k : Int)))) (fun u hu => hs u (List.mem_cons_of_mem _ hu))
    refine ⟨e1, e2, e5, ?_⟩
    exact forL_cons (ρ1 := [some (.p (mPD n R)), some (.p (.list (natL (List.range n)))), some (.own2 (tbb f n)), none, d1, d2, d3, d4, some (.p (.int (k : Int)))]) rfl (st_s (for_c (xs := natL (List.range n)) (ρ1 := [some (.p (mPD n R)), some (.p (.list (natL (List.range n)))), some (.own2 (tbb f n)), none, d1, d2, d3, d4, some (.p (.int (k : Int)))]) rfl h3) nil_c) ih
noncomputable def clT (R : List R4) (n : Nat) : List (List PD) := tbb (fun i j => rc R i j) n
theorem r_closed (kk n : Nat) (R : List R4) (M : MOk n R) : run prog (kk + 1) 48 [.p (mPD n R)] = .ok (.p (.list ((clT R n).map .list))) [.p (mPD n R)] := by
  refine (run_succ (fn := f__law_closed) rfl).trans ?_
  have hidx : ev (Ck n R kk) (.prim .idx (.cons (.var 0) (.cons (.int 1) .nil))) [some (.p (mPD n R)), none, none, none, none, none, none, none, none] = .ok (.p (.int n)) [some (.p (mPD n R)), none, none, none, none, none, none, none, none] := rfl
  refine runB_gv rfl rfl (.asg (ρ1 := [some (.p (mPD n R)), none, none, none, none, none, none, none, none]) (ρ2 := [some (.p (mPD n R)), some (.own (natL (List.range n))), none, none, none, none, none, none, none]) (prim1 (fun i z => by cases z) hidx ((lrg_pr M.n12).trans (by rw [rng_natL]))) rfl rfl rfl ?_)
  refine .asg (ρ1 := [some (.p (mPD n R)), some (.p (.list (natL (List.range n)))), none, none, none, none, none, none, none]) (d := .own2 (tbb ff n)) (ρ2 := [some (.p (mPD n R)), some (.p (.list (natL (List.range n)))), some (.own2 (tbb ff n)), none, none, none, none, none, none]) (lc_map (ρ1 := [some (.p (mPD n R)), some (.p (.list (natL (List.range n)))), none, none, none, none, none, none, none]) (xs := natL (List.range n)) (g := fun _ => .own (bFalse n)) rfl rfl (fun x hx => ?_) ?_ ?_) rfl rfl rfl ?_
  · unfold natL at hx
    obtain ⟨q, _, rfl⟩ := List.mem_map.mp hx
    exact ⟨[some (.p (mPD n R)), some (.p (.list (natL (List.range n)))), none, some (.p (.int (q : Int))), none, none, none, none, none], rfl, rfl, prim2 (fun i z => by cases z) (fun i z => by cases z) (a := .own [.bool false]) (b := .p (.int n)) (ρ1 := [some (.p (mPD n R)), some (.p (.list (natL (List.range n)))), none, some (.p (.int (q : Int))), none, none, none, none, none]) rfl rfl (mul_false M.n12)⟩
  · unfold natL; rw [List.length_map, List.length_range]; exact Nat.le_trans M.n12 (by decide)
  · have : tbb ff n = (natL (List.range n)).map fun _ => bFalse n := by unfold natL; rw [List.map_map]; rfl
    rw [this]
    obtain ⟨n', rfl⟩ : ∃ n', n = n' + 1 := ⟨n - 1, by have := M.n1; omega⟩
    rw [List.range_succ_eq_map]
    exact mkL_own (fun _ => bFalse (n' + 1)) _ _
  obtain ⟨a1, a2, a3, a4, h0⟩ := cl_0 kk n R M.g R ff none none none none none (fun t ht => ht)
  obtain ⟨b1, b2, b5, h1⟩ := cl_1 kk n R (List.range n) (w0 R ff) a1 a2 a3 a4 none (fun k hk => List.mem_range.mp hk)
  refine .for_ (xs := R.map rd) (ρ1 := [some (.p (mPD n R)), some (.p (.list (natL (List.range n)))), some (.own2 (tbb ff n)), none, none, none, none, none, none]) rfl (.inl ⟨_, h0, ?_⟩)
  refine .for_ (xs := natL (List.range n)) (ρ1 := [some (.p (mPD n R)), some (.p (.list (natL (List.range n)))), some (.own2 (tbb (w0 R ff) n)), none, a1, a2, a3, a4, none]) rfl (.inl ⟨_, h1, ?_⟩)
  refine retz_c (ρ1 := [some (.p (mPD n R)), some (.p (.list (natL (List.range n)))), some (.p (.list ((tbb (w1 n (List.range n) (w0 R ff)) n).map .list))), none, b1, b2, a3, a4, b5]) (d := .p (.list ((tbb (w1 n (List.range n) (w0 R ff)) n).map .list))) rfl ?_
  have : tbb (w1 n (List.range n) (w0 R ff)) n = clT R n := by
    unfold clT
    refine congrArg (fun f => tbb f n) ?_
    funext i j
    exact warshall M.g i j
  rw [this]
  exact gv rfl
end Law_k41

namespace Law_k41
open PySem PySem.Spec L2 Pv
/-! ways as rows of roads -/
def Wk (R : List R4) : Int → List R4 → Int → Prop
  | p, [], q => p = q
  | p, t :: ts, q => t ∈ R ∧ t.1 = p ∧ Wk R t.2.1 ts q
def src (ts : List R4) : List Int := ts.map fun t => t.1
def tot (ts : List R4) : Int := (ts.map fun t => t.2.2.1).sum
theorem src_app (a b : List R4) : src (a ++ b) = src a ++ src b := by unfold src; rw [List.map_append]
theorem tot_app (a b : List R4) : tot (a ++ b) = tot a + tot b := by
  unfold tot; rw [List.map_append, List.sum_append]
theorem Wk_app {R : List R4} : ∀ {a b : List R4} {p q : Int}, Wk R p (a ++ b) q ↔ ∃ m, Wk R p a m ∧ Wk R m b q
  | [], b, p, q => ⟨fun h => ⟨p, rfl, h⟩, fun ⟨m, h1, h2⟩ => by
      have h1 : p = m := h1
      rw [h1]; exact h2⟩
  | t :: a, b, p, q => by
    constructor
    · rintro ⟨h1, h2, h3⟩
      obtain ⟨m, h4, h5⟩ := Wk_app.mp h3
      exact ⟨m, ⟨h1, h2, h4⟩, h5⟩
    · rintro ⟨m, ⟨h1, h2, h4⟩, h5⟩
      exact ⟨h1, h2, Wk_app.mpr ⟨m, h4, h5⟩⟩
theorem Wk_snoc {R : List R4} {a : List R4} {p q : Int} {t : R4} (h : Wk R p a t.1) (ht : t ∈ R) (e : t.2.1 = q) : Wk R p (a ++ [t]) q := Wk_app.mpr ⟨t.1, h, ht, rfl, e⟩
theorem Wk_head {R : List R4} {t : R4} {ts : List R4} {p q : Int} (h : Wk R p (t :: ts) q) : t.1 = p := h.2.1
/-- a simple round from its least place on -/
structure Tgt (R : List R4) (m : Int) (ts : List R4) : Prop where
  wk : Wk R m ts m
  ne : ts ≠ []
  nd : (src ts).Nodup
  le : ∀ s ∈ src ts, m ≤ s
theorem min_src : ∀ {ts : List R4}, ts ≠ [] → ∃ a t b, ts = a ++ t :: b ∧ ∀ u ∈ ts, t.1 ≤ u.1
  | [], h => absurd rfl h
  | [t], _ => ⟨[], t, [], rfl, fun u hu => by rw [List.mem_singleton.mp hu]; exact Int.le_refl _⟩
  | t :: u :: ts, _ => by
    obtain ⟨a, v, b, e, h⟩ := min_src (ts := u :: ts) (fun z => nomatch z)
    by_cases c : t.1 ≤ v.1
    · refine ⟨[], t, u :: ts, rfl, fun w hw => ?_⟩
      rcases List.mem_cons.mp hw with e' | e'
      · rw [e']; exact Int.le_refl _
      · have := h w e'; omega
    · refine ⟨t :: a, v, b, by rw [e]; rfl, fun w hw => ?_⟩
      rcases List.mem_cons.mp hw with e' | e'
      · rw [e']; omega
      · exact h w e'
theorem split_src : ∀ {ts : List R4} {v : Int}, v ∈ src ts → ∃ a t b, ts = a ++ t :: b ∧ t.1 = v
  | [], _, h => nomatch h
  | t :: ts, v, h => by
    rcases List.mem_cons.mp (show v ∈ t.1 :: src ts from h) with e | e
    · exact ⟨[], t, ts, rfl, e.symm⟩
    · obtain ⟨a, u, b, e1, e2⟩ := split_src e
      exact ⟨t :: a, u, b, by rw [e1]; rfl, e2⟩
/-- what holds of simple rounds and of two rounds together holds of each round -/
theorem all_rounds {R : List R4} (Q : List R4 → Prop) (hp : ∀ a b, a.Perm b → Q a → Q b) (ha : ∀ a b, Q a → Q b → Q (a ++ b)) (ht : ∀ m ts, Tgt R m ts → Q ts) : ∀ (N : Nat) (ts : List R4) (v : Int), ts.length ≤ N → ts ≠ [] → Wk R v ts v → Q ts
  | 0, ts, v, hN, hne, _ => absurd (List.length_eq_zero_iff.mp (by omega)) hne
  | N + 1, ts, v, hN, hne, hw => by
    have ih := fun us w (hl : us.length ≤ N) hne hw => all_rounds Q hp ha ht N us w hl hne hw
    -- from the least place on
    obtain ⟨a, t, b, e, hmin⟩ := min_src hne
    obtain ⟨m0, w1, w2⟩ := Wk_app.mp (e ▸ hw)
    have hm : t.1 = m0 := Wk_head w2
    have wc : Wk R t.1 ((t :: b) ++ a) t.1 := Wk_app.mpr ⟨v, by rw [hm]; exact w2, by rw [hm]; exact w1⟩
    have pm : ((t :: b) ++ a).Perm ts := by rw [e]; exact List.perm_append_comm
    refine hp _ _ pm ?_
    have hle : ∀ u ∈ (t :: b) ++ a, t.1 ≤ u.1 := fun u hu => hmin u (pm.mem_iff.mp hu)
    have hlen : ((t :: b) ++ a).length ≤ N + 1 := by rw [pm.length_eq]; exact hN
    generalize hus : (t :: b) ++ a = us at wc hle hlen
    generalize t.1 = m at wc hle
    have key : ∀ (suf pre : List R4) (x : Int), us = pre ++ suf → Wk R m pre x → Wk R x suf m → (src pre).Nodup → pre ≠ [] → Q us := by
      intro suf
      induction suf with
      | nil =>
        intro pre x e1 h1 h2 h3 h4
        have h2 : x = m := h2
        subst h2
        rw [List.append_nil] at e1
        rw [e1]
        exact ht _ _ ⟨h1, h4, h3, fun s hs => by
          obtain ⟨u, hu, rfl⟩ := List.mem_map.mp hs
          exact hle u (by rw [e1]; exact hu)⟩
      | cons u suf ihs =>
        intro pre x e1 h1 h2 h3 h4
        have plen : 0 < pre.length := List.length_pos_iff.mpr h4
        have elen := congrArg List.length e1
        rw [List.length_append, List.length_cons] at elen
        by_cases c : x = m
        · subst c
          rw [e1]
          refine ha _ _ (ht _ _ ⟨h1, h4, h3, fun s hs => ?_⟩) (ih (u :: suf) x (by rw [List.length_cons]; omega) (fun z => nomatch z) h2)
          obtain ⟨w, hw, rfl⟩ := List.mem_map.mp hs
          exact hle w (by rw [e1]; exact List.mem_append_left _ hw)
        · by_cases c2 : x ∈ src pre
          · obtain ⟨a', t', b', e2, e3⟩ := split_src c2
            obtain ⟨y, g1, g2⟩ := Wk_app.mp (e2 ▸ h1)
            have hy : t'.1 = y := Wk_head g2
            rw [← hy, e3] at g1 g2
            have ha' : a' ≠ [] := fun z => by subst z; exact c (show m = x from g1).symm
            have la : 0 < a'.length := List.length_pos_iff.mpr ha'
            have l2 := congrArg List.length e2
            rw [List.length_append, List.length_cons] at l2
            have q1 := ih (t' :: b') x (by rw [List.length_cons]; omega) (fun z => nomatch z) g2
            have q2 := ih (a' ++ u :: suf) m (by rw [List.length_append, List.length_cons]; omega) (by simp) (Wk_app.mpr ⟨x, g1, h2⟩)
            refine hp _ _ ?_ (ha _ _ q2 q1)
            rw [e1, e2, List.append_assoc, List.append_assoc]
            exact List.Perm.append_left a' List.perm_append_comm
          · have hu : u.1 = x := Wk_head h2
            refine ihs (pre ++ [u]) u.2.1 (by rw [e1]; simp) (Wk_snoc (by rw [hu]; exact h1) h2.1 rfl) h2.2.2 ?_ (by simp)
            rw [src_app]
            rw [List.nodup_append]
            exact ⟨h3, List.nodup_cons.mpr ⟨List.not_mem_nil, List.nodup_nil⟩, fun p hp q hq e => by
              have hq : q = u.1 := List.mem_singleton.mp hq
              exact c2 (by rw [← hu, ← hq, ← e]; exact hp)⟩
    match us, wc, hus with
    | [], _, hus => exact absurd hus (by simp)
    | w :: us', wc, _ => exact key us' [w] w.2.1 rfl ⟨wc.1, wc.2.1, rfl⟩ wc.2.2 (List.nodup_cons.mpr ⟨List.not_mem_nil, List.nodup_nil⟩) (fun z => nomatch z)
/-! the law's search -/
abbrev En := List Int × Int
def c1 (x h : Int) (t : R4) : Bool := decide (t.1 = x) && decide (t.2.1 = h)
def c2 (x h : Int) (row : List Int) (t : R4) : Bool := decide (t.1 = x) && (decide (h < t.2.1) && !decide (t.2.1 ∈ row))
def nF (row : List Int) (far x h : Int) (ts : List R4) : List En := (ts.filter (c1 x h)).map fun t => (row, far + t.2.2.1)
def nL (row : List Int) (far x h : Int) (ts : List R4) : List En := (ts.filter fun t => !c1 x h t && c2 x h row t).map fun t => (row ++ [t.2.1], far + t.2.2.1)
/-- roads that begin outside of a row -/
def cnt (R : List R4) (row : List Int) : Nat := (R.filter fun t => !decide (t.1 ∈ row)).length
def wE (R : List R4) (e : En) : Nat := 2 ^ cnt R e.1.dropLast
def phi (R : List R4) (F L : List En) : Nat := F.length + (L.map (wE R)).sum
theorem pow_ge (d : Nat) : d + 1 ≤ 2 ^ d := by
  induction d with
  | zero => exact Nat.le_refl _
  | succ d ih => rw [Nat.pow_succ]; omega
theorem cnt_snoc {R : List R4} {pre : List Int} {x : Int} (hx : x ∉ pre) : cnt R pre = cnt R (pre ++ [x]) + (R.filter fun t => decide (t.1 = x)).length := by
  unfold cnt
  induction R with
  | nil => rfl
  | cons t R ih =>
    rw [List.filter_cons, List.filter_cons, List.filter_cons]
    by_cases e : t.1 = x
    · have h1 : t.1 ∉ pre := fun z => hx (e ▸ z)
      have h2 : t.1 ∈ pre ++ [x] := List.mem_append_right _ (List.mem_singleton.mpr e)
      rw [decide_eq_false h1, decide_eq_true h2, decide_eq_true e]
      simp only [Bool.not_false, Bool.not_true, if_true, if_neg Bool.false_ne_true, List.length_cons]
      omega
    · rw [decide_eq_false e]
      by_cases h1 : t.1 ∈ pre
      · rw [decide_eq_true h1, decide_eq_true (List.mem_append_left _ h1)]
        simp only [Bool.not_true, Bool.false_eq_true, if_false]
        exact ih
      · have h2 : t.1 ∉ pre ++ [x] := fun z => (List.mem_append.mp z).elim h1 fun z => e (List.mem_singleton.mp z)
        rw [decide_eq_false h1, decide_eq_false h2]
        simp only [Bool.not_false, if_true, Bool.false_eq_true, if_false, List.length_cons]
        omega
theorem new_len (row : List Int) (far x h : Int) : ∀ ts : List R4, (nF row far x h ts).length + (nL row far x h ts).length ≤ (ts.filter fun t => decide (t.1 = x)).length
  | [] => Nat.le_refl _
  | t :: ts => by
    have ih := new_len row far x h ts
    unfold nF nL at *
    rw [List.length_map, List.length_map] at *
    rw [List.filter_cons, List.filter_cons, List.filter_cons]
    by_cases e : t.1 = x
    · rw [decide_eq_true e]
      cases c : c1 x h t with
      | true => simp only [if_true, Bool.not_true, Bool.false_and, Bool.false_eq_true, if_false, List.length_cons]; omega
      | false =>
        simp only [Bool.not_false, Bool.true_and, Bool.false_eq_true, if_false, if_true, List.length_cons]
        split
        · rw [List.length_cons]; omega
        · omega
    · have a1 : c1 x h t = false := by unfold c1; rw [decide_eq_false e]; rfl
      have a2 : c2 x h row t = false := by unfold c2; rw [decide_eq_false e]; rfl
      rw [a1, a2, decide_eq_false e]
      simp only [Bool.not_false, Bool.true_and, Bool.false_eq_true, if_false]
      exact ih
theorem phi_app {R : List R4} {F L F' L' : List En} {w : Nat} (h : ∀ e ∈ L', wE R e = w) : phi R (F ++ F') (L ++ L') = phi R F L + F'.length + L'.length * w := by
  unfold phi
  rw [List.length_append, List.map_append, List.sum_append]
  have : (L'.map (wE R)).sum = L'.length * w := by
    induction L' with
    | nil => simp
    | cons e L' ih => rw [List.map_cons, List.sum_cons, ih fun u hu => h u (List.mem_cons_of_mem _ hu), h e List.mem_cons_self, List.length_cons, Nat.succ_mul]; omega
  rw [this]; omega
theorem phi_step {R : List R4} {F L : List En} {pre : List Int} {x far h : Int} (hx : x ∉ pre) : phi R (F ++ nF (pre ++ [x]) far x h R) (L ++ nL (pre ++ [x]) far x h R) < phi R F (L ++ [(pre ++ [x], far)]) := by
  have hw : ∀ e ∈ nL (pre ++ [x]) far x h R, wE R e = 2 ^ cnt R (pre ++ [x]) := fun e he => by
    unfold nL at he
    obtain ⟨t, _, rfl⟩ := List.mem_map.mp he
    unfold wE
    dsimp only
    rw [List.dropLast_concat]
  rw [phi_app hw]
  have h1 : phi R F (L ++ [(pre ++ [x], far)]) = phi R F L + 2 ^ cnt R pre := by
    have := phi_app (R := R) (F := F) (L := L) (F' := []) (L' := [(pre ++ [x], far)]) (w := 2 ^ cnt R pre) (fun e he => by
      rw [List.mem_singleton.mp he]
      unfold wE
      dsimp only
      rw [List.dropLast_concat])
    rw [List.append_nil] at this
    rw [this]; simp
  rw [h1, cnt_snoc hx, Nat.pow_add]
  have h2 := new_len (pre ++ [x]) far x h R
  have h3 := pow_ge (R.filter fun t => decide (t.1 = x)).length
  generalize (R.filter fun t => decide (t.1 = x)).length = d at h2 h3 ⊢
  generalize (nF (pre ++ [x]) far x h R).length = a at h2 ⊢
  generalize (nL (pre ++ [x]) far x h R).length = b at h2 ⊢
  have h4 : 1 ≤ 2 ^ cnt R (pre ++ [x]) := Nat.one_le_two_pow
  generalize 2 ^ cnt R (pre ++ [x]) = c at h4 ⊢
  have h5 : c * (d + 1) ≤ c * 2 ^ d := Nat.mul_le_mul_left _ h3
  have h6 : a ≤ a * c := Nat.le_mul_of_pos_right _ h4
  have h7 : (a + b) * c ≤ d * c := Nat.mul_le_mul_right _ h2
  rw [Nat.add_mul] at h7
  rw [Nat.mul_add, Nat.mul_one, Nat.mul_comm c d] at h5
  omega
end Law_k41

namespace Law_k41
open PySem PySem.Spec L2 Pv
def enP (e : En) : PD := .tuple [.list (e.1.map .int), .int e.2]
theorem ens_lay : ∀ es : List En, PyData.canLayAll0 (es.map enP) = true ∧ PyData.depthAll (es.map enP) ≤ 2
  | [] => ⟨rfl, Nat.zero_le _⟩
  | e :: es => by
    obtain ⟨h1, h2⟩ := ens_lay es
    obtain ⟨h3, h4⟩ := ints_lay e.1
    refine ⟨?_, ?_⟩
    · rw [List.map_cons, PyData.canLayAll0, h1, Bool.and_true]
      unfold enP
      simp only [PyData.canLay0, PyData.canLayAll0, h3, Bool.and_true]
    · rw [List.map_cons, PyData.depthAll]
      have : (enP e).depth = 2 := by
        unfold enP
        simp only [PyData.depth, PyData.depthAll, h4]
        rfl
      rw [this]
      omega
theorem shaped_ens (es : List En) : SeqAt.shaped (.list (es.map enP)) = true := by
  obtain ⟨h1, h2⟩ := ens_lay es
  unfold SeqAt.shaped
  simp only [PyData.canLay0, PyData.depth, h1, Bool.true_and]
  exact decide_eq_true (by omega)
theorem ne_nil {x : D} {l : List PD} (hx : x.toPD = some (.list l)) (hs : SeqAt.shaped (.list l) = true) : prD (.cmp .NotEq) [x, .own []] = some (.p (.bool (!decide (l = [])))) := by
  show Option.map (fun c => D.p (.bool c)) ((eqD x (.own [])).map (!·)) = _
  unfold eqD
  rw [hx]
  rw [show (D.own []).toPD = some (PyData.list []) from rfl]
  dsimp only
  rw [if_pos ⟨hs, rfl⟩]
  cases l <;> rfl
theorem eq_nil {x : D} {l : List PD} (hx : x.toPD = some (.list l)) (hs : SeqAt.shaped (.list l) = true) : prD (.cmp .Eq) [x, .own []] = some (.p (.bool (decide (l = [])))) := by
  show Option.map (fun c => D.p (.bool c)) (eqD x (.own [])) = _
  unfold eqD
  rw [hx]
  rw [show (D.own []).toPD = some (PyData.list []) from rfl]
  dsimp only
  rw [if_pos ⟨hs, rfl⟩]
  cases l <;> rfl
theorem atI_last {α : Type} {l : List α} {d : α} : atI (l ++ [d]) (-1) = some d := by
  unfold atI ixN
  rw [List.length_append, List.length_singleton]
  simp only [show ¬ (0 : Int) ≤ -1 from by decide, if_false]
  split
  · simp only [Option.bind_some]
    rw [show (-1 + ((l.length + 1 : Nat) : Int)).toNat = l.length from by omega, List.getElem?_append_right (Nat.le_refl _), Nat.sub_self]; rfl
  · rename_i h; omega
theorem atI_zero {α : Type} {l : List α} {d : α} : atI (d :: l) 0 = some d := by
  unfold atI ixN
  rw [List.length_cons, if_pos (by omega), if_pos (by omega)]
  rfl
def b__law_rounds_0 : Ss := (.cons (.asg (.cons (.v 4) (.cons (.v 5) .nil)) (.pop 2)) (.cons (.fore (.cons (.v 6) (.cons (.v 7) (.cons (.v 8) (.cons (.v 9) .nil)))) (.seq (.prim .idx (.cons (.var 0) (.cons (.int 2) .nil)))) (.cons (.ife (.bop .And (.cons (.prim (.cmp .Eq) (.cons (.var 6) (.cons (.prim .idx (.cons (.var 4) (.cons (.prim .neg (.cons (.int 1) .nil)) .nil))) .nil))) (.cons (.prim (.cmp .Eq) (.cons (.var 7) (.cons (.prim .idx (.cons (.var 4) (.cons (.int 0) .nil))) .nil))) .nil))) (.cons (.app 1 (.tup (.cons (.var 4) (.cons (.prim (.bin .Add) (.cons (.var 5) (.cons (.var 8) .nil))) .nil)))) .nil) (.cons (.ife (.bop .And (.cons (.prim (.cmp .Eq) (.cons (.var 6) (.cons (.prim .idx (.cons (.var 4) (.cons (.prim .neg (.cons (.int 1) .nil)) .nil))) .nil))) (.cons (.prim (.cmp .Gt) (.cons (.var 7) (.cons (.prim .idx (.cons (.var 4) (.cons (.int 0) .nil))) .nil))) (.cons (.prim (.cmp .NotIn) (.cons (.var 7) (.cons (.var 4) .nil))) .nil)))) (.cons (.app 2 (.tup (.cons (.prim (.bin .Add) (.cons (.var 4) (.cons (.lst (.cons (.var 7) .nil)) .nil))) (.cons (.prim (.bin .Add) (.cons (.var 5) (.cons (.var 8) .nil))) .nil)))) .nil) .nil) .nil)) .nil)) .nil))
def c__law_rounds_0 : E := (.prim (.cmp .NotEq) (.cons (.var 2) (.cons (.lst .nil) .nil)))
def b__law_rounds_1 : Ss := (.cons (.ife (.bop .And (.cons (.prim (.cmp .Eq) (.cons (.var 6) (.cons (.prim .idx (.cons (.var 4) (.cons (.prim .neg (.cons (.int 1) .nil)) .nil))) .nil))) (.cons (.prim (.cmp .Eq) (.cons (.var 7) (.cons (.prim .idx (.cons (.var 4) (.cons (.int 0) .nil))) .nil))) .nil))) (.cons (.app 1 (.tup (.cons (.var 4) (.cons (.prim (.bin .Add) (.cons (.var 5) (.cons (.var 8) .nil))) .nil)))) .nil) (.cons (.ife (.bop .And (.cons (.prim (.cmp .Eq) (.cons (.var 6) (.cons (.prim .idx (.cons (.var 4) (.cons (.prim .neg (.cons (.int 1) .nil)) .nil))) .nil))) (.cons (.prim (.cmp .Gt) (.cons (.var 7) (.cons (.prim .idx (.cons (.var 4) (.cons (.int 0) .nil))) .nil))) (.cons (.prim (.cmp .NotIn) (.cons (.var 7) (.cons (.var 4) .nil))) .nil)))) (.cons (.app 2 (.tup (.cons (.prim (.bin .Add) (.cons (.var 4) (.cons (.lst (.cons (.var 7) .nil)) .nil))) (.cons (.prim (.bin .Add) (.cons (.var 5) (.cons (.var 8) .nil))) .nil)))) .nil) .nil) .nil)) .nil)
def t__law_rounds_1 : T := (.cons (.v 6) (.cons (.v 7) (.cons (.v 8) (.cons (.v 9) .nil))))
noncomputable abbrev Cr (n : Nat) (R : List R4) (kk : Nat) : Pv.Ctx := ⟨borOf [.p (mPD n R)], run prog kk⟩
theorem rn_in (kk n : Nat) (R : List R4) (row pre tl : List Int) (x h far : Int) (hp : row = pre ++ [x]) (hh : row = h :: tl) (hr : row.length ≤ 1000) (d3 : Option D) : ∀ (ts : List R4) (F L : List En) (d6 d7 d8 d9 : Option D), F.length + ts.length ≤ 1000000 → L.length + ts.length ≤ 1000000 →
    ∃ e6 e7 e8 e9, forL (Cr n R kk) t__law_rounds_1 (exs (Cr n R kk) b__law_rounds_1) (ts.map rd) [some (.p (mPD n R)), some (.own (F.map enP)), some (.own (L.map enP)), d3, some (.p (.list (row.map .int))), some (.p (.int far)), d6, d7, d8, d9] = .nx [some (.p (mPD n R)), some (.own ((F ++ nF row far x h ts).map enP)), some (.own ((L ++ nL row far x h ts).map enP)), d3, some (.p (.list (row.map .int))), some (.p (.int far)), e6, e7, e8, e9]
  | [], F, L, d6, d7, d8, d9, _, _ => ⟨d6, d7, d8, d9, by
    show forL _ _ _ [] _ = _
    rw [show nF row far x h [] = [] from rfl, show nL row far x h [] = [] from rfl, List.append_nil, List.append_nil]
    exact forL_nil⟩
  | t :: ts, F, L, d6, d7, d8, d9, hF, hL => by
    rw [List.length_cons] at hF hL
    have hlast : prD .idx [.p (.list (row.map .int)), .p (.int (-1))] = some (.p (.int x)) := by
      show (atI (row.map PyData.int) (-1)).map D.p = _
      rw [hp, List.map_append]
      exact congrArg (Option.map D.p) atI_last
    have hhead : prD .idx [.p (.list (row.map .int)), .p (.int 0)] = some (.p (.int h)) := by
      show (atI (row.map PyData.int) 0).map D.p = _
      rw [hh]
      exact congrArg (Option.map D.p) atI_zero
    have q1 : ev (Cr n R kk) (.prim .idx (.cons (.var 4) (.cons (.prim .neg (.cons (.int 1) .nil)) .nil))) [some (.p (mPD n R)), some (.own (F.map enP)), some (.own (L.map enP)), d3, some (.p (.list (row.map .int))), some (.p (.int far)), some (.p (.int t.1)), some (.p (.int t.2.1)), some (.p (.int t.2.2.1)), some (.p (.int t.2.2.2))] = .ok (.p (.int x)) [some (.p (mPD n R)), some (.own (F.map enP)), some (.own (L.map enP)), d3, some (.p (.list (row.map .int))), some (.p (.int far)), some (.p (.int t.1)), some (.p (.int t.2.1)), some (.p (.int t.2.2.1)), some (.p (.int t.2.2.2))] :=
      prim_c (as := [.s 4, .v (.p (.int (-1)))]) (ds := [.p (.list (row.map .int)), .p (.int (-1))]) rfl rfl hlast
    have q2 : ev (Cr n R kk) (.prim .idx (.cons (.var 4) (.cons (.int 0) .nil))) [some (.p (mPD n R)), some (.own (F.map enP)), some (.own (L.map enP)), d3, some (.p (.list (row.map .int))), some (.p (.int far)), some (.p (.int t.1)), some (.p (.int t.2.1)), some (.p (.int t.2.2.1)), some (.p (.int t.2.2.2))] = .ok (.p (.int h)) [some (.p (mPD n R)), some (.own (F.map enP)), some (.own (L.map enP)), d3, some (.p (.list (row.map .int))), some (.p (.int far)), some (.p (.int t.1)), some (.p (.int t.2.1)), some (.p (.int t.2.2.1)), some (.p (.int t.2.2.2))] :=
      prim_c (as := [.s 4, .v (.p (.int 0))]) (ds := [.p (.list (row.map .int)), .p (.int 0)]) rfl rfl hhead
    have q3 : ev (Cr n R kk) (.prim (.cmp .Eq) (.cons (.var 6) (.cons (.prim .idx (.cons (.var 4) (.cons (.prim .neg (.cons (.int 1) .nil)) .nil))) .nil))) [some (.p (mPD n R)), some (.own (F.map enP)), some (.own (L.map enP)), d3, some (.p (.list (row.map .int))), some (.p (.int far)), some (.p (.int t.1)), some (.p (.int t.2.1)), some (.p (.int t.2.2.1)), some (.p (.int t.2.2.2))] = .ok (.p (.bool (decide (t.1 = x)))) [some (.p (mPD n R)), some (.own (F.map enP)), some (.own (L.map enP)), d3, some (.p (.list (row.map .int))), some (.p (.int far)), some (.p (.int t.1)), some (.p (.int t.2.1)), some (.p (.int t.2.2.1)), some (.p (.int t.2.2.2))] :=
      prim_c (as := [.s 6, .v (.p (.int x))]) (ds := [.p (.int t.1), .p (.int x)]) (evA_v rfl (evA_c (fun i z => by cases z) q1 evA_n)) rfl (congrArg (Option.map fun c => D.p (.bool c)) (eqD_int _ _))
    have q4 : ev (Cr n R kk) (.prim (.cmp .Eq) (.cons (.var 7) (.cons (.prim .idx (.cons (.var 4) (.cons (.int 0) .nil))) .nil))) [some (.p (mPD n R)), some (.own (F.map enP)), some (.own (L.map enP)), d3, some (.p (.list (row.map .int))), some (.p (.int far)), some (.p (.int t.1)), some (.p (.int t.2.1)), some (.p (.int t.2.2.1)), some (.p (.int t.2.2.2))] = .ok (.p (.bool (decide (t.2.1 = h)))) [some (.p (mPD n R)), some (.own (F.map enP)), some (.own (L.map enP)), d3, some (.p (.list (row.map .int))), some (.p (.int far)), some (.p (.int t.1)), some (.p (.int t.2.1)), some (.p (.int t.2.2.1)), some (.p (.int t.2.2.2))] :=
      prim_c (as := [.s 7, .v (.p (.int h))]) (ds := [.p (.int t.2.1), .p (.int h)]) (evA_v rfl (evA_c (fun i z => by cases z) q2 evA_n)) rfl (congrArg (Option.map fun c => D.p (.bool c)) (eqD_int _ _))
    have q5 : ev (Cr n R kk) (.prim (.cmp .Gt) (.cons (.var 7) (.cons (.prim .idx (.cons (.var 4) (.cons (.int 0) .nil))) .nil))) [some (.p (mPD n R)), some (.own (F.map enP)), some (.own (L.map enP)), d3, some (.p (.list (row.map .int))), some (.p (.int far)), some (.p (.int t.1)), some (.p (.int t.2.1)), some (.p (.int t.2.2.1)), some (.p (.int t.2.2.2))] = .ok (.p (.bool (decide (h < t.2.1)))) [some (.p (mPD n R)), some (.own (F.map enP)), some (.own (L.map enP)), d3, some (.p (.list (row.map .int))), some (.p (.int far)), some (.p (.int t.1)), some (.p (.int t.2.1)), some (.p (.int t.2.2.1)), some (.p (.int t.2.2.2))] :=
      prim_c (as := [.s 7, .v (.p (.int h))]) (ds := [.p (.int t.2.1), .p (.int h)]) (evA_v rfl (evA_c (fun i z => by cases z) q2 evA_n)) rfl rfl
    have q6 : ev (Cr n R kk) (.prim (.cmp .NotIn) (.cons (.var 7) (.cons (.var 4) .nil))) [some (.p (mPD n R)), some (.own (F.map enP)), some (.own (L.map enP)), d3, some (.p (.list (row.map .int))), some (.p (.int far)), some (.p (.int t.1)), some (.p (.int t.2.1)), some (.p (.int t.2.2.1)), some (.p (.int t.2.2.2))] = .ok (.p (.bool (!decide (t.2.1 ∈ row)))) [some (.p (mPD n R)), some (.own (F.map enP)), some (.own (L.map enP)), d3, some (.p (.list (row.map .int))), some (.p (.int far)), some (.p (.int t.1)), some (.p (.int t.2.1)), some (.p (.int t.2.2.1)), some (.p (.int t.2.2.2))] :=
      prim_c (as := [.s 7, .s 4]) (ds := [.p (.int t.2.1), .p (.list (row.map .int))]) rfl rfl (by
        show Option.map (fun c => D.p (.bool c)) ((inD (.p (.int t.2.1)) (.p (.list (row.map .int)))).map (!·)) = _
        rw [in_ints (b := .p (.list (row.map .int))) rfl]; rfl)
    have q7 : ev (Cr n R kk) (.prim (.bin .Add) (.cons (.var 5) (.cons (.var 8) .nil))) [some (.p (mPD n R)), some (.own (F.map enP)), some (.own (L.map enP)), d3, some (.p (.list (row.map .int))), some (.p (.int far)), some (.p (.int t.1)), some (.p (.int t.2.1)), some (.p (.int t.2.2.1)), some (.p (.int t.2.2.2))] = .ok (.p (.int (far + t.2.2.1))) [some (.p (mPD n R)), some (.own (F.map enP)), some (.own (L.map enP)), d3, some (.p (.list (row.map .int))), some (.p (.int far)), some (.p (.int t.1)), some (.p (.int t.2.1)), some (.p (.int t.2.2.1)), some (.p (.int t.2.2.2))] := rfl
    have hc1 : evT (Cr n R kk) (.bop .And (.cons (.prim (.cmp .Eq) (.cons (.var 6) (.cons (.prim .idx (.cons (.var 4) (.cons (.prim .neg (.cons (.int 1) .nil)) .nil))) .nil))) (.cons (.prim (.cmp .Eq) (.cons (.var 7) (.cons (.prim .idx (.cons (.var 4) (.cons (.int 0) .nil))) .nil))) .nil))) [some (.p (mPD n R)), some (.own (F.map enP)), some (.own (L.map enP)), d3, some (.p (.list (row.map .int))), some (.p (.int far)), some (.p (.int t.1)), some (.p (.int t.2.1)), some (.p (.int t.2.2.1)), some (.p (.int t.2.2.2))] = .ok (c1 x h t) [some (.p (mPD n R)), some (.own (F.map enP)), some (.own (L.map enP)), d3, some (.p (.list (row.map .int))), some (.p (.int far)), some (.p (.int t.1)), some (.p (.int t.2.1)), some (.p (.int t.2.2.1)), some (.p (.int t.2.2.2))] :=
      evT_b (bop_c (and_c q3 fun _ => and_one q4))
    have hc2 : evT (Cr n R kk) (.bop .And (.cons (.prim (.cmp .Eq) (.cons (.var 6) (.cons (.prim .idx (.cons (.var 4) (.cons (.prim .neg (.cons (.int 1) .nil)) .nil))) .nil))) (.cons (.prim (.cmp .Gt) (.cons (.var 7) (.cons (.prim .idx (.cons (.var 4) (.cons (.int 0) .nil))) .nil))) (.cons (.prim (.cmp .NotIn) (.cons (.var 7) (.cons (.var 4) .nil))) .nil)))) [some (.p (mPD n R)), some (.own (F.map enP)), some (.own (L.map enP)), d3, some (.p (.list (row.map .int))), some (.p (.int far)), some (.p (.int t.1)), some (.p (.int t.2.1)), some (.p (.int t.2.2.1)), some (.p (.int t.2.2.2))] = .ok (c2 x h row t) [some (.p (mPD n R)), some (.own (F.map enP)), some (.own (L.map enP)), d3, some (.p (.list (row.map .int))), some (.p (.int far)), some (.p (.int t.1)), some (.p (.int t.2.1)), some (.p (.int t.2.2.1)), some (.p (.int t.2.2.2))] :=
      evT_b (bop_c (and_c q3 fun _ => and_c q5 fun _ => and_one q6))
    cases k1 : c1 x h t with
    | true =>
      rw [k1] at hc1
      have e1 : nF row far x h (t :: ts) = (row, far + t.2.2.1) :: nF row far x h ts := by unfold nF; rw [List.filter_cons_of_pos k1, List.map_cons]
      have e2 : nL row far x h (t :: ts) = nL row far x h ts := by unfold nL; rw [List.filter_cons_of_neg (by rw [k1]; simp)]
      rw [e1, e2]
      obtain ⟨e6, e7, e8, e9, ih⟩ := rn_in kk n R row pre tl x h far hp hh hr d3 ts (F ++ [(row, far + t.2.2.1)]) L (some (.p (.int t.1))) (some (.p (.int t.2.1))) (some (.p (.int t.2.2.1))) (some (.p (.int t.2.2.2))) (by rw [List.length_append, List.length_singleton]; omega) (by omega)
      rw [List.append_assoc, List.singleton_append] at ih
      refine ⟨e6, e7, e8, e9, forL_cons (ρ1 := [some (.p (mPD n R)), some (.own (F.map enP)), some (.own (L.map enP)), d3, some (.p (.list (row.map .int))), some (.p (.int far)), some (.p (.int t.1)), some (.p (.int t.2.1)), some (.p (.int t.2.2.1)), some (.p (.int t.2.2.2))]) (ρ2 := [some (.p (mPD n R)), some (.own ((F ++ [(row, far + t.2.2.1)]).map enP)), some (.own (L.map enP)), d3, some (.p (.list (row.map .int))), some (.p (.int far)), some (.p (.int t.1)), some (.p (.int t.2.1)), some (.p (.int t.2.2.1)), some (.p (.int t.2.2.2))]) rfl (ift_nx hc1 (st_s (app_c (l := F.map enP) (d := enP (row, far + t.2.2.1)) (ρ1 := [some (.p (mPD n R)), some (.own (F.map enP)), some (.own (L.map enP)), d3, some (.p (.list (row.map .int))), some (.p (.int far)), some (.p (.int t.1)), some (.p (.int t.2.1)), some (.p (.int t.2.2.1)), some (.p (.int t.2.2.2))]) (ρ2 := [some (.p (mPD n R)), some (.own ((F ++ [(row, far + t.2.2.1)]).map enP)), some (.own (L.map enP)), d3, some (.p (.list (row.map .int))), some (.p (.int far)), some (.p (.int t.1)), some (.p (.int t.2.1)), some (.p (.int t.2.2.1)), some (.p (.int t.2.2.2))]) rfl (tup_c (evL_c (read_p (i := 4) rfl) (evL_c q7 evL_n)) rfl (show 2 ≤ line by decide)) rfl (by rw [List.length_map]; exact Nat.lt_of_le_of_lt (by omega : F.length ≤ 1000000) (by decide)) ?_) nil_c) nil_c) ih⟩
      rw [List.map_append]; rfl
    | false =>
      rw [k1] at hc1
      have e1 : nF row far x h (t :: ts) = nF row far x h ts := by unfold nF; rw [List.filter_cons_of_neg (by rw [k1]; simp)]
      rw [e1]
      cases k2 : c2 x h row t with
      | true =>
        rw [k2] at hc2
        have e2 : nL row far x h (t :: ts) = (row ++ [t.2.1], far + t.2.2.1) :: nL row far x h ts := by unfold nL; rw [List.filter_cons_of_pos (by rw [k1, k2]; rfl), List.map_cons]
        rw [e2]
        obtain ⟨e6, e7, e8, e9, ih⟩ := rn_in kk n R row pre tl x h far hp hh hr d3 ts F (L ++ [(row ++ [t.2.1], far + t.2.2.1)]) (some (.p (.int t.1))) (some (.p (.int t.2.1))) (some (.p (.int t.2.2.1))) (some (.p (.int t.2.2.2))) (by omega) (by rw [List.length_append, List.length_singleton]; omega)
        rw [List.append_assoc, List.singleton_append] at ih
        have q8 : ev (Cr n R kk) (.prim (.bin .Add) (.cons (.var 4) (.cons (.lst (.cons (.var 7) .nil)) .nil))) [some (.p (mPD n R)), some (.own (F.map enP)), some (.own (L.map enP)), d3, some (.p (.list (row.map .int))), some (.p (.int far)), some (.p (.int t.1)), some (.p (.int t.2.1)), some (.p (.int t.2.2.1)), some (.p (.int t.2.2.2))] = .ok (.own ((row ++ [t.2.1]).map .int)) [some (.p (mPD n R)), some (.own (F.map enP)), some (.own (L.map enP)), d3, some (.p (.list (row.map .int))), some (.p (.int far)), some (.p (.int t.1)), some (.p (.int t.2.1)), some (.p (.int t.2.2.1)), some (.p (.int t.2.2.2))] := by
          refine prim_c (as := [.s 4, .v (.own [.int t.2.1])]) (ds := [.p (.list (row.map .int)), .own [.int t.2.1]]) (evA_v rfl (evA_c (fun i z => by cases z) (lst_c (evL_c (read_p (i := 7) rfl) evL_n) (show 1 ≤ line by decide) rfl) evA_n)) rfl ?_
          show (if Operator.Add = .Add ∧ (row.map PyData.int).length + 1 ≤ line then some (D.own ((row.map PyData.int) ++ [.int t.2.1])) else none) = _
          rw [if_pos ⟨rfl, by rw [List.length_map]; exact Nat.le_trans (by omega : row.length + 1 ≤ 1001) (by decide)⟩, List.map_append]; rfl
        refine ⟨e6, e7, e8, e9, forL_cons (ρ1 := [some (.p (mPD n R)), some (.own (F.map enP)), some (.own (L.map enP)), d3, some (.p (.list (row.map .int))), some (.p (.int far)), some (.p (.int t.1)), some (.p (.int t.2.1)), some (.p (.int t.2.2.1)), some (.p (.int t.2.2.2))]) (ρ2 := [some (.p (mPD n R)), some (.own (F.map enP)), some (.own ((L ++ [(row ++ [t.2.1], far + t.2.2.1)]).map enP)), d3, some (.p (.list (row.map .int))), some (.p (.int far)), some (.p (.int t.1)), some (.p (.int t.2.1)), some (.p (.int t.2.2.1)), some (.p (.int t.2.2.2))]) rfl (iff_nx hc1 (ift_nx hc2 (st_s (app_c (l := L.map enP) (d := enP (row ++ [t.2.1], far + t.2.2.1)) (ρ1 := [some (.p (mPD n R)), some (.own (F.map enP)), some (.own (L.map enP)), d3, some (.p (.list (row.map .int))), some (.p (.int far)), some (.p (.int t.1)), some (.p (.int t.2.1)), some (.p (.int t.2.2.1)), some (.p (.int t.2.2.2))]) (ρ2 := [some (.p (mPD n R)), some (.own (F.map enP)), some (.own ((L ++ [(row ++ [t.2.1], far + t.2.2.1)]).map enP)), d3, some (.p (.list (row.map .int))), some (.p (.int far)), some (.p (.int t.1)), some (.p (.int t.2.1)), some (.p (.int t.2.2.1)), some (.p (.int t.2.2.2))]) rfl (tup_c (evL_c q8 (evL_c q7 evL_n)) rfl (show 2 ≤ line by decide)) rfl (by rw [List.length_map]; exact Nat.lt_of_le_of_lt (by omega : L.length ≤ 1000000) (by decide)) ?_) nil_c) nil_c) nil_c) ih⟩
        rw [List.map_append]; rfl
      | false =>
        rw [k2] at hc2
        have e2 : nL row far x h (t :: ts) = nL row far x h ts := by unfold nL; rw [List.filter_cons_of_neg (by rw [k1, k2]; simp)]
        rw [e2]
        obtain ⟨e6, e7, e8, e9, ih⟩ := rn_in kk n R row pre tl x h far hp hh hr d3 ts F L (some (.p (.int t.1))) (some (.p (.int t.2.1))) (some (.p (.int t.2.2.1))) (some (.p (.int t.2.2.2))) (by omega) (by omega)
        exact ⟨e6, e7, e8, e9, forL_cons (ρ1 := [some (.p (mPD n R)), some (.own (F.map enP)), some (.own (L.map enP)), d3, some (.p (.list (row.map .int))), some (.p (.int far)), some (.p (.int t.1)), some (.p (.int t.2.1)), some (.p (.int t.2.2.1)), some (.p (.int t.2.2.2))]) (ρ2 := [some (.p (mPD n R)), some (.own (F.map enP)), some (.own (L.map enP)), d3, some (.p (.list (row.map .int))), some (.p (.int far)), some (.p (.int t.1)), some (.p (.int t.2.1)), some (.p (.int t.2.2.1)), some (.p (.int t.2.2.2))]) rfl (iff_nx hc1 (iff_nx hc2 nil_c nil_c) nil_c) ih⟩
end Law_k41

namespace Law_k41
open PySem PySem.Spec L2 Pv
theorem mem_nF {row : List Int} {far x h : Int} {ts : List R4} {e : En} : e ∈ nF row far x h ts ↔ ∃ t ∈ ts, t.1 = x ∧ t.2.1 = h ∧ e = (row, far + t.2.2.1) := by
  unfold nF c1
  rw [List.mem_map]
  constructor
  · rintro ⟨t, ht, rfl⟩
    obtain ⟨h1, h2⟩ := List.mem_filter.mp ht
    rw [Bool.and_eq_true] at h2
    exact ⟨t, h1, of_decide_eq_true h2.1, of_decide_eq_true h2.2, rfl⟩
  · rintro ⟨t, ht, h1, h2, rfl⟩
    exact ⟨t, List.mem_filter.mpr ⟨ht, by rw [decide_eq_true h1, decide_eq_true h2]; rfl⟩, rfl⟩
theorem mem_nL {row : List Int} {far x h : Int} {ts : List R4} {e : En} : e ∈ nL row far x h ts ↔ ∃ t ∈ ts, t.1 = x ∧ h < t.2.1 ∧ t.2.1 ∉ row ∧ e = (row ++ [t.2.1], far + t.2.2.1) := by
  unfold nL c1 c2
  rw [List.mem_map]
  constructor
  · rintro ⟨t, ht, rfl⟩
    obtain ⟨h1, h2⟩ := List.mem_filter.mp ht
    simp only [Bool.and_eq_true, decide_eq_true_eq, Bool.not_eq_true', decide_eq_false_iff_not] at h2
    exact ⟨t, h1, h2.2.1, h2.2.2.1, h2.2.2.2, rfl⟩
  · rintro ⟨t, ht, h1, h2, h3, rfl⟩
    refine ⟨t, List.mem_filter.mpr ⟨ht, ?_⟩, rfl⟩
    simp only [Bool.and_eq_true, decide_eq_true_eq, Bool.not_eq_true', decide_eq_false_iff_not]
    refine ⟨?_, h1, h2, h3⟩
    rw [decide_eq_false (by omega : ¬ t.2.1 = h), Bool.and_false]
theorem row_head {R : List R4} {h x : Int} : ∀ {a : List R4}, Wk R h a x → ∃ tl, src a ++ [x] = h :: tl
  | [], w => ⟨[], by rw [show h = x from w]; rfl⟩
  | t :: a, w => ⟨src a ++ [x], by rw [← w.2.1]; rfl⟩
def LInv (R : List R4) (e : En) : Prop := ∃ h a x, Wk R h a x ∧ e = (src a ++ [x], tot a) ∧ (src a ++ [x]).Nodup ∧ ∀ s ∈ src a ++ [x], h ≤ s
def FInv (R : List R4) (e : En) : Prop := ∃ m ts, Tgt R m ts ∧ e = (src ts, tot ts)
def Cov (R : List R4) (F L : List En) : Prop := ∀ m ts, Tgt R m ts → (src ts, tot ts) ∈ F ∨ ∃ a b x, ts = a ++ b ∧ b ≠ [] ∧ Wk R m a x ∧ (src a ++ [x], tot a) ∈ L
theorem src_one (t : R4) : src [t] = [t.1] := rfl
theorem tot_one (t : R4) : tot [t] = t.2.2.1 := by unfold tot; simp
theorem inv_step {R : List R4} {F L : List En} {h x : Int} {a : List R4} (w : Wk R h a x) (nd : (src a ++ [x]).Nodup) (le : ∀ s ∈ src a ++ [x], h ≤ s) (hF : ∀ e ∈ F, FInv R e) (hL : ∀ e ∈ L, LInv R e) (hC : Cov R F (L ++ [(src a ++ [x], tot a)])) :
    (∀ e ∈ F ++ nF (src a ++ [x]) (tot a) x h R, FInv R e) ∧ (∀ e ∈ L ++ nL (src a ++ [x]) (tot a) x h R, LInv R e) ∧ Cov R (F ++ nF (src a ++ [x]) (tot a) x h R) (L ++ nL (src a ++ [x]) (tot a) x h R) := by
  refine ⟨fun e he => ?_, fun e he => ?_, fun m ts T => ?_⟩
  · rcases List.mem_append.mp he with q | q
    · exact hF e q
    · obtain ⟨t, ht, h1, h2, rfl⟩ := mem_nF.mp q
      have es : src (a ++ [t]) = src a ++ [x] := by rw [src_app, src_one, h1]
      refine ⟨h, a ++ [t], ⟨Wk_snoc (by rw [h1]; exact w) ht h2, by simp, by rw [es]; exact nd, by rw [es]; exact le⟩, ?_⟩
      rw [es, tot_app, tot_one]
  · rcases List.mem_append.mp he with q | q
    · exact hL e q
    · obtain ⟨t, ht, h1, h2, h3, rfl⟩ := mem_nL.mp q
      have es : src (a ++ [t]) = src a ++ [x] := by rw [src_app, src_one, h1]
      refine ⟨h, a ++ [t], t.2.1, Wk_snoc (by rw [h1]; exact w) ht rfl, by rw [es, tot_app, tot_one], ?_, ?_⟩
      · rw [es, List.nodup_append]
        exact ⟨nd, List.nodup_cons.mpr ⟨List.not_mem_nil, List.nodup_nil⟩, fun p hp q hq e => h3 (by rw [← List.mem_singleton.mp hq, ← e]; exact hp)⟩
      · rw [es]
        intro s hs
        rcases List.mem_append.mp hs with hs | hs
        · exact le s hs
        · rw [List.mem_singleton.mp hs]; omega
  · rcases hC m ts T with q | ⟨a', b', x', e1, e2, w', q⟩
    · exact .inl (List.mem_append_left _ q)
    · rcases List.mem_append.mp q with q | q
      · exact .inr ⟨a', b', x', e1, e2, w', List.mem_append_left _ q⟩
      · have q := List.mem_singleton.mp q
        have q1 : src a' ++ [x'] = src a ++ [x] := congrArg Prod.fst q
        have q2 : tot a' = tot a := congrArg Prod.snd q
        have qx : x' = x := by
          have := congrArg List.getLast? q1
          rw [List.getLast?_append, List.getLast?_append] at this
          simpa using this
        obtain ⟨tl, r1⟩ := row_head w
        obtain ⟨tl', r2⟩ := row_head w'
        have qm : m = h := by
          rw [← q1, r2] at r1
          exact (List.cons.inj r1).1
        subst qx qm
        cases b' with
        | nil => exact absurd rfl e2
        | cons t b =>
          have wk := T.wk
          rw [e1] at wk
          obtain ⟨z, g1, g2⟩ := Wk_app.mp wk
          have hz : z = x' := by
            obtain ⟨_, _⟩ := row_head g1
            have : ∀ {c : List R4} {p y z : Int}, Wk R p c y → Wk R p c z → y = z := by
              intro c
              induction c with
              | nil => intro p y z h1 h2; exact (show p = y from h1).symm.trans h2
              | cons u c ih => intro p y z h1 h2; exact ih h1.2.2 h2.2.2
            exact this g1 w'
          subst hz
          have ht1 : t.1 = z := Wk_head g2
          have es : src (a' ++ [t]) = src a ++ [z] := by rw [src_app, src_one, ht1]; exact q1
          have et : tot (a' ++ [t]) = tot a + t.2.2.1 := by rw [tot_app, tot_one, q2]
          cases b with
          | nil =>
            have ht2 : t.2.1 = m := g2.2.2
            refine .inl (List.mem_append_right _ (mem_nF.mpr ⟨t, g2.1, ht1, ht2, ?_⟩))
            rw [e1, es, et]
          | cons u b =>
            have hu : u.1 = t.2.1 := Wk_head g2.2.2
            have nd2 := T.nd
            have ets : ts = (a' ++ [t]) ++ (u :: b) := by rw [e1]; simp
            rw [ets, src_app, es] at nd2
            rw [List.nodup_append] at nd2
            have hmem : u.1 ∈ src (u :: b) := List.mem_cons_self
            have hn : t.2.1 ∉ src a ++ [z] := fun hh => nd2.2.2 _ hh _ hmem hu.symm
            have hle : m ≤ t.2.1 := by
              rw [← hu]
              exact T.le _ (by rw [ets, src_app]; exact List.mem_append_right _ hmem)
            have hne : t.2.1 ≠ m := fun hh => hn (by rw [hh, r1]; exact List.mem_cons_self)
            refine .inr ⟨a' ++ [t], u :: b, t.2.1, ets, (fun z => nomatch z), Wk_snoc (by rw [ht1]; exact w') g2.1 rfl, List.mem_append_right _ (mem_nL.mpr ⟨t, g2.1, ht1, by omega, hn, ?_⟩)⟩
            rw [es, et]
theorem phi_len {R : List R4} {F L : List En} : F.length + L.length ≤ phi R F L := by
  unfold phi
  have : L.length ≤ (L.map (wE R)).sum := by
    induction L with
    | nil => exact Nat.le_refl _
    | cons e L ih =>
      rw [List.map_cons, List.sum_cons, List.length_cons]
      have : 1 ≤ wE R e := Nat.one_le_two_pow
      omega
  omega
theorem rn_loop (kk n : Nat) (R : List R4) (g : GoodR n R) (n12 : n ≤ 12) (d3 : Option D) : ∀ (N : Nat) (F L : List En) (d4 d5 d6 d7 d8 d9 : Option D), phi R F L ≤ N → N ≤ 900000 → (∀ e ∈ F, FInv R e) → (∀ e ∈ L, LInv R e) → Cov R F L →
    ∃ (F' : List En) (e4 e5 e6 e7 e8 e9 : Option D), wS (evT (Cr n R kk) c__law_rounds_0) (exs (Cr n R kk) b__law_rounds_0) [some (.p (mPD n R)), some (.own (F.map enP)), some (.own (L.map enP)), d3, d4, d5, d6, d7, d8, d9] = .nx [some (.p (mPD n R)), some (.own (F'.map enP)), some (.own []), d3, e4, e5, e6, e7, e8, e9] ∧ F'.length ≤ 900000 ∧ (∀ e ∈ F', FInv R e) ∧ ∀ m ts, Tgt R m ts → (src ts, tot ts) ∈ F'
  | N, F, L, d4, d5, d6, d7, d8, d9, hN, hM, hF, hL, hC => by
    have hlen := phi_len (R := R) (F := F) (L := L)
    have hcond : evT (Cr n R kk) c__law_rounds_0 [some (.p (mPD n R)), some (.own (F.map enP)), some (.own (L.map enP)), d3, d4, d5, d6, d7, d8, d9] = .ok (!decide (L.map enP = [])) [some (.p (mPD n R)), some (.own (F.map enP)), some (.own (L.map enP)), d3, d4, d5, d6, d7, d8, d9] :=
      evT_b (prim_c (as := [.s 2, .v (.own [])]) (ds := [.own (L.map enP), .own []]) rfl rfl (ne_nil rfl (shaped_ens L)))
    rcases List.eq_nil_or_concat L with e | ⟨L0, e, he⟩
    · subst e
      refine ⟨F, d4, d5, d6, d7, d8, d9, wS_f (hcond.trans (by rw [List.map_nil, decide_eq_true rfl]; rfl)), by omega, hF, fun m ts T => ?_⟩
      rcases hC m ts T with q | ⟨_, _, _, _, _, _, q⟩
      · exact q
      · cases q
    · rw [List.concat_eq_append] at he
      subst he
      obtain ⟨h, a, x, w, he, nd, le⟩ := hL e (List.mem_append_right _ (List.mem_singleton.mpr rfl))
      subst he
      obtain ⟨tl, r1⟩ := row_head w
      have hx : x ∉ src a := fun z => by
        rw [List.nodup_append] at nd
        exact nd.2.2 x z x (List.mem_singleton.mpr rfl) rfl
      have hst := phi_step (R := R) (F := F) (L := L0) (pre := src a) (x := x) (far := tot a) (h := h) hx
      obtain ⟨i1, i2, i3⟩ := inv_step w nd le hF (fun e he => hL e (List.mem_append_left _ he)) hC
      have hrow : (src a ++ [x]).length ≤ 1000 := by
        have : (src a).length ≤ n := by
          have hn : (src a).Nodup := (List.nodup_append.mp nd).1
          have := nodup_len (m := rngZ n) hn fun s hs => by
            have : ∀ {b : List R4} {p q : Int}, Wk R p b q → ∀ s ∈ src b, s ∈ rngZ n := by
              intro b
              induction b with
              | nil => intro p q _ s hs; cases hs
              | cons t b ih =>
                intro p q hw s hs
                rcases List.mem_cons.mp (show s ∈ t.1 :: src b from hs) with e | e
                · rw [e]; exact mem_rngZ.mpr (g.one t hw.1)
                · exact ih hw.2.2 s e
            exact this w s hs
          unfold rngZ at this
          rw [List.length_map, List.length_range] at this; exact this
        rw [List.length_append, List.length_singleton]
        omega
      have hl16 := g.len
      rw [List.length_append, List.length_singleton] at hlen
      match N, hN with
      | 0, hN => omega
      | N + 1, hN =>
        obtain ⟨e6, e7, e8, e9, hin⟩ := rn_in kk n R (src a ++ [x]) (src a) tl x h (tot a) rfl r1 hrow d3 R F L0 d6 d7 d8 d9 (by omega) (by omega)
        obtain ⟨F', f4, f5, f6, f7, f8, f9, hw, z1, z2, z3⟩ := rn_loop kk n R g n12 d3 N _ _ (some (.p (.list ((src a ++ [x]).map .int)))) (some (.p (.int (tot a)))) e6 e7 e8 e9 (by omega : phi R (F ++ nF (src a ++ [x]) (tot a) x h R) (L0 ++ nL (src a ++ [x]) (tot a) x h R) ≤ N) (by omega) i1 i2 i3
        have hp : ev (Cr n R kk) (.pop 2) [some (.p (mPD n R)), some (.own (F.map enP)), some (.own ((L0 ++ [(src a ++ [x], tot a)]).map enP)), d3, d4, d5, d6, d7, d8, d9] = .ok (.p (enP (src a ++ [x], tot a))) [some (.p (mPD n R)), some (.own (F.map enP)), some (.own (L0.map enP)), d3, d4, d5, d6, d7, d8, d9] := by
          refine (pop_c (l := L0.map enP) (d := enP (src a ++ [x], tot a)) ?_).trans rfl
          rw [List.map_append]; rfl
        refine ⟨F', f4, f5, f6, f7, f8, f9, wS_t (ρ1 := [some (.p (mPD n R)), some (.own (F.map enP)), some (.own ((L0 ++ [(src a ++ [x], tot a)]).map enP)), d3, d4, d5, d6, d7, d8, d9]) (hcond.trans ?_) (st_s (ρ2 := [some (.p (mPD n R)), some (.own (F.map enP)), some (.own (L0.map enP)), d3, some (.p (.list ((src a ++ [x]).map .int))), some (.p (.int (tot a))), d6, d7, d8, d9]) ?_ (st_s (for_c (xs := R.map rd) (ρ1 := [some (.p (mPD n R)), some (.own (F.map enP)), some (.own (L0.map enP)), d3, some (.p (.list ((src a ++ [x]).map .int))), some (.p (.int (tot a))), d6, d7, d8, d9]) rfl hin) nil_c)) hw, z1, z2, z3⟩
        · rw [decide_eq_false (by simp)]; rfl
        · rw [ex, hp]; rfl
theorem r_rounds (kk n : Nat) (R : List R4) (M : MOk n R) : ∃ F : List En, run prog (kk + 1) 49 [.p (mPD n R)] = .ok (.own (F.map enP)) [.p (mPD n R)] ∧ F.length ≤ 900000 ∧ (∀ e ∈ F, FInv R e) ∧ ∀ m ts, Tgt R m ts → (src ts, tot ts) ∈ F := by
  have hc16 : cnt R [] ≤ 16 := Nat.le_trans (List.length_filter_le _ _) M.g.len
  have hphi : phi R [] ((rngZ n).map fun q => (([q], 0) : En)) ≤ 800000 := by
    unfold phi
    rw [List.length_nil, List.map_map]
    have : ∀ l : List Int, ((l.map (wE R ∘ fun q => (([q], 0) : En))).sum) = l.length * 2 ^ cnt R [] := by
      intro l
      induction l with
      | nil => simp
      | cons q l ih =>
        rw [List.map_cons, List.sum_cons, ih, List.length_cons, Nat.succ_mul, Nat.add_comm]
        rfl
    rw [this]
    have h1 : (rngZ n).length = n := by unfold rngZ; rw [List.length_map, List.length_range]
    rw [h1]
    have h2 : 2 ^ cnt R [] ≤ 2 ^ 16 := Nat.pow_le_pow_right (by decide) hc16
    have h3 : n * 2 ^ cnt R [] ≤ 12 * 2 ^ 16 := Nat.mul_le_mul M.n12 h2
    omega
  obtain ⟨F, e4, e5, e6, e7, e8, e9, hw, h1, h2, h3⟩ := rn_loop kk n R M.g M.n12 none 800000 [] ((rngZ n).map fun q => (([q], 0) : En)) none none none none none none hphi (by omega) (fun e he => nomatch he) (fun e he => by
    obtain ⟨q, hq, rfl⟩ := List.mem_map.mp he
    exact ⟨q, [], q, rfl, rfl, List.nodup_cons.mpr ⟨List.not_mem_nil, List.nodup_nil⟩, fun s hs => by rw [List.mem_singleton.mp hs]; exact Int.le_refl _⟩) (fun m ts T => by
    refine .inr ⟨[], ts, m, rfl, T.ne, rfl, List.mem_map.mpr ⟨m, ?_, rfl⟩⟩
    cases ts with
    | nil => exact absurd rfl T.ne
    | cons t ts =>
      have := T.wk
      rw [← this.2.1]
      exact mem_rngZ.mpr (M.g.one t this.1))
  refine ⟨F, ?_, h1, h2, h3⟩
  refine (run_succ (fn := f__law_rounds) rfl).trans ?_
  have hidx : ev (Cr n R kk) (.prim .idx (.cons (.var 0) (.cons (.int 1) .nil))) [some (.p (mPD n R)), none, none, none, none, none, none, none, none, none] = .ok (.p (.int n)) [some (.p (mPD n R)), none, none, none, none, none, none, none, none, none] := rfl
  have hr := range_e (C := Cr n R kk) (fun i z => by cases z) hidx (by omega) (by have := M.n12; omega)
  have hlc : ev (Cr n R kk) (.lc (.tup (.cons (.lst (.cons (.var 3) .nil)) (.cons (.int 0) .nil))) (.v 3) (.range (.cons (.prim .idx (.cons (.var 0) (.cons (.int 1) .nil))) .nil)) .nil [3]) [some (.p (mPD n R)), none, none, none, none, none, none, none, none, none] = .ok (.own (((rngZ n).map fun q => (([q], 0) : En)).map enP)) [some (.p (mPD n R)), none, none, none, none, none, none, none, none, none] := by
    refine lc_map (ρ1 := [some (.p (mPD n R)), none, none, none, none, none, none, none, none, none]) (xs := (rngZ n).map .int) (g := fun d => .p (.tuple [.list [d], .int 0])) (hr.trans (by rw [rangeL_rngZ])) rfl (fun x hx => ?_) ?_ ?_
    · obtain ⟨q, hq, rfl⟩ := List.mem_map.mp hx
      exact ⟨[some (.p (mPD n R)), none, none, some (.p (.int q)), none, none, none, none, none, none], rfl, rfl, tup_c (evL_c (lst_c (evL_c (read_p (i := 3) rfl) evL_n) (show 1 ≤ line by decide) rfl) (evL_c (by rw [ev]) evL_n)) rfl (show 2 ≤ line by decide)⟩
    · unfold rngZ; rw [List.length_map, List.length_map, List.length_range]; exact Nat.le_trans M.n12 (by decide)
    · rw [mkR_p, List.map_map, List.map_map]; rfl
  refine runB_gv rfl rfl (.st (ρ2 := [some (.p (mPD n R)), some (.own (List.map enP [])), some (.own (((rngZ n).map fun q => (([q], 0) : En)).map enP)), none, none, none, none, none, none, none]) (par2_c (ρ1 := [some (.p (mPD n R)), none, none, none, none, none, none, none, none, none]) (ρ2 := [some (.p (mPD n R)), none, none, none, none, none, none, none, none, none]) (lst_c evL_n (Nat.zero_le _) rfl) hlc rfl) (.st (ρ2 := [some (.p (mPD n R)), some (.own (F.map enP)), some (.own []), none, e4, e5, e6, e7, e8, e9]) (by rw [ex]; exact hw) ?_))
  exact .rt (ρ1 := [some (.p (mPD n R)), none, some (.own []), none, e4, e5, e6, e7, e8, e9]) (by rw [exs, ex]; rfl) (gv rfl)
end Law_k41

namespace Law_k41
open PySem PySem.Spec L2 Pv
def nI (l : List Nat) : List PD := l.map fun (f : Nat) => .int (f : Int)
def gN (l : List Nat) : Nat := l.foldl Nat.gcd 0
theorem dvd_fold {d : Nat} : ∀ {l : List Nat} {a : Nat}, d ∣ l.foldl Nat.gcd a ↔ d ∣ a ∧ ∀ f ∈ l, d ∣ f
  | [], a => ⟨fun h => ⟨h, fun _ h => nomatch h⟩, fun h => h.1⟩
  | b :: l, a => by
    show d ∣ l.foldl Nat.gcd (Nat.gcd a b) ↔ _
    rw [dvd_fold, Nat.dvd_gcd_iff]
    constructor
    · rintro ⟨⟨h1, h2⟩, h3⟩
      exact ⟨h1, fun f hf => (List.mem_cons.mp hf).elim (fun e => e ▸ h2) (h3 f)⟩
    · rintro ⟨h1, h2⟩
      exact ⟨⟨h1, h2 b List.mem_cons_self⟩, fun f hf => h2 f (List.mem_cons_of_mem _ hf)⟩
theorem dvd_gN {d : Nat} {l : List Nat} : d ∣ gN l ↔ ∀ f ∈ l, d ∣ f := by
  unfold gN; rw [dvd_fold]
  exact ⟨fun h => h.2, fun h => ⟨Nat.dvd_zero d, h⟩⟩
def b__law_common_0 : Ss := (.cons (.par [3, 4] (.cons (.var 1) (.cons (.var 2) .nil))) (.cons (.whl (.prim (.cmp .Gt) (.cons (.var 4) (.cons (.int 0) .nil))) (.cons (.par [3, 4] (.cons (.var 4) (.cons (.prim (.bin .Mod) (.cons (.prim (.bf .int) (.cons (.var 3) .nil)) (.cons (.var 4) .nil))) .nil))) .nil)) (.cons (.asg (.v 1) (.var 3)) .nil)))
def t__law_common_0 : T := (.v 2)
def b__law_common_1 : Ss := (.cons (.par [3, 4] (.cons (.var 4) (.cons (.prim (.bin .Mod) (.cons (.prim (.bf .int) (.cons (.var 3) .nil)) (.cons (.var 4) .nil))) .nil))) .nil)
def c__law_common_1 : E := (.prim (.cmp .Gt) (.cons (.var 4) (.cons (.int 0) .nil)))
noncomputable abbrev Cc (l : List Nat) (kk : Nat) : Pv.Ctx := ⟨borOf [.own (nI l)], run prog kk⟩
theorem cm_w (kk : Nat) (l0 : List Nat) (d1 d2 : Option D) : ∀ (N a b : Nat), b ≤ N → wS (evT (Cc l0 kk) c__law_common_1) (exs (Cc l0 kk) b__law_common_1) [some (.p (.list (nI l0))), d1, d2, some (.p (.int (a : Nat))), some (.p (.int (b : Nat)))] = .nx [some (.p (.list (nI l0))), d1, d2, some (.p (.int (Nat.gcd a b : Nat))), some (.p (.int (0 : Nat)))]
  | N, a, 0, h => by
    rw [Nat.gcd_zero_right]
    exact wS_f rfl
  | 0, a, b + 1, h => by omega
  | N + 1, a, b + 1, h => by
    have ih := cm_w kk l0 d1 d2 N (b + 1) (a % (b + 1)) (by have := Nat.mod_lt a (show 0 < b + 1 by omega); omega)
    rw [show Nat.gcd (b + 1) (a % (b + 1)) = Nat.gcd a (b + 1) from by rw [Nat.gcd_comm, ← Nat.gcd_rec, Nat.gcd_comm]] at ih
    have hc : evT (Cc l0 kk) c__law_common_1 [some (.p (.list (nI l0))), d1, d2, some (.p (.int (a : Nat))), some (.p (.int (b + 1 : Nat)))] = .ok true [some (.p (.list (nI l0))), d1, d2, some (.p (.int (a : Nat))), some (.p (.int (b + 1 : Nat)))] := by
      refine evT_b (prim_c (as := [.s 4, .v (.p (.int 0))]) (ds := [.p (.int (b + 1 : Nat)), .p (.int 0)]) rfl rfl ?_)
      show some (D.p (.bool (decide ((0 : Int) < ((b + 1 : Nat) : Int))))) = _
      rw [decide_eq_true (by omega)]
    refine wS_t hc (st_s (par2_c (ρ1 := [some (.p (.list (nI l0))), d1, d2, some (.p (.int (a : Nat))), some (.p (.int (b + 1 : Nat)))]) (ρ2 := [some (.p (.list (nI l0))), d1, d2, some (.p (.int (a : Nat))), some (.p (.int (b + 1 : Nat)))]) (read_p (i := 4) rfl) (prim_c (as := [.v (.p (.int (a : Nat))), .s 4]) (ds := [.p (.int (a : Nat)), .p (.int (b + 1 : Nat))]) rfl rfl (mod_pr (by omega))) rfl) nil_c) ?_
    exact ih
theorem cm_for (kk : Nat) (l0 : List Nat) : ∀ (l : List Nat) (f : Nat) (d2 d3 d4 : Option D), ∃ e2 e3 e4, forL (Cc l0 kk) t__law_common_0 (exs (Cc l0 kk) b__law_common_0) (nI l) [some (.p (.list (nI l0))), some (.p (.int (f : Nat))), d2, d3, d4] = .nx [some (.p (.list (nI l0))), some (.p (.int (l.foldl Nat.gcd f : Nat))), e2, e3, e4]
  | [], f, d2, d3, d4 => ⟨d2, d3, d4, forL_nil⟩
  | b :: l, f, d2, d3, d4 => by
    obtain ⟨e2, e3, e4, ih⟩ := cm_for kk l0 l (Nat.gcd f b) (some (.p (.int (b : Nat)))) (some (.p (.int (Nat.gcd f b : Nat)))) (some (.p (.int (0 : Nat))))
    have hw := cm_w kk l0 (some (.p (.int (f : Nat)))) (some (.p (.int (b : Nat)))) b f b (Nat.le_refl _)
    exact ⟨e2, e3, e4, forL_cons (ρ1 := [some (.p (.list (nI l0))), some (.p (.int (f : Nat))), some (.p (.int (b : Nat))), d3, d4]) rfl (st_s (par2_c (ρ1 := [some (.p (.list (nI l0))), some (.p (.int (f : Nat))), some (.p (.int (b : Nat))), d3, d4]) (ρ2 := [some (.p (.list (nI l0))), some (.p (.int (f : Nat))), some (.p (.int (b : Nat))), d3, d4]) (read_p (i := 1) rfl) (read_p (i := 2) rfl) rfl) (whl_s hw (asg_s (read_p (i := 3) rfl) rfl (show 1 < 5 by decide) rfl nil_c))) ih⟩
theorem r_common (kk : Nat) (l : List Nat) : run prog (kk + 1) 50 [.own (nI l)] = .ok (.p (.int (gN l : Nat))) [.p (.list (nI l))] := by
  refine (run_succ (fn := f__law_common) rfl).trans ?_
  obtain ⟨e2, e3, e4, h⟩ := cm_for kk l l 0 none none none
  refine runB_gv rfl rfl (.asg (ρ1 := [some (.own (nI l)), none, none, none, none]) (ρ2 := [some (.own (nI l)), some (.p (.int (0 : Nat))), none, none, none]) (by rw [ev]; rfl) rfl rfl rfl ?_)
  refine .for_ (xs := nI l) (ρ1 := [some (.p (.list (nI l))), some (.p (.int (0 : Nat))), none, none, none]) rfl (.inl ⟨_, h, ?_⟩)
  exact .rt (ρ1 := [some (.p (.list (nI l))), some (.p (.int (gN l : Nat))), e2, e3, e4]) (by rw [exs, ex]; rfl) (gv rfl)
end Law_k41

namespace Law_k41
open PySem PySem.Spec L2 Pv
/-! how far: a dict -/
def kv (k : List Int) (v : Int → Int) : List (Key × PD) := k.map fun q => (.inl q, .int (v q))
def up1 (v : Int → Int) (q w : Int) : Int → Int := fun x => if x = q then w else v x
theorem look_kv (v : Int → Int) (q : Int) : ∀ k : List Int, lookD (kv k v) (.inl q) = if q ∈ k then some (.int (v q)) else none
  | [] => rfl
  | x :: k => by
    have ih := look_kv v q k
    unfold lookD kv at *
    rw [List.map_cons, List.find?_cons]
    by_cases e : x = q
    · subst e
      rw [show decide ((Sum.inl x : Key) = Sum.inl x) = true from decide_eq_true rfl]
      simp
    · rw [show decide ((Sum.inl x : Key) = Sum.inl q) = false from decide_eq_false (fun z => e (Sum.inl.inj z))]
      dsimp only
      rw [ih]
      by_cases g : q ∈ k
      · rw [if_pos g, if_pos (List.mem_cons_of_mem _ g)]
      · rw [if_neg g, if_neg (fun z => (List.mem_cons.mp z).elim (fun z => e z.symm) g)]
theorem kv_up {k : List Int} {v : Int → Int} {q w : Int} (h : q ∉ k) : putD (kv k v) (.inl q) (.int w) = kv (k ++ [q]) (up1 v q w) := by
  have hn : ((kv k v).any fun e => decide (e.1 = (.inl q : Key))) = false := by
    rw [List.any_eq_false]
    intro e he
    unfold kv at he
    obtain ⟨x, hx, rfl⟩ := List.mem_map.mp he
    simp only [decide_eq_true_eq]
    intro z
    exact h (by rw [← Sum.inl.inj z]; exact hx)
  unfold putD
  rw [hn, if_neg Bool.false_ne_true]
  unfold kv up1
  rw [List.map_append, List.map_singleton, if_pos rfl]
  congr 1
  refine List.map_congr_left fun x hx => ?_
  rw [if_neg (fun e => h (by rw [← e]; exact hx))]
theorem in_kv {k : List Int} {v : Int → Int} {q : Int} : inD (.p (.int q)) (.odk (kv k v)) = some (decide (q ∈ k)) := by
  show (Option.map (fun c => (lookD (kv k v) c).isSome) (some (.inl q))) = _
  rw [Option.map_some, look_kv]
  by_cases g : q ∈ k
  · rw [if_pos g, decide_eq_true g]; rfl
  · rw [if_neg g, decide_eq_false g]; rfl
theorem idx_kv {k : List Int} {v : Int → Int} {q : Int} (h : q ∈ k) : prD .idx [.odk (kv k v), .p (.int q)] = some (.p (.int (v q))) := by
  show (Option.map D.p (lookD (kv k v) (.inl q))) = _
  rw [look_kv, if_pos h]; rfl
theorem set_kv {k : List Int} {v : Int → Int} {q w : Int} (h : q ∉ k) (hl : k.length < line) : setD (.odk (kv k v)) (.p (.int q)) (.p (.int w)) = some (.odk (kv (k ++ [q]) (up1 v q w))) := by
  show (if (kv k v).length < line then some (D.odk (putD (kv k v) (.inl q) (.int w))) else none) = _
  rw [kv_up h, if_pos (by unfold kv; rw [List.length_map]; exact hl)]
def b_part_beat_0 : Ss := (.cons (.asg (.v 5) (.pop 3)) (.cons (.fore (.cons (.v 6) (.cons (.v 7) (.cons (.v 8) .nil))) (.seq (.call 23 [none, none] (.cons (.var 0) (.cons (.var 5) .nil)) .nil)) (.cons (.ife (.bop .And (.cons (.prim (.cmp .In) (.cons (.var 6) (.cons (.var 1) .nil))) (.cons (.prim (.cmp .NotIn) (.cons (.var 6) (.cons (.var 2) .nil))) .nil))) (.cons (.asg (.ix 2 (.var 6)) (.prim (.bin .Add) (.cons (.prim .idx (.cons (.var 2) (.cons (.var 5) .nil))) (.cons (.var 7) .nil)))) (.cons (.app 3 (.var 6)) .nil)) .nil) .nil)) .nil))
def c_part_beat_0 : E := (.prim (.cmp .NotEq) (.cons (.var 3) (.cons (.lst .nil) .nil)))
def b_part_beat_1 : Ss := (.cons (.ife (.bop .And (.cons (.prim (.cmp .In) (.cons (.var 6) (.cons (.var 1) .nil))) (.cons (.prim (.cmp .NotIn) (.cons (.var 6) (.cons (.var 2) .nil))) .nil))) (.cons (.asg (.ix 2 (.var 6)) (.prim (.bin .Add) (.cons (.prim .idx (.cons (.var 2) (.cons (.var 5) .nil))) (.cons (.var 7) .nil)))) (.cons (.app 3 (.var 6)) .nil)) .nil) .nil)
def t_part_beat_1 : T := (.cons (.v 6) (.cons (.v 7) (.cons (.v 8) .nil)))
def b_part_beat_2 : Ss := (.cons (.ife (.bop .And (.cons (.prim (.cmp .In) (.cons (.var 9) (.cons (.var 1) .nil))) (.cons (.prim (.cmp .In) (.cons (.var 6) (.cons (.var 1) .nil))) .nil))) (.cons (.asg (.v 4) (.prim .gcd (.cons (.var 4) (.cons (.prim (.bin .Sub) (.cons (.prim (.bin .Add) (.cons (.prim .idx (.cons (.var 2) (.cons (.var 9) .nil))) (.cons (.var 7) .nil))) (.cons (.prim .idx (.cons (.var 2) (.cons (.var 6) .nil))) .nil))) .nil)))) .nil) .nil) .nil)
def t_part_beat_2 : T := (.cons (.v 9) (.cons (.v 6) (.cons (.v 7) (.cons (.v 8) .nil))))
noncomputable abbrev Cp (n : Nat) (R : List R4) (pt : List Int) (kk : Nat) : Pv.Ctx := ⟨borOf [.p (mPD n R), .p (.list (pt.map .int))], run prog kk⟩
/-- each known place's number is the length of a way from the part's first -/
def Pot1 (R : List R4) (pt : List Int) (p : Int) (k : List Int) (v : Int → Int) : Prop := ∀ q ∈ k, q ∈ pt ∧ ∃ a, Wk R p a q ∧ v q = tot a
theorem pb_in (kk n : Nat) (R : List R4) (pt : List Int) (p x : Int) (d9 : Option D) : ∀ (ts : List R4) (k l : List Int) (v : Int → Int) (d6 d7 d8 : Option D), (∀ t ∈ ts, t ∈ R ∧ t.1 = x) → x ∈ k → k.Nodup → Pot1 R pt p k v → k.length + ts.length ≤ 1000 → l.length + ts.length ≤ 1000 →
    ∃ (nw : List Int) (v' : Int → Int) (e6 e7 e8 : Option D), forL (Cp n R pt kk) t_part_beat_1 (exs (Cp n R pt kk) b_part_beat_1) (ts.map tr) [some (.p (mPD n R)), some (.p (.list (pt.map .int))), some (.odk (kv k v)), some (.own (l.map .int)), some (.p (.int 0)), some (.p (.int x)), d6, d7, d8, d9] = .nx [some (.p (mPD n R)), some (.p (.list (pt.map .int))), some (.odk (kv (k ++ nw) v')), some (.own ((l ++ nw).map .int)), some (.p (.int 0)), some (.p (.int x)), e6, e7, e8, d9] ∧
      (k ++ nw).Nodup ∧ Pot1 R pt p (k ++ nw) v' ∧ ∀ t ∈ ts, t.2.1 ∈ pt → t.2.1 ∈ k ++ nw
  | [], k, l, v, d6, d7, d8, hs, hx, hk, hp, h1, h2 => ⟨[], v, d6, d7, d8, by rw [List.append_nil, List.append_nil]; exact forL_nil, by rw [List.append_nil]; exact hk, by rw [List.append_nil]; exact hp, fun t ht => nomatch ht⟩
  | t :: ts, k, l, v, d6, d7, d8, hs, hx, hk, hp, h1, h2 => by
    rw [List.length_cons] at h1 h2
    have ht := hs t List.mem_cons_self
    have q1 : ev (Cp n R pt kk) (.prim (.cmp .In) (.cons (.var 6) (.cons (.var 1) .nil))) [some (.p (mPD n R)), some (.p (.list (pt.map .int))), some (.odk (kv k v)), some (.own (l.map .int)), some (.p (.int 0)), some (.p (.int x)), some (.p (.int t.2.1)), some (.p (.int t.2.2.1)), some (.p (.int t.2.2.2)), d9] = .ok (.p (.bool (decide (t.2.1 ∈ pt)))) [some (.p (mPD n R)), some (.p (.list (pt.map .int))), some (.odk (kv k v)), some (.own (l.map .int)), some (.p (.int 0)), some (.p (.int x)), some (.p (.int t.2.1)), some (.p (.int t.2.2.1)), some (.p (.int t.2.2.2)), d9] :=
      prim_c (as := [.s 6, .s 1]) (ds := [.p (.int t.2.1), .p (.list (pt.map .int))]) rfl rfl (by
        show Option.map (fun c => D.p (.bool c)) (inD (.p (.int t.2.1)) (.p (.list (pt.map .int)))) = _
        rw [in_ints (b := .p (.list (pt.map .int))) rfl]; rfl)
    have q2 : ev (Cp n R pt kk) (.prim (.cmp .NotIn) (.cons (.var 6) (.cons (.var 2) .nil))) [some (.p (mPD n R)), some (.p (.list (pt.map .int))), some (.odk (kv k v)), some (.own (l.map .int)), some (.p (.int 0)), some (.p (.int x)), some (.p (.int t.2.1)), some (.p (.int t.2.2.1)), some (.p (.int t.2.2.2)), d9] = .ok (.p (.bool (!decide (t.2.1 ∈ k)))) [some (.p (mPD n R)), some (.p (.list (pt.map .int))), some (.odk (kv k v)), some (.own (l.map .int)), some (.p (.int 0)), some (.p (.int x)), some (.p (.int t.2.1)), some (.p (.int t.2.2.1)), some (.p (.int t.2.2.2)), d9] :=
      prim_c (as := [.s 6, .s 2]) (ds := [.p (.int t.2.1), .odk (kv k v)]) rfl rfl (by
        show Option.map (fun c => D.p (.bool c)) ((inD (.p (.int t.2.1)) (.odk (kv k v))).map (!·)) = _
        rw [in_kv]; rfl)
    have hc : evT (Cp n R pt kk) (.bop .And (.cons (.prim (.cmp .In) (.cons (.var 6) (.cons (.var 1) .nil))) (.cons (.prim (.cmp .NotIn) (.cons (.var 6) (.cons (.var 2) .nil))) .nil))) [some (.p (mPD n R)), some (.p (.list (pt.map .int))), some (.odk (kv k v)), some (.own (l.map .int)), some (.p (.int 0)), some (.p (.int x)), some (.p (.int t.2.1)), some (.p (.int t.2.2.1)), some (.p (.int t.2.2.2)), d9] = .ok (decide (t.2.1 ∈ pt) && !decide (t.2.1 ∈ k)) [some (.p (mPD n R)), some (.p (.list (pt.map .int))), some (.odk (kv k v)), some (.own (l.map .int)), some (.p (.int 0)), some (.p (.int x)), some (.p (.int t.2.1)), some (.p (.int t.2.2.1)), some (.p (.int t.2.2.2)), d9] :=
      evT_b (bop_c (and_c q1 fun _ => and_one q2))
    by_cases c : t.2.1 ∈ pt ∧ t.2.1 ∉ k
    · rw [decide_eq_true c.1, decide_eq_false c.2] at hc
      have hk' : (k ++ [t.2.1]).Nodup := by
        rw [List.nodup_append]
        exact ⟨hk, List.nodup_cons.mpr ⟨List.not_mem_nil, List.nodup_nil⟩, fun y hy z hz e => c.2 (by rw [← List.mem_singleton.mp hz, ← e]; exact hy)⟩
      have hp' : Pot1 R pt p (k ++ [t.2.1]) (up1 v t.2.1 (v x + t.2.2.1)) := by
        intro q hq
        rcases List.mem_append.mp hq with z | z
        · obtain ⟨g1, a, g2, g3⟩ := hp q z
          refine ⟨g1, a, g2, ?_⟩
          unfold up1
          rw [if_neg (fun e => c.2 (by rw [← e]; exact z)), g3]
        · have z := List.mem_singleton.mp z
          obtain ⟨_, a, g2, g3⟩ := hp x hx
          refine ⟨z ▸ c.1, a ++ [t], Wk_snoc (by rw [ht.2]; exact g2) ht.1 z.symm, ?_⟩
          unfold up1
          rw [if_pos z, tot_app, tot_one, g3]
      obtain ⟨nw, v', e6, e7, e8, ih, i1, i2, i3⟩ := pb_in kk n R pt p x d9 ts (k ++ [t.2.1]) (l ++ [t.2.1]) (up1 v t.2.1 (v x + t.2.2.1)) (some (.p (.int t.2.1))) (some (.p (.int t.2.2.1))) (some (.p (.int t.2.2.2))) (fun u hu => hs u (List.mem_cons_of_mem _ hu)) (List.mem_append_left _ hx) hk' hp' (by rw [List.length_append, List.length_singleton]; omega) (by rw [List.length_append, List.length_singleton]; omega)
      rw [List.append_assoc, List.append_assoc, List.singleton_append] at ih
      rw [List.append_assoc, List.singleton_append] at i1 i2 i3
      have q3 : ev (Cp n R pt kk) (.prim (.bin .Add) (.cons (.prim .idx (.cons (.var 2) (.cons (.var 5) .nil))) (.cons (.var 7) .nil))) [some (.p (mPD n R)), some (.p (.list (pt.map .int))), some (.odk (kv k v)), some (.own (l.map .int)), some (.p (.int 0)), some (.p (.int x)), some (.p (.int t.2.1)), some (.p (.int t.2.2.1)), some (.p (.int t.2.2.2)), d9] = .ok (.p (.int (v x + t.2.2.1))) [some (.p (mPD n R)), some (.p (.list (pt.map .int))), some (.odk (kv k v)), some (.own (l.map .int)), some (.p (.int 0)), some (.p (.int x)), some (.p (.int t.2.1)), some (.p (.int t.2.2.1)), some (.p (.int t.2.2.2)), d9] :=
        prim_c (as := [.v (.p (.int (v x))), .s 7]) (ds := [.p (.int (v x)), .p (.int t.2.2.1)]) (evA_c (fun i z => by cases z) (prim_c (as := [.s 2, .s 5]) (ds := [.odk (kv k v), .p (.int x)]) rfl rfl (idx_kv hx)) (evA_v rfl evA_n)) rfl rfl
      refine ⟨t.2.1 :: nw, v', e6, e7, e8, forL_cons (ρ1 := [some (.p (mPD n R)), some (.p (.list (pt.map .int))), some (.odk (kv k v)), some (.own (l.map .int)), some (.p (.int 0)), some (.p (.int x)), some (.p (.int t.2.1)), some (.p (.int t.2.2.1)), some (.p (.int t.2.2.2)), d9]) (ρ2 := [some (.p (mPD n R)), some (.p (.list (pt.map .int))), some (.odk (kv (k ++ [t.2.1]) (up1 v t.2.1 (v x + t.2.2.1)))), some (.own ((l ++ [t.2.1]).map .int)), some (.p (.int 0)), some (.p (.int x)), some (.p (.int t.2.1)), some (.p (.int t.2.2.1)), some (.p (.int t.2.2.2)), d9]) rfl (ift_nx hc (st_s (setx_c (ρ2 := [some (.p (mPD n R)), some (.p (.list (pt.map .int))), some (.odk (kv k v)), some (.own (l.map .int)), some (.p (.int 0)), some (.p (.int x)), some (.p (.int t.2.1)), some (.p (.int t.2.2.1)), some (.p (.int t.2.2.2)), d9]) (x := .odk (kv k v)) (y := .odk (kv (k ++ [t.2.1]) (up1 v t.2.1 (v x + t.2.2.1)))) q3 rfl (read_p (i := 6) rfl) rfl (set_kv c.2 (Nat.lt_of_le_of_lt (by omega : k.length ≤ 1000) (by decide))) rfl) (st_s (app_i (ρ1 := [some (.p (mPD n R)), some (.p (.list (pt.map .int))), some (.odk (kv (k ++ [t.2.1]) (up1 v t.2.1 (v x + t.2.2.1)))), some (.own (l.map .int)), some (.p (.int 0)), some (.p (.int x)), some (.p (.int t.2.1)), some (.p (.int t.2.2.1)), some (.p (.int t.2.2.2)), d9]) (ρ2 := [some (.p (mPD n R)), some (.p (.list (pt.map .int))), some (.odk (kv (k ++ [t.2.1]) (up1 v t.2.1 (v x + t.2.2.1)))), some (.own ((l ++ [t.2.1]).map .int)), some (.p (.int 0)), some (.p (.int x)), some (.p (.int t.2.1)), some (.p (.int t.2.2.1)), some (.p (.int t.2.2.2)), d9]) (l := l) (x := t.2.1) rfl rfl rfl (Nat.lt_of_le_of_lt (by omega : l.length ≤ 1000) (by decide)) rfl) nil_c)) nil_c) ih, i1, i2, fun u hu hm => ?_⟩
      rcases List.mem_cons.mp hu with e | e
      · rw [e]; exact List.mem_append_right _ List.mem_cons_self
      · exact i3 u e hm
    · have hc' : (decide (t.2.1 ∈ pt) && !decide (t.2.1 ∈ k)) = false := by
        by_cases c1 : t.2.1 ∈ pt
        · have c2 : t.2.1 ∈ k := Classical.byContradiction fun z => c ⟨c1, z⟩
          rw [decide_eq_true c1, decide_eq_true c2]; rfl
        · rw [decide_eq_false c1]; rfl
      rw [hc'] at hc
      obtain ⟨nw, v', e6, e7, e8, ih, i1, i2, i3⟩ := pb_in kk n R pt p x d9 ts k l v (some (.p (.int t.2.1))) (some (.p (.int t.2.2.1))) (some (.p (.int t.2.2.2))) (fun u hu => hs u (List.mem_cons_of_mem _ hu)) hx hk hp (by omega) (by omega)
      refine ⟨nw, v', e6, e7, e8, forL_cons (ρ1 := [some (.p (mPD n R)), some (.p (.list (pt.map .int))), some (.odk (kv k v)), some (.own (l.map .int)), some (.p (.int 0)), some (.p (.int x)), some (.p (.int t.2.1)), some (.p (.int t.2.2.1)), some (.p (.int t.2.2.2)), d9]) rfl (iff_s hc nil_c) ih, i1, i2, fun u hu hm => ?_⟩
      rcases List.mem_cons.mp hu with e | e
      · rw [e] at hm ⊢
        exact List.mem_append_left _ (Classical.byContradiction fun z => c ⟨hm, z⟩)
      · exact i3 u e hm
theorem pb_loop (kk n : Nat) (R : List R4) (pt : List Int) (p : Int) (g : GoodR n R) (n12 : n ≤ 12) (hpt : ∀ q ∈ pt, 0 ≤ q ∧ q < n) (d9 : Option D) : ∀ (N : Nat) (k l : List Int) (v : Int → Int) (d5 d6 d7 d8 : Option D), 2 * (n - k.length) + l.length ≤ N → k.Nodup → Pot1 R pt p k v → (∀ x ∈ l, x ∈ k) → l.length ≤ k.length →
    (∀ x ∈ k, x ∉ l → ∀ t ∈ R, t.1 = x → t.2.1 ∈ pt → t.2.1 ∈ k) → p ∈ k →
    ∃ (k' : List Int) (v' : Int → Int) (e5 e6 e7 e8 : Option D), wS (evT (Cp n R pt (kk + 1)) c_part_beat_0) (exs (Cp n R pt (kk + 1)) b_part_beat_0) [some (.p (mPD n R)), some (.p (.list (pt.map .int))), some (.odk (kv k v)), some (.own (l.map .int)), some (.p (.int 0)), d5, d6, d7, d8, d9] = .nx [some (.p (mPD n R)), some (.p (.list (pt.map .int))), some (.odk (kv k' v')), some (.own []), some (.p (.int 0)), e5, e6, e7, e8, d9] ∧
      Pot1 R pt p k' v' ∧ (∀ x ∈ k', ∀ t ∈ R, t.1 = x → t.2.1 ∈ pt → t.2.1 ∈ k') ∧ p ∈ k'
  | N, k, l, v, d5, d6, d7, d8, hN, hk, hp, hl, hll, hc, hpk => by
    have hlen : ∀ (k : List Int) (v : Int → Int), k.Nodup → Pot1 R pt p k v → k.length ≤ n := fun k v hk hp => by
      have := nodup_len (m := rngZ n) hk fun x hx => mem_rngZ.mpr (hpt x (hp x hx).1)
      unfold rngZ at this
      rw [List.length_map, List.length_range] at this; exact this
    have hkn := hlen k v hk hp
    have hcond : evT (Cp n R pt (kk + 1)) c_part_beat_0 [some (.p (mPD n R)), some (.p (.list (pt.map .int))), some (.odk (kv k v)), some (.own (l.map .int)), some (.p (.int 0)), d5, d6, d7, d8, d9] = .ok (!decide (l = [])) [some (.p (mPD n R)), some (.p (.list (pt.map .int))), some (.odk (kv k v)), some (.own (l.map .int)), some (.p (.int 0)), d5, d6, d7, d8, d9] :=
      evT_b (prim_c (as := [.s 3, .v (.own [])]) (ds := [.own (l.map .int), .own []]) rfl rfl (by
        show Option.map (fun c => D.p (.bool c)) ((eqD (.own (l.map .int)) (.own [])).map (!·)) = _
        rw [eq_ints (a := l) (b := []) rfl rfl]; rfl))
    rcases List.eq_nil_or_concat l with e | ⟨l0, x, e⟩
    · subst e
      exact ⟨k, v, d5, d6, d7, d8, wS_f (hcond.trans (by rw [decide_eq_true rfl]; rfl)), hp, fun x hx t ht e hm => hc x hx List.not_mem_nil t ht e hm, hpk⟩
    · rw [List.concat_eq_append] at e
      subst e
      have hx := hl x (List.mem_append_right _ (List.mem_singleton.mpr rfl))
      have hf16 : ((R.filter fun t => decide (t.1 = x)).length) ≤ 16 := Nat.le_trans (List.length_filter_le _ _) g.len
      rw [List.length_append, List.length_singleton] at hll hN
      obtain ⟨nw, v1, e6, e7, e8, hin, i1, i2, i3⟩ := pb_in (kk + 1) n R pt p x d9 (R.filter fun t => decide (t.1 = x)) k l0 v d6 d7 d8 (fun t ht => ⟨(List.mem_filter.mp ht).1, of_decide_eq_true (List.mem_filter.mp ht).2⟩) hx hk hp (by omega) (by omega)
      have hkn' := hlen _ _ i1 i2
      rw [List.length_append] at hkn'
      match N, hN with
      | 0, hN => omega
      | N + 1, hN =>
        obtain ⟨k', v', f5, f6, f7, f8, w, r1, r2, r3⟩ := pb_loop kk n R pt p g n12 hpt d9 N (k ++ nw) (l0 ++ nw) v1 (some (.p (.int x))) e6 e7 e8 (by rw [List.length_append, List.length_append]; omega) i1 i2 (fun y hy => by
          rcases List.mem_append.mp hy with q | q
          · exact List.mem_append_left _ (hl y (List.mem_append_left _ q))
          · exact List.mem_append_right _ q) (by rw [List.length_append, List.length_append]; omega) (fun y hy hny t ht e hm => by
          by_cases hyx : y = x
          · exact i3 t (List.mem_filter.mpr ⟨ht, decide_eq_true (e.trans hyx)⟩) hm
          · rcases List.mem_append.mp hy with q | q
            · refine List.mem_append_left _ (hc y q (fun z => ?_) t ht e hm)
              rcases List.mem_append.mp z with z | z
              · exact hny (List.mem_append_left _ z)
              · exact hyx (List.mem_singleton.mp z)
            · exact absurd (List.mem_append_right _ q) hny) (List.mem_append_left _ hpk)
        have hpop : ev (Cp n R pt (kk + 1)) (.pop 3) [some (.p (mPD n R)), some (.p (.list (pt.map .int))), some (.odk (kv k v)), some (.own ((l0 ++ [x]).map .int)), some (.p (.int 0)), d5, d6, d7, d8, d9] = .ok (.p (.int x)) [some (.p (mPD n R)), some (.p (.list (pt.map .int))), some (.odk (kv k v)), some (.own (l0.map .int)), some (.p (.int 0)), d5, d6, d7, d8, d9] := by
          refine (pop_c (l := l0.map .int) (d := .int x) ?_).trans rfl
          rw [List.map_append]; rfl
        refine ⟨k', v', f5, f6, f7, f8, wS_t (ρ1 := [some (.p (mPD n R)), some (.p (.list (pt.map .int))), some (.odk (kv k v)), some (.own ((l0 ++ [x]).map .int)), some (.p (.int 0)), d5, d6, d7, d8, d9]) (hcond.trans ?_) (asg_s hpop rfl (show 5 < 10 by decide) (ρ2 := [some (.p (mPD n R)), some (.p (.list (pt.map .int))), some (.odk (kv k v)), some (.own (l0.map .int)), some (.p (.int 0)), some (.p (.int x)), d6, d7, d8, d9]) rfl (st_s (for_c (xs := lead R x) (ρ1 := [some (.p (mPD n R)), some (.p (.list (pt.map .int))), some (.odk (kv k v)), some (.own (l0.map .int)), some (.p (.int 0)), some (.p (.int x)), d6, d7, d8, d9]) ?_ hin) nil_c)) w, r1, r2, r3⟩
        · rw [decide_eq_false (by simp)]; rfl
        · have hcall : ev (Cp n R pt (kk + 1)) (.call 23 [none, none] (.cons (.var 0) (.cons (.var 5) .nil)) .nil) [some (.p (mPD n R)), some (.p (.list (pt.map .int))), some (.odk (kv k v)), some (.own (l0.map .int)), some (.p (.int 0)), some (.p (.int x)), d6, d7, d8, d9] = .ok (.own (lead R x)) [some (.p (mPD n R)), some (.p (.list (pt.map .int))), some (.odk (kv k v)), some (.own (l0.map .int)), some (.p (.int 0)), some (.p (.int x)), d6, d7, d8, d9] :=
            call_c (as := [.s 0, .s 5]) (bs := []) (ds := [.p (mPD n R), .p (.int x)]) (ps := [.p (mPD n R), .p (.int x)]) (qs := [.p (mPD n R), .p (.int x)]) (ρ1 := [some (.p (mPD n R)), some (.p (.list (pt.map .int))), some (.odk (kv k v)), some (.own (l0.map .int)), some (.p (.int 0)), some (.p (.int x)), d6, d7, d8, d9]) (ρ2 := [some (.p (mPD n R)), some (.p (.list (pt.map .int))), some (.odk (kv k v)), some (.own (l0.map .int)), some (.p (.int 0)), some (.p (.int x)), d6, d7, d8, d9]) rfl evA_n rfl rfl rfl (r_roads_from kk n R x (Nat.le_trans g.len (by decide))) rfl
          rw [evI, hcall]; rfl
end Law_k41

namespace Law_k41
open PySem PySem.Spec L2 Pv
theorem par3_c {C : Pv.Ctx} {ρ ρ1 ρ2 ρ3 ρ4 : Pv.Env} {i j k : Nat} {e1 e2 e3 : E} {d1 d2 d3 : D} (h1 : ev C e1 ρ = .ok d1 ρ1) (h2 : ev C e2 ρ1 = .ok d2 ρ2) (h3 : ev C e3 ρ2 = .ok d3 ρ3) (hp : putAll C [i, j, k] [d1, d2, d3] ρ3 = some ρ4) : ex C (.par [i, j, k] (.cons e1 (.cons e2 (.cons e3 .nil)))) ρ = .nx ρ4 := by
  rw [ex, evL_c h1 (evL_c h2 (evL_c h3 evL_n))]
  show (match putAll C [i, j, k] [d1, d2, d3] ρ3 with | some ρ2 => Fl.nx ρ2 | none => Fl.bad) = _
  rw [hp]
theorem pb_for (kk n : Nat) (R : List R4) (pt k : List Int) (v : Int → Int) (hk : ∀ q ∈ pt, q ∈ k) (d5 : Option D) : ∀ (ts : List R4) (f : Nat) (d6 d7 d8 d9 : Option D),
    ∃ (f' : Nat) (e6 e7 e8 e9 : Option D), forL (Cp n R pt kk) t_part_beat_2 (exs (Cp n R pt kk) b_part_beat_2) (ts.map rd) [some (.p (mPD n R)), some (.p (.list (pt.map .int))), some (.odk (kv k v)), some (.own []), some (.p (.int (f : Nat))), d5, d6, d7, d8, d9] = .nx [some (.p (mPD n R)), some (.p (.list (pt.map .int))), some (.odk (kv k v)), some (.own []), some (.p (.int (f' : Nat))), d5, e6, e7, e8, e9] ∧
      ∀ d : Nat, d ∣ f' ↔ d ∣ f ∧ ∀ t ∈ ts, t.1 ∈ pt → t.2.1 ∈ pt → (d : Int) ∣ v t.1 + t.2.2.1 - v t.2.1
  | [], f, d6, d7, d8, d9 => ⟨f, d6, d7, d8, d9, forL_nil, fun d => ⟨fun h => ⟨h, fun t ht => nomatch ht⟩, fun h => h.1⟩⟩
  | t :: ts, f, d6, d7, d8, d9 => by
    have q1 : ev (Cp n R pt kk) (.prim (.cmp .In) (.cons (.var 9) (.cons (.var 1) .nil))) [some (.p (mPD n R)), some (.p (.list (pt.map .int))), some (.odk (kv k v)), some (.own []), some (.p (.int (f : Nat))), d5, some (.p (.int t.2.1)), some (.p (.int t.2.2.1)), some (.p (.int t.2.2.2)), some (.p (.int t.1))] = .ok (.p (.bool (decide (t.1 ∈ pt)))) [some (.p (mPD n R)), some (.p (.list (pt.map .int))), some (.odk (kv k v)), some (.own []), some (.p (.int (f : Nat))), d5, some (.p (.int t.2.1)), some (.p (.int t.2.2.1)), some (.p (.int t.2.2.2)), some (.p (.int t.1))] :=
      prim_c (as := [.s 9, .s 1]) (ds := [.p (.int t.1), .p (.list (pt.map .int))]) rfl rfl (by
        show Option.map (fun c => D.p (.bool c)) (inD (.p (.int t.1)) (.p (.list (pt.map .int)))) = _
        rw [in_ints (b := .p (.list (pt.map .int))) rfl]; rfl)
    have q2 : ev (Cp n R pt kk) (.prim (.cmp .In) (.cons (.var 6) (.cons (.var 1) .nil))) [some (.p (mPD n R)), some (.p (.list (pt.map .int))), some (.odk (kv k v)), some (.own []), some (.p (.int (f : Nat))), d5, some (.p (.int t.2.1)), some (.p (.int t.2.2.1)), some (.p (.int t.2.2.2)), some (.p (.int t.1))] = .ok (.p (.bool (decide (t.2.1 ∈ pt)))) [some (.p (mPD n R)), some (.p (.list (pt.map .int))), some (.odk (kv k v)), some (.own []), some (.p (.int (f : Nat))), d5, some (.p (.int t.2.1)), some (.p (.int t.2.2.1)), some (.p (.int t.2.2.2)), some (.p (.int t.1))] :=
      prim_c (as := [.s 6, .s 1]) (ds := [.p (.int t.2.1), .p (.list (pt.map .int))]) rfl rfl (by
        show Option.map (fun c => D.p (.bool c)) (inD (.p (.int t.2.1)) (.p (.list (pt.map .int)))) = _
        rw [in_ints (b := .p (.list (pt.map .int))) rfl]; rfl)
    have hc : evT (Cp n R pt kk) (.bop .And (.cons (.prim (.cmp .In) (.cons (.var 9) (.cons (.var 1) .nil))) (.cons (.prim (.cmp .In) (.cons (.var 6) (.cons (.var 1) .nil))) .nil))) [some (.p (mPD n R)), some (.p (.list (pt.map .int))), some (.odk (kv k v)), some (.own []), some (.p (.int (f : Nat))), d5, some (.p (.int t.2.1)), some (.p (.int t.2.2.1)), some (.p (.int t.2.2.2)), some (.p (.int t.1))] = .ok (decide (t.1 ∈ pt) && decide (t.2.1 ∈ pt)) [some (.p (mPD n R)), some (.p (.list (pt.map .int))), some (.odk (kv k v)), some (.own []), some (.p (.int (f : Nat))), d5, some (.p (.int t.2.1)), some (.p (.int t.2.2.1)), some (.p (.int t.2.2.2)), some (.p (.int t.1))] :=
      evT_b (bop_c (and_c q1 fun _ => and_one q2))
    by_cases c : t.1 ∈ pt ∧ t.2.1 ∈ pt
    · rw [decide_eq_true c.1, decide_eq_true c.2] at hc
      obtain ⟨f', e6, e7, e8, e9, ih, i1⟩ := pb_for kk n R pt k v hk d5 ts (Nat.gcd f (v t.1 + t.2.2.1 - v t.2.1).natAbs) (some (.p (.int t.2.1))) (some (.p (.int t.2.2.1))) (some (.p (.int t.2.2.2))) (some (.p (.int t.1)))
      have q3 : ev (Cp n R pt kk) (.prim .idx (.cons (.var 2) (.cons (.var 9) .nil))) [some (.p (mPD n R)), some (.p (.list (pt.map .int))), some (.odk (kv k v)), some (.own []), some (.p (.int (f : Nat))), d5, some (.p (.int t.2.1)), some (.p (.int t.2.2.1)), some (.p (.int t.2.2.2)), some (.p (.int t.1))] = .ok (.p (.int (v t.1))) [some (.p (mPD n R)), some (.p (.list (pt.map .int))), some (.odk (kv k v)), some (.own []), some (.p (.int (f : Nat))), d5, some (.p (.int t.2.1)), some (.p (.int t.2.2.1)), some (.p (.int t.2.2.2)), some (.p (.int t.1))] := prim_c (as := [.s 2, .s 9]) (ds := [.odk (kv k v), .p (.int t.1)]) rfl rfl (idx_kv (hk _ c.1))
      have q4 : ev (Cp n R pt kk) (.prim .idx (.cons (.var 2) (.cons (.var 6) .nil))) [some (.p (mPD n R)), some (.p (.list (pt.map .int))), some (.odk (kv k v)), some (.own []), some (.p (.int (f : Nat))), d5, some (.p (.int t.2.1)), some (.p (.int t.2.2.1)), some (.p (.int t.2.2.2)), some (.p (.int t.1))] = .ok (.p (.int (v t.2.1))) [some (.p (mPD n R)), some (.p (.list (pt.map .int))), some (.odk (kv k v)), some (.own []), some (.p (.int (f : Nat))), d5, some (.p (.int t.2.1)), some (.p (.int t.2.2.1)), some (.p (.int t.2.2.2)), some (.p (.int t.1))] := prim_c (as := [.s 2, .s 6]) (ds := [.odk (kv k v), .p (.int t.2.1)]) rfl rfl (idx_kv (hk _ c.2))
      have q5 : ev (Cp n R pt kk) (.prim (.bin .Add) (.cons (.prim .idx (.cons (.var 2) (.cons (.var 9) .nil))) (.cons (.var 7) .nil))) [some (.p (mPD n R)), some (.p (.list (pt.map .int))), some (.odk (kv k v)), some (.own []), some (.p (.int (f : Nat))), d5, some (.p (.int t.2.1)), some (.p (.int t.2.2.1)), some (.p (.int t.2.2.2)), some (.p (.int t.1))] = .ok (.p (.int (v t.1 + t.2.2.1))) [some (.p (mPD n R)), some (.p (.list (pt.map .int))), some (.odk (kv k v)), some (.own []), some (.p (.int (f : Nat))), d5, some (.p (.int t.2.1)), some (.p (.int t.2.2.1)), some (.p (.int t.2.2.2)), some (.p (.int t.1))] :=
        prim_c (as := [.v (.p (.int (v t.1))), .s 7]) (ds := [.p (.int (v t.1)), .p (.int t.2.2.1)]) (evA_c (fun i z => by cases z) q3 (evA_v rfl evA_n)) rfl rfl
      have q6 : ev (Cp n R pt kk) (.prim (.bin .Sub) (.cons (.prim (.bin .Add) (.cons (.prim .idx (.cons (.var 2) (.cons (.var 9) .nil))) (.cons (.var 7) .nil))) (.cons (.prim .idx (.cons (.var 2) (.cons (.var 6) .nil))) .nil))) [some (.p (mPD n R)), some (.p (.list (pt.map .int))), some (.odk (kv k v)), some (.own []), some (.p (.int (f : Nat))), d5, some (.p (.int t.2.1)), some (.p (.int t.2.2.1)), some (.p (.int t.2.2.2)), some (.p (.int t.1))] = .ok (.p (.int (v t.1 + t.2.2.1 - v t.2.1))) [some (.p (mPD n R)), some (.p (.list (pt.map .int))), some (.odk (kv k v)), some (.own []), some (.p (.int (f : Nat))), d5, some (.p (.int t.2.1)), some (.p (.int t.2.2.1)), some (.p (.int t.2.2.2)), some (.p (.int t.1))] :=
        prim2 (fun i z => by cases z) (fun i z => by cases z) q5 q4 rfl
      refine ⟨f', e6, e7, e8, e9, forL_cons (ρ1 := [some (.p (mPD n R)), some (.p (.list (pt.map .int))), some (.odk (kv k v)), some (.own []), some (.p (.int (f : Nat))), d5, some (.p (.int t.2.1)), some (.p (.int t.2.2.1)), some (.p (.int t.2.2.2)), some (.p (.int t.1))]) (ρ2 := [some (.p (mPD n R)), some (.p (.list (pt.map .int))), some (.odk (kv k v)), some (.own []), some (.p (.int (Nat.gcd f (v t.1 + t.2.2.1 - v t.2.1).natAbs : Nat))), d5, some (.p (.int t.2.1)), some (.p (.int t.2.2.1)), some (.p (.int t.2.2.2)), some (.p (.int t.1))]) rfl (ift_nx hc (asg_s (ρ1 := [some (.p (mPD n R)), some (.p (.list (pt.map .int))), some (.odk (kv k v)), some (.own []), some (.p (.int (f : Nat))), d5, some (.p (.int t.2.1)), some (.p (.int t.2.2.1)), some (.p (.int t.2.2.2)), some (.p (.int t.1))]) (ρ2 := [some (.p (mPD n R)), some (.p (.list (pt.map .int))), some (.odk (kv k v)), some (.own []), some (.p (.int (Nat.gcd f (v t.1 + t.2.2.1 - v t.2.1).natAbs : Nat))), d5, some (.p (.int t.2.1)), some (.p (.int t.2.2.1)), some (.p (.int t.2.2.2)), some (.p (.int t.1))]) (d := .p (.int (Nat.gcd f (v t.1 + t.2.2.1 - v t.2.1).natAbs : Nat))) (prim_c (as := [.s 4, .v (.p (.int (v t.1 + t.2.2.1 - v t.2.1)))]) (ds := [.p (.int (f : Nat)), .p (.int (v t.1 + t.2.2.1 - v t.2.1))]) (evA_v rfl (evA_c (fun i z => by cases z) q6 evA_n)) rfl ?_) rfl (show 4 < 10 by decide) rfl nil_c) nil_c) ih, fun d => ?_⟩
      · show some (D.p (.int ((Nat.gcd ((f : Nat) : Int).natAbs (v t.1 + t.2.2.1 - v t.2.1).natAbs : Nat) : Int))) = _
        rw [Int.natAbs_natCast]
      · rw [i1 d, Nat.dvd_gcd_iff, ← Int.ofNat_dvd_left]
        constructor
        · rintro ⟨⟨h1, h2⟩, h3⟩
          exact ⟨h1, fun u hu a b => (List.mem_cons.mp hu).elim (fun e => by rw [e]; exact h2) fun e => h3 u e a b⟩
        · rintro ⟨h1, h2⟩
          exact ⟨⟨h1, h2 t List.mem_cons_self c.1 c.2⟩, fun u hu => h2 u (List.mem_cons_of_mem _ hu)⟩
    · have hc' : (decide (t.1 ∈ pt) && decide (t.2.1 ∈ pt)) = false := by
        by_cases c1 : t.1 ∈ pt
        · rw [decide_eq_false (fun z => c ⟨c1, z⟩), Bool.and_false]
        · rw [decide_eq_false c1]; rfl
      rw [hc'] at hc
      obtain ⟨f', e6, e7, e8, e9, ih, i1⟩ := pb_for kk n R pt k v hk d5 ts f (some (.p (.int t.2.1))) (some (.p (.int t.2.2.1))) (some (.p (.int t.2.2.2))) (some (.p (.int t.1)))
      refine ⟨f', e6, e7, e8, e9, forL_cons (ρ1 := [some (.p (mPD n R)), some (.p (.list (pt.map .int))), some (.odk (kv k v)), some (.own []), some (.p (.int (f : Nat))), d5, some (.p (.int t.2.1)), some (.p (.int t.2.2.1)), some (.p (.int t.2.2.2)), some (.p (.int t.1))]) rfl (iff_s hc nil_c) ih, fun d => ?_⟩
      rw [i1 d]
      constructor
      · rintro ⟨h1, h2⟩
        exact ⟨h1, fun u hu a b => (List.mem_cons.mp hu).elim (fun e => by rw [e] at a b; exact absurd ⟨a, b⟩ c) fun e => h2 u e a b⟩
      · rintro ⟨h1, h2⟩
        exact ⟨h1, fun u hu => h2 u (List.mem_cons_of_mem _ hu)⟩
/-- the places that lead to p and from it, p first -/
def IsPart (R : List R4) (pt : List Int) : Prop := ∃ p tl, pt = p :: tl ∧ ∀ q, q ∈ pt ↔ Rch R p q ∧ Rch R q p
theorem Wk_rch {R : List R4} : ∀ {a : List R4} {p q : Int}, Wk R p a q → p = q ∨ Rch R p q
  | [], _, _, h => .inl h
  | t :: a, p, q, ⟨h1, h2, h3⟩ => by
    rcases Wk_rch h3 with e | e
    · exact .inr (.one ⟨t, h1, h2, e⟩)
    · exact .inr (.step ⟨t, h1, h2, rfl⟩ e)
theorem rch_Wk {R : List R4} {p q : Int} (h : Rch R p q) : ∃ a, a ≠ [] ∧ Wk R p a q := by
  induction h with
  | one e => obtain ⟨t, h1, h2, h3⟩ := e; exact ⟨[t], (fun z => nomatch z), h1, h2, h3⟩
  | step e _ ih =>
    obtain ⟨t, h1, h2, h3⟩ := e
    obtain ⟨a, _, w⟩ := ih
    exact ⟨t :: a, (fun z => nomatch z), h1, h2, by rw [h3]; exact w⟩
theorem tele {R : List R4} {v : Int → Int} {pt : List Int} {d : Nat} (h : ∀ t ∈ R, t.1 ∈ pt → t.2.1 ∈ pt → (d : Int) ∣ v t.1 + t.2.2.1 - v t.2.1) : ∀ {ts : List R4} {p q : Int}, Wk R p ts q → (∀ t ∈ ts, t.1 ∈ pt ∧ t.2.1 ∈ pt) → (d : Int) ∣ v p + tot ts - v q
  | [], p, q, w, _ => by
    have w : p = q := w
    subst w
    have : tot [] = 0 := rfl
    rw [this]
    exact ⟨0, by omega⟩
  | t :: ts, p, q, ⟨h1, h2, h3⟩, hm => by
    have ih := tele h h3 fun u hu => hm u (List.mem_cons_of_mem _ hu)
    have h0 := h t h1 (hm t List.mem_cons_self).1 (hm t List.mem_cons_self).2
    have et : tot (t :: ts) = t.2.2.1 + tot ts := by unfold tot; rw [List.map_cons, List.sum_cons]
    rw [et, ← h2]
    have := Int.dvd_add h0 ih
    rw [show v t.1 + (t.2.2.1 + tot ts) - v q = v t.1 + t.2.2.1 - v t.2.1 + (v t.2.1 + tot ts - v q) from by omega]
    exact this
theorem part_iff {R : List R4} {p : Int} {tl : List Int} {v : Int → Int} {d : Nat} (hq : ∀ q, q ∈ p :: tl ↔ Rch R p q ∧ Rch R q p) (hv : ∀ q ∈ p :: tl, ∃ a, Wk R p a q ∧ v q = tot a) :
    (∀ t ∈ R, t.1 ∈ p :: tl → t.2.1 ∈ p :: tl → (d : Int) ∣ v t.1 + t.2.2.1 - v t.2.1) ↔ ∀ s ts, s ∈ p :: tl → ts ≠ [] → Wk R s ts s → (d : Int) ∣ tot ts := by
  constructor
  · intro h s ts hs hne w
    have hm : ∀ t ∈ ts, t.1 ∈ p :: tl ∧ t.2.1 ∈ p :: tl := by
      intro t ht
      obtain ⟨a, b, e⟩ := List.append_of_mem ht
      obtain ⟨m, w1, w2⟩ := Wk_app.mp (e ▸ w)
      have em : t.1 = m := Wk_head w2
      subst em
      obtain ⟨p1, p2⟩ := (hq s).mp hs
      have r1 : Rch R p t.1 := (Wk_rch w1).elim (fun e => e ▸ p1) fun r => p1.trans r
      have r2 : Rch R t.2.1 p := (Wk_rch w2.2.2).elim (fun e => e ▸ p2) fun r => r.trans p2
      exact ⟨(hq _).mpr ⟨r1, .step ⟨t, w2.1, rfl, rfl⟩ r2⟩, (hq _).mpr ⟨r1.snoc ⟨t, w2.1, rfl, rfl⟩, r2⟩⟩
    have := tele h w hm
    rwa [show v s + tot ts - v s = tot ts from by omega] at this
  · intro h t ht h1 h2
    obtain ⟨a1, w1, e1⟩ := hv _ h1
    obtain ⟨a2, w2, e2⟩ := hv _ h2
    obtain ⟨a3, ne, w3⟩ := rch_Wk ((hq _).mp h2).2
    have hp : p ∈ p :: tl := List.mem_cons_self
    have c1 := h p (a1 ++ t :: a3) hp (by simp) (Wk_app.mpr ⟨t.1, w1, ht, rfl, w3⟩)
    have c2 := h p (a2 ++ a3) hp (by simp [ne]) (Wk_app.mpr ⟨t.2.1, w2, w3⟩)
    rw [tot_app] at c1 c2
    have et : tot (t :: a3) = t.2.2.1 + tot a3 := by unfold tot; rw [List.map_cons, List.sum_cons]
    rw [et] at c1
    have := Int.dvd_sub c1 c2
    rw [e1, e2]
    rwa [show tot a1 + (t.2.2.1 + tot a3) - (tot a2 + tot a3) = tot a1 + t.2.2.1 - tot a2 from by omega] at this
theorem r_part_beat (kk n : Nat) (R : List R4) (p : Int) (tl : List Int) (g : GoodR n R) (n12 : n ≤ 12) (hq : ∀ q, q ∈ p :: tl ↔ Rch R p q ∧ Rch R q p) :
    ∃ f : Nat, run prog (kk + 2) 39 [.p (mPD n R), .p (.list ((p :: tl).map .int))] = .ok (.p (.int (f : Nat))) [.p (mPD n R), .p (.list ((p :: tl).map .int))] ∧ ∀ d : Nat, d ∣ f ↔ ∀ s ts, s ∈ p :: tl → ts ≠ [] → Wk R s ts s → (d : Int) ∣ tot ts := by
  have hpt : ∀ q ∈ p :: tl, 0 ≤ q ∧ q < n := fun q h => ((hq q).mp h).1.rng g
  have hn1 : 1 ≤ n := by have := hpt p List.mem_cons_self; omega
  obtain ⟨k', v', e5, e6, e7, e8, hw, h1, h2, h3⟩ := pb_loop kk n R (p :: tl) p g n12 hpt none (2 * n) [p] [p] (fun _ => 0) none none none none (by simp; omega) (List.nodup_cons.mpr ⟨List.not_mem_nil, List.nodup_nil⟩) (fun q h => by
    rw [List.mem_singleton.mp h]
    exact ⟨List.mem_cons_self, [], rfl, rfl⟩) (fun x h => h) (Nat.le_refl _) (fun x h hn => absurd h hn) (List.mem_singleton.mpr rfl)
  have key : ∀ y q, Rch R y q → y ∈ k' → Rch R q p → q ∈ k' := by
    intro y q h
    induction h with
    | @one a b e =>
      intro hy hb
      obtain ⟨t, ht, t1, t2⟩ := e
      have ha := (hq _).mp (h1 _ hy).1
      have : b ∈ p :: tl := (hq _).mpr ⟨ha.1.snoc ⟨t, ht, t1, t2⟩, hb⟩
      have := h2 _ hy t ht t1 (by rw [t2]; exact this)
      rwa [t2] at this
    | @step a m b e r ih =>
      intro hy hb
      refine ih ?_ hb
      obtain ⟨t, ht, t1, t2⟩ := e
      have ha := (hq _).mp (h1 _ hy).1
      have : m ∈ p :: tl := (hq _).mpr ⟨ha.1.snoc ⟨t, ht, t1, t2⟩, r.trans hb⟩
      have := h2 _ hy t ht t1 (by rw [t2]; exact this)
      rwa [t2] at this
  have hall : ∀ q ∈ p :: tl, q ∈ k' := fun q h => key p q ((hq q).mp h).1 h3 ((hq q).mp h).2
  obtain ⟨f, f6, f7, f8, f9, hf, hd⟩ := pb_for (kk + 1) n R (p :: tl) k' v' hall e5 R 0 e6 e7 e8 none
  refine ⟨f, ?_, fun d => ?_⟩
  · refine (run_succ (fn := f_part_beat) rfl).trans ?_
    have hi : ev (Cp n R (p :: tl) (kk + 1)) (.prim .idx (.cons (.var 1) (.cons (.int 0) .nil))) [some (.p (mPD n R)), some (.p (.list ((p :: tl).map .int))), none, none, none, none, none, none, none, none] = .ok (.p (.int p)) [some (.p (mPD n R)), some (.p (.list ((p :: tl).map .int))), none, none, none, none, none, none, none, none] :=
      prim_c (as := [.s 1, .v (.p (.int 0))]) (ds := [.p (.list ((p :: tl).map .int)), .p (.int 0)]) rfl rfl (by
        show (atI ((p :: tl).map PyData.int) 0).map D.p = _
        exact congrArg (Option.map D.p) atI_zero)
    have hd1 : ev (Cp n R (p :: tl) (kk + 1)) (.dlit (.prim .idx (.cons (.var 1) (.cons (.int 0) .nil))) (.int 0)) [some (.p (mPD n R)), some (.p (.list ((p :: tl).map .int))), none, none, none, none, none, none, none, none] = .ok (.odk (kv [p] fun _ => 0)) [some (.p (mPD n R)), some (.p (.list ((p :: tl).map .int))), none, none, none, none, none, none, none, none] := by
      rw [ev, hi]; simp only [bind_ok]; rw [ev]; rfl
    have hl1 : ev (Cp n R (p :: tl) (kk + 1)) (.lst (.cons (.prim .idx (.cons (.var 1) (.cons (.int 0) .nil))) .nil)) [some (.p (mPD n R)), some (.p (.list ((p :: tl).map .int))), none, none, none, none, none, none, none, none] = .ok (.own (List.map .int [p])) [some (.p (mPD n R)), some (.p (.list ((p :: tl).map .int))), none, none, none, none, none, none, none, none] :=
      lst_c (evL_c hi evL_n) (show 1 ≤ line by decide) rfl
    refine runB_gv rfl rfl (.st (ρ2 := [some (.p (mPD n R)), some (.p (.list ((p :: tl).map .int))), some (.odk (kv [p] fun _ => 0)), some (.own (List.map .int [p])), some (.p (.int (0 : Nat))), none, none, none, none, none]) (par3_c (ρ1 := [some (.p (mPD n R)), some (.p (.list ((p :: tl).map .int))), none, none, none, none, none, none, none, none]) (ρ2 := [some (.p (mPD n R)), some (.p (.list ((p :: tl).map .int))), none, none, none, none, none, none, none, none]) (ρ3 := [some (.p (mPD n R)), some (.p (.list ((p :: tl).map .int))), none, none, none, none, none, none, none, none]) (d3 := .p (.int 0)) hd1 hl1 rfl rfl) (.st (ρ2 := [some (.p (mPD n R)), some (.p (.list ((p :: tl).map .int))), some (.odk (kv k' v')), some (.own []), some (.p (.int (0 : Nat))), e5, e6, e7, e8, none]) (by rw [ex]; exact hw) (.for_ (xs := R.map rd) (ρ1 := [some (.p (mPD n R)), some (.p (.list ((p :: tl).map .int))), some (.odk (kv k' v')), some (.own []), some (.p (.int (0 : Nat))), e5, e6, e7, e8, none]) rfl (.inl ⟨_, hf, .rt (ρ1 := [some (.p (mPD n R)), some (.p (.list ((p :: tl).map .int))), some (.odk (kv k' v')), some (.own []), some (.p (.int (f : Nat))), e5, f6, f7, f8, f9]) (by rw [exs, ex]; rfl) (gv rfl)⟩))))
  · rw [hd d, ← part_iff hq (v := v') fun q h => (h1 q (hall q h)).2]
    exact ⟨fun h => h.2, fun h => ⟨Nat.dvd_zero d, h⟩⟩
end Law_k41

namespace Law_k41
open PySem PySem.Spec L2 Pv
def ptP (l : List Int) : PD := .list (l.map .int)
noncomputable def partL (R : List R4) (n : Nat) (p : Int) : List Int := (reachL R n p).filter fun o => decide (p ∈ reachL R n o)
theorem mem_reachL {R : List R4} {n : Nat} (g : GoodR n R) {p q : Int} : q ∈ reachL R n p ↔ Rch R p q := by
  unfold reachL
  rw [List.mem_filter, mem_rngZ, rc_iff]
  exact ⟨fun h => h.2, fun h => ⟨h.rng g, h⟩⟩
theorem mem_partL {R : List R4} {n : Nat} (g : GoodR n R) {p q : Int} : q ∈ partL R n p ↔ Rch R p q ∧ Rch R q p := by
  unfold partL
  rw [List.mem_filter, decide_eq_true_eq, mem_reachL g, mem_reachL g]
theorem reachL_len {R : List R4} {n : Nat} {p : Int} : (reachL R n p).length ≤ n := by
  unfold reachL
  refine Nat.le_trans (List.length_filter_le _ _) ?_
  unfold rngZ; rw [List.length_map, List.length_range]; exact Nat.le_refl _
theorem isPart_partL {R : List R4} {n : Nat} (g : GoodR n R) {p : Int} (h : Rch R p p) : IsPart R (partL R n p) := by
  have hp : p ∈ partL R n p := (mem_partL g).mpr ⟨h, h⟩
  cases e : partL R n p with
  | nil => rw [e] at hp; cases hp
  | cons a tl =>
    refine ⟨a, tl, rfl, fun q => ?_⟩
    rw [← e, mem_partL g]
    have ha : a ∈ partL R n p := by rw [e]; exact List.mem_cons_self
    obtain ⟨a1, a2⟩ := (mem_partL g).mp ha
    exact ⟨fun ⟨h1, h2⟩ => ⟨a2.trans h1, h2.trans a1⟩, fun ⟨h1, h2⟩ => ⟨a1.trans h1, h2.trans a2⟩⟩
def b_parts_together_0 : Ss := (.cons (.ife (.bop .And (.cons (.prim (.cmp .In) (.cons (.var 4) (.cons (.prim .idx (.cons (.var 1) (.cons (.var 4) .nil))) .nil))) (.cons (.prim (.cmp .NotIn) (.cons (.var 4) (.cons (.var 3) .nil))) .nil))) (.cons (.asg (.v 5) (.lc (.var 6) (.v 6) (.seq (.prim .idx (.cons (.var 1) (.cons (.var 4) .nil)))) (.cons (.prim (.cmp .In) (.cons (.var 4) (.cons (.prim .idx (.cons (.var 1) (.cons (.var 6) .nil))) .nil))) .nil) [6])) (.cons (.app 2 (.var 5)) (.cons (.asg (.v 3) (.prim (.bin .Add) (.cons (.var 3) (.cons (.var 5) .nil)))) .nil))) .nil) .nil)
def t_parts_together_0 : T := (.v 4)
noncomputable abbrev Cq (n : Nat) (R : List R4) (kk : Nat) : Pv.Ctx := ⟨borOf [.p (mPD n R)], run prog kk⟩
noncomputable def rchs (R : List R4) (n : Nat) : List PD := (rngZ n).map fun q => ptP (reachL R n q)
theorem idx_rchs {R : List R4} {n : Nat} {q : Int} (h : 0 ≤ q ∧ q < n) : prD .idx [.own (rchs R n), .p (.int q)] = some (.p (ptP (reachL R n q))) := by
  show (atI (rchs R n) q).map D.p = _
  unfold rchs rngZ
  rw [List.map_map, atI_range h.1 h.2]
  show some (D.p (ptP (reachL R n ((q.toNat : Nat) : Int)))) = _
  rw [show ((q.toNat : Nat) : Int) = q from by omega]
theorem pt_for (kk n : Nat) (R : List R4) (g : GoodR n R) (n12 : n ≤ 12) : ∀ (qs : List Int) (PS : List (List Int)) (dn : List Int) (d4 d5 : Option D), (∀ q ∈ qs, 0 ≤ q ∧ q < n) → PS.length + qs.length ≤ 1000 → dn.length + 12 * qs.length ≤ 1000 → (∀ pt ∈ PS, IsPart R pt) → (∀ x ∈ dn, ∃ pt ∈ PS, x ∈ pt) →
    ∃ (PS' : List (List Int)) (dn' : List Int) (e4 e5 : Option D), forL (Cq n R kk) t_parts_together_0 (exs (Cq n R kk) b_parts_together_0) (qs.map .int) [some (.p (mPD n R)), some (.own (rchs R n)), some (.own (PS.map ptP)), some (.own (dn.map .int)), d4, d5, none] = .nx [some (.p (mPD n R)), some (.own (rchs R n)), some (.own (PS'.map ptP)), some (.own (dn'.map .int)), e4, e5, none] ∧
      (∀ pt ∈ PS', IsPart R pt) ∧ (∀ x ∈ dn', ∃ pt ∈ PS', x ∈ pt) ∧ (∀ x ∈ dn, x ∈ dn') ∧ ∀ q ∈ qs, Rch R q q → q ∈ dn'
  | [], PS, dn, d4, d5, hr, h1, h2, h3, h4 => ⟨PS, dn, d4, d5, forL_nil, h3, h4, fun x h => h, fun q h => nomatch h⟩
  | q :: qs, PS, dn, d4, d5, hr, h1, h2, h3, h4 => by
    rw [List.length_cons] at h1 h2
    have hq := hr q List.mem_cons_self
    have hi : ev (Cq n R kk) (.prim .idx (.cons (.var 1) (.cons (.var 4) .nil))) [some (.p (mPD n R)), some (.own (rchs R n)), some (.own (PS.map ptP)), some (.own (dn.map .int)), some (.p (.int q)), d5, none] = .ok (.p (ptP (reachL R n q))) [some (.p (mPD n R)), some (.own (rchs R n)), some (.own (PS.map ptP)), some (.own (dn.map .int)), some (.p (.int q)), d5, none] :=
      prim_c (as := [.s 1, .s 4]) (ds := [.own (rchs R n), .p (.int q)]) rfl rfl (idx_rchs hq)
    have q1 : ev (Cq n R kk) (.prim (.cmp .In) (.cons (.var 4) (.cons (.prim .idx (.cons (.var 1) (.cons (.var 4) .nil))) .nil))) [some (.p (mPD n R)), some (.own (rchs R n)), some (.own (PS.map ptP)), some (.own (dn.map .int)), some (.p (.int q)), d5, none] = .ok (.p (.bool (decide (q ∈ reachL R n q)))) [some (.p (mPD n R)), some (.own (rchs R n)), some (.own (PS.map ptP)), some (.own (dn.map .int)), some (.p (.int q)), d5, none] :=
      prim_c (as := [.s 4, .v (.p (ptP (reachL R n q)))]) (ds := [.p (.int q), .p (ptP (reachL R n q))]) (evA_v rfl (evA_c (fun i z => by cases z) hi evA_n)) rfl (by
        show Option.map (fun c => D.p (.bool c)) (inD (.p (.int q)) (.p (ptP (reachL R n q)))) = _
        rw [in_ints (b := .p (ptP (reachL R n q))) rfl]; rfl)
    have q2 : ev (Cq n R kk) (.prim (.cmp .NotIn) (.cons (.var 4) (.cons (.var 3) .nil))) [some (.p (mPD n R)), some (.own (rchs R n)), some (.own (PS.map ptP)), some (.own (dn.map .int)), some (.p (.int q)), d5, none] = .ok (.p (.bool (!decide (q ∈ dn)))) [some (.p (mPD n R)), some (.own (rchs R n)), some (.own (PS.map ptP)), some (.own (dn.map .int)), some (.p (.int q)), d5, none] :=
      prim_c (as := [.s 4, .s 3]) (ds := [.p (.int q), .own (dn.map .int)]) rfl rfl (by
        show Option.map (fun c => D.p (.bool c)) ((inD (.p (.int q)) (.own (dn.map .int))).map (!·)) = _
        rw [in_ints (b := .own (dn.map .int)) rfl]; rfl)
    have hc : evT (Cq n R kk) (.bop .And (.cons (.prim (.cmp .In) (.cons (.var 4) (.cons (.prim .idx (.cons (.var 1) (.cons (.var 4) .nil))) .nil))) (.cons (.prim (.cmp .NotIn) (.cons (.var 4) (.cons (.var 3) .nil))) .nil))) [some (.p (mPD n R)), some (.own (rchs R n)), some (.own (PS.map ptP)), some (.own (dn.map .int)), some (.p (.int q)), d5, none] = .ok (decide (q ∈ reachL R n q) && !decide (q ∈ dn)) [some (.p (mPD n R)), some (.own (rchs R n)), some (.own (PS.map ptP)), some (.own (dn.map .int)), some (.p (.int q)), d5, none] :=
      evT_b (bop_c (and_c q1 fun _ => and_one q2))
    by_cases c : q ∈ reachL R n q ∧ q ∉ dn
    · rw [decide_eq_true c.1, decide_eq_false c.2] at hc
      have hrq : Rch R q q := (mem_reachL g).mp c.1
      have hqp : q ∈ partL R n q := (mem_partL g).mpr ⟨hrq, hrq⟩
      have hlen : (partL R n q).length ≤ 12 := Nat.le_trans (List.length_filter_le _ _) (Nat.le_trans reachL_len n12)
      obtain ⟨PS', dn', e4, e5, ih, i1, i2, i3, i4⟩ := pt_for kk n R g n12 qs (PS ++ [partL R n q]) (dn ++ partL R n q) (some (.p (.int q))) (some (.p (ptP (partL R n q)))) (fun x hx => hr x (List.mem_cons_of_mem _ hx)) (by rw [List.length_append, List.length_singleton]; omega) (by rw [List.length_append]; omega) (fun pt hpt => by
        rcases List.mem_append.mp hpt with z | z
        · exact h3 pt z
        · rw [List.mem_singleton.mp z]; exact isPart_partL g hrq) (fun x hx => by
        rcases List.mem_append.mp hx with z | z
        · obtain ⟨pt, a, b⟩ := h4 x z; exact ⟨pt, List.mem_append_left _ a, b⟩
        · exact ⟨_, List.mem_append_right _ (List.mem_singleton.mpr rfl), z⟩)
      have q3 : ev (Cq n R kk) (.lc (.var 6) (.v 6) (.seq (.prim .idx (.cons (.var 1) (.cons (.var 4) .nil)))) (.cons (.prim (.cmp .In) (.cons (.var 4) (.cons (.prim .idx (.cons (.var 1) (.cons (.var 6) .nil))) .nil))) .nil) [6]) [some (.p (mPD n R)), some (.own (rchs R n)), some (.own (PS.map ptP)), some (.own (dn.map .int)), some (.p (.int q)), d5, none] = .ok (.own ((partL R n q).map .int)) [some (.p (mPD n R)), some (.own (rchs R n)), some (.own (PS.map ptP)), some (.own (dn.map .int)), some (.p (.int q)), d5, none] := by
        refine lc_pure (ρ1 := [some (.p (mPD n R)), some (.own (rchs R n)), some (.own (PS.map ptP)), some (.own (dn.map .int)), some (.p (.int q)), d5, none]) (xs := (reachL R n q).map .int) (g := fun x => match x with | .int o => if decide (q ∈ reachL R n o) then some (.p (.int o)) else none | _ => none) (by rw [evI, hi]; rfl) rfl (fun x hx => ?_) ?_ ?_
        · obtain ⟨o, ho, rfl⟩ := List.mem_map.mp hx
          have hor : 0 ≤ o ∧ o < n := ((mem_reachL g).mp ho).rng g
          have hi2 : ev (Cq n R kk) (.prim .idx (.cons (.var 1) (.cons (.var 6) .nil))) [some (.p (mPD n R)), some (.own (rchs R n)), some (.own (PS.map ptP)), some (.own (dn.map .int)), some (.p (.int q)), d5, some (.p (.int o))] = .ok (.p (ptP (reachL R n o))) [some (.p (mPD n R)), some (.own (rchs R n)), some (.own (PS.map ptP)), some (.own (dn.map .int)), some (.p (.int q)), d5, some (.p (.int o))] :=
            prim_c (as := [.s 1, .s 6]) (ds := [.own (rchs R n), .p (.int o)]) rfl rfl (idx_rchs hor)
          have q4 : ev (Cq n R kk) (.prim (.cmp .In) (.cons (.var 4) (.cons (.prim .idx (.cons (.var 1) (.cons (.var 6) .nil))) .nil))) [some (.p (mPD n R)), some (.own (rchs R n)), some (.own (PS.map ptP)), some (.own (dn.map .int)), some (.p (.int q)), d5, some (.p (.int o))] = .ok (.p (.bool (decide (q ∈ reachL R n o)))) [some (.p (mPD n R)), some (.own (rchs R n)), some (.own (PS.map ptP)), some (.own (dn.map .int)), some (.p (.int q)), d5, some (.p (.int o))] :=
            prim_c (as := [.s 4, .v (.p (ptP (reachL R n o)))]) (ds := [.p (.int q), .p (ptP (reachL R n o))]) (evA_v rfl (evA_c (fun i z => by cases z) hi2 evA_n)) rfl (by
              show Option.map (fun c => D.p (.bool c)) (inD (.p (.int q)) (.p (ptP (reachL R n o)))) = _
              rw [in_ints (b := .p (ptP (reachL R n o))) rfl]; rfl)
          refine ⟨[some (.p (mPD n R)), some (.own (rchs R n)), some (.own (PS.map ptP)), some (.own (dn.map .int)), some (.p (.int q)), d5, some (.p (.int o))], decide (q ∈ reachL R n o), rfl, rfl, ?_, ?_⟩
          · rw [evC, q4]
            simp only [bind_ok, tr_bool]
            cases decide (q ∈ reachL R n o) with
            | true => dsimp only; rw [evC]
            | false => rfl
          · dsimp only
            by_cases z : decide (q ∈ reachL R n o) = true
            · rw [if_pos z, if_pos z]; exact ⟨_, rfl, read_p (i := 6) rfl⟩
            · rw [if_neg z, if_neg z]
        · rw [List.filterMap_map]
          refine Nat.le_trans (List.length_filterMap_le _ _) (Nat.le_trans reachL_len (Nat.le_trans n12 (by decide)))
        · rw [List.filterMap_map]
          have : ((reachL R n q).filterMap ((fun x : PD => match x with | .int o => if decide (q ∈ reachL R n o) then some (D.p (.int o)) else none | _ => none) ∘ PyData.int)) = (partL R n q).map fun o => D.p (.int o) := by
            unfold partL
            exact filterMap_if (fun o => decide (q ∈ reachL R n o)) (fun o => D.p (.int o)) (reachL R n q)
          rw [this, mkR_p]
      refine ⟨PS', dn', e4, e5, forL_cons (ρ1 := [some (.p (mPD n R)), some (.own (rchs R n)), some (.own (PS.map ptP)), some (.own (dn.map .int)), some (.p (.int q)), d5, none]) (ρ2 := [some (.p (mPD n R)), some (.own (rchs R n)), some (.own ((PS ++ [partL R n q]).map ptP)), some (.own ((dn ++ partL R n q).map .int)), some (.p (.int q)), some (.p (ptP (partL R n q))), none]) rfl (ift_nx hc (asg_s (ρ1 := [some (.p (mPD n R)), some (.own (rchs R n)), some (.own (PS.map ptP)), some (.own (dn.map .int)), some (.p (.int q)), d5, none]) (ρ2 := [some (.p (mPD n R)), some (.own (rchs R n)), some (.own (PS.map ptP)), some (.own (dn.map .int)), some (.p (.int q)), some (.own ((partL R n q).map .int)), none]) q3 rfl (show 5 < 7 by decide) rfl (st_s (app_c (ρ1 := [some (.p (mPD n R)), some (.own (rchs R n)), some (.own (PS.map ptP)), some (.own (dn.map .int)), some (.p (.int q)), some (.p (ptP (partL R n q))), none]) (ρ2 := [some (.p (mPD n R)), some (.own (rchs R n)), some (.own ((PS ++ [partL R n q]).map ptP)), some (.own (dn.map .int)), some (.p (.int q)), some (.p (ptP (partL R n q))), none]) (l := PS.map ptP) (d := ptP (partL R n q)) rfl rfl rfl (by rw [List.length_map]; exact Nat.lt_of_le_of_lt (by omega : PS.length ≤ 1000) (by decide)) ?_) (asg_s (ρ1 := [some (.p (mPD n R)), some (.own (rchs R n)), some (.own ((PS ++ [partL R n q]).map ptP)), some (.own (dn.map .int)), some (.p (.int q)), some (.p (ptP (partL R n q))), none]) (ρ2 := [some (.p (mPD n R)), some (.own (rchs R n)), some (.own ((PS ++ [partL R n q]).map ptP)), some (.own ((dn ++ partL R n q).map .int)), some (.p (.int q)), some (.p (ptP (partL R n q))), none]) (prim_c (as := [.s 3, .s 5]) (ds := [.own (dn.map .int), .p (ptP (partL R n q))]) rfl rfl ?_) rfl (show 3 < 7 by decide) rfl nil_c))) nil_c) ih, i1, i2, fun x hx => i3 x (List.mem_append_left _ hx), fun x hx hh => ?_⟩
      · rw [List.map_append]; rfl
      · show (if Operator.Add = .Add ∧ (dn.map PyData.int).length + ((partL R n q).map PyData.int).length ≤ line then some (D.own ((dn.map PyData.int) ++ ((partL R n q).map PyData.int))) else none) = _
        rw [if_pos ⟨rfl, by rw [List.length_map, List.length_map]; exact Nat.le_trans (by omega : dn.length + (partL R n q).length ≤ 1012) (by decide)⟩, List.map_append]
      · rcases List.mem_cons.mp hx with z | z
        · rw [z]; exact i3 q (List.mem_append_right _ hqp)
        · exact i4 x z hh
    · have hc' : (decide (q ∈ reachL R n q) && !decide (q ∈ dn)) = false := by
        by_cases c1 : q ∈ reachL R n q
        · have c2 : q ∈ dn := Classical.byContradiction fun z => c ⟨c1, z⟩
          rw [decide_eq_true c1, decide_eq_true c2]; rfl
        · rw [decide_eq_false c1]; rfl
      rw [hc'] at hc
      obtain ⟨PS', dn', e4, e5, ih, i1, i2, i3, i4⟩ := pt_for kk n R g n12 qs PS dn (some (.p (.int q))) d5 (fun x hx => hr x (List.mem_cons_of_mem _ hx)) (by omega) (by omega) h3 h4
      refine ⟨PS', dn', e4, e5, forL_cons (ρ1 := [some (.p (mPD n R)), some (.own (rchs R n)), some (.own (PS.map ptP)), some (.own (dn.map .int)), some (.p (.int q)), d5, none]) rfl (iff_s hc nil_c) ih, i1, i2, i3, fun x hx hh => ?_⟩
      rcases List.mem_cons.mp hx with z | z
      · rw [z] at hh ⊢
        exact i3 q (Classical.byContradiction fun w => c ⟨(mem_reachL g).mpr hh, w⟩)
      · exact i4 x z hh
theorem r_parts (kk n : Nat) (R : List R4) (M : MOk n R) : ∃ PS : List (List Int), run prog (kk + 3) 38 [.p (mPD n R)] = .ok (.own (PS.map ptP)) [.p (mPD n R)] ∧ (∀ pt ∈ PS, IsPart R pt) ∧ ∀ q, Rch R q q → ∃ pt ∈ PS, q ∈ pt := by
  have hrl : (rngZ n).length = n := by unfold rngZ; rw [List.length_map, List.length_range]
  have n12 := M.n12
  obtain ⟨PS, dn, e4, e5, hf, i1, i2, i3, i4⟩ := pt_for (kk + 2) n R M.g M.n12 (rngZ n) [] [] none none (fun q hq => mem_rngZ.mp hq) (by rw [hrl, List.length_nil]; omega) (by rw [hrl, List.length_nil]; omega) (fun pt h => nomatch h) (fun x h => nomatch h)
  refine ⟨PS, ?_, i1, fun q hq => i2 q (i4 q (mem_rngZ.mpr (hq.rng M.g)) hq)⟩
  refine (run_succ (fn := f_parts_together) rfl).trans ?_
  have hidx : ev (Cq n R (kk + 2)) (.prim .idx (.cons (.var 0) (.cons (.int 1) .nil))) [some (.p (mPD n R)), none, none, none, none, none, none] = .ok (.p (.int n)) [some (.p (mPD n R)), none, none, none, none, none, none] := rfl
  have hr := range_e (C := Cq n R (kk + 2)) (fun i z => by cases z) hidx (by omega) (by omega)
  have hlc : ev (Cq n R (kk + 2)) (.lc (.call 36 [none, none] (.cons (.var 0) (.cons (.var 4) .nil)) .nil) (.v 4) (.range (.cons (.prim .idx (.cons (.var 0) (.cons (.int 1) .nil))) .nil)) .nil [4, 4]) [some (.p (mPD n R)), none, none, none, none, none, none] = .ok (.own (rchs R n)) [some (.p (mPD n R)), none, none, none, none, none, none] := by
    refine lc_map (ρ1 := [some (.p (mPD n R)), none, none, none, none, none, none]) (xs := (rngZ n).map .int) (g := fun d => match d with | .int q => .own ((reachL R n q).map .int) | _ => .own []) (hr.trans (by rw [rangeL_rngZ])) rfl (fun x hx => ?_) ?_ ?_
    · obtain ⟨q, hq, rfl⟩ := List.mem_map.mp hx
      exact ⟨[some (.p (mPD n R)), none, none, none, some (.p (.int q)), none, none], rfl, rfl, call_c (as := [.s 0, .s 4]) (bs := []) (ds := [.p (mPD n R), .p (.int q)]) (ps := [.p (mPD n R), .p (.int q)]) (qs := [.p (mPD n R), .p (.int q)]) (ρ1 := [some (.p (mPD n R)), none, none, none, some (.p (.int q)), none, none]) (ρ2 := [some (.p (mPD n R)), none, none, none, some (.p (.int q)), none, none]) rfl evA_n rfl rfl rfl (r_reach_of kk n R q M.g M.n12) rfl⟩
    · rw [List.length_map, hrl]; exact Nat.le_trans M.n12 (by decide)
    · rw [List.map_map]
      show (fzAll _).map D.own = _
      have : ∀ l : List Int, fzAll (l.map ((fun d : PD => match d with | .int q => D.own ((reachL R n q).map .int) | _ => .own []) ∘ PyData.int)) = some (l.map fun q => ptP (reachL R n q)) := by
        intro l
        induction l with
        | nil => rfl
        | cons q l ih => rw [List.map_cons, fzAll, ih]; rfl
      rw [this]; rfl
  refine runB_gv rfl rfl (.st (ρ2 := [some (.p (mPD n R)), some (.own (rchs R n)), some (.own (List.map ptP [])), some (.own (List.map .int [])), none, none, none]) (par3_c (ρ1 := [some (.p (mPD n R)), none, none, none, none, none, none]) (ρ2 := [some (.p (mPD n R)), none, none, none, none, none, none]) (ρ3 := [some (.p (mPD n R)), none, none, none, none, none, none]) hlc (lst_c evL_n (Nat.zero_le _) rfl) (lst_c evL_n (Nat.zero_le _) rfl) rfl) (.for_ (xs := (rngZ n).map .int) (ρ1 := [some (.p (mPD n R)), some (.own (rchs R n)), some (.own (List.map ptP [])), some (.own (List.map .int [])), none, none, none]) ?_ (.inl ⟨_, hf, .rt (ρ1 := [some (.p (mPD n R)), some (.own (rchs R n)), none, some (.own (dn.map .int)), e4, e5, none]) (by rw [exs, ex]; rfl) (gv rfl)⟩)))
  have hidx2 : ev (Cq n R (kk + 2)) (.prim .idx (.cons (.var 0) (.cons (.int 1) .nil))) [some (.p (mPD n R)), some (.own (rchs R n)), some (.own (List.map ptP [])), some (.own (List.map .int [])), none, none, none] = .ok (.p (.int n)) [some (.p (mPD n R)), some (.own (rchs R n)), some (.own (List.map ptP [])), some (.own (List.map .int [])), none, none, none] := rfl
  exact (range_e (C := Cq n R (kk + 2)) (fun i z => by cases z) hidx2 (by omega) (by omega)).trans (by rw [rangeL_rngZ])
end Law_k41

namespace Law_k41
open PySem PySem.Spec L2 Pv
theorem tot_perm {a b : List R4} (h : a.Perm b) : tot a = tot b := by
  induction h with
  | nil => rfl
  | cons x _ ih => unfold tot at *; rw [List.map_cons, List.map_cons, List.sum_cons, List.sum_cons, ih]
  | swap x y l => unfold tot; simp only [List.map_cons, List.sum_cons]; omega
  | trans _ _ h1 h2 => exact h1.trans h2
theorem rounds_dvd {R : List R4} {d : Nat} : (∀ s ts, ts ≠ [] → Wk R s ts s → (d : Int) ∣ tot ts) ↔ ∀ m ts, Tgt R m ts → (d : Int) ∣ tot ts :=
  ⟨fun h m ts T => h m ts T.ne T.wk, fun h s ts ne w => all_rounds (fun ts => (d : Int) ∣ tot ts) (fun a b p h => by rw [← tot_perm p]; exact h) (fun a b h1 h2 => by rw [tot_app]; exact Int.dvd_add h1 h2) h ts.length ts s (Nat.le_refl _) ne w⟩
def b_beat_of_0 : Ss := (.cons (.asg (.v 1) (.prim .gcd (.cons (.var 1) (.cons (.call 39 [none, none] (.cons (.var 0) (.cons (.var 2) .nil)) .nil) .nil)))) .nil)
def t_beat_of_0 : T := (.v 2)
noncomputable abbrev Cb (n : Nat) (R : List R4) (kk : Nat) : Pv.Ctx := ⟨borOf [.p (mPD n R)], run prog kk⟩
theorem bo_for (kk n : Nat) (R : List R4) (g : GoodR n R) (n12 : n ≤ 12) : ∀ (PS : List (List Int)) (f : Nat) (d2 : Option D), (∀ pt ∈ PS, IsPart R pt) →
    ∃ (f' : Nat) (e2 : Option D), forL (Cb n R (kk + 2)) t_beat_of_0 (exs (Cb n R (kk + 2)) b_beat_of_0) (PS.map ptP) [some (.p (mPD n R)), some (.p (.int (f : Nat))), d2] = .nx [some (.p (mPD n R)), some (.p (.int (f' : Nat))), e2] ∧
      ∀ d : Nat, d ∣ f' ↔ d ∣ f ∧ ∀ pt ∈ PS, ∀ s ts, s ∈ pt → ts ≠ [] → Wk R s ts s → (d : Int) ∣ tot ts
  | [], f, d2, h => ⟨f, d2, forL_nil, fun d => ⟨fun h => ⟨h, fun t ht => nomatch ht⟩, fun h => h.1⟩⟩
  | pt :: PS, f, d2, h => by
    obtain ⟨p, tl, ep, hp⟩ := h pt List.mem_cons_self
    rw [ep] at hp
    obtain ⟨b, hb, hd⟩ := r_part_beat kk n R p tl g n12 hp
    rw [← ep] at hb hd
    obtain ⟨f', e2, ih, i1⟩ := bo_for kk n R g n12 PS (Nat.gcd f b) (some (.p (ptP pt))) (fun x hx => h x (List.mem_cons_of_mem _ hx))
    have hcall : ev (Cb n R (kk + 2)) (.call 39 [none, none] (.cons (.var 0) (.cons (.var 2) .nil)) .nil) [some (.p (mPD n R)), some (.p (.int (f : Nat))), some (.p (ptP pt))] = .ok (.p (.int (b : Nat))) [some (.p (mPD n R)), some (.p (.int (f : Nat))), some (.p (ptP pt))] :=
      call_c (as := [.s 0, .s 2]) (bs := []) (ds := [.p (mPD n R), .p (ptP pt)]) (ps := [.p (mPD n R), .p (ptP pt)]) (qs := [.p (mPD n R), .p (ptP pt)]) (ρ1 := [some (.p (mPD n R)), some (.p (.int (f : Nat))), some (.p (ptP pt))]) (ρ2 := [some (.p (mPD n R)), some (.p (.int (f : Nat))), some (.p (ptP pt))]) rfl evA_n rfl rfl rfl hb rfl
    refine ⟨f', e2, forL_cons (ρ1 := [some (.p (mPD n R)), some (.p (.int (f : Nat))), some (.p (ptP pt))]) (ρ2 := [some (.p (mPD n R)), some (.p (.int (Nat.gcd f b : Nat))), some (.p (ptP pt))]) rfl (asg_s (ρ1 := [some (.p (mPD n R)), some (.p (.int (f : Nat))), some (.p (ptP pt))]) (ρ2 := [some (.p (mPD n R)), some (.p (.int (Nat.gcd f b : Nat))), some (.p (ptP pt))]) (d := .p (.int (Nat.gcd f b : Nat))) (prim_c (as := [.s 1, .v (.p (.int (b : Nat)))]) (ds := [.p (.int (f : Nat)), .p (.int (b : Nat))]) (evA_v rfl (evA_c (fun i z => by cases z) hcall evA_n)) rfl ?_) rfl (show 1 < 3 by decide) rfl nil_c) ih, fun d => ?_⟩
    · show some (D.p (.int ((Nat.gcd ((f : Nat) : Int).natAbs ((b : Nat) : Int).natAbs : Nat) : Int))) = _
      rw [Int.natAbs_natCast, Int.natAbs_natCast]
    · rw [i1 d, Nat.dvd_gcd_iff, hd d]
      constructor
      · rintro ⟨⟨h1, h2⟩, h3⟩
        exact ⟨h1, fun u hu => (List.mem_cons.mp hu).elim (fun e => by rw [e]; exact h2) fun e => h3 u e⟩
      · rintro ⟨h1, h2⟩
        exact ⟨⟨h1, h2 pt List.mem_cons_self⟩, fun u hu => h2 u (List.mem_cons_of_mem _ hu)⟩
theorem r_beat_of (kk n : Nat) (R : List R4) (M : MOk n R) : ∃ B : Nat, run prog (kk + 4) 40 [.p (mPD n R)] = .ok (.p (.int (B : Nat))) [.p (mPD n R)] ∧ ∀ d : Nat, d ∣ B ↔ ∀ m ts, Tgt R m ts → (d : Int) ∣ tot ts := by
  obtain ⟨PS, hp, h1, h2⟩ := r_parts kk n R M
  obtain ⟨B, e2, hf, hd⟩ := bo_for (kk + 1) n R M.g M.n12 PS 0 none h1
  refine ⟨B, ?_, fun d => ?_⟩
  · refine (run_succ (fn := f_beat_of) rfl).trans ?_
    refine runB_gv rfl rfl (.asg (ρ1 := [some (.p (mPD n R)), none, none]) (ρ2 := [some (.p (mPD n R)), some (.p (.int (0 : Nat))), none]) (by rw [ev]; rfl) rfl rfl rfl (.for_ (xs := PS.map ptP) (ρ1 := [some (.p (mPD n R)), some (.p (.int (0 : Nat))), none]) ?_ (.inl ⟨_, hf, .rt (ρ1 := [some (.p (mPD n R)), some (.p (.int (B : Nat))), e2]) (by rw [exs, ex]; rfl) (gv rfl)⟩)))
    · have hcall : ev (Cb n R (kk + 3)) (.call 38 [none] (.cons (.var 0) .nil) .nil) [some (.p (mPD n R)), some (.p (.int (0 : Nat))), none] = .ok (.own (PS.map ptP)) [some (.p (mPD n R)), some (.p (.int (0 : Nat))), none] :=
        call_c (as := [.s 0]) (bs := []) (ds := [.p (mPD n R)]) (ps := [.p (mPD n R)]) (qs := [.p (mPD n R)]) (ρ1 := [some (.p (mPD n R)), some (.p (.int (0 : Nat))), none]) (ρ2 := [some (.p (mPD n R)), some (.p (.int (0 : Nat))), none]) rfl evA_n rfl rfl rfl hp rfl
      exact (by rw [evI, hcall]; rfl : evI (Cb n R (kk + 3)) (.seq (.call 38 [none] (.cons (.var 0) .nil) .nil)) [some (.p (mPD n R)), some (.p (.int (0 : Nat))), none] = .ok (PS.map ptP) [some (.p (mPD n R)), some (.p (.int (0 : Nat))), none])
  · rw [hd d, ← rounds_dvd]
    constructor
    · rintro ⟨_, h⟩ s ts ne w
      have hs : Rch R s s := by
        cases ts with
        | nil => exact absurd rfl ne
        | cons t ts =>
          rcases Wk_rch w.2.2 with e | e
          · exact .one ⟨t, w.1, w.2.1, e⟩
          · exact .step ⟨t, w.1, w.2.1, rfl⟩ e
      obtain ⟨pt, hpt, hm⟩ := h2 s hs
      exact h pt hpt s ts hm ne w
    · intro h
      exact ⟨Nat.dvd_zero d, fun pt hpt s ts hm ne w => h s ts ne w⟩
theorem r_beat (k n : Nat) (R : List R4) (M : MOk n R) : ∃ B : Nat, run prog (k + 6) 43 [.p (mPD n R)] = .ok (.p (.int (B : Nat))) [.p (mPD n R)] ∧ ∀ d : Nat, d ∣ B ↔ ∀ m ts, Tgt R m ts → (d : Int) ∣ tot ts := by
  obtain ⟨B, hb, hd⟩ := r_beat_of (k + 1) n R M
  refine ⟨B, ?_, hd⟩
  refine (run_succ (fn := f_beat) rfl).trans ?_
  refine runB_gv rfl rfl (.ret (ρ1 := [some (.p (mPD n R))]) (fun i z => by cases z) (call_c (as := [.v (.p (mPD n R))]) (bs := []) (ds := [.p (mPD n R)]) (ps := [.p (mPD n R)]) (qs := [.p (mPD n R)]) (ρ1 := [some (.p (mPD n R))]) (ρ2 := [some (.p (mPD n R))]) (evA_c (fun i z => by cases z) (call_c (as := [.s 0]) (bs := []) (ds := [.p (mPD n R)]) (ps := [.p (mPD n R)]) (qs := [.p (mPD n R)]) (ρ1 := [some (.p (mPD n R))]) (ρ2 := [some (.p (mPD n R))]) rfl evA_n rfl rfl rfl (r_want_machine k _ M.sh M.ok) rfl) evA_n) evA_n rfl rfl rfl hb rfl) (gv rfl))
/-! rounds without a place -/
def ag (R : List R4) (l : List Int) : List Int := l.filter fun o => !decide ((((R.filter fun t => decide (t.1 = o)).filter fun t => decide (t.2.1 ∈ l)).map fun _ => (1 : Int)) = [])
theorem mem_ag {R : List R4} {l : List Int} {o : Int} : o ∈ ag R l ↔ o ∈ l ∧ ∃ t ∈ R, t.1 = o ∧ t.2.1 ∈ l := by
  unfold ag
  rw [List.mem_filter]
  refine and_congr_right fun _ => ?_
  simp only [Bool.not_eq_true', decide_eq_false_iff_not, List.map_eq_nil_iff]
  constructor
  · intro h
    obtain ⟨t, ht⟩ := List.exists_mem_of_ne_nil _ h
    obtain ⟨h1, h2⟩ := List.mem_filter.mp ht
    obtain ⟨h3, h4⟩ := List.mem_filter.mp h1
    exact ⟨t, h3, of_decide_eq_true h4, of_decide_eq_true h2⟩
  · rintro ⟨t, h1, h2, h3⟩
    exact List.ne_nil_of_mem (List.mem_filter.mpr ⟨List.mem_filter.mpr ⟨h1, decide_eq_true h2⟩, decide_eq_true h3⟩)
theorem ag_len {R : List R4} {l : List Int} (h : ¬ (ag R l).length < l.length) : ag R l = l := by
  unfold ag at *
  have h1 := List.length_filter_le (fun o => !decide ((((R.filter fun t => decide (t.1 = o)).filter fun t => decide (t.2.1 ∈ l)).map fun _ => (1 : Int)) = [])) l
  exact List.filter_eq_self.mpr (List.length_filter_eq_length_iff.mp (by omega))
/-- a walk that comes to a place again holds a round -/
theorem again {R : List R4} : ∀ {ts : List R4} {p q : Int}, Wk R p ts q → (src ts).Nodup ∨ ∃ s us, us ≠ [] ∧ Wk R s us s ∧ ∀ u ∈ us, u ∈ ts
  | [], _, _, _ => .inl List.nodup_nil
  | t :: ts, p, q, w => by
    rcases again w.2.2 with h | ⟨s, us, h1, h2, h3⟩
    · by_cases c : t.1 ∈ src ts
      · obtain ⟨a, u, b, e1, e2⟩ := split_src c
        obtain ⟨m, g1, g2⟩ := Wk_app.mp (e1 ▸ w.2.2)
        have hm : u.1 = m := Wk_head g2
        refine .inr ⟨t.1, t :: a, (fun z => nomatch z), ⟨w.1, rfl, by rw [← e2, hm]; exact g1⟩, fun x hx => ?_⟩
        rcases List.mem_cons.mp hx with e | e
        · rw [e]; exact List.mem_cons_self
        · exact List.mem_cons_of_mem _ (by rw [e1]; exact List.mem_append_left _ e)
      · exact .inl (List.nodup_cons.mpr ⟨c, h⟩)
    · exact .inr ⟨s, us, h1, h2, fun u hu => List.mem_cons_of_mem _ (h3 u hu)⟩
theorem long {R : List R4} {S : List Int} (hS : ∀ x ∈ S, ∃ t ∈ R, t.1 = x ∧ t.2.1 ∈ S) : ∀ (k : Nat) (x : Int), x ∈ S → ∃ ts q, ts.length = k ∧ Wk R x ts q ∧ ∀ t ∈ ts, t.1 ∈ S
  | 0, x, hx => ⟨[], x, rfl, rfl, fun t h => nomatch h⟩
  | k + 1, x, hx => by
    obtain ⟨t, h1, h2, h3⟩ := hS x hx
    obtain ⟨ts, q, h4, h5, h6⟩ := long hS k _ h3
    exact ⟨t :: ts, q, by rw [List.length_cons, h4], ⟨h1, h2, h5⟩, fun u hu => (List.mem_cons.mp hu).elim (fun e => by rw [e, h2]; exact hx) (h6 u)⟩
theorem left_iff {R : List R4} {S : List Int} {x : Int} (hS : ∀ y ∈ S, ∃ t ∈ R, t.1 = y ∧ t.2.1 ∈ S) (hx : x ∉ S) (hT : ∀ T : List Int, x ∉ T → (∀ y ∈ T, ∃ t ∈ R, t.1 = y ∧ t.2.1 ∈ T) → ∀ y ∈ T, y ∈ S) : S ≠ [] ↔ ∃ m ts, Tgt R m ts ∧ x ∉ src ts := by
  constructor
  · intro hne
    refine Classical.byContradiction fun hno => ?_
    have hall : ∀ m ts, Tgt R m ts → x ∈ src ts := fun m ts T => Classical.byContradiction fun z => hno ⟨m, ts, T, z⟩
    obtain ⟨y, hy⟩ := List.exists_mem_of_ne_nil _ hne
    obtain ⟨ts, q, h1, h2, h3⟩ := long hS (S.length + 1) y hy
    rcases again h2 with h | ⟨s, us, g1, g2, g3⟩
    · have := nodup_len (m := S) h fun z hz => by
        obtain ⟨t, ht, rfl⟩ := List.mem_map.mp hz
        exact h3 t ht
      unfold src at this
      rw [List.length_map] at this
      omega
    · have := all_rounds (R := R) (fun ts => x ∈ src ts) (fun a b p h => (p.map _).mem_iff.mp h) (fun a b h1 h2 => by rw [src_app]; exact List.mem_append_left _ h1) hall us.length us s (Nat.le_refl _) g1 g2
      obtain ⟨t, ht, e⟩ := List.mem_map.mp this
      exact hx (e ▸ h3 t (g3 t ht))
  · rintro ⟨m, ts, T, hn⟩
    have : ∀ y ∈ src ts, ∃ t ∈ R, t.1 = y ∧ t.2.1 ∈ src ts := by
      intro y hy
      obtain ⟨a, t, b, e1, e2⟩ := split_src hy
      obtain ⟨z, w1, w2⟩ := Wk_app.mp (e1 ▸ T.wk)
      refine ⟨t, w2.1, e2, ?_⟩
      cases b with
      | nil =>
        have h1 : t.2.1 = m := w2.2.2
        rw [h1]
        cases ts with
        | nil => exact absurd rfl T.ne
        | cons u us => have := T.wk.2.1; rw [← this]; exact List.mem_cons_self
      | cons u b =>
        have h1 : u.1 = t.2.1 := Wk_head w2.2.2
        rw [← h1, e1, src_app]
        exact List.mem_append_right _ (List.mem_cons_of_mem _ List.mem_cons_self)
    cases ts with
    | nil => exact absurd rfl T.ne
    | cons u us => exact List.ne_nil_of_mem (hT _ hn this u.1 List.mem_cons_self)
noncomputable def hwB (R : List R4) (x : Int) : Bool := @decide (∃ m ts, Tgt R m ts ∧ x ∉ src ts) (Classical.propDecidable _)
theorem hwB_iff {R : List R4} {x : Int} : hwB R x = true ↔ ∃ m ts, Tgt R m ts ∧ x ∉ src ts := by unfold hwB; exact @decide_eq_true_iff _ (Classical.propDecidable _)
end Law_k41

namespace Law_k41
open PySem PySem.Spec L2 Pv
theorem expr_c {C : Pv.Ctx} {ρ ρ1 : Pv.Env} {e : E} {d : D} (h : ev C e ρ = .ok d ρ1) : ex C (.expr e) ρ = .nx ρ1 := by rw [ex, h]; rfl
def b_has_rounds_without_0 : Ss := (.cons (.asg (.v 3) (.prim (.bf .len) (.cons (.var 2) .nil))) (.cons (.asg (.v 2) (.lc (.var 5) (.v 5) (.seq (.var 2)) (.cons (.prim (.cmp .NotEq) (.cons (.lc (.int 1) (.cons (.v 4) (.cons (.v 6) (.cons (.v 7) .nil))) (.seq (.call 23 [none, none] (.cons (.var 0) (.cons (.var 5) .nil)) .nil)) (.cons (.prim (.cmp .In) (.cons (.var 4) (.cons (.var 2) .nil))) .nil) [4, 6, 7]) (.cons (.lst .nil) .nil))) .nil) [5])) .nil))
def c_has_rounds_without_0 : E := (.prim (.cmp .Lt) (.cons (.prim (.bf .len) (.cons (.var 2) .nil)) (.cons (.var 3) .nil)))
noncomputable abbrev Ch (n : Nat) (R : List R4) (x : Int) (kk : Nat) : Pv.Ctx := ⟨borOf [.p (mPD n R), .p (.int x)], run prog kk⟩
theorem hr_ag (kk n : Nat) (R : List R4) (x : Int) (g : GoodR n R) (l : List Int) (hl : l.length ≤ 1000) (b : Int) : ev (Ch n R x (kk + 1)) (.lc (.var 5) (.v 5) (.seq (.var 2)) (.cons (.prim (.cmp .NotEq) (.cons (.lc (.int 1) (.cons (.v 4) (.cons (.v 6) (.cons (.v 7) .nil))) (.seq (.call 23 [none, none] (.cons (.var 0) (.cons (.var 5) .nil)) .nil)) (.cons (.prim (.cmp .In) (.cons (.var 4) (.cons (.var 2) .nil))) .nil) [4, 6, 7]) (.cons (.lst .nil) .nil))) .nil) [5]) [some (.p (mPD n R)), some (.p (.int x)), some (.own (l.map .int)), some (.p (.int b)), none, none, none, none] = .ok (.own ((ag R l).map .int)) [some (.p (mPD n R)), some (.p (.int x)), some (.p (.list (l.map .int))), some (.p (.int b)), none, none, none, none] := by
  refine lc_pure (ρ1 := [some (.p (mPD n R)), some (.p (.int x)), some (.p (.list (l.map .int))), some (.p (.int b)), none, none, none, none]) (xs := l.map .int) (g := fun d => match d with | .int o => if !decide ((((R.filter fun t => decide (t.1 = o)).filter fun t => decide (t.2.1 ∈ l)).map fun _ => (1 : Int)) = []) then some (.p (.int o)) else none | _ => none) rfl rfl (fun d hd => ?_) ?_ ?_
  · obtain ⟨o, ho, rfl⟩ := List.mem_map.mp hd
    have hcall : ev (Ch n R x (kk + 1)) (.call 23 [none, none] (.cons (.var 0) (.cons (.var 5) .nil)) .nil) [some (.p (mPD n R)), some (.p (.int x)), some (.p (.list (l.map .int))), some (.p (.int b)), none, some (.p (.int o)), none, none] = .ok (.own (lead R o)) [some (.p (mPD n R)), some (.p (.int x)), some (.p (.list (l.map .int))), some (.p (.int b)), none, some (.p (.int o)), none, none] :=
      call_c (as := [.s 0, .s 5]) (bs := []) (ds := [.p (mPD n R), .p (.int o)]) (ps := [.p (mPD n R), .p (.int o)]) (qs := [.p (mPD n R), .p (.int o)]) (ρ1 := [some (.p (mPD n R)), some (.p (.int x)), some (.p (.list (l.map .int))), some (.p (.int b)), none, some (.p (.int o)), none, none]) (ρ2 := [some (.p (mPD n R)), some (.p (.int x)), some (.p (.list (l.map .int))), some (.p (.int b)), none, some (.p (.int o)), none, none]) rfl evA_n rfl rfl rfl (r_roads_from kk n R o (Nat.le_trans g.len (by decide))) rfl
    have hin : ev (Ch n R x (kk + 1)) (.lc (.int 1) (.cons (.v 4) (.cons (.v 6) (.cons (.v 7) .nil))) (.seq (.call 23 [none, none] (.cons (.var 0) (.cons (.var 5) .nil)) .nil)) (.cons (.prim (.cmp .In) (.cons (.var 4) (.cons (.var 2) .nil))) .nil) [4, 6, 7]) [some (.p (mPD n R)), some (.p (.int x)), some (.p (.list (l.map .int))), some (.p (.int b)), none, some (.p (.int o)), none, none] = .ok (.own ((((R.filter fun t => decide (t.1 = o)).filter fun t => decide (t.2.1 ∈ l)).map fun _ => (1 : Int)).map .int)) [some (.p (mPD n R)), some (.p (.int x)), some (.p (.list (l.map .int))), some (.p (.int b)), none, some (.p (.int o)), none, none] := by
      refine lc_pure (ρ1 := [some (.p (mPD n R)), some (.p (.int x)), some (.p (.list (l.map .int))), some (.p (.int b)), none, some (.p (.int o)), none, none]) (xs := lead R o) (g := fun d => match d with | .tuple [.int q, _, _] => if decide (q ∈ l) then some (.p (.int 1)) else none | _ => none) (by rw [evI, hcall]; rfl) rfl (fun d hd => ?_) ?_ ?_
      · unfold lead at hd
        obtain ⟨t, ht, rfl⟩ := List.mem_map.mp hd
        have q4 : ev (Ch n R x (kk + 1)) (.prim (.cmp .In) (.cons (.var 4) (.cons (.var 2) .nil))) [some (.p (mPD n R)), some (.p (.int x)), some (.p (.list (l.map .int))), some (.p (.int b)), some (.p (.int t.2.1)), some (.p (.int o)), some (.p (.int t.2.2.1)), some (.p (.int t.2.2.2))] = .ok (.p (.bool (decide (t.2.1 ∈ l)))) [some (.p (mPD n R)), some (.p (.int x)), some (.p (.list (l.map .int))), some (.p (.int b)), some (.p (.int t.2.1)), some (.p (.int o)), some (.p (.int t.2.2.1)), some (.p (.int t.2.2.2))] :=
          prim_c (as := [.s 4, .s 2]) (ds := [.p (.int t.2.1), .p (.list (l.map .int))]) rfl rfl (by
            show Option.map (fun c => D.p (.bool c)) (inD (.p (.int t.2.1)) (.p (.list (l.map .int)))) = _
            rw [in_ints (b := .p (.list (l.map .int))) rfl]; rfl)
        refine ⟨[some (.p (mPD n R)), some (.p (.int x)), some (.p (.list (l.map .int))), some (.p (.int b)), some (.p (.int t.2.1)), some (.p (.int o)), some (.p (.int t.2.2.1)), some (.p (.int t.2.2.2))], decide (t.2.1 ∈ l), rfl, rfl, ?_, ?_⟩
        · rw [evC, q4]
          simp only [bind_ok, tr_bool]
          cases decide (t.2.1 ∈ l) with
          | true => dsimp only; rw [evC]
          | false => rfl
        · show (if decide (t.2.1 ∈ l) = true then ∃ y, (if decide (t.2.1 ∈ l) = true then some (D.p (.int 1)) else none) = some y ∧ _ else (if decide (t.2.1 ∈ l) = true then some (D.p (.int 1)) else none) = none)
          by_cases z : decide (t.2.1 ∈ l) = true
          · rw [if_pos z, if_pos z]; exact ⟨_, rfl, by rw [ev]⟩
          · rw [if_neg z, if_neg z]
      · refine Nat.le_trans (List.length_filterMap_le _ _) ?_
        unfold lead
        rw [List.length_map]
        exact Nat.le_trans (List.length_filter_le _ _) (Nat.le_trans g.len (by decide))
      · unfold lead
        rw [List.filterMap_map]
        have : ((R.filter fun t => decide (t.1 = o)).filterMap ((fun d : PD => match d with | .tuple [.int q, _, _] => if decide (q ∈ l) then some (D.p (.int 1)) else none | _ => none) ∘ tr)) = ((R.filter fun t => decide (t.1 = o)).filter fun t => decide (t.2.1 ∈ l)).map fun _ => D.p (.int 1) :=
          filterMap_if (fun t : R4 => decide (t.2.1 ∈ l)) (fun _ => D.p (.int 1)) (R.filter fun t => decide (t.1 = o))
        rw [this, mkR_p ((R.filter fun t => decide (t.1 = o)).filter fun t => decide (t.2.1 ∈ l)) fun _ => .int 1, List.map_map]; rfl
    have hne : ev (Ch n R x (kk + 1)) (.prim (.cmp .NotEq) (.cons (.lc (.int 1) (.cons (.v 4) (.cons (.v 6) (.cons (.v 7) .nil))) (.seq (.call 23 [none, none] (.cons (.var 0) (.cons (.var 5) .nil)) .nil)) (.cons (.prim (.cmp .In) (.cons (.var 4) (.cons (.var 2) .nil))) .nil) [4, 6, 7]) (.cons (.lst .nil) .nil))) [some (.p (mPD n R)), some (.p (.int x)), some (.p (.list (l.map .int))), some (.p (.int b)), none, some (.p (.int o)), none, none] = .ok (.p (.bool (!decide ((((R.filter fun t => decide (t.1 = o)).filter fun t => decide (t.2.1 ∈ l)).map fun _ => (1 : Int)) = [])))) [some (.p (mPD n R)), some (.p (.int x)), some (.p (.list (l.map .int))), some (.p (.int b)), none, some (.p (.int o)), none, none] := by
      refine prim2 (fun i z => by cases z) (fun i z => by cases z) hin (lst_c evL_n (Nat.zero_le _) rfl) ?_
      show Option.map (fun c => D.p (.bool c)) ((eqD (.own _) (.own [])).map (!·)) = _
      rw [eq_ints (b := []) rfl rfl]; rfl
    refine ⟨[some (.p (mPD n R)), some (.p (.int x)), some (.p (.list (l.map .int))), some (.p (.int b)), none, some (.p (.int o)), none, none], !decide ((((R.filter fun t => decide (t.1 = o)).filter fun t => decide (t.2.1 ∈ l)).map fun _ => (1 : Int)) = []), rfl, rfl, ?_, ?_⟩
    · rw [evC, hne]
      simp only [bind_ok, tr_bool]
      cases decide ((((R.filter fun t => decide (t.1 = o)).filter fun t => decide (t.2.1 ∈ l)).map fun _ => (1 : Int)) = []) with
      | false => simp only [Bool.not_false]; rw [evC]
      | true => rfl
    · dsimp only
      by_cases z : (!decide ((((R.filter fun t => decide (t.1 = o)).filter fun t => decide (t.2.1 ∈ l)).map fun _ => (1 : Int)) = [])) = true
      · rw [if_pos z, if_pos z]; exact ⟨_, rfl, read_p (i := 5) rfl⟩
      · rw [if_neg z, if_neg z]
  · rw [List.filterMap_map]
    exact Nat.le_trans (List.length_filterMap_le _ _) (Nat.le_trans hl (by decide))
  · rw [List.filterMap_map]
    have : (l.filterMap ((fun d : PD => match d with | .int o => if !decide ((((R.filter fun t => decide (t.1 = o)).filter fun t => decide (t.2.1 ∈ l)).map fun _ => (1 : Int)) = []) then some (D.p (.int o)) else none | _ => none) ∘ PyData.int)) = (ag R l).map fun o => D.p (.int o) := by
      unfold ag
      exact filterMap_if (fun o => !decide ((((R.filter fun t => decide (t.1 = o)).filter fun t => decide (t.2.1 ∈ l)).map fun _ => (1 : Int)) = [])) (fun o => D.p (.int o)) l
    rw [this, mkR_p]
theorem hr_loop (kk n : Nat) (R : List R4) (x : Int) (g : GoodR n R) : ∀ (N : Nat) (l : List Int) (b : Int), l.length ≤ N → l.length ≤ 1000 → (((l.length : Nat) : Int) < b ∨ ag R l = l) →
    ∃ (S : List Int) (b' : Int), wS (evT (Ch n R x (kk + 1)) c_has_rounds_without_0) (exs (Ch n R x (kk + 1)) b_has_rounds_without_0) [some (.p (mPD n R)), some (.p (.int x)), some (.own (l.map .int)), some (.p (.int b)), none, none, none, none] = .nx [some (.p (mPD n R)), some (.p (.int x)), some (.own (S.map .int)), some (.p (.int b')), none, none, none, none] ∧ ag R S = S ∧ (∀ y ∈ S, y ∈ l) ∧ ∀ T : List Int, (∀ y ∈ T, y ∈ l) → (∀ y ∈ T, ∃ t ∈ R, t.1 = y ∧ t.2.1 ∈ T) → ∀ y ∈ T, y ∈ S
  | N, l, b, hN, hl, hb => by
    have hc : ∀ (l : List Int) (b : Int), evT (Ch n R x (kk + 1)) c_has_rounds_without_0 [some (.p (mPD n R)), some (.p (.int x)), some (.own (l.map .int)), some (.p (.int b)), none, none, none, none] = .ok (decide (((l.length : Nat) : Int) < b)) [some (.p (mPD n R)), some (.p (.int x)), some (.own (l.map .int)), some (.p (.int b)), none, none, none, none] := fun l b => by
      refine evT_b (prim_c (as := [.v (.p (.int ((l.length : Nat) : Int))), .s 3]) (ds := [.p (.int ((l.length : Nat) : Int)), .p (.int b)]) (evA_c (fun i z => by cases z) (prim_c (as := [.s 2]) (ds := [.own (l.map .int)]) rfl rfl ?_) (evA_v rfl evA_n)) rfl rfl)
      show some (D.p (.int (((l.map PyData.int).length : Nat) : Int))) = _
      rw [List.length_map]
    by_cases c : ((l.length : Nat) : Int) < b
    · have hstep : exs (Ch n R x (kk + 1)) b_has_rounds_without_0 [some (.p (mPD n R)), some (.p (.int x)), some (.own (l.map .int)), some (.p (.int b)), none, none, none, none] = .nx [some (.p (mPD n R)), some (.p (.int x)), some (.own ((ag R l).map .int)), some (.p (.int ((l.length : Nat) : Int))), none, none, none, none] := by
        refine asg_s (d := .p (.int ((l.length : Nat) : Int))) (ρ1 := [some (.p (mPD n R)), some (.p (.int x)), some (.own (l.map .int)), some (.p (.int b)), none, none, none, none]) (ρ2 := [some (.p (mPD n R)), some (.p (.int x)), some (.own (l.map .int)), some (.p (.int ((l.length : Nat) : Int))), none, none, none, none]) (prim_c (as := [.s 2]) (ds := [.own (l.map .int)]) rfl rfl ?_) rfl (show 3 < 8 by decide) rfl (asg_s (ρ1 := [some (.p (mPD n R)), some (.p (.int x)), some (.p (.list (l.map .int))), some (.p (.int ((l.length : Nat) : Int))), none, none, none, none]) (hr_ag kk n R x g l hl ((l.length : Nat) : Int)) rfl (show 2 < 8 by decide) rfl nil_c)
        show some (D.p (.int (((l.map PyData.int).length : Nat) : Int))) = _
        rw [List.length_map]
      have hsub : ∀ y ∈ ag R l, y ∈ l := fun y hy => (mem_ag.mp hy).1
      have hT : ∀ T : List Int, (∀ y ∈ T, y ∈ l) → (∀ y ∈ T, ∃ t ∈ R, t.1 = y ∧ t.2.1 ∈ T) → ∀ y ∈ T, y ∈ ag R l := fun T h1 h2 y hy => mem_ag.mpr ⟨h1 y hy, by
        obtain ⟨t, a, b, c⟩ := h2 y hy
        exact ⟨t, a, b, h1 _ c⟩⟩
      by_cases c2 : (ag R l).length < l.length
      · match N, hN with
        | 0, hN => omega
        | N + 1, hN =>
          obtain ⟨S, b', w, r1, r2, r3⟩ := hr_loop kk n R x g N (ag R l) ((l.length : Nat) : Int) (by omega) (by omega) (.inl (by omega))
          exact ⟨S, b', wS_t (ρ1 := [some (.p (mPD n R)), some (.p (.int x)), some (.own (l.map .int)), some (.p (.int b)), none, none, none, none]) ((hc l b).trans (by rw [decide_eq_true c])) hstep w, r1, fun y hy => hsub y (r2 y hy), fun T h1 h2 => r3 T (hT T h1 h2) h2⟩
      · have e := ag_len c2
        refine ⟨l, ((l.length : Nat) : Int), wS_t (ρ1 := [some (.p (mPD n R)), some (.p (.int x)), some (.own (l.map .int)), some (.p (.int b)), none, none, none, none]) ((hc l b).trans (by rw [decide_eq_true c])) hstep ?_, e, fun y hy => hy, fun T h1 _ => h1⟩
        rw [e]
        exact wS_f ((hc l ((l.length : Nat) : Int)).trans (by rw [decide_eq_false (by omega)]))
    · rcases hb with hb | hb
      · exact absurd hb c
      · exact ⟨l, b, wS_f ((hc l b).trans (by rw [decide_eq_false c])), hb, fun y hy => hy, fun T h1 _ => h1⟩
theorem r_without (kk n : Nat) (R : List R4) (M : MOk n R) (x : Int) (hx : 0 ≤ x ∧ x < n) : run prog (kk + 2) 41 [.p (mPD n R), .p (.int x)] = .ok (.p (.bool (hwB R x))) [.p (mPD n R), .p (.int x)] := by
  have n12 := M.n12
  have hml : ∀ y, y ∈ (rngZ n).filter (fun q => !decide (q = x)) ↔ (0 ≤ y ∧ y < n) ∧ y ≠ x := fun y => by
    rw [List.mem_filter, mem_rngZ]
    simp only [Bool.not_eq_true', decide_eq_false_iff_not]
  have hll : ((rngZ n).filter (fun q => !decide (q = x))).length < n := by
    have h0 : x ∈ rngZ n := mem_rngZ.mpr hx
    have h1 : (rngZ n).length = n := by unfold rngZ; rw [List.length_map, List.length_range]
    have h2 := List.length_filter_lt_length_iff_exists (l := rngZ n) (p := fun q => !decide (q = x))
    rw [h1] at h2
    exact h2.mpr ⟨x, h0, by simp⟩
  obtain ⟨S, b', w, r1, r2, r3⟩ := hr_loop kk n R x M.g n ((rngZ n).filter (fun q => !decide (q = x))) n (by omega) (by omega) (.inl (by omega))
  have hres : (!decide (S = [])) = hwB R x := by
    rw [Bool.eq_iff_iff, hwB_iff]
    simp only [Bool.not_eq_true', decide_eq_false_iff_not]
    refine left_iff (fun y hy => ?_) (fun z => ((hml x).mp (r2 x z)).2 rfl) (fun T h1 h2 y hy => r3 T (fun z hz => (hml z).mpr ⟨?_, fun e => h1 (e ▸ hz)⟩) h2 y hy)
    · rw [← r1] at hy; exact (mem_ag.mp hy).2
    · obtain ⟨t, a, b, _⟩ := h2 z hz
      rw [← b]; exact M.g.one t a
  refine (run_succ (fn := f_has_rounds_without) rfl).trans ?_
  have hidx : ev (Ch n R x (kk + 1)) (.prim .idx (.cons (.var 0) (.cons (.int 1) .nil))) [some (.p (mPD n R)), some (.p (.int x)), none, none, none, none, none, none] = .ok (.p (.int n)) [some (.p (mPD n R)), some (.p (.int x)), none, none, none, none, none, none] := rfl
  have hr := range_e (C := Ch n R x (kk + 1)) (fun i z => by cases z) hidx (by omega) (by omega)
  have hlc : ev (Ch n R x (kk + 1)) (.lc (.var 4) (.v 4) (.range (.cons (.prim .idx (.cons (.var 0) (.cons (.int 1) .nil))) .nil)) (.cons (.prim (.cmp .NotEq) (.cons (.var 4) (.cons (.var 1) .nil))) .nil) [4]) [some (.p (mPD n R)), some (.p (.int x)), none, none, none, none, none, none] = .ok (.own (((rngZ n).filter (fun q => !decide (q = x))).map .int)) [some (.p (mPD n R)), some (.p (.int x)), none, none, none, none, none, none] := by
    refine lc_pure (ρ1 := [some (.p (mPD n R)), some (.p (.int x)), none, none, none, none, none, none]) (xs := (rngZ n).map .int) (g := fun d => match d with | .int q => if !decide (q = x) then some (.p (.int q)) else none | _ => none) (hr.trans (by rw [rangeL_rngZ])) rfl (fun d hd => ?_) ?_ ?_
    · obtain ⟨q, hq, rfl⟩ := List.mem_map.mp hd
      have q4 : ev (Ch n R x (kk + 1)) (.prim (.cmp .NotEq) (.cons (.var 4) (.cons (.var 1) .nil))) [some (.p (mPD n R)), some (.p (.int x)), none, none, some (.p (.int q)), none, none, none] = .ok (.p (.bool (!decide (q = x)))) [some (.p (mPD n R)), some (.p (.int x)), none, none, some (.p (.int q)), none, none, none] :=
        prim_c (as := [.s 4, .s 1]) (ds := [.p (.int q), .p (.int x)]) rfl rfl (by
          show Option.map (fun c => D.p (.bool c)) ((eqD (.p (.int q)) (.p (.int x))).map (!·)) = _
          rw [eqD_int]; rfl)
      refine ⟨[some (.p (mPD n R)), some (.p (.int x)), none, none, some (.p (.int q)), none, none, none], !decide (q = x), rfl, rfl, ?_, ?_⟩
      · rw [evC, q4]
        simp only [bind_ok, tr_bool]
        cases decide (q = x) with
        | false => simp only [Bool.not_false]; rw [evC]
        | true => rfl
      · dsimp only
        by_cases z : (!decide (q = x)) = true
        · rw [if_pos z, if_pos z]; exact ⟨_, rfl, read_p (i := 4) rfl⟩
        · rw [if_neg z, if_neg z]
    · rw [List.filterMap_map]
      refine Nat.le_trans (List.length_filterMap_le _ _) ?_
      unfold rngZ; rw [List.length_map, List.length_range]; exact Nat.le_trans M.n12 (by decide)
    · rw [List.filterMap_map]
      have : ((rngZ n).filterMap ((fun d : PD => match d with | .int q => if !decide (q = x) then some (D.p (.int q)) else none | _ => none) ∘ PyData.int)) = ((rngZ n).filter (fun q => !decide (q = x))).map fun o => D.p (.int o) :=
        filterMap_if (fun q => !decide (q = x)) (fun o => D.p (.int o)) (rngZ n)
      rw [this, mkR_p]
  refine runB_gv rfl rfl (.st (ρ2 := [some (.p (mPD n R)), some (.p (.int x)), some (.own (((rngZ n).filter (fun q => !decide (q = x))).map .int)), some (.p (.int n)), none, none, none, none]) (par2_c (ρ1 := [some (.p (mPD n R)), some (.p (.int x)), none, none, none, none, none, none]) (ρ2 := [some (.p (mPD n R)), some (.p (.int x)), none, none, none, none, none, none]) hlc hidx rfl) (.st (ρ2 := [some (.p (mPD n R)), some (.p (.int x)), some (.own (S.map .int)), some (.p (.int b')), none, none, none, none]) (by rw [ex]; exact w) (.ret (ρ1 := [some (.p (mPD n R)), some (.p (.int x)), some (.own (S.map .int)), some (.p (.int b')), none, none, none, none]) (fun i z => by cases z) (prim_c (as := [.s 2, .v (.own [])]) (ds := [.own (S.map .int), .own []]) rfl rfl ?_) (gv rfl))))
  show Option.map (fun c => D.p (.bool c)) ((eqD (.own (S.map .int)) (.own [])).map (!·)) = _
  rw [eq_ints (a := S) (b := []) rfl rfl, ← hres]; rfl
noncomputable def hubL (R : List R4) (n : Nat) : List Int := (rngZ n).filter fun q => !hwB R q
theorem r_hubs (k n : Nat) (R : List R4) (M : MOk n R) : run prog (k + 6) 44 [.p (mPD n R)] = .ok (.own ((hubL R n).map .int)) [.p (mPD n R)] := by
  have n12 := M.n12
  refine (run_succ (fn := f_hubs) rfl).trans ?_
  have hwm : ev ⟨borOf [.p (mPD n R)], run prog (k + 5)⟩ (.call 21 [none] (.cons (.var 0) .nil) .nil) [some (.p (mPD n R)), none] = .ok (.p (mPD n R)) [some (.p (mPD n R)), none] := call_c (as := [.s 0]) (bs := []) (ds := [.p (mPD n R)]) (ps := [.p (mPD n R)]) (qs := [.p (mPD n R)]) (ρ1 := [some (.p (mPD n R)), none]) (ρ2 := [some (.p (mPD n R)), none]) rfl evA_n rfl rfl rfl (r_want_machine k _ M.sh M.ok) rfl
  have hidx : ev ⟨borOf [.p (mPD n R)], run prog (k + 5)⟩ (.prim .idx (.cons (.var 0) (.cons (.int 1) .nil))) [some (.p (mPD n R)), none] = .ok (.p (.int n)) [some (.p (mPD n R)), none] := rfl
  have hr := range_e (C := ⟨borOf [.p (mPD n R)], run prog (k + 5)⟩) (fun i z => by cases z) hidx (by omega) (by omega)
  refine runB_gv rfl rfl (.st (ρ2 := [some (.p (mPD n R)), none]) (expr_c hwm) (.ret (ρ1 := [some (.p (mPD n R)), none]) (fun i z => by cases z) (lc_pure (ρ1 := [some (.p (mPD n R)), none]) (xs := (rngZ n).map .int) (g := fun d => match d with | .int q => if !hwB R q then some (.p (.int q)) else none | _ => none) (hr.trans (by rw [rangeL_rngZ])) rfl (fun d hd => ?_) ?_ ?_) (gv rfl)))
  · obtain ⟨q, hq, rfl⟩ := List.mem_map.mp hd
    have q4 : ev ⟨borOf [.p (mPD n R)], run prog (k + 5)⟩ (.nt (.call 41 [none, none] (.cons (.var 0) (.cons (.var 1) .nil)) .nil)) [some (.p (mPD n R)), some (.p (.int q))] = .ok (.p (.bool (!hwB R q))) [some (.p (mPD n R)), some (.p (.int q))] :=
      nt_c (call_c (as := [.s 0, .s 1]) (bs := []) (ds := [.p (mPD n R), .p (.int q)]) (ps := [.p (mPD n R), .p (.int q)]) (qs := [.p (mPD n R), .p (.int q)]) (ρ1 := [some (.p (mPD n R)), some (.p (.int q))]) (ρ2 := [some (.p (mPD n R)), some (.p (.int q))]) rfl evA_n rfl rfl rfl (r_without (k + 3) n R M q (mem_rngZ.mp hq)) rfl)
    refine ⟨[some (.p (mPD n R)), some (.p (.int q))], !hwB R q, rfl, rfl, ?_, ?_⟩
    · rw [evC, q4]
      simp only [bind_ok, tr_bool]
      cases hwB R q with
      | false => simp only [Bool.not_false]; rw [evC]
      | true => rfl
    · dsimp only
      by_cases z : (!hwB R q) = true
      · rw [if_pos z, if_pos z]; exact ⟨_, rfl, read_p (i := 1) rfl⟩
      · rw [if_neg z, if_neg z]
  · rw [List.filterMap_map]
    refine Nat.le_trans (List.length_filterMap_le _ _) ?_
    unfold rngZ; rw [List.length_map, List.length_range]; exact Nat.le_trans M.n12 (by decide)
  · rw [List.filterMap_map]
    have : ((rngZ n).filterMap ((fun d : PD => match d with | .int q => if !hwB R q then some (D.p (.int q)) else none | _ => none) ∘ PyData.int)) = (hubL R n).map fun o => D.p (.int o) :=
      filterMap_if (fun q => !hwB R q) (fun o => D.p (.int o)) (rngZ n)
    rw [this, mkR_p]
end Law_k41

namespace Law_k41
open PySem PySem.Spec L2 Pv
theorem eq_ei {C : Pv.Ctx} {ρ ρ1 : Pv.Env} {e : E} {x y : Int} (hv : ∀ i, e ≠ .var i) (he : ev C e ρ = .ok (.p (.int x)) ρ1) : ev C (.prim (.cmp .Eq) (.cons e (.cons (.int y) .nil))) ρ = .ok (.p (.bool (decide (x = y)))) ρ1 := by
  refine prim2 hv (fun i z => by cases z) he (by rw [ev]) ?_
  show Option.map (fun c => D.p (.bool c)) (eqD (.p (.int x)) (.p (.int y))) = _
  rw [eqD_int]; rfl
def good4 (n : Int) (t : R4) : Prop := (0 ≤ t.1 ∧ t.1 < n) ∧ (0 ≤ t.2.1 ∧ t.2.1 < n) ∧ (1 ≤ t.2.2.1 ∧ t.2.2.1 ≤ 100) ∧ (1 ≤ t.2.2.2 ∧ t.2.2.2 ≤ 2)
theorem adj_of {R : List PD} (h : R.Pairwise fun x y => ltL (k3 x) (k3 y) = true) : (pairUp R (R.drop 1)).all lt3 = true := by
  induction R with
  | nil => rfl
  | cons x R ih =>
    rw [List.pairwise_cons] at h
    cases R with
    | nil => rfl
    | cons y R =>
      show (lt3 (.tuple [x, y]) && (pairUp (y :: R) ((y :: R).drop 1)).all lt3) = true
      rw [ih h.2]
      show (ltL (k3 x) (k3 y) && true) = true
      rw [h.1 y List.mem_cons_self]; rfl
theorem nice_m {n : Nat} {R : List R4} (n12 : n ≤ 12) (hl : R.length ≤ 16) (hg : ∀ t ∈ R, good4 n t) : Nice 3 2000 (mPD n R) := by
  have hr : NiceL 1 (16 * (63 + 2)) (R.map rd) := niceL_n (fun x hx => by
    obtain ⟨t, ht, rfl⟩ := List.mem_map.mp hx
    obtain ⟨h1, h2, h3, h4⟩ := hg t ht
    refine (nice_tuple (n := 0) (niceL_cons (n' := 0) (nice_int (i := t.1) (by omega)) (niceL_cons (n' := 0) (nice_int (i := t.2.1) (by omega)) (niceL_cons (n' := 0) (nice_int (i := t.2.2.1) (by omega)) (niceL_one (nice_int (i := t.2.2.2) (by omega))))))).mono (by omega) (by omega)) (by rw [List.length_map]; exact hl)
  have h0 : Nice 2 11 (.str "machine") := ⟨by decide +kernel, by decide +kernel, Nat.zero_le _, by unfold sz; decide +kernel⟩
  have h2 : Nice 2 13 (.int (n : Int)) := nice_int (by omega)
  exact (nice_tuple (niceL_cons (n' := 0) h0 (niceL_cons (n' := 0) h2 (niceL_one (nice_tuple hr))))).mono (by omega) (by omega)
theorem mach_ok {n : Nat} {R : List R4} (n1 : 1 ≤ n) (n12 : n ≤ 12) (hl : R.length ≤ 16) (hg : ∀ t ∈ R, good4 n t) (hp : (R.map ky).Pairwise fun x y => ltL x y = true) : MOk n R := by
  refine ⟨⟨hl, fun t ht => (hg t ht).1, fun t ht => (hg t ht).2.1, fun t ht => (hg t ht).2.2.1⟩, n1, n12, (nice_m n12 hl hg).shaped (by omega), ?_⟩
  · show (decide (("machine" : Str) = "machine") && ((decide (1 ≤ (n : Int)) && decide ((n : Int) ≤ 12)) && decide ((R.map rd).length ≤ 60) && ((R.map rd).all fun q => road q n) && (pairUp (R.map rd) ((R.map rd).drop 1)).all lt3)) = true
    rw [decide_eq_true rfl, decide_eq_true (by omega), decide_eq_true (by omega), decide_eq_true (by rw [List.length_map]; omega), adj_of]
    · rw [Bool.true_and, Bool.and_self, Bool.true_and, Bool.and_true, Bool.true_and, List.all_eq_true]
      intro q hq
      obtain ⟨t, ht, rfl⟩ := List.mem_map.mp hq
      obtain ⟨h1, h2, h3, h4⟩ := hg t ht
      have : (10 : Int) < 10000000000000000000000000000000000000000000000000000000000000000000000000000000000000000000000000000000000000000000000000000000000000000000000000000000000000000000000000000000000000000000000000000000000000000000000000000000000000000000000000000000000000000000000000000000000000000000000000000000000000000000000000000000000000000000000000000000000000000000000000000000000000000000000000000000000000000 := by decide +kernel
      unfold road rd
      dsimp only
      simp only [Bool.and_eq_true, decide_eq_true_eq]
      exact ⟨⟨by omega, by omega, by omega, by omega⟩, by omega, by omega, ⟨by omega, by omega⟩, by omega, Int.lt_of_le_of_lt h4.2 (Int.lt_trans (by decide) this)⟩
    · rw [List.pairwise_map] at hp ⊢
      exact hp
theorem atI_ex {hs : List Int} {i : Int} (h0 : 0 ≤ i) (h1 : i < hs.length) : ∃ x, prD .idx [.own (hs.map .int), .p (.int i)] = some (.p (.int x)) := by
  obtain ⟨p, x, q, e1, e2⟩ := split_at (l := hs.map PyData.int) h0 (by rw [List.length_map]; exact h1)
  have hx : x ∈ hs.map PyData.int := by rw [e1]; exact List.mem_append_right _ List.mem_cons_self
  obtain ⟨y, _, rfl⟩ := List.mem_map.mp hx
  refine ⟨y, ?_⟩
  show (atI (hs.map PyData.int) i).map D.p = _
  rw [e1, e2, atI_p]; rfl
def b__law_machine_0 : Ss := (.cons (.app 5 (.call 46 [none, none] (.cons (.var 0) (.cons (.var 4) .nil)) .nil)) .nil)
def t__law_machine_0 : T := (.v 6)
def b__law_machine_1 : Ss := (.cons (.par [8, 9] (.cons (.call 46 [none, none] (.cons (.var 0) (.cons (.var 2) .nil)) .nil) (.cons (.call 46 [none, none] (.cons (.var 0) (.cons (.var 2) .nil)) .nil) .nil))) (.cons (.ife (.bop .And (.cons (.var 1) (.cons (.prim (.cmp .Lt) (.cons (.var 7) (.cons (.var 2) .nil))) (.cons (.prim (.cmp .Lt) (.cons (.var 4) (.cons (.int 3) .nil))) .nil)))) (.cons (.par [8, 9] (.cons (.var 7) (.cons (.prim (.bin .Mod) (.cons (.prim (.bf .int) (.cons (.prim (.bin .Add) (.cons (.var 7) (.cons (.int 1) .nil))) .nil)) (.cons (.var 2) .nil))) .nil))) .nil) .nil) (.cons (.asg (.v 10) (.prim (.bin .Add) (.cons (.prim (.bin .Mod) (.cons (.prim (.bf .int) (.cons (.prim (.bin .Sub) (.cons (.prim .idx (.cons (.var 5) (.cons (.var 9) .nil))) (.cons (.prim .idx (.cons (.var 5) (.cons (.var 8) .nil))) .nil))) .nil)) (.cons (.var 4) .nil))) (.cons (.prim (.bin .Mult) (.cons (.var 4) (.cons (.call 46 [none, none] (.cons (.var 0) (.cons (.int 3) .nil)) .nil) .nil))) .nil)))) (.cons (.asg (.ix 3 (.tup (.cons (.var 8) (.cons (.var 9) (.cons (.ite (.prim (.cmp .Gt) (.cons (.var 10) (.cons (.int 0) .nil))) (.var 10) (.var 4)) .nil))))) (.prim (.bin .Add) (.cons (.int 1) (.cons (.call 46 [none, none] (.cons (.var 0) (.cons (.int 2) .nil)) .nil) .nil)))) .nil))))
def t__law_machine_1 : T := (.v 7)
noncomputable abbrev Cm_ (a0 b0 : Int) (k : Nat) : Pv.Ctx := ⟨borOf [Pot a0 b0], run prog k⟩
theorem hg_for (k : Nat) (a0 b0 n st : Int) (gr : Bool) (M : List R4) (s0 : 0 < st) (s4 : st ≤ 4) : ∀ (xs : List PD) (hs : List Int) (a b : Int) (d6 : Option D), PotOk a b → hs.length + xs.length ≤ 1000 →
    ∃ hs' a' b' d6', forL (Cm_ a0 b0 (k + 1)) t__law_machine_0 (exs (Cm_ a0 b0 (k + 1)) b__law_machine_0) xs [some (Pot a b), some (.p (.bool gr)), some (.p (.int n)), some (.odt (M.map mkRd)), some (.p (.int st)), some (.own (hs.map .int)), d6, none, none, none, none, none] = .nx [some (Pot a' b'), some (.p (.bool gr)), some (.p (.int n)), some (.odt (M.map mkRd)), some (.p (.int st)), some (.own (List.map .int hs')), d6', none, none, none, none, none] ∧ PotOk a' b' ∧ hs'.length = hs.length + xs.length
  | [], hs, a, b, d6, ok, hl => ⟨hs, a, b, d6, forL_nil, ok, rfl⟩
  | x :: xs, hs, a, b, d6, ok, hl => by
    rw [List.length_cons] at hl
    obtain ⟨r1, a1, b1, hr1, ok1, he1⟩ := draw_c (C := Cm_ a0 b0 (k + 1)) (ρ := [some (Pot a b), some (.p (.bool gr)), some (.p (.int n)), some (.odt (M.map mkRd)), some (.p (.int st)), some (.own (hs.map .int)), some (.p x), none, none, none, none, none]) (f := 46) (i := 0) (e := .var 4) (m := st) (x := .s 4) (r_draw k) ok rfl rfl rfl (by omega) (by omega)
    obtain ⟨hs', a', b', d6', hf, ok', hl'⟩ := hg_for k a0 b0 n st gr M s0 s4 xs (hs ++ [r1]) a1 b1 (some (.p x)) ok1 (by rw [List.length_append, List.length_singleton]; omega)
    refine ⟨hs', a', b', d6', forL_cons (ρ1 := [some (Pot a b), some (.p (.bool gr)), some (.p (.int n)), some (.odt (M.map mkRd)), some (.p (.int st)), some (.own (hs.map .int)), some (.p x), none, none, none, none, none]) (ρ2 := [some (Pot a1 b1), some (.p (.bool gr)), some (.p (.int n)), some (.odt (M.map mkRd)), some (.p (.int st)), some (.own ((hs ++ [r1]).map .int)), some (.p x), none, none, none, none, none]) rfl (st_s (app_i (ρ1 := [some (Pot a1 b1), some (.p (.bool gr)), some (.p (.int n)), some (.odt (M.map mkRd)), some (.p (.int st)), some (.own (hs.map .int)), some (.p x), none, none, none, none, none]) (ρ2 := [some (Pot a1 b1), some (.p (.bool gr)), some (.p (.int n)), some (.odt (M.map mkRd)), some (.p (.int st)), some (.own ((hs ++ [r1]).map .int)), some (.p x), none, none, none, none, none]) (l := hs) (x := r1) rfl he1 rfl (Nat.lt_of_le_of_lt (by omega : hs.length ≤ 1000) (by decide)) rfl) nil_c) hf, ok', by rw [hl', List.length_append, List.length_singleton, List.length_cons]; omega⟩
theorem tn_for (k : Nat) (a0 b0 n st : Int) (gr : Bool) (n0 : 0 < n) (n12 : n ≤ 12) (s0 : 0 < st) (s4 : st ≤ 4) (hs : List Int) (hh : (hs.length : Int) = n) (d6 : Option D) : ∀ (xs : List Int) (M : List R4) (a b : Int) (d7 d8 d9 d10 : Option D), PotOk a b → (∀ t ∈ M, good4 n t) → (M.map ky).Nodup → M.length + xs.length ≤ 100 → (∀ x ∈ xs, 0 ≤ x) →
    ∃ M' a' b' e7 e8 e9 e10, forL (Cm_ a0 b0 (k + 1)) t__law_machine_1 (exs (Cm_ a0 b0 (k + 1)) b__law_machine_1) (xs.map .int) [some (Pot a b), some (.p (.bool gr)), some (.p (.int n)), some (.odt (M.map mkRd)), some (.p (.int st)), some (.own (hs.map .int)), d6, d7, d8, d9, d10, none] = .nx [some (Pot a' b'), some (.p (.bool gr)), some (.p (.int n)), some (.odt (List.map mkRd M')), some (.p (.int st)), some (.own (hs.map .int)), d6, e7, e8, e9, e10, none] ∧ PotOk a' b' ∧ (∀ t ∈ M', good4 n t) ∧ (M'.map ky).Nodup ∧ M'.length ≤ M.length + xs.length
  | [], M, a, b, d7, d8, d9, d10, ok, hg, hn, hl, hx => ⟨M, a, b, d7, d8, d9, d10, forL_nil, ok, hg, hn, Nat.le_refl _⟩
  | x :: xs, M, a, b, d7, d8, d9, d10, ok, hg, hn, hl, hx => by
    rw [List.length_cons] at hl
    have hx0 := hx x List.mem_cons_self
    obtain ⟨r1, a1, b1, hr1, ok1, he1⟩ := draw_c (C := Cm_ a0 b0 (k + 1)) (ρ := [some (Pot a b), some (.p (.bool gr)), some (.p (.int n)), some (.odt (M.map mkRd)), some (.p (.int st)), some (.own (hs.map .int)), d6, some (.p (.int x)), d8, d9, d10, none]) (f := 46) (i := 0) (e := .var 2) (m := n) (x := .s 2) (r_draw k) ok rfl rfl rfl (by omega) (by omega)
    obtain ⟨r2, a2, b2, hr2, ok2, he2⟩ := draw_c (C := Cm_ a0 b0 (k + 1)) (ρ := [some (Pot a1 b1), some (.p (.bool gr)), some (.p (.int n)), some (.odt (M.map mkRd)), some (.p (.int st)), some (.own (hs.map .int)), d6, some (.p (.int x)), d8, d9, d10, none]) (f := 46) (i := 0) (e := .var 2) (m := n) (x := .s 2) (r_draw k) ok1 rfl rfl rfl (by omega) (by omega)
    obtain ⟨o1, o2, ho1, ho2, hif⟩ : ∃ o1 o2 : Int, (0 ≤ o1 ∧ o1 < n) ∧ (0 ≤ o2 ∧ o2 < n) ∧ ex (Cm_ a0 b0 (k + 1)) (.ife (.bop .And (.cons (.var 1) (.cons (.prim (.cmp .Lt) (.cons (.var 7) (.cons (.var 2) .nil))) (.cons (.prim (.cmp .Lt) (.cons (.var 4) (.cons (.int 3) .nil))) .nil)))) (.cons (.par [8, 9] (.cons (.var 7) (.cons (.prim (.bin .Mod) (.cons (.prim (.bf .int) (.cons (.prim (.bin .Add) (.cons (.var 7) (.cons (.int 1) .nil))) .nil)) (.cons (.var 2) .nil))) .nil))) .nil) .nil) [some (Pot a2 b2), some (.p (.bool gr)), some (.p (.int n)), some (.odt (M.map mkRd)), some (.p (.int st)), some (.own (hs.map .int)), d6, some (.p (.int x)), some (.p (.int r1)), some (.p (.int r2)), d10, none] = .nx [some (Pot a2 b2), some (.p (.bool gr)), some (.p (.int n)), some (.odt (M.map mkRd)), some (.p (.int st)), some (.own (hs.map .int)), d6, some (.p (.int x)), some (.p (.int o1)), some (.p (.int o2)), d10, none] := by
      have hc : evT (Cm_ a0 b0 (k + 1)) (.bop .And (.cons (.var 1) (.cons (.prim (.cmp .Lt) (.cons (.var 7) (.cons (.var 2) .nil))) (.cons (.prim (.cmp .Lt) (.cons (.var 4) (.cons (.int 3) .nil))) .nil)))) [some (Pot a2 b2), some (.p (.bool gr)), some (.p (.int n)), some (.odt (M.map mkRd)), some (.p (.int st)), some (.own (hs.map .int)), d6, some (.p (.int x)), some (.p (.int r1)), some (.p (.int r2)), d10, none] = .ok (gr && (decide (x < n) && decide (st < 3))) [some (Pot a2 b2), some (.p (.bool gr)), some (.p (.int n)), some (.odt (M.map mkRd)), some (.p (.int st)), some (.own (hs.map .int)), d6, some (.p (.int x)), some (.p (.int r1)), some (.p (.int r2)), d10, none] :=
        evT_b (bop_c (and_c (read_p (i := 1) rfl) fun _ => and_c (prim_c (as := [.s 7, .s 2]) (ds := [.p (.int x), .p (.int n)]) rfl rfl rfl) fun _ => and_one (prim_c (as := [.s 4, .v (.p (.int 3))]) (ds := [.p (.int st), .p (.int 3)]) rfl rfl rfl)))
      by_cases c : (gr && (decide (x < n) && decide (st < 3))) = true
      · have cx : x < n := by
          rw [Bool.and_eq_true, Bool.and_eq_true] at c
          exact of_decide_eq_true c.2.1
        have hm0 := Int.emod_nonneg (x + 1) (show n ≠ 0 by omega)
        have hm1 := Int.emod_lt_of_pos (x + 1) n0
        refine ⟨x, (x + 1) % n, ⟨hx0, cx⟩, ⟨hm0, hm1⟩, ?_⟩
        rw [ex_if hc, c, if_pos rfl]
        refine st_s (par2_c (ρ1 := [some (Pot a2 b2), some (.p (.bool gr)), some (.p (.int n)), some (.odt (M.map mkRd)), some (.p (.int st)), some (.own (hs.map .int)), d6, some (.p (.int x)), some (.p (.int r1)), some (.p (.int r2)), d10, none]) (ρ2 := [some (Pot a2 b2), some (.p (.bool gr)), some (.p (.int n)), some (.odt (M.map mkRd)), some (.p (.int st)), some (.own (hs.map .int)), d6, some (.p (.int x)), some (.p (.int r1)), some (.p (.int r2)), d10, none]) (d1 := .p (.int x)) (d2 := .p (.int ((x + 1) % n))) (read_p (i := 7) rfl) (prim_c (as := [.v (.p (.int (x + 1))), .s 2]) (ds := [.p (.int (x + 1)), .p (.int n)]) rfl rfl (mod_pr n0)) rfl) nil_c
      · refine ⟨r1, r2, hr1, hr2, ?_⟩
        rw [ex_if hc, Bool.eq_false_iff.mpr c, if_neg Bool.false_ne_true]
        exact nil_c
    obtain ⟨h1, hi1⟩ := atI_ex (hs := hs) ho1.1 (by omega)
    obtain ⟨h2, hi2⟩ := atI_ex (hs := hs) ho2.1 (by omega)
    obtain ⟨r3, a3, b3, hr3, ok3, he3⟩ := draw_c (C := Cm_ a0 b0 (k + 1)) (ρ := [some (Pot a2 b2), some (.p (.bool gr)), some (.p (.int n)), some (.odt (M.map mkRd)), some (.p (.int st)), some (.own (hs.map .int)), d6, some (.p (.int x)), some (.p (.int o1)), some (.p (.int o2)), d10, none]) (f := 46) (i := 0) (e := .int 3) (m := 3) (x := .v (.p (.int 3))) (r_draw k) ok2 rfl rfl rfl (by omega) (by omega)
    have hsub : ev (Cm_ a0 b0 (k + 1)) (.prim (.bin .Mod) (.cons (.prim (.bf .int) (.cons (.prim (.bin .Sub) (.cons (.prim .idx (.cons (.var 5) (.cons (.var 9) .nil))) (.cons (.prim .idx (.cons (.var 5) (.cons (.var 8) .nil))) .nil))) .nil)) (.cons (.var 4) .nil))) [some (Pot a2 b2), some (.p (.bool gr)), some (.p (.int n)), some (.odt (M.map mkRd)), some (.p (.int st)), some (.own (hs.map .int)), d6, some (.p (.int x)), some (.p (.int o1)), some (.p (.int o2)), d10, none] = .ok (.p (.int ((h2 - h1) % st))) [some (Pot a2 b2), some (.p (.bool gr)), some (.p (.int n)), some (.odt (M.map mkRd)), some (.p (.int st)), some (.own (hs.map .int)), d6, some (.p (.int x)), some (.p (.int o1)), some (.p (.int o2)), d10, none] :=
      prim_c (as := [.v (.p (.int (h2 - h1))), .s 4]) (ds := [.p (.int (h2 - h1)), .p (.int st)]) (evA_c (fun i z => by cases z) (prim1 (fun i z => by cases z) (prim2 (fun i z => by cases z) (fun i z => by cases z) (prim_c (as := [.s 5, .s 9]) (ds := [.own (hs.map .int), .p (.int o2)]) rfl rfl hi2) (prim_c (as := [.s 5, .s 8]) (ds := [.own (hs.map .int), .p (.int o1)]) rfl rfl hi1) rfl) rfl) (evA_v rfl evA_n)) rfl (mod_pr s0)
    have hm0 := Int.emod_nonneg (h2 - h1) (show st ≠ 0 by omega)
    have hm1 := Int.emod_lt_of_pos (h2 - h1) s0
    have hmul : 0 ≤ st * r3 ∧ st * r3 ≤ 8 := by
      have : r3 = 0 ∨ r3 = 1 ∨ r3 = 2 := by omega
      rcases this with e | e | e <;> subst e <;> omega
    obtain ⟨ln, hln⟩ : ∃ ln : Int, ln = (h2 - h1) % st + st * r3 := ⟨_, rfl⟩
    have hl0 : 0 ≤ ln ∧ ln ≤ 12 := by omega
    have hlen : ev (Cm_ a0 b0 (k + 1)) (.prim (.bin .Add) (.cons (.prim (.bin .Mod) (.cons (.prim (.bf .int) (.cons (.prim (.bin .Sub) (.cons (.prim .idx (.cons (.var 5) (.cons (.var 9) .nil))) (.cons (.prim .idx (.cons (.var 5) (.cons (.var 8) .nil))) .nil))) .nil)) (.cons (.var 4) .nil))) (.cons (.prim (.bin .Mult) (.cons (.var 4) (.cons (.call 46 [none, none] (.cons (.var 0) (.cons (.int 3) .nil)) .nil) .nil))) .nil))) [some (Pot a2 b2), some (.p (.bool gr)), some (.p (.int n)), some (.odt (M.map mkRd)), some (.p (.int st)), some (.own (hs.map .int)), d6, some (.p (.int x)), some (.p (.int o1)), some (.p (.int o2)), d10, none] = .ok (.p (.int ln)) [some (Pot a3 b3), some (.p (.bool gr)), some (.p (.int n)), some (.odt (M.map mkRd)), some (.p (.int st)), some (.own (hs.map .int)), d6, some (.p (.int x)), some (.p (.int o1)), some (.p (.int o2)), d10, none] :=
      prim2 (fun i z => by cases z) (fun i z => by cases z) hsub (prim_c (as := [.s 4, .v (.p (.int r3))]) (ds := [.p (.int st), .p (.int r3)]) (evA_v rfl (evA_c (fun i z => by cases z) he3 evA_n)) rfl (mul_pr (by omega) (by omega))) (by rw [hln]; rfl)
    obtain ⟨r4, a4, b4, hr4, ok4, he4⟩ := draw_c (C := Cm_ a0 b0 (k + 1)) (ρ := [some (Pot a3 b3), some (.p (.bool gr)), some (.p (.int n)), some (.odt (M.map mkRd)), some (.p (.int st)), some (.own (hs.map .int)), d6, some (.p (.int x)), some (.p (.int o1)), some (.p (.int o2)), some (.p (.int ln)), none]) (f := 46) (i := 0) (e := .int 2) (m := 2) (x := .v (.p (.int 2))) (r_draw k) ok3 rfl rfl rfl (by omega) (by omega)
    obtain ⟨ll, hll, hl1, hl2⟩ : ∃ ll : Int, ev (Cm_ a0 b0 (k + 1)) (.ite (.prim (.cmp .Gt) (.cons (.var 10) (.cons (.int 0) .nil))) (.var 10) (.var 4)) [some (Pot a4 b4), some (.p (.bool gr)), some (.p (.int n)), some (.odt (M.map mkRd)), some (.p (.int st)), some (.own (hs.map .int)), d6, some (.p (.int x)), some (.p (.int o1)), some (.p (.int o2)), some (.p (.int ln)), none] = .ok (.p (.int ll)) [some (Pot a4 b4), some (.p (.bool gr)), some (.p (.int n)), some (.odt (M.map mkRd)), some (.p (.int st)), some (.own (hs.map .int)), d6, some (.p (.int x)), some (.p (.int o1)), some (.p (.int o2)), some (.p (.int ln)), none] ∧ 1 ≤ ll ∧ ll ≤ 100 := by
      have hc : ev (Cm_ a0 b0 (k + 1)) (.prim (.cmp .Gt) (.cons (.var 10) (.cons (.int 0) .nil))) [some (Pot a4 b4), some (.p (.bool gr)), some (.p (.int n)), some (.odt (M.map mkRd)), some (.p (.int st)), some (.own (hs.map .int)), d6, some (.p (.int x)), some (.p (.int o1)), some (.p (.int o2)), some (.p (.int ln)), none] = .ok (.p (.bool (decide (0 < ln)))) [some (Pot a4 b4), some (.p (.bool gr)), some (.p (.int n)), some (.odt (M.map mkRd)), some (.p (.int st)), some (.own (hs.map .int)), d6, some (.p (.int x)), some (.p (.int o1)), some (.p (.int o2)), some (.p (.int ln)), none] := prim_c (as := [.s 10, .v (.p (.int 0))]) (ds := [.p (.int ln), .p (.int 0)]) rfl rfl rfl
      by_cases c : 0 < ln
      · refine ⟨ln, ?_, by omega, by omega⟩
        rw [ev, hc, decide_eq_true c]; simp only [bind_ok, tr_bool]; exact read_p (i := 10) rfl
      · refine ⟨st, ?_, by omega, by omega⟩
        rw [ev, hc, decide_eq_false c]; simp only [bind_ok, tr_bool]; exact read_p (i := 4) rfl
    obtain ⟨M', e1, g1, g2, g3⟩ := putD_mk M o1 o2 ll (1 + r4)
    obtain ⟨M2, a', b', e7, e8, e9, e10, hf, ok', hg', hn', hl'⟩ := tn_for k a0 b0 n st gr n0 n12 s0 s4 hs hh d6 xs M' a4 b4 (some (.p (.int x))) (some (.p (.int o1))) (some (.p (.int o2))) (some (.p (.int ln))) ok4 (fun t ht => by
      rcases g1 t ht with h | h
      · exact hg t h
      · subst h; exact ⟨ho1, ho2, ⟨hl1, hl2⟩, ⟨by show 1 ≤ 1 + r4; omega, by show 1 + r4 ≤ 2; omega⟩⟩) (g2 hn) (by omega) (fun y hy => hx y (List.mem_cons_of_mem _ hy))
    refine ⟨M2, a', b', e7, e8, e9, e10, ?_, ok', hg', hn', by rw [List.length_cons]; omega⟩
    refine forL_cons (ρ1 := [some (Pot a b), some (.p (.bool gr)), some (.p (.int n)), some (.odt (M.map mkRd)), some (.p (.int st)), some (.own (hs.map .int)), d6, some (.p (.int x)), d8, d9, d10, none]) (ρ2 := [some (Pot a4 b4), some (.p (.bool gr)), some (.p (.int n)), some (.odt (M'.map mkRd)), some (.p (.int st)), some (.own (hs.map .int)), d6, some (.p (.int x)), some (.p (.int o1)), some (.p (.int o2)), some (.p (.int ln)), none]) rfl (st_s (ρ2 := [some (Pot a2 b2), some (.p (.bool gr)), some (.p (.int n)), some (.odt (M.map mkRd)), some (.p (.int st)), some (.own (hs.map .int)), d6, some (.p (.int x)), some (.p (.int r1)), some (.p (.int r2)), d10, none]) (par2_c he1 he2 rfl) (st_s hif (asg_s (ρ1 := [some (Pot a3 b3), some (.p (.bool gr)), some (.p (.int n)), some (.odt (M.map mkRd)), some (.p (.int st)), some (.own (hs.map .int)), d6, some (.p (.int x)), some (.p (.int o1)), some (.p (.int o2)), d10, none]) (ρ2 := [some (Pot a3 b3), some (.p (.bool gr)), some (.p (.int n)), some (.odt (M.map mkRd)), some (.p (.int st)), some (.own (hs.map .int)), d6, some (.p (.int x)), some (.p (.int o1)), some (.p (.int o2)), some (.p (.int ln)), none]) hlen rfl (show 10 < 12 by decide) rfl (st_s ?_ nil_c)))) hf
    refine setx_c (ρ1 := [some (Pot a4 b4), some (.p (.bool gr)), some (.p (.int n)), some (.odt (M.map mkRd)), some (.p (.int st)), some (.own (hs.map .int)), d6, some (.p (.int x)), some (.p (.int o1)), some (.p (.int o2)), some (.p (.int ln)), none]) (ρ2 := [some (Pot a4 b4), some (.p (.bool gr)), some (.p (.int n)), some (.odt (M.map mkRd)), some (.p (.int st)), some (.own (hs.map .int)), d6, some (.p (.int x)), some (.p (.int o1)), some (.p (.int o2)), some (.p (.int ln)), none]) (kd := .p (.tuple [.int o1, .int o2, .int ll])) (prim2 (fun i z => by cases z) (fun i z => by cases z) (a := .p (.int 1)) (b := .p (.int r4)) rfl he4 rfl) rfl (tup_c (evL_c (read_p (i := 8) rfl) (evL_c (read_p (i := 9) rfl) (evL_c hll evL_n))) rfl (show 3 ≤ line by decide)) rfl (setD_mk (M := M) (Nat.lt_of_le_of_lt (by omega : M.length ≤ 100) (by decide))) ?_
    rw [e1]; rfl
end Law_k41

namespace Law_k41
open PySem PySem.Spec L2 Pv
def QM (d : D) (ρ : Pv.Env) : Prop := ∃ (n : Nat) (R : List R4) (a b : Int), d = .p (mPD n R) ∧ MOk n R ∧ (∀ t ∈ R, good4 n t) ∧ PotOk a b ∧ takeD 1 ρ = [Pot a b]
theorem r_machine (k : Nat) (a b : Int) (ok : PotOk a b) : ∃ (n : Nat) (R : List R4) (a' b' : Int), MOk n R ∧ (∀ t ∈ R, good4 n t) ∧ PotOk a' b' ∧ run prog (k + 3) 47 [Pot a b] = .ok (.p (mPD n R)) [Pot a' b'] := by
  suffices h : Wr (Cm_ a b (k + 2)) f__law_machine.body (Pv.start f__law_machine [Pot a b]) QM by
    obtain ⟨d, ρ', h1, n, R, a', b', rfl, hB, h9, ok', ht⟩ := runB_ex (f := f__law_machine) (ds := [Pot a b]) rfl h
    exact ⟨n, R, a', b', hB, h9, ok', (run_succ (fn := f__law_machine) rfl).trans (h1.trans (by rw [show [Pot a b].length = 1 from rfl, ht]))⟩
  obtain ⟨r0, a1, b1, hr0, ok1, he0⟩ := draw_c (C := Cm_ a b (k + 2)) (ρ := [some (Pot a b), none, none, none, none, none, none, none, none, none, none, none]) (f := 46) (i := 0) (e := .int 4) (m := 4) (x := .v (.p (.int 4))) (r_draw (k + 1)) ok rfl rfl rfl (by omega) (by omega)
  refine .asg (ρ1 := [some (Pot a1 b1), none, none, none, none, none, none, none, none, none, none, none]) (ρ2 := [some (Pot a1 b1), some (.p (.bool (decide (r0 = 0)))), none, none, none, none, none, none, none, none, none, none]) (d := .p (.bool (decide (r0 = 0)))) (eq_ei (fun i z => by cases z) he0) rfl rfl rfl ?_
  generalize decide (r0 = 0) = gr
  obtain ⟨r1, a2, b2, hr1, ok2, he1⟩ := draw_c (C := Cm_ a b (k + 2)) (ρ := [some (Pot a1 b1), some (.p (.bool gr)), none, none, none, none, none, none, none, none, none, none]) (f := 46) (i := 0) (e := .ite (.var 1) (.int 12) (.int 5)) (m := if gr then 12 else 5) (x := .v (.p (.int (if gr then 12 else 5)))) (r_draw (k + 1)) ok1 rfl (by cases gr <;> rfl) rfl (by cases gr <;> decide) (by cases gr <;> decide)
  have hr1' : r1 < 12 := by cases gr <;> (have := hr1.2; simp at this; omega)
  obtain ⟨n, hn⟩ : ∃ n : Nat, 1 + r1 = (n : Int) := ⟨(1 + r1).toNat, by omega⟩
  refine .st (ρ2 := [some (Pot a2 b2), some (.p (.bool gr)), some (.p (.int n)), some (.odt (List.map mkRd [])), none, none, none, none, none, none, none, none]) (par2_c (ρ1 := [some (Pot a2 b2), some (.p (.bool gr)), none, none, none, none, none, none, none, none, none, none]) (ρ2 := [some (Pot a2 b2), some (.p (.bool gr)), none, none, none, none, none, none, none, none, none, none]) (d1 := .p (.int n)) (d2 := .odt (List.map mkRd [])) (by rw [← hn]; exact prim2 (fun i z => by cases z) (fun i z => by cases z) (a := .p (.int 1)) (b := .p (.int r1)) rfl he1 rfl) rfl rfl) ?_
  obtain ⟨r2, a3, b3, hr2, ok3, he2⟩ := draw_c (C := Cm_ a b (k + 2)) (ρ := [some (Pot a2 b2), some (.p (.bool gr)), some (.p (.int n)), some (.odt (List.map mkRd [])), none, none, none, none, none, none, none, none]) (f := 46) (i := 0) (e := .int 4) (m := 4) (x := .v (.p (.int 4))) (r_draw (k + 1)) ok2 rfl rfl rfl (by omega) (by omega)
  obtain ⟨st, hst⟩ : ∃ st : Int, 1 + r2 = st := ⟨_, rfl⟩
  refine .st (ρ2 := [some (Pot a3 b3), some (.p (.bool gr)), some (.p (.int n)), some (.odt (List.map mkRd [])), some (.p (.int st)), some (.own (List.map .int [])), none, none, none, none, none, none]) (par2_c (ρ1 := [some (Pot a3 b3), some (.p (.bool gr)), some (.p (.int n)), some (.odt (List.map mkRd [])), none, none, none, none, none, none, none, none]) (ρ2 := [some (Pot a3 b3), some (.p (.bool gr)), some (.p (.int n)), some (.odt (List.map mkRd [])), none, none, none, none, none, none, none, none]) (d1 := .p (.int st)) (d2 := .own (List.map .int [])) (by rw [← hst]; exact prim2 (fun i z => by cases z) (fun i z => by cases z) (a := .p (.int 1)) (b := .p (.int r2)) rfl he2 rfl) (lst_c evL_n (Nat.zero_le _) rfl) rfl) ?_
  obtain ⟨hs, a4, b4, d6, hf1, ok4, hl1⟩ := hg_for (k + 1) a b (n : Int) st gr [] (by omega) (by omega) (rangeL 0 n) [] a3 b3 none ok3 (by rw [rangeL_len, List.length_nil]; omega)
  rw [rangeL_len, List.length_nil] at hl1
  refine .for_ (ρ1 := [some (Pot a3 b3), some (.p (.bool gr)), some (.p (.int n)), some (.odt (List.map mkRd [])), some (.p (.int st)), some (.own (List.map .int [])), none, none, none, none, none, none]) (range_v (i := 2) rfl (by omega) (by omega)) (.inl ⟨_, hf1, ?_⟩)
  obtain ⟨r4, a5, b5, hr4, ok5, he4⟩ := draw_c (C := Cm_ a b (k + 2)) (ρ := [some (Pot a4 b4), some (.p (.bool gr)), some (.p (.int n)), some (.odt (List.map mkRd [])), some (.p (.int st)), some (.own (hs.map .int)), d6, none, none, none, none, none]) (f := 46) (i := 0) (e := .ite (.var 1) (.int 16) (.int 8)) (m := if gr then 16 else 8) (x := .v (.p (.int (if gr then 16 else 8)))) (r_draw (k + 1)) ok4 rfl (by cases gr <;> rfl) rfl (by cases gr <;> decide) (by cases gr <;> decide)
  have hr4' : r4 < 16 := by cases gr <;> (have := hr4.2; simp at this; omega)
  obtain ⟨tn, htn⟩ : ∃ tn : Nat, 1 + r4 = (tn : Int) := ⟨(1 + r4).toNat, by omega⟩
  have hrl : (rngZ tn).length = tn := by unfold rngZ; rw [List.length_map, List.length_range]
  obtain ⟨M, a6, b6, e7, e8, e9, e10, hf2, ok6, hg, hnd, hl⟩ := tn_for (k + 1) a b (n : Int) st gr (by omega) (by omega) (by omega) (by omega) hs (by omega) d6 (rngZ tn) [] a5 b5 none none none none ok5 (fun t ht => nomatch ht) List.nodup_nil (by rw [hrl, List.length_nil]; omega) (fun x hx => (mem_rngZ.mp hx).1)
  rw [hrl, List.length_nil] at hl
  refine .for_ (ρ1 := [some (Pot a5 b5), some (.p (.bool gr)), some (.p (.int n)), some (.odt (List.map mkRd [])), some (.p (.int st)), some (.own (hs.map .int)), d6, none, none, none, none, none]) (xs := (rngZ tn).map .int) ?_ (.inl ⟨_, hf2, ?_⟩)
  · rw [← rangeL_rngZ, ← htn]
    exact range_e (n := 1 + r4) (fun i z => by cases z) (prim2 (fun i z => by cases z) (fun i z => by cases z) (a := .p (.int 1)) (b := .p (.int r4)) rfl he4 rfl) (by omega) (by omega)
  obtain ⟨R, hp, hs', hpw⟩ := sorted_roads hnd
  have hR : ∀ t ∈ R, good4 n t := fun t ht => hg t (hp.mem_iff.mp ht)
  have hlen : R.length = M.length := hp.length_eq
  have hB : MOk n R := mach_ok (by omega) (by omega) (by omega) hR hpw
  exact .ret (ρ1 := [some (Pot a6 b6), some (.p (.bool gr)), some (.p (.int n)), some (.odt (List.map mkRd M)), some (.p (.int st)), some (.own (hs.map .int)), d6, e7, e8, e9, e10, none]) (d := .p (mPD n R)) (fun i z => by cases z) (tup_c (ds := [.p (.str "machine"), .p (.int n), .p (.tuple (R.map rd))]) (evL_c (ρ1 := [some (Pot a6 b6), some (.p (.bool gr)), some (.p (.int n)), some (.odt (List.map mkRd M)), some (.p (.int st)), some (.own (hs.map .int)), d6, e7, e8, e9, e10, none]) rfl (evL_c (ρ1 := [some (Pot a6 b6), some (.p (.bool gr)), some (.p (.int n)), some (.odt (List.map mkRd M)), some (.p (.int st)), some (.own (hs.map .int)), d6, e7, e8, e9, e10, none]) rfl (evL_c (ρ1 := [some (Pot a6 b6), some (.p (.bool gr)), some (.p (.int n)), some (.odt (List.map mkRd M)), some (.p (.int st)), some (.own (hs.map .int)), d6, e7, e8, e9, e10, none]) (roads_ev (i := 3) (j := 11) rfl hnd hp hs' (Nat.le_trans (by omega : R.length ≤ 60) (by decide)) (of_decide_eq_true rfl) (by decide) rfl) evL_n))) rfl (of_decide_eq_true rfl)) ⟨n, R, a6, b6, rfl, hB, hR, ok6, rfl⟩
end Law_k41

namespace Law_k41
open PySem PySem.Spec L2 Pv
theorem ne_rep {C : Pv.Ctx} {ρ : Pv.Env} {e f : E} {s : Str} (hv : ∀ i, e ≠ .var i) (hf : ∀ i, f ≠ .var i) (he : ev C e ρ = .ok (.p (.str s)) ρ) (h2 : ev C f ρ = .ok (.p (.str s)) ρ) (hs : PyData.strOk s = true) : ev C (.prim (.cmp .NotEq) (.cons e (.cons f .nil))) ρ = .ok (.p (.bool false)) ρ := by
  refine prim2 hv hf he h2 ?_
  show Option.map (fun c => D.p (.bool c)) ((eqD (.p (.str s)) (.p (.str s))).map (!·)) = _
  rw [eqD_str s s hs hs, decide_eq_true rfl]; rfl
theorem repr_p {C : Pv.Ctx} {ρ : Pv.Env} {e : E} {d : PD} {x : D} {n B : Nat} (hv : ∀ i, e ≠ .var i) (he : ev C e ρ = .ok x ρ) (hx : x.toPD = some d) (h : Nice n B d) (hn : n ≤ 64) (hB : B ≤ line) : ev C (.prim (.bf .repr) (.cons e .nil)) ρ = .ok (.p (.str d.shown)) ρ := by
  refine prim1 hv he ?_
  show reprD x = _
  have := h.repr hn hB
  unfold reprD at this ⊢
  rw [hx]; rw [pd_p] at this; exact this
theorem repr_v {C : Pv.Ctx} {ρ : Pv.Env} {i : Nat} {d : PD} {x : D} {n B : Nat} (hi : ρ.at_ i = some x) (hx : x.toPD = some d) (h : Nice n B d) (hn : n ≤ 64) (hB : B ≤ line) : ev C (.prim (.bf .repr) (.cons (.var i) .nil)) ρ = .ok (.p (.str d.shown)) ρ := by
  refine prim_c (as := [.s i]) (ds := [x]) (evA_v (by rw [hi]; rfl) evA_n) (by rw [args_s hi]; rfl) ?_
  show reprD x = _
  have := h.repr hn hB
  unfold reprD at this ⊢
  rw [hx]; rw [pd_p] at this; exact this
/-! tables of truths -/
theorem bools_lay : ∀ bs : List Bool, PyData.canLayAll0 (bs.map .bool) = true ∧ PyData.depthAll (bs.map .bool) = 0
  | [] => ⟨rfl, rfl⟩
  | k :: ks => by
    obtain ⟨h1, h2⟩ := bools_lay ks
    exact ⟨by rw [List.map_cons, PyData.canLayAll0, h1]; rfl, by rw [List.map_cons, PyData.depthAll, h2]; rfl⟩
theorem rows_lay {α : Type} (f : α → List PD) (hf : ∀ a, PyData.canLayAll0 (f a) = true ∧ PyData.depthAll (f a) = 0) : ∀ as : List α, SeqAt.shaped (.list (as.map fun a => .list (f a))) = true := by
  intro as
  have : PyData.canLayAll0 (as.map fun a => .list (f a)) = true ∧ PyData.depthAll (as.map fun a => .list (f a)) ≤ 1 := by
    induction as with
    | nil => exact ⟨rfl, Nat.zero_le _⟩
    | cons a as ih =>
      refine ⟨?_, ?_⟩
      · rw [List.map_cons, PyData.canLayAll0, ih.1, Bool.and_true]
        simp only [PyData.canLay0, (hf a).1]
      · rw [List.map_cons, PyData.depthAll]
        simp only [PyData.depth, (hf a).2]
        omega
  unfold SeqAt.shaped
  simp only [PyData.canLay0, PyData.depth, this.1, Bool.true_and]
  exact decide_eq_true (by omega)
theorem any_false : ∀ bs : List Bool, ((bs.map PyData.bool).any fun y => PyData.eqv y (.bool false)) = bs.any (!·)
  | [] => rfl
  | b :: bs => by rw [List.map_cons, List.any_cons, List.any_cons, any_false bs]; cases b <;> rfl
noncomputable def rowB (R : List R4) (n i : Nat) : List Bool := (List.range n).map fun (j : Nat) => rc R (i : Int) (j : Int)
theorem clT_rows {R : List R4} {n : Nat} : (clT R n).map PyData.list = (List.range n).map fun i => .list ((rowB R n i).map .bool) := by
  unfold clT tbb rowB
  rw [List.map_map]
  refine List.map_congr_left fun i _ => ?_
  show PyData.list _ = PyData.list _
  rw [List.map_map]; rfl
theorem due_iff {R : List R4} {n : Nat} : decide ((((List.range n).filter fun i => (rowB R n i).any (!·)).map fun i => PyData.list ((rowB R n i).map .bool)) = []) = allR R n := by
  rw [Bool.eq_iff_iff, decide_eq_true_eq, List.map_eq_nil_iff, List.filter_eq_nil_iff]
  unfold allR
  rw [List.all_eq_true]
  constructor
  · intro h p hp
    rw [List.all_eq_true]
    intro q hq
    obtain ⟨p0, p1⟩ := mem_rngZ.mp hp
    obtain ⟨q0, q1⟩ := mem_rngZ.mp hq
    have := h p.toNat (List.mem_range.mpr (by omega))
    rw [List.any_eq_true] at this
    refine Classical.byContradiction fun z => this ⟨rc R p q, ?_, by rw [Bool.eq_false_iff.mpr z]; rfl⟩
    unfold rowB
    refine List.mem_map.mpr ⟨q.toNat, List.mem_range.mpr (by omega), ?_⟩
    rw [show ((p.toNat : Nat) : Int) = p from by omega, show ((q.toNat : Nat) : Int) = q from by omega]
  · intro h i hi hany
    rw [List.any_eq_true] at hany
    obtain ⟨b, hb, hf⟩ := hany
    unfold rowB at hb
    obtain ⟨j, hj, rfl⟩ := List.mem_map.mp hb
    have h1 := h (i : Int) (mem_rngZ.mpr ⟨by omega, by have := List.mem_range.mp hi; omega⟩)
    rw [List.all_eq_true] at h1
    have := h1 (j : Int) (mem_rngZ.mpr ⟨by omega, by have := List.mem_range.mp hj; omega⟩)
    rw [this] at hf
    cases hf
/-! lengths of rounds -/
theorem Wk_sub {R : List R4} : ∀ {ts : List R4} {p q : Int}, Wk R p ts q → ∀ t ∈ ts, t ∈ R
  | [], _, _, _, t, h => nomatch h
  | u :: ts, _, _, w, t, h => (List.mem_cons.mp h).elim (fun e => by rw [e]; exact w.1) fun e => Wk_sub w.2.2 t e
theorem tot_bd {n : Nat} {R : List R4} (g : GoodR n R) : ∀ {ts : List R4}, (∀ t ∈ ts, t ∈ R) → (ts.length : Int) ≤ tot ts ∧ tot ts ≤ 100 * ts.length
  | [], _ => ⟨Int.le_refl _, Int.le_refl _⟩
  | t :: ts, h => by
    have ih := tot_bd g (ts := ts) fun u hu => h u (List.mem_cons_of_mem _ hu)
    have h1 := g.far t (h t List.mem_cons_self)
    have et : tot (t :: ts) = t.2.2.1 + tot ts := by unfold tot; rw [List.map_cons, List.sum_cons]
    rw [et, List.length_cons]
    omega
theorem Tgt_bd {n : Nat} {R : List R4} (g : GoodR n R) {m : Int} {ts : List R4} (T : Tgt R m ts) : 1 ≤ tot ts ∧ tot ts ≤ 100 * n := by
  have h1 := tot_bd g (Wk_sub T.wk)
  have h2 : 0 < ts.length := List.length_pos_iff.mpr T.ne
  have h3 := nodup_len (m := rngZ n) T.nd fun s hs => by
    obtain ⟨t, ht, rfl⟩ := List.mem_map.mp hs
    exact mem_rngZ.mpr (g.one t (Wk_sub T.wk t ht))
  unfold src rngZ at h3
  rw [List.length_map, List.length_map, List.length_range] at h3
  omega
theorem beat_eq {n : Nat} {R : List R4} (g : GoodR n R) (n12 : n ≤ 12) {F : List En} (hF : ∀ e ∈ F, FInv R e) (hC : ∀ m ts, Tgt R m ts → (src ts, tot ts) ∈ F) {B : Nat} (hB : ∀ d : Nat, d ∣ B ↔ ∀ m ts, Tgt R m ts → (d : Int) ∣ tot ts) :
    gN (F.map fun e => e.2.toNat) = B ∧ B ≤ 1200 := by
  have key : ∀ d : Nat, d ∣ gN (F.map fun e => e.2.toNat) ↔ d ∣ B := fun d => by
    rw [dvd_gN, hB]
    constructor
    · intro h m ts T
      have h1 := h _ (List.mem_map.mpr ⟨_, hC m ts T, rfl⟩)
      have h2 := Tgt_bd g T
      have h1 : d ∣ (tot ts).toNat := h1
      rw [← Int.toNat_of_nonneg (show 0 ≤ tot ts by omega)]
      exact Int.natCast_dvd_natCast.mpr h1
    · intro h f hf
      obtain ⟨e, he, rfl⟩ := List.mem_map.mp hf
      obtain ⟨m, ts, T, rfl⟩ := hF e he
      have h1 := h m ts T
      have h2 := Tgt_bd g T
      show d ∣ (tot ts).toNat
      rw [← Int.toNat_of_nonneg (show 0 ≤ tot ts by omega)] at h1
      exact Int.natCast_dvd_natCast.mp h1
  have e : gN (F.map fun e => e.2.toNat) = B := Nat.dvd_antisymm ((key _).mp (Nat.dvd_refl _)) ((key _).mpr (Nat.dvd_refl _))
  refine ⟨e, ?_⟩
  cases F with
  | nil => rw [← e]; exact Nat.zero_le _
  | cons u F =>
    obtain ⟨m, ts, T, eu⟩ := hF u List.mem_cons_self
    have h2 := Tgt_bd g T
    have h1 : gN ((u :: F).map fun e => e.2.toNat) ∣ (tot ts).toNat := by
      have := dvd_gN.mp (Nat.dvd_refl (gN ((u :: F).map fun e => e.2.toNat))) u.2.toNat (List.mem_map.mpr ⟨u, List.mem_cons_self, rfl⟩)
      rw [eu] at this ⊢
      exact this
    rw [e] at h1
    have := Nat.le_of_dvd (by omega) h1
    omega
theorem wo_iff {R : List R4} {F : List En} (hF : ∀ e ∈ F, FInv R e) (hC : ∀ m ts, Tgt R m ts → (src ts, tot ts) ∈ F) (q : Int) : decide (((F.filter fun e => !decide (q ∈ e.1)).map fun e => PyData.list (e.1.map .int)) = []) = !hwB R q := by
  rw [Bool.eq_iff_iff, decide_eq_true_eq, List.map_eq_nil_iff, List.filter_eq_nil_iff, Bool.not_eq_true', Bool.eq_false_iff, Ne, hwB_iff]
  simp only [Bool.not_eq_true', decide_eq_false_iff_not, Classical.not_not]
  constructor
  · rintro h ⟨m, ts, T, hn⟩
    exact hn (h _ (hC m ts T))
  · intro h e he
    obtain ⟨m, ts, T, rfl⟩ := hF e he
    exact Classical.byContradiction fun z => h ⟨m, ts, T, z⟩
def b__law_right_0 : Ss := (.cons (.ife (.prim (.cmp .Eq) (.cons (.lc (.var 6) (.cons (.v 6) (.cons (.v 8) .nil)) (.seq (.var 4)) (.cons (.prim (.cmp .NotIn) (.cons (.var 10) (.cons (.var 6) .nil))) .nil) [6, 8]) (.cons (.lst .nil) .nil))) (.cons (.app 9 (.var 10)) .nil) .nil) .nil)
def t__law_right_0 : T := (.v 10)
noncomputable abbrev Cx_ (a b : Int) (k : Nat) : Pv.Ctx := ⟨borOf [Pot a b], run prog k⟩
theorem pl_for (kk : Nat) (a b a1 b1 : Int) (n : Nat) (R : List R4) (B : Nat) (F : List En) (hl : F.length ≤ 900000) (hF : ∀ e ∈ F, FInv R e) (hC : ∀ m ts, Tgt R m ts → (src ts, tot ts) ∈ F) : ∀ (qs ps : List Int) (d10 : Option D), ps.length + qs.length ≤ 1000 →
    ∃ e10, forL (Cx_ a b kk) t__law_right_0 (exs (Cx_ a b kk) b__law_right_0) (qs.map .int) [some (Pot a1 b1), some (.p (mPD n R)), some (.p (.str (mPD n R).shown)), some (.p (.list ((clT R n).map .list))), some (.p (.list (F.map enP))), some (.p (.bool (allR R n))), none, some (.p (.int (B : Nat))), none, some (.own (ps.map .int)), d10, none] = .nx [some (Pot a1 b1), some (.p (mPD n R)), some (.p (.str (mPD n R).shown)), some (.p (.list ((clT R n).map .list))), some (.p (.list (F.map enP))), some (.p (.bool (allR R n))), none, some (.p (.int (B : Nat))), none, some (.own ((ps ++ qs.filter fun q => !hwB R q).map .int)), e10, none]
  | [], ps, d10, h => ⟨d10, by rw [List.filter_nil, List.append_nil]; exact forL_nil⟩
  | q :: qs, ps, d10, h => by
    rw [List.length_cons] at h
    have hlc : ev (Cx_ a b kk) (.lc (.var 6) (.cons (.v 6) (.cons (.v 8) .nil)) (.seq (.var 4)) (.cons (.prim (.cmp .NotIn) (.cons (.var 10) (.cons (.var 6) .nil))) .nil) [6, 8]) [some (Pot a1 b1), some (.p (mPD n R)), some (.p (.str (mPD n R).shown)), some (.p (.list ((clT R n).map .list))), some (.p (.list (F.map enP))), some (.p (.bool (allR R n))), none, some (.p (.int (B : Nat))), none, some (.own (ps.map .int)), some (.p (.int q)), none] = .ok (.own ((F.filter fun e => !decide (q ∈ e.1)).map fun e => PyData.list (e.1.map .int))) [some (Pot a1 b1), some (.p (mPD n R)), some (.p (.str (mPD n R).shown)), some (.p (.list ((clT R n).map .list))), some (.p (.list (F.map enP))), some (.p (.bool (allR R n))), none, some (.p (.int (B : Nat))), none, some (.own (ps.map .int)), some (.p (.int q)), none] := by
      refine lc_pure (ρ1 := [some (Pot a1 b1), some (.p (mPD n R)), some (.p (.str (mPD n R).shown)), some (.p (.list ((clT R n).map .list))), some (.p (.list (F.map enP))), some (.p (.bool (allR R n))), none, some (.p (.int (B : Nat))), none, some (.own (ps.map .int)), some (.p (.int q)), none]) (xs := F.map enP) (g := fun x => match x with | .tuple [.list r, _] => if !(r.any fun y => PyData.eqv y (.int q)) then some (.p (.list r)) else none | _ => none) rfl rfl (fun x hx => ?_) ?_ ?_
      · obtain ⟨e, he, rfl⟩ := List.mem_map.mp hx
        have q4 : ev (Cx_ a b kk) (.prim (.cmp .NotIn) (.cons (.var 10) (.cons (.var 6) .nil))) [some (Pot a1 b1), some (.p (mPD n R)), some (.p (.str (mPD n R).shown)), some (.p (.list ((clT R n).map .list))), some (.p (.list (F.map enP))), some (.p (.bool (allR R n))), some (.p (.list (e.1.map .int))), some (.p (.int (B : Nat))), some (.p (.int e.2)), some (.own (ps.map .int)), some (.p (.int q)), none] = .ok (.p (.bool (!((e.1.map PyData.int).any fun y => PyData.eqv y (.int q))))) [some (Pot a1 b1), some (.p (mPD n R)), some (.p (.str (mPD n R).shown)), some (.p (.list ((clT R n).map .list))), some (.p (.list (F.map enP))), some (.p (.bool (allR R n))), some (.p (.list (e.1.map .int))), some (.p (.int (B : Nat))), some (.p (.int e.2)), some (.own (ps.map .int)), some (.p (.int q)), none] :=
          prim_c (as := [.s 10, .s 6]) (ds := [.p (.int q), .p (.list (e.1.map .int))]) rfl rfl (by
            show Option.map (fun c => D.p (.bool c)) ((inD (.p (.int q)) (.p (.list (e.1.map .int)))).map (!·)) = _
            rw [in_ints (b := .p (.list (e.1.map .int))) rfl, any_ints]; rfl)
        refine ⟨[some (Pot a1 b1), some (.p (mPD n R)), some (.p (.str (mPD n R).shown)), some (.p (.list ((clT R n).map .list))), some (.p (.list (F.map enP))), some (.p (.bool (allR R n))), some (.p (.list (e.1.map .int))), some (.p (.int (B : Nat))), some (.p (.int e.2)), some (.own (ps.map .int)), some (.p (.int q)), none], !((e.1.map PyData.int).any fun y => PyData.eqv y (.int q)), rfl, rfl, ?_, ?_⟩
        · rw [evC, q4]
          simp only [bind_ok, tr_bool]
          cases ((e.1.map PyData.int).any fun y => PyData.eqv y (.int q)) with
          | false => simp only [Bool.not_false]; rw [evC]
          | true => rfl
        · show (if (!((e.1.map PyData.int).any fun y => PyData.eqv y (.int q))) = true then ∃ y, (if (!((e.1.map PyData.int).any fun y => PyData.eqv y (.int q))) = true then some (D.p (.list (e.1.map .int))) else none) = some y ∧ _ else (if (!((e.1.map PyData.int).any fun y => PyData.eqv y (.int q))) = true then some (D.p (.list (e.1.map .int))) else none) = none)
          by_cases z : (!((e.1.map PyData.int).any fun y => PyData.eqv y (.int q))) = true
          · rw [if_pos z, if_pos z]; exact ⟨_, rfl, read_p (i := 6) rfl⟩
          · rw [if_neg z, if_neg z]
      · rw [List.filterMap_map]
        exact Nat.le_trans (List.length_filterMap_le _ _) (Nat.le_trans hl (by decide))
      · rw [List.filterMap_map]
        have : (F.filterMap ((fun x : PD => match x with | .tuple [.list r, _] => if !(r.any fun y => PyData.eqv y (.int q)) then some (D.p (.list r)) else none | _ => none) ∘ enP)) = (F.filter fun e => !decide (q ∈ e.1)).map fun e => D.p (.list (e.1.map .int)) := by
          rw [← filterMap_if (fun e : En => !decide (q ∈ e.1)) (fun e => D.p (.list (e.1.map .int))) F]
          refine congrArg (fun g => F.filterMap g) (funext fun e => ?_)
          show (if (!((e.1.map PyData.int).any fun y => PyData.eqv y (.int q))) = true then some (D.p (.list (e.1.map .int))) else none) = _
          rw [any_ints]
        rw [this, mkR_p]
    have hc : evT (Cx_ a b kk) (.prim (.cmp .Eq) (.cons (.lc (.var 6) (.cons (.v 6) (.cons (.v 8) .nil)) (.seq (.var 4)) (.cons (.prim (.cmp .NotIn) (.cons (.var 10) (.cons (.var 6) .nil))) .nil) [6, 8]) (.cons (.lst .nil) .nil))) [some (Pot a1 b1), some (.p (mPD n R)), some (.p (.str (mPD n R).shown)), some (.p (.list ((clT R n).map .list))), some (.p (.list (F.map enP))), some (.p (.bool (allR R n))), none, some (.p (.int (B : Nat))), none, some (.own (ps.map .int)), some (.p (.int q)), none] = .ok (!hwB R q) [some (Pot a1 b1), some (.p (mPD n R)), some (.p (.str (mPD n R).shown)), some (.p (.list ((clT R n).map .list))), some (.p (.list (F.map enP))), some (.p (.bool (allR R n))), none, some (.p (.int (B : Nat))), none, some (.own (ps.map .int)), some (.p (.int q)), none] := by
      refine evT_b (prim2 (fun i z => by cases z) (fun i z => by cases z) hlc (lst_c evL_n (Nat.zero_le _) rfl) ?_)
      rw [eq_nil rfl (rows_lay (fun e : En => e.1.map PyData.int) (fun e => ints_lay e.1) _), wo_iff hF hC]
    by_cases c : (!hwB R q) = true
    · rw [c] at hc
      obtain ⟨e10, ih⟩ := pl_for kk a b a1 b1 n R B F hl hF hC qs (ps ++ [q]) (some (.p (.int q))) (by rw [List.length_append, List.length_singleton]; omega)
      rw [List.append_assoc, List.singleton_append] at ih
      rw [show (q :: qs).filter (fun q => !hwB R q) = q :: qs.filter (fun q => !hwB R q) from List.filter_cons_of_pos (p := fun q => !hwB R q) c]
      exact ⟨e10, forL_cons (ρ1 := [some (Pot a1 b1), some (.p (mPD n R)), some (.p (.str (mPD n R).shown)), some (.p (.list ((clT R n).map .list))), some (.p (.list (F.map enP))), some (.p (.bool (allR R n))), none, some (.p (.int (B : Nat))), none, some (.own (ps.map .int)), some (.p (.int q)), none]) (ρ2 := [some (Pot a1 b1), some (.p (mPD n R)), some (.p (.str (mPD n R).shown)), some (.p (.list ((clT R n).map .list))), some (.p (.list (F.map enP))), some (.p (.bool (allR R n))), none, some (.p (.int (B : Nat))), none, some (.own ((ps ++ [q]).map .int)), some (.p (.int q)), none]) rfl (ift_nx hc (st_s (app_i (ρ1 := [some (Pot a1 b1), some (.p (mPD n R)), some (.p (.str (mPD n R).shown)), some (.p (.list ((clT R n).map .list))), some (.p (.list (F.map enP))), some (.p (.bool (allR R n))), none, some (.p (.int (B : Nat))), none, some (.own (ps.map .int)), some (.p (.int q)), none]) (ρ2 := [some (Pot a1 b1), some (.p (mPD n R)), some (.p (.str (mPD n R).shown)), some (.p (.list ((clT R n).map .list))), some (.p (.list (F.map enP))), some (.p (.bool (allR R n))), none, some (.p (.int (B : Nat))), none, some (.own ((ps ++ [q]).map .int)), some (.p (.int q)), none]) (l := ps) (x := q) rfl (read_p (i := 10) rfl) rfl (Nat.lt_of_le_of_lt (by omega : ps.length ≤ 1000) (by decide)) rfl) nil_c) nil_c) ih⟩
    · rw [Bool.eq_false_iff.mpr c] at hc
      obtain ⟨e10, ih⟩ := pl_for kk a b a1 b1 n R B F hl hF hC qs ps (some (.p (.int q))) (by omega)
      rw [show (q :: qs).filter (fun q => !hwB R q) = qs.filter (fun q => !hwB R q) from List.filter_cons_of_neg (p := fun q => !hwB R q) c]
      exact ⟨e10, forL_cons (ρ1 := [some (Pot a1 b1), some (.p (mPD n R)), some (.p (.str (mPD n R).shown)), some (.p (.list ((clT R n).map .list))), some (.p (.list (F.map enP))), some (.p (.bool (allR R n))), none, some (.p (.int (B : Nat))), none, some (.own (ps.map .int)), some (.p (.int q)), none]) rfl (iff_s hc nil_c) ih⟩
theorem r_right (k : Nat) (a b : Int) (ok : PotOk a b) : ∃ a' b', run prog (k + 9) 51 [Pot a b] = .ok (.p (.bool true)) [Pot a' b'] := by
  obtain ⟨n, R, a1, b1, M, hg, ok1, hc1⟩ := r_machine (k + 5) a b ok
  have n1 := M.n1
  have n12 := M.n12
  have hnm : Nice 3 2000 (mPD n R) := nice_m n12 M.g.len hg
  have hcl := r_closed (k + 7) n R M
  obtain ⟨F, hro, hFl, hF, hC⟩ := r_rounds (k + 7) n R M
  have htog := r_is_together (k + 2) n R M
  obtain ⟨B, hbeat, hB⟩ := r_beat (k + 2) n R M
  have hhub := r_hubs (k + 2) n R M
  obtain ⟨hgn, hB12⟩ := beat_eq M.g n12 hF hC hB
  have hcom := r_common (k + 7) (F.map fun e => e.2.toNat)
  rw [hgn] at hcom
  have hrl : (rngZ n).length = n := by unfold rngZ; rw [List.length_map, List.length_range]
  obtain ⟨e10, hpl⟩ := pl_for (k + 8) a b a1 b1 n R B F hFl hF hC (rngZ n) [] none (by rw [hrl, List.length_nil]; omega)
  have hbn : ∀ u : Bool, Nice 1 30 (.list [.bool u, .bool u]) := fun u => (nice_list (niceL_cons (n' := 0) (nice_bool (n := 0)) (niceL_one nice_bool))).mono (by omega) (by omega)
  have hin : Nice 1 60 (.list [.int (B : Int), .int (B : Int)]) := (nice_list (niceL_cons (n' := 0) (nice_int (n := 0) (i := (B : Int)) (by omega)) (niceL_one (nice_int (by omega))))).mono (by omega) (by omega)
  refine ⟨a1, b1, ?_⟩
  refine (run_succ (fn := f__law_right) rfl).trans ?_
  refine runB_gv rfl rfl (.asg (ρ1 := [some (Pot a1 b1), none, none, none, none, none, none, none, none, none, none, none]) (ρ2 := [some (Pot a1 b1), some (.p (mPD n R)), none, none, none, none, none, none, none, none, none, none]) (call_c (as := [.s 0]) (bs := []) (ds := [Pot a b]) (ps := [Pot a b]) (qs := [Pot a1 b1]) (ρ1 := [some (Pot a b), none, none, none, none, none, none, none, none, none, none, none]) (ρ2 := [some (Pot a b), none, none, none, none, none, none, none, none, none, none, none]) rfl evA_n rfl rfl rfl hc1 rfl) rfl rfl rfl ?_)
  refine .st (ρ2 := [some (Pot a1 b1), some (.p (mPD n R)), some (.p (.str (mPD n R).shown)), some (.p (.list ((clT R n).map .list))), some (.own (F.map enP)), none, none, none, none, none, none, none]) (par3_c (ρ1 := [some (Pot a1 b1), some (.p (mPD n R)), none, none, none, none, none, none, none, none, none, none]) (ρ2 := [some (Pot a1 b1), some (.p (mPD n R)), none, none, none, none, none, none, none, none, none, none]) (ρ3 := [some (Pot a1 b1), some (.p (mPD n R)), none, none, none, none, none, none, none, none, none, none]) (repr_v (i := 1) rfl rfl hnm (by decide) (by decide)) (call_c (as := [.s 1]) (bs := []) (ds := [.p (mPD n R)]) (ps := [.p (mPD n R)]) (qs := [.p (mPD n R)]) (ρ1 := [some (Pot a1 b1), some (.p (mPD n R)), none, none, none, none, none, none, none, none, none, none]) (ρ2 := [some (Pot a1 b1), some (.p (mPD n R)), none, none, none, none, none, none, none, none, none, none]) rfl evA_n rfl rfl rfl hcl rfl) (call_c (as := [.s 1]) (bs := []) (ds := [.p (mPD n R)]) (ps := [.p (mPD n R)]) (qs := [.p (mPD n R)]) (ρ1 := [some (Pot a1 b1), some (.p (mPD n R)), none, none, none, none, none, none, none, none, none, none]) (ρ2 := [some (Pot a1 b1), some (.p (mPD n R)), none, none, none, none, none, none, none, none, none, none]) rfl evA_n rfl rfl rfl hro rfl) rfl) ?_
  have hdue : ev (Cx_ a b (k + 8)) (.prim (.cmp .Eq) (.cons (.lc (.var 6) (.v 6) (.seq (.var 3)) (.cons (.prim (.cmp .In) (.cons (.bl false) (.cons (.var 6) .nil))) .nil) [6]) (.cons (.lst .nil) .nil))) [some (Pot a1 b1), some (.p (mPD n R)), some (.p (.str (mPD n R).shown)), some (.p (.list ((clT R n).map .list))), some (.own (F.map enP)), none, none, none, none, none, none, none] = .ok (.p (.bool (allR R n))) [some (Pot a1 b1), some (.p (mPD n R)), some (.p (.str (mPD n R).shown)), some (.p (.list ((clT R n).map .list))), some (.own (F.map enP)), none, none, none, none, none, none, none] := by
    refine prim2 (fun i z => by cases z) (fun i z => by cases z) (a := .own (((List.range n).filter fun i => (rowB R n i).any (!·)).map fun i => PyData.list ((rowB R n i).map .bool))) (ρ1 := [some (Pot a1 b1), some (.p (mPD n R)), some (.p (.str (mPD n R).shown)), some (.p (.list ((clT R n).map .list))), some (.own (F.map enP)), none, none, none, none, none, none, none]) ?_ (lst_c evL_n (Nat.zero_le _) rfl) ?_
    · refine lc_pure (ρ1 := [some (Pot a1 b1), some (.p (mPD n R)), some (.p (.str (mPD n R).shown)), some (.p (.list ((clT R n).map .list))), some (.own (F.map enP)), none, none, none, none, none, none, none]) (xs := (List.range n).map fun i => PyData.list ((rowB R n i).map .bool)) (g := fun x => match x with | .list r => if (r.any fun y => PyData.eqv y (.bool false)) then some (.p (.list r)) else none | _ => none) (by rw [← clT_rows]; rfl) rfl (fun x hx => ?_) ?_ ?_
      · obtain ⟨i, hi, rfl⟩ := List.mem_map.mp hx
        have hsh : SeqAt.shaped (.list ((rowB R n i).map .bool)) = true := by
          obtain ⟨h1, h2⟩ := bools_lay (rowB R n i)
          unfold SeqAt.shaped
          simp only [PyData.canLay0, PyData.depth, h1, h2]
          decide
        have q4 : ev (Cx_ a b (k + 8)) (.prim (.cmp .In) (.cons (.bl false) (.cons (.var 6) .nil))) [some (Pot a1 b1), some (.p (mPD n R)), some (.p (.str (mPD n R).shown)), some (.p (.list ((clT R n).map .list))), some (.own (F.map enP)), none, some (.p (.list ((rowB R n i).map .bool))), none, none, none, none, none] = .ok (.p (.bool (((rowB R n i).map PyData.bool).any fun y => PyData.eqv y (.bool false)))) [some (Pot a1 b1), some (.p (mPD n R)), some (.p (.str (mPD n R).shown)), some (.p (.list ((clT R n).map .list))), some (.own (F.map enP)), none, some (.p (.list ((rowB R n i).map .bool))), none, none, none, none, none] :=
          prim_c (as := [.v (.p (.bool false)), .s 6]) (ds := [.p (.bool false), .p (.list ((rowB R n i).map .bool))]) rfl rfl (by
            show Option.map (fun c => D.p (.bool c)) (if SeqAt.shaped (.bool false) = true ∧ SeqAt.shaped (.list ((rowB R n i).map .bool)) = true then some (((rowB R n i).map PyData.bool).any fun y => PyData.eqv y (.bool false)) else none) = _
            rw [if_pos ⟨rfl, hsh⟩]; rfl)
        refine ⟨[some (Pot a1 b1), some (.p (mPD n R)), some (.p (.str (mPD n R).shown)), some (.p (.list ((clT R n).map .list))), some (.own (F.map enP)), none, some (.p (.list ((rowB R n i).map .bool))), none, none, none, none, none], ((rowB R n i).map PyData.bool).any fun y => PyData.eqv y (.bool false), rfl, rfl, ?_, ?_⟩
        · rw [evC, q4]
          simp only [bind_ok, tr_bool]
          cases (((rowB R n i).map PyData.bool).any fun y => PyData.eqv y (.bool false)) with
          | true => dsimp only; rw [evC]
          | false => rfl
        · dsimp only
          by_cases z : (((rowB R n i).map PyData.bool).any fun y => PyData.eqv y (.bool false)) = true
          · rw [if_pos z, if_pos z]; exact ⟨_, rfl, read_p (i := 6) rfl⟩
          · rw [if_neg z, if_neg z]
      · rw [List.filterMap_map]
        refine Nat.le_trans (List.length_filterMap_le _ _) ?_
        rw [List.length_range]; exact Nat.le_trans n12 (by decide)
      · rw [List.filterMap_map]
        have : ((List.range n).filterMap ((fun x : PD => match x with | .list r => if (r.any fun y => PyData.eqv y (.bool false)) then some (D.p (.list r)) else none | _ => none) ∘ fun i => PyData.list ((rowB R n i).map .bool))) = ((List.range n).filter fun i => (rowB R n i).any (!·)).map fun i => D.p (.list ((rowB R n i).map .bool)) := by
          rw [← filterMap_if (fun i => (rowB R n i).any (!·)) (fun i => D.p (.list ((rowB R n i).map .bool))) (List.range n)]
          refine congrArg (fun g => (List.range n).filterMap g) (funext fun i => ?_)
          show (if (((rowB R n i).map PyData.bool).any fun y => PyData.eqv y (.bool false)) = true then some (D.p (.list ((rowB R n i).map .bool))) else none) = _
          rw [any_false]
        rw [this, mkR_p]
    · rw [eq_nil rfl (rows_lay (fun i => (rowB R n i).map PyData.bool) (fun i => bools_lay _) _), due_iff]
  refine .asg (ρ1 := [some (Pot a1 b1), some (.p (mPD n R)), some (.p (.str (mPD n R).shown)), some (.p (.list ((clT R n).map .list))), some (.own (F.map enP)), none, none, none, none, none, none, none]) (ρ2 := [some (Pot a1 b1), some (.p (mPD n R)), some (.p (.str (mPD n R).shown)), some (.p (.list ((clT R n).map .list))), some (.own (F.map enP)), some (.p (.bool (allR R n))), none, none, none, none, none, none]) hdue rfl rfl rfl ?_
  have ht1 : ev (Cx_ a b (k + 8)) (.call 42 [none] (.cons (.var 1) .nil) .nil) [some (Pot a1 b1), some (.p (mPD n R)), some (.p (.str (mPD n R).shown)), some (.p (.list ((clT R n).map .list))), some (.own (F.map enP)), some (.p (.bool (allR R n))), none, none, none, none, none, none] = .ok (.p (.bool (allR R n))) [some (Pot a1 b1), some (.p (mPD n R)), some (.p (.str (mPD n R).shown)), some (.p (.list ((clT R n).map .list))), some (.own (F.map enP)), some (.p (.bool (allR R n))), none, none, none, none, none, none] := call_c (as := [.s 1]) (bs := []) (ds := [.p (mPD n R)]) (ps := [.p (mPD n R)]) (qs := [.p (mPD n R)]) (ρ1 := [some (Pot a1 b1), some (.p (mPD n R)), some (.p (.str (mPD n R).shown)), some (.p (.list ((clT R n).map .list))), some (.own (F.map enP)), some (.p (.bool (allR R n))), none, none, none, none, none, none]) (ρ2 := [some (Pot a1 b1), some (.p (mPD n R)), some (.p (.str (mPD n R).shown)), some (.p (.list ((clT R n).map .list))), some (.own (F.map enP)), some (.p (.bool (allR R n))), none, none, none, none, none, none]) rfl evA_n rfl rfl rfl htog rfl
  have ht2 : ev (Cx_ a b (k + 8)) (.call 42 [none] .nil (.cons (.var 1) .nil)) [some (Pot a1 b1), some (.p (mPD n R)), some (.p (.str (mPD n R).shown)), some (.p (.list ((clT R n).map .list))), some (.own (F.map enP)), some (.p (.bool (allR R n))), none, none, none, none, none, none] = .ok (.p (.bool (allR R n))) [some (Pot a1 b1), some (.p (mPD n R)), some (.p (.str (mPD n R).shown)), some (.p (.list ((clT R n).map .list))), some (.own (F.map enP)), some (.p (.bool (allR R n))), none, none, none, none, none, none] := call_c (as := []) (bs := [.s 1]) (ds := [.p (mPD n R)]) (ps := [.p (mPD n R)]) (qs := [.p (mPD n R)]) (ρ1 := [some (Pot a1 b1), some (.p (mPD n R)), some (.p (.str (mPD n R).shown)), some (.p (.list ((clT R n).map .list))), some (.own (F.map enP)), some (.p (.bool (allR R n))), none, none, none, none, none, none]) (ρ2 := [some (Pot a1 b1), some (.p (mPD n R)), some (.p (.str (mPD n R).shown)), some (.p (.list ((clT R n).map .list))), some (.own (F.map enP)), some (.p (.bool (allR R n))), none, none, none, none, none, none]) evA_n rfl rfl rfl rfl htog rfl
  refine .ifF (ρ1 := [some (Pot a1 b1), some (.p (mPD n R)), some (.p (.str (mPD n R).shown)), some (.p (.list ((clT R n).map .list))), some (.own (F.map enP)), some (.p (.bool (allR R n))), none, none, none, none, none, none]) (t := false) (ne_rep (fun i z => by cases z) (fun i z => by cases z) (repr_p (fun i z => by cases z) (lst_c (evL_c ht1 (evL_c ht2 evL_n)) (show 2 ≤ line by decide) rfl) rfl (hbn (allR R n)) (by decide) (by decide)) (repr_p (fun i z => by cases z) (lst_c (evL_c (read_p (i := 5) rfl) (evL_c (read_p (i := 5) rfl) evL_n)) (show 2 ≤ line by decide) rfl) rfl (hbn (allR R n)) (by decide) (by decide)) (strOk_shown (hbn (allR R n)).lay)) rfl ?_
  have hfars : ev (Cx_ a b (k + 8)) (.lc (.var 8) (.cons (.v 6) (.cons (.v 8) .nil)) (.seq (.var 4)) .nil [6, 8]) [some (Pot a1 b1), some (.p (mPD n R)), some (.p (.str (mPD n R).shown)), some (.p (.list ((clT R n).map .list))), some (.own (F.map enP)), some (.p (.bool (allR R n))), none, none, none, none, none, none] = .ok (.own (nI (F.map fun e => e.2.toNat))) [some (Pot a1 b1), some (.p (mPD n R)), some (.p (.str (mPD n R).shown)), some (.p (.list ((clT R n).map .list))), some (.p (.list (F.map enP))), some (.p (.bool (allR R n))), none, none, none, none, none, none] := by
    refine lc_map (ρ1 := [some (Pot a1 b1), some (.p (mPD n R)), some (.p (.str (mPD n R).shown)), some (.p (.list ((clT R n).map .list))), some (.p (.list (F.map enP))), some (.p (.bool (allR R n))), none, none, none, none, none, none]) (xs := F.map enP) (g := fun x => match x with | .tuple [_, f] => .p f | _ => .p .none) rfl rfl (fun x hx => ?_) ?_ ?_
    · obtain ⟨e, he, rfl⟩ := List.mem_map.mp hx
      exact ⟨[some (Pot a1 b1), some (.p (mPD n R)), some (.p (.str (mPD n R).shown)), some (.p (.list ((clT R n).map .list))), some (.p (.list (F.map enP))), some (.p (.bool (allR R n))), some (.p (.list (e.1.map .int))), none, some (.p (.int e.2)), none, none, none], rfl, rfl, read_p (i := 8) rfl⟩
    · rw [List.length_map]; exact Nat.le_trans hFl (by decide)
    · have : (F.map enP).map (fun x => match x with | .tuple [_, f] => D.p f | _ => .p .none) = (F.map fun e => e.2.toNat).map fun (f : Nat) => D.p (.int (f : Int)) := by
        rw [List.map_map, List.map_map]
        refine List.map_congr_left fun e he => ?_
        obtain ⟨m, ts, T, rfl⟩ := hF e he
        have := Tgt_bd M.g T
        show D.p (.int (tot ts)) = .p (.int ((tot ts).toNat : Nat))
        rw [Int.toNat_of_nonneg (by omega)]
      rw [this, mkR_p]; rfl
  refine .asg (ρ1 := [some (Pot a1 b1), some (.p (mPD n R)), some (.p (.str (mPD n R).shown)), some (.p (.list ((clT R n).map .list))), some (.p (.list (F.map enP))), some (.p (.bool (allR R n))), none, none, none, none, none, none]) (ρ2 := [some (Pot a1 b1), some (.p (mPD n R)), some (.p (.str (mPD n R).shown)), some (.p (.list ((clT R n).map .list))), some (.p (.list (F.map enP))), some (.p (.bool (allR R n))), none, some (.p (.int (B : Nat))), none, none, none, none]) (d := .p (.int (B : Nat))) (call_c (as := [.v (.own (nI (F.map fun e => e.2.toNat)))]) (bs := []) (ds := [.own (nI (F.map fun e => e.2.toNat))]) (ps := [.own (nI (F.map fun e => e.2.toNat))]) (qs := [.p (.list (nI (F.map fun e => e.2.toNat)))]) (ρ1 := [some (Pot a1 b1), some (.p (mPD n R)), some (.p (.str (mPD n R).shown)), some (.p (.list ((clT R n).map .list))), some (.p (.list (F.map enP))), some (.p (.bool (allR R n))), none, none, none, none, none, none]) (ρ2 := [some (Pot a1 b1), some (.p (mPD n R)), some (.p (.str (mPD n R).shown)), some (.p (.list ((clT R n).map .list))), some (.p (.list (F.map enP))), some (.p (.bool (allR R n))), none, none, none, none, none, none]) (evA_c (fun i z => by cases z) hfars evA_n) evA_n rfl rfl rfl hcom rfl) rfl rfl rfl ?_
  have hb1 : ev (Cx_ a b (k + 8)) (.call 43 [none] (.cons (.var 1) .nil) .nil) [some (Pot a1 b1), some (.p (mPD n R)), some (.p (.str (mPD n R).shown)), some (.p (.list ((clT R n).map .list))), some (.p (.list (F.map enP))), some (.p (.bool (allR R n))), none, some (.p (.int (B : Nat))), none, none, none, none] = .ok (.p (.int (B : Nat))) [some (Pot a1 b1), some (.p (mPD n R)), some (.p (.str (mPD n R).shown)), some (.p (.list ((clT R n).map .list))), some (.p (.list (F.map enP))), some (.p (.bool (allR R n))), none, some (.p (.int (B : Nat))), none, none, none, none] := call_c (as := [.s 1]) (bs := []) (ds := [.p (mPD n R)]) (ps := [.p (mPD n R)]) (qs := [.p (mPD n R)]) (ρ1 := [some (Pot a1 b1), some (.p (mPD n R)), some (.p (.str (mPD n R).shown)), some (.p (.list ((clT R n).map .list))), some (.p (.list (F.map enP))), some (.p (.bool (allR R n))), none, some (.p (.int (B : Nat))), none, none, none, none]) (ρ2 := [some (Pot a1 b1), some (.p (mPD n R)), some (.p (.str (mPD n R).shown)), some (.p (.list ((clT R n).map .list))), some (.p (.list (F.map enP))), some (.p (.bool (allR R n))), none, some (.p (.int (B : Nat))), none, none, none, none]) rfl evA_n rfl rfl rfl hbeat rfl
  have hb2 : ev (Cx_ a b (k + 8)) (.call 43 [none] .nil (.cons (.var 1) .nil)) [some (Pot a1 b1), some (.p (mPD n R)), some (.p (.str (mPD n R).shown)), some (.p (.list ((clT R n).map .list))), some (.p (.list (F.map enP))), some (.p (.bool (allR R n))), none, some (.p (.int (B : Nat))), none, none, none, none] = .ok (.p (.int (B : Nat))) [some (Pot a1 b1), some (.p (mPD n R)), some (.p (.str (mPD n R).shown)), some (.p (.list ((clT R n).map .list))), some (.p (.list (F.map enP))), some (.p (.bool (allR R n))), none, some (.p (.int (B : Nat))), none, none, none, none] := call_c (as := []) (bs := [.s 1]) (ds := [.p (mPD n R)]) (ps := [.p (mPD n R)]) (qs := [.p (mPD n R)]) (ρ1 := [some (Pot a1 b1), some (.p (mPD n R)), some (.p (.str (mPD n R).shown)), some (.p (.list ((clT R n).map .list))), some (.p (.list (F.map enP))), some (.p (.bool (allR R n))), none, some (.p (.int (B : Nat))), none, none, none, none]) (ρ2 := [some (Pot a1 b1), some (.p (mPD n R)), some (.p (.str (mPD n R).shown)), some (.p (.list ((clT R n).map .list))), some (.p (.list (F.map enP))), some (.p (.bool (allR R n))), none, some (.p (.int (B : Nat))), none, none, none, none]) evA_n rfl rfl rfl rfl hbeat rfl
  refine .ifF (ρ1 := [some (Pot a1 b1), some (.p (mPD n R)), some (.p (.str (mPD n R).shown)), some (.p (.list ((clT R n).map .list))), some (.p (.list (F.map enP))), some (.p (.bool (allR R n))), none, some (.p (.int (B : Nat))), none, none, none, none]) (t := false) (ne_rep (fun i z => by cases z) (fun i z => by cases z) (repr_p (fun i z => by cases z) (lst_c (evL_c hb1 (evL_c hb2 evL_n)) (show 2 ≤ line by decide) rfl) rfl hin (by decide) (by decide)) (repr_p (fun i z => by cases z) (lst_c (evL_c (read_p (i := 7) rfl) (evL_c (read_p (i := 7) rfl) evL_n)) (show 2 ≤ line by decide) rfl) rfl hin (by decide) (by decide)) (strOk_shown hin.lay)) rfl ?_
  refine .asg (ρ1 := [some (Pot a1 b1), some (.p (mPD n R)), some (.p (.str (mPD n R).shown)), some (.p (.list ((clT R n).map .list))), some (.p (.list (F.map enP))), some (.p (.bool (allR R n))), none, some (.p (.int (B : Nat))), none, none, none, none]) (ρ2 := [some (Pot a1 b1), some (.p (mPD n R)), some (.p (.str (mPD n R).shown)), some (.p (.list ((clT R n).map .list))), some (.p (.list (F.map enP))), some (.p (.bool (allR R n))), none, some (.p (.int (B : Nat))), none, some (.own (List.map .int [])), none, none]) (d := .own (List.map .int [])) (lst_c evL_n (Nat.zero_le _) rfl) rfl rfl rfl ?_
  have hidx : ev (Cx_ a b (k + 8)) (.prim .idx (.cons (.var 1) (.cons (.int 1) .nil))) [some (Pot a1 b1), some (.p (mPD n R)), some (.p (.str (mPD n R).shown)), some (.p (.list ((clT R n).map .list))), some (.p (.list (F.map enP))), some (.p (.bool (allR R n))), none, some (.p (.int (B : Nat))), none, some (.own (List.map .int [])), none, none] = .ok (.p (.int n)) [some (Pot a1 b1), some (.p (mPD n R)), some (.p (.str (mPD n R).shown)), some (.p (.list ((clT R n).map .list))), some (.p (.list (F.map enP))), some (.p (.bool (allR R n))), none, some (.p (.int (B : Nat))), none, some (.own (List.map .int [])), none, none] := rfl
  refine .for_ (ρ1 := [some (Pot a1 b1), some (.p (mPD n R)), some (.p (.str (mPD n R).shown)), some (.p (.list ((clT R n).map .list))), some (.p (.list (F.map enP))), some (.p (.bool (allR R n))), none, some (.p (.int (B : Nat))), none, some (.own (List.map .int [])), none, none]) (xs := (rngZ n).map .int) ((range_e (C := Cx_ a b (k + 8)) (fun i z => by cases z) hidx (by omega) (by omega)).trans (by rw [rangeL_rngZ])) (.inl ⟨_, hpl, ?_⟩)
  rw [show [] ++ (rngZ n).filter (fun q => !hwB R q) = hubL R n from List.nil_append _]
  have hh1 : ev (Cx_ a b (k + 8)) (.call 44 [none] (.cons (.var 1) .nil) .nil) [some (Pot a1 b1), some (.p (mPD n R)), some (.p (.str (mPD n R).shown)), some (.p (.list ((clT R n).map .list))), some (.p (.list (F.map enP))), some (.p (.bool (allR R n))), none, some (.p (.int (B : Nat))), none, some (.own ((hubL R n).map .int)), e10, none] = .ok (.own ((hubL R n).map .int)) [some (Pot a1 b1), some (.p (mPD n R)), some (.p (.str (mPD n R).shown)), some (.p (.list ((clT R n).map .list))), some (.p (.list (F.map enP))), some (.p (.bool (allR R n))), none, some (.p (.int (B : Nat))), none, some (.own ((hubL R n).map .int)), e10, none] := call_c (as := [.s 1]) (bs := []) (ds := [.p (mPD n R)]) (ps := [.p (mPD n R)]) (qs := [.p (mPD n R)]) (ρ1 := [some (Pot a1 b1), some (.p (mPD n R)), some (.p (.str (mPD n R).shown)), some (.p (.list ((clT R n).map .list))), some (.p (.list (F.map enP))), some (.p (.bool (allR R n))), none, some (.p (.int (B : Nat))), none, some (.own ((hubL R n).map .int)), e10, none]) (ρ2 := [some (Pot a1 b1), some (.p (mPD n R)), some (.p (.str (mPD n R).shown)), some (.p (.list ((clT R n).map .list))), some (.p (.list (F.map enP))), some (.p (.bool (allR R n))), none, some (.p (.int (B : Nat))), none, some (.own ((hubL R n).map .int)), e10, none]) rfl evA_n rfl rfl rfl hhub rfl
  refine .asg (ρ1 := [some (Pot a1 b1), some (.p (mPD n R)), some (.p (.str (mPD n R).shown)), some (.p (.list ((clT R n).map .list))), some (.p (.list (F.map enP))), some (.p (.bool (allR R n))), none, some (.p (.int (B : Nat))), none, some (.own ((hubL R n).map .int)), e10, none]) (ρ2 := [some (Pot a1 b1), some (.p (mPD n R)), some (.p (.str (mPD n R).shown)), some (.p (.list ((clT R n).map .list))), some (.p (.list (F.map enP))), some (.p (.bool (allR R n))), none, some (.p (.int (B : Nat))), none, some (.own ((hubL R n).map .int)), e10, some (.own ((hubL R n).map .int))]) hh1 rfl rfl rfl ?_
  refine .ifF (ρ1 := [some (Pot a1 b1), some (.p (mPD n R)), some (.p (.str (mPD n R).shown)), some (.p (.list ((clT R n).map .list))), some (.p (.list (F.map enP))), some (.p (.bool (allR R n))), none, some (.p (.int (B : Nat))), none, some (.own ((hubL R n).map .int)), e10, some (.own ((hubL R n).map .int))]) (t := false) (bop_c (or_c (b := false) (c := false) (prim_c (as := [.s 11, .s 9]) (ds := [.own ((hubL R n).map .int), .own ((hubL R n).map .int)]) rfl rfl ?_) fun _ => or_one (prim_c (as := [.v (.p (.str (mPD n R).shown)), .s 2]) (ds := [.p (.str (mPD n R).shown), .p (.str (mPD n R).shown)]) (evA_c (fun i z => by cases z) (repr_v (i := 1) rfl rfl hnm (by decide) (by decide)) (evA_v rfl evA_n)) rfl ?_))) rfl ?_
  · show Option.map (fun c => D.p (.bool c)) ((eqD (.own ((hubL R n).map .int)) (.own ((hubL R n).map .int))).map (!·)) = _
    rw [eq_ints (a := hubL R n) (b := hubL R n) rfl rfl, decide_eq_true rfl]; rfl
  · show Option.map (fun c => D.p (.bool c)) ((eqD (.p (.str (mPD n R).shown)) (.p (.str (mPD n R).shown))).map (!·)) = _
    rw [eqD_str _ _ (strOk_shown hnm.lay) (strOk_shown hnm.lay), decide_eq_true rfl]; rfl
  refine .st (ρ2 := [some (Pot a1 b1), some (.p (mPD n R)), some (.p (.str (mPD n R).shown)), some (.p (.list ((clT R n).map .list))), some (.p (.list (F.map enP))), some (.p (.bool (allR R n))), none, some (.p (.int (B : Nat))), none, some (.own ((hubL R n).map .int)), e10, some (.own ((hubL R n).map .int ++ [.none]))]) (app_c (ρ1 := [some (Pot a1 b1), some (.p (mPD n R)), some (.p (.str (mPD n R).shown)), some (.p (.list ((clT R n).map .list))), some (.p (.list (F.map enP))), some (.p (.bool (allR R n))), none, some (.p (.int (B : Nat))), none, some (.own ((hubL R n).map .int)), e10, some (.own ((hubL R n).map .int))]) (l := (hubL R n).map .int) (d := .none) rfl (by rw [ev]) rfl ?_ rfl) ?_
  · rw [List.length_map]
    unfold hubL
    exact Nat.lt_of_le_of_lt (Nat.le_trans (List.length_filter_le _ _) (by rw [hrl]; exact n12)) (by decide)
  have hh2 : ev (Cx_ a b (k + 8)) (.call 44 [none] .nil (.cons (.var 1) .nil)) [some (Pot a1 b1), some (.p (mPD n R)), some (.p (.str (mPD n R).shown)), some (.p (.list ((clT R n).map .list))), some (.p (.list (F.map enP))), some (.p (.bool (allR R n))), none, some (.p (.int (B : Nat))), none, some (.own ((hubL R n).map .int)), e10, some (.own ((hubL R n).map .int ++ [.none]))] = .ok (.own ((hubL R n).map .int)) [some (Pot a1 b1), some (.p (mPD n R)), some (.p (.str (mPD n R).shown)), some (.p (.list ((clT R n).map .list))), some (.p (.list (F.map enP))), some (.p (.bool (allR R n))), none, some (.p (.int (B : Nat))), none, some (.own ((hubL R n).map .int)), e10, some (.own ((hubL R n).map .int ++ [.none]))] := call_c (as := []) (bs := [.s 1]) (ds := [.p (mPD n R)]) (ps := [.p (mPD n R)]) (qs := [.p (mPD n R)]) (ρ1 := [some (Pot a1 b1), some (.p (mPD n R)), some (.p (.str (mPD n R).shown)), some (.p (.list ((clT R n).map .list))), some (.p (.list (F.map enP))), some (.p (.bool (allR R n))), none, some (.p (.int (B : Nat))), none, some (.own ((hubL R n).map .int)), e10, some (.own ((hubL R n).map .int ++ [.none]))]) (ρ2 := [some (Pot a1 b1), some (.p (mPD n R)), some (.p (.str (mPD n R).shown)), some (.p (.list ((clT R n).map .list))), some (.p (.list (F.map enP))), some (.p (.bool (allR R n))), none, some (.p (.int (B : Nat))), none, some (.own ((hubL R n).map .int)), e10, some (.own ((hubL R n).map .int ++ [.none]))]) evA_n rfl rfl rfl rfl hhub rfl
  refine .ret (ρ1 := [some (Pot a1 b1), some (.p (mPD n R)), some (.p (.str (mPD n R).shown)), some (.p (.list ((clT R n).map .list))), some (.p (.list (F.map enP))), some (.p (.bool (allR R n))), none, some (.p (.int (B : Nat))), none, some (.own ((hubL R n).map .int)), e10, some (.own ((hubL R n).map .int ++ [.none]))]) (fun i z => by cases z) (prim_c (as := [.v (.own ((hubL R n).map .int)), .s 9]) (ds := [.own ((hubL R n).map .int), .own ((hubL R n).map .int)]) (evA_c (fun i z => by cases z) hh2 (evA_v rfl evA_n)) rfl ?_) (gv rfl)
  show Option.map (fun c => D.p (.bool c)) (eqD (.own ((hubL R n).map .int)) (.own ((hubL R n).map .int))) = _
  rw [eq_ints (a := hubL R n) (b := hubL R n) rfl rfl, decide_eq_true rfl]; rfl
theorem law_true : ∀ ns : List Int, ns.length ≤ 63 → ∃ es, run (tab rows) 24 52 [.frl ns] = .ok (.p (.bool true)) es := by
  intro ns _
  obtain ⟨a, b, ok, h1⟩ := r_pot 22 ns
  obtain ⟨a', b', h2⟩ := r_right 14 a b ok
  refine ⟨[.frl ns], ?_⟩
  refine (run_succ (fn := f_law) rfl).trans ?_
  refine runB_gv rfl rfl (.ret (ρ1 := [some (.frl ns)]) (fun i z => by cases z) (call_c (as := [.v (Pot a b)]) (bs := []) (ds := [Pot a b]) (ps := [Pot a b]) (qs := [Pot a' b']) (ρ1 := [some (.frl ns)]) (ρ2 := [some (.frl ns)]) (evA_c (fun i z => by cases z) (call_c (as := [.s 0, .v (.p (.int 0))]) (bs := []) (ds := [.frl ns, .p (.int 0)]) (ps := [.frl ns, .p (.int 0)]) (qs := [.frl ns, .p (.int 0)]) (ρ1 := [some (.frl ns)]) (ρ2 := [some (.frl ns)]) rfl evA_n rfl rfl rfl h1 rfl) evA_n) evA_n rfl rfl rfl h2 rfl) (gv rfl))
end Law_k41

open PySem PySem.W PySem.Calls PyProof.Rows
set_option maxHeartbeats 0 in
theorem PySem.Challenge.cw_pacedprices_k41_whole_beats_and_hubs_holds : PySem.Challenge.rw_pacedprices_k41_whole_beats_and_hubs.Holds := by
  w_on; o_law
  refine HandSHeadRun.head_imp (r := OpenLaw.row PySem.Challenge.rw_pacedprices_k41_whole_beats_and_hubs) (q := view (OpenLaw.row PySem.Challenge.rw_pacedprices_k41_whole_beats_and_hubs).prog [0, 33]) (H := Law_k41.hk) (ob := Law_k41.ob) (M := 8000) (loose := ["PaceError", "InvalidMachine", "is_integer", "is_count", "MOST_PLACES", "MOST_ROADS", "MOST_LENGTH", "MANY_BOUND", "is_road", "is_machine", "want_machine", "roads_from", "reach_of", "together_of", "parts_together", "part_beat", "beat_of", "has_rounds_without", "is_together", "beat", "hubs", "_law_pot", "_law_draw", "_law_machine", "_law_closed", "_law_rounds", "_law_common", "_law_right"]) (d := HandSHeadRun.topDef (OpenLaw.row PySem.Challenge.rw_pacedprices_k41_whole_beats_and_hubs).prog 33) (kwd := []) Law_k41.ob_eq
    Law_k41.run_ (by kernel_rfl) (by kernel_rfl) (by kernel_rfl) (by rfl) (by first | assumption | decide +kernel) (by decide +kernel) ⟨rfl, rfl, rfl, rfl, rfl, by decide +kernel⟩ ?hw ?hc
  case hw => w_witness2
  case hc =>
    refine Pv.walk_end (l := PySem.Challenge.rw_pacedprices_k41_whole_beats_and_hubs) (n := 63) (k := 24) (x := "script") (L := Law_k41.lib) (rows := Law_k41.rows) (li := 52) (r := ⟨52, Law_k41.f_law, Law_k41.s_law, "law", [], []⟩) rfl (by decide) (by kernel_rfl) ⟨rfl, by decide, by decide⟩ rfl rfl (by kernel_rfl) ?F Law_k41.law_true
    intro w mg h Y G
    obtain ⟨K, KX, c, ci⟩ := Y
    exact ⟨K, KX, Pv.txt_of c KX G Law_k41.rows_ok Law_k41.glb_ok Law_k41.cal_ok (fun _ => ci), fun fa fd F s u => L2.FunD.bindsA (ps := ["script"]) F (fun _ _ _ _ _ _ us hl => match us, hl with | [_], _ => rfl) s [u] rfl⟩


