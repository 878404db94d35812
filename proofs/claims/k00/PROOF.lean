import PyProof.Rows.All
import Wide.All
import OpenK.AllK
import Wide.FinOn
import HandS.ForMost
import HandS.Wide
import HandS.Gcd
import HandS.IsInst
import HandS.Style
import HandS.Flow
import HandS.SortInts
import HandS.Rev
import HandS.TupAny
import HandS.RevTup
import KE.LtData
import PySem.Challenge.RW_heldnear_k00_fractions
set_option Elab.async false
set_option linter.all false
set_option maxRecDepth 100000
/-! Mn1: a small value language, its expressions and statements, and what they compute. -/
namespace Mn
open PySem

/-- values as trees: lists and tuples by their contents -/
inductive MV where
  | non | bl (b : Bool) | int (i : Int) | str (s : Str) | tup (l : List MV) | lst (l : List MV)

instance : Inhabited MV := ⟨.non⟩

/-- how a value is held: shared; a new list that nothing else holds; a list that a name of the frame owns -/
inductive Tg where
  | sh | fr | bo
deriving DecidableEq

inductive BOp where
  | add | sub | mul | fdiv | mod | pow
deriving DecidableEq

inductive COp where
  | lt | le | gt | ge | eq | ne | is | isnt | inn | nin
deriving DecidableEq

/-- built-in functions -/
inductive BI where
  | len | abs | int | bool | tuple | list | sum | max | min | gcd | sorted | repr | listrev
deriving DecidableEq

/-- built-in types, for isinstance -/
inductive Ty where
  | int | bool | str | tuple | list
deriving DecidableEq

/-- what a for or a comprehension stores into -/
inductive TGT where
  | nm (i : Nat)
  | tp (is : List Nat)
deriving DecidableEq

mutual
inductive CE where
  | lit (v : MV)
  | var (i : Nat)
  | bin (op : BOp) (a b : CE)
  | neg (a : CE)
  | not (a : CE)
  | and (a b : CE)
  | or (a b : CE)
  | cmp (op : COp) (a b : CE)
  | chain (op op' : COp) (a b c : CE)
  | ite (c a b : CE)
  | call (f : Nat) (args : List CE)
  | bi (b : BI) (args : List CE)
  | isi (a : CE) (ts : List Ty)
  | tup (l : List CE)
  | lst (l : List CE)
  | idx (a i : CE)
  | slc (a : CE) (lo hi : Option CE)
  | comp (elt : CE) (tg : TGT) (it : CI) (ifs : List CE)
  | comp2 (elt : CE) (tg : TGT) (it : CI) (ifs : List CE) (tg1 : TGT) (it1 : CI) (ifs1 : List CE)
/-- what is walked -/
inductive CI where
  | seq (a : CE)
  | rng1 (a : CE)
  | rng2 (a b : CE)
  | rng3 (a b c : CE)
  | rev (a : CE)
end

inductive CS where
  | asg (i : Nat) (e : CE)
  | asgT (is : List Nat) (e : CE)
  | par (i j : Nat) (a b : CE)
  | set (i : Nat) (k e : CE)
  | aug (i : Nat) (op : BOp) (e : CE)
  | app (i : Nat) (e : CE)
  | ext (i : Nat) (e : CE)
  | pop (o : Option Nat) (i : Nat) (k : Option CE)
  | expr (e : CE)
  | ret (e : CE)
  | retN
  | ite (c : CE) (a b : List CS)
  | forS (tg : TGT) (it : CI) (body : List CS)
  | whl (c : CE) (body : List CS)
  | brk
  | cnt
  | pass
  | drop (i : Nat)

/-- a frame's names: a value, and whether the name owns it -/
abbrev MS := List (Option (MV × Bool))

/-- sizes -/
@[irreducible] def SZ : Nat := 4000000
@[irreducible] def BIG : Nat := 2 ^ 400000
@[irreducible] def DIV : Nat := 2 ^ 9000
@[irreducible] def PWB : Nat := 2 ^ 10000
@[irreducible] def RNG : Int := 2 ^ 62

mutual
def MV.toD : MV → PyData
  | .non => .none
  | .bl b => .bool b
  | .int i => .int i
  | .str s => .str s
  | .tup l => .tuple (MV.toDs l)
  | .lst l => .list (MV.toDs l)
def MV.toDs : List MV → List PyData
  | [] => []
  | x :: r => MV.toD x :: MV.toDs r
end

mutual
def MV.noLst : MV → Bool
  | .tup l => MV.noLsts l
  | .lst _ => false
  | _ => true
def MV.noLsts : List MV → Bool
  | [] => true
  | x :: r => MV.noLst x && MV.noLsts r
end

/-- a value that shares no list with anything: without lists, or a new list of such -/
def freeOf : MV × Bool → Bool
  | (.lst l, true) => MV.noLsts l
  | (x, _) => x.noLst

def truth : MV → Option Bool
  | .non => some false
  | .bl b => some b
  | .int i => some (i != 0)
  | .str s => if s.length ≤ SZ then some (s.length != 0) else none
  | .tup l => some (!l.isEmpty)
  | .lst l => some (!l.isEmpty)

def lexLt : List Int → List Int → Bool := HT.lexLt

def intsOf : List MV → Option (List Int)
  | [] => some []
  | .int i :: r => (intsOf r).bind fun l => some (i :: l)
  | _ :: _ => none

def binSem : BOp → MV → MV → Option (MV × Tg)
  | .add, .int a, .int b => some (.int (a + b), .sh)
  | .add, .str a, .str b => if a.length + b.length ≤ SZ then some (.str (a ++ b), .sh) else none
  | .add, .lst a, .lst b => if a.length + b.length ≤ SZ then some (.lst (a ++ b), .fr) else none
  | .add, .tup a, .tup b => if a.length + b.length ≤ SZ then some (.tup (a ++ b), .sh) else none
  | .sub, .int a, .int b => some (.int (a - b), .sh)
  | .mul, .int a, .int b => if a.natAbs < BIG ∧ b.natAbs < BIG then some (.int (a * b), .sh) else none
  | .mul, .lst a, .int k => if k < RNG ∧ -RNG < k ∧ a.length * k.toNat ≤ SZ then some (.lst (List.replicate k.toNat a).flatten, .fr) else none
  | .fdiv, .int a, .int b => if b ≠ 0 ∧ b.natAbs < DIV then some (.int (a.fdiv b), .sh) else none
  | .mod, .int a, .int b => if b ≠ 0 then some (.int (a.fmod b), .sh) else none
  | .pow, .int a, .int b => if 0 ≤ b ∧ b ≤ 1000 ∧ a.natAbs < PWB then some (.int (a ^ b.toNat), .sh) else none
  | _, _, _ => none

/-- data that == takes -/
def cmpOk (a : MV) : Bool := SeqAt.shaped a.toD

def isScal : MV → Bool
  | .non => true
  | .bl _ => true
  | .int _ => true
  | .str _ => true
  | _ => false

/-- an int of its own kind, or a text: no 1 == True -/
def flatEq : MV → MV → Bool
  | .non, .non => true
  | .bl a, .bl b => a == b
  | .bl a, .int b => (if a then 1 else 0) == b
  | .int a, .bl b => a == (if b then 1 else 0)
  | .int a, .int b => a == b
  | .str a, .str b => a == b
  | _, _ => false

def seqOf : MV → Option (List MV)
  | .tup l => some l
  | .lst l => some l
  | _ => none

def cmpSem : COp → MV → MV → Option Bool
  | .lt, .int a, .int b => some (decide (a < b))
  | .le, .int a, .int b => some (decide (a ≤ b))
  | .gt, .int a, .int b => some (decide (b < a))
  | .ge, .int a, .int b => some (decide (b ≤ a))
  | .lt, .tup a, .tup b => (intsOf a).bind fun x => (intsOf b).bind fun y => some (HT.lexLt x y)
  | .eq, .int a, .int b => some (decide (a = b))
  | .ne, .int a, .int b => some (!decide (a = b))
  | .eq, a, b => if cmpOk a && cmpOk b then some (PyData.eqv a.toD b.toD) else none
  | .ne, a, b => if cmpOk a && cmpOk b then some (!PyData.eqv a.toD b.toD) else none
  | .is, a, .non => some (match a with | .non => true | _ => false)
  | .isnt, a, .non => some (match a with | .non => false | _ => true)
  | .is, a, .bl b => some (match a with | .bl c => c == b | _ => false)
  | .isnt, a, .bl b => some (match a with | .bl c => !(c == b) | _ => true)
  | .inn, a, s => (seqOf s).bind fun l => if isScal a && l.all isScal then some (l.any fun y => flatEq y a) else none
  | .nin, a, s => (seqOf s).bind fun l => if isScal a && l.all isScal then some (!(l.any fun y => flatEq y a)) else none
  | _, _, _ => none

def tyIs : MV → Ty → Bool
  | .bl _, .bool => true
  | .bl _, .int => true
  | .int _, .int => true
  | .str _, .str => true
  | .tup _, .tuple => true
  | .lst _, .list => true
  | _, _ => false

/-- x[i] -/
def atM (l : List MV) (i : Int) : Option MV := L2.atI l i

def idxSem : MV → MV → Option MV
  | .tup l, .int i => atM l i
  | .lst l, .int i => atM l i
  | .str s, .int i => if s.length ≤ SZ then (L2.atI s.cps.toList i).map fun c => .str ⟨#[c]⟩ else none
  | _, _ => none

def cutM (xs : List MV) (lo hi : Option Int) : List MV := (xs.drop (HT.sIx xs.length 0 lo)).take (HT.sIx xs.length xs.length hi - HT.sIx xs.length 0 lo)

def slcSem : MV → Option Int → Option Int → Option (MV × Tg)
  | .tup l, lo, hi => some (.tup (cutM l lo hi), .sh)
  | .lst l, lo, hi => some (.lst (cutM l lo hi), .fr)
  | _, _, _ => none

def maxI : List Int → Option Int
  | [] => none
  | x :: r => some (r.foldl (fun a b => if a < b then b else a) x)
def minI : List Int → Option Int
  | [] => none
  | x :: r => some (r.foldl (fun a b => if b < a then b else a) x)

def biSem : BI → List MV → Option (MV × Tg)
  | .len, [.tup l] => some (.int l.length, .sh)
  | .len, [.lst l] => some (.int l.length, .sh)
  | .len, [.str s] => if s.length ≤ SZ then some (.int s.length, .sh) else none
  | .abs, [.int i] => some (.int (if i < 0 then -i else i), .sh)
  | .int, [.int i] => some (.int i, .sh)
  | .int, [.bl b] => some (.int (if b then 1 else 0), .sh)
  | .bool, [.int i] => some (.bl (i != 0), .sh)
  | .bool, [.bl b] => some (.bl b, .sh)
  | .tuple, [.tup l] => some (.tup l, .sh)
  | .tuple, [.lst l] => some (.tup l, .sh)
  | .list, [.tup l] => some (.lst l, .fr)
  | .list, [.lst l] => some (.lst l, .fr)
  | .sum, [.lst l] => (intsOf l).bind fun x => some (.int x.sum, .sh)
  | .max, [.lst l] => (intsOf l).bind fun x => (maxI x).bind fun m => some (.int m, .sh)
  | .min, [.lst l] => (intsOf l).bind fun x => (minI x).bind fun m => some (.int m, .sh)
  | .max, [.int a, .int b] => some (.int (if b > a then b else a), .sh)
  | .min, [.int a, .int b] => some (.int (if b < a then b else a), .sh)
  | .gcd, [.int a, .int b] => some (.int ((Nat.gcd a.natAbs b.natAbs : Nat) : Int), .sh)
  | _, _ => none

/-- lo, lo + 1, .. (n of them) -/
def rngM (lo : Int) : Nat → List MV
  | 0 => []
  | n + 1 => .int lo :: rngM (lo + 1) n

def getM (σ : MS) (i : Nat) : Option (MV × Tg) :=
  match σ[i]? with
  | some (some (v, own)) => some (v, if own then .bo else .sh)
  | _ => none

def setM (σ : MS) (i : Nat) (v : MV) (own : Bool) : MS := σ.set i (some (v, own))

/-- a value that may be kept -/
def keep : MV × Tg → Option MV
  | (v, .bo) => none
  | (v, _) => some v

def isLst : MV → Bool
  | .lst _ => true
  | _ => false

def putAll : MS → List Nat → List MV → Option MS
  | σ, [], [] => some σ
  | σ, i :: is, v :: vs => putAll (setM σ i v false) is vs
  | _, _, _ => none

def putT (σ : MS) : TGT → MV → Option MS
  | .nm i, v => some (setM σ i v false)
  | .tp is, .tup vs => putAll σ is vs
  | .tp _, _ => none

def tgSlots : TGT → List Nat
  | .nm i => [i]
  | .tp is => is

def wipeM (σ : MS) : List Nat → MS
  | [] => σ
  | v :: vs => (wipeM σ vs).set v none

/-- the turns of a comprehension: each gives items -/
def turns (f : MV → Option (List MV)) : List MV → Option (List MV)
  | [] => some []
  | x :: r => (f x).bind fun ys => (turns f r).bind fun l => some (ys ++ l)

abbrev Fns := Nat → List MV → Option (MV × Bool)

def rngOk (i : Int) : Bool := decide (-RNG ≤ i) && decide (i < RNG)

mutual
def ev (Φ : Fns) : CE → MS → Option (MV × Tg)
  | .lit v, _ => some (v, .sh)
  | .var i, σ => getM σ i
  | .bin op a b, σ => (ev Φ a σ).bind fun x => (ev Φ b σ).bind fun y => binSem op x.1 y.1
  | .neg a, σ => (ev Φ a σ).bind fun x => match x.1 with | .int i => some (.int (-i), .sh) | _ => none
  | .not a, σ => (ev Φ a σ).bind fun x => (truth x.1).bind fun b => some (.bl (!b), .sh)
  | .and a b, σ => (ev Φ a σ).bind fun x => (truth x.1).bind fun t => if t = true then ev Φ b σ else some x
  | .or a b, σ => (ev Φ a σ).bind fun x => (truth x.1).bind fun t => if t = true then some x else ev Φ b σ
  | .cmp op a b, σ => (ev Φ a σ).bind fun x => (ev Φ b σ).bind fun y => (cmpSem op x.1 y.1).bind fun t => some (.bl t, .sh)
  | .chain op op' a b c, σ => (ev Φ a σ).bind fun x => (ev Φ b σ).bind fun y => (cmpSem op x.1 y.1).bind fun t =>
      if t = true then (ev Φ c σ).bind fun z => (cmpSem op' y.1 z.1).bind fun u => some (.bl u, .sh) else some (.bl false, .sh)
  | .ite c a b, σ => (ev Φ c σ).bind fun x => (truth x.1).bind fun t => if t = true then ev Φ a σ else ev Φ b σ
  | .call f args, σ => (evs Φ args σ).bind fun xs => (Φ f (xs.map (·.1))).bind fun r =>
      if xs.all (fun x => decide (x.2 ≠ .bo)) || freeOf r then some (r.1, if r.2 then .fr else .sh) else none
  | .bi b args, σ => (evs Φ args σ).bind fun xs => biSem b (xs.map (·.1))
  | .isi a ts, σ => (ev Φ a σ).bind fun x => some (.bl (ts.any (tyIs x.1)), .sh)
  | .tup l, σ => (evs Φ l σ).bind fun xs => (xs.mapM keep).bind fun vs => if vs.length ≤ SZ then some (.tup vs, .sh) else none
  | .lst l, σ => (evs Φ l σ).bind fun xs => (xs.mapM keep).bind fun vs => if vs.length ≤ SZ then some (.lst vs, .fr) else none
  | .idx a i, σ => (ev Φ a σ).bind fun x => (ev Φ i σ).bind fun y => (idxSem x.1 y.1).bind fun v => some (v, .sh)
  | .slc a lo hi, σ => (ev Φ a σ).bind fun x => (evO Φ lo σ).bind fun l => (evO Φ hi σ).bind fun h => slcSem x.1 l h
  | .comp elt tg it ifs, σ => (evI Φ it σ).bind fun items =>
      (turns (fun x => (putT (wipeM σ (tgSlots tg)) tg x).bind fun σ' => (evT Φ ifs σ').bind fun t =>
        if t = true then (ev Φ elt σ').bind fun y => (keep y).bind fun v => some [v] else some []) items.1).bind fun vs => if vs.length ≤ SZ then some (.lst vs, .fr) else none
  | .comp2 elt tg it ifs tg1 it1 ifs1, σ => (evI Φ it σ).bind fun items =>
      (turns (fun x => (putT (wipeM σ (tgSlots tg ++ tgSlots tg1)) tg x).bind fun σ' => (evT Φ ifs σ').bind fun t =>
        if t = true then (evI Φ it1 σ').bind fun items1 =>
          turns (fun x1 => (putT (wipeM σ' (tgSlots tg1)) tg1 x1).bind fun σ2 => (evT Φ ifs1 σ2).bind fun t1 =>
            if t1 = true then (ev Φ elt σ2).bind fun y => (keep y).bind fun v => some [v] else some []) items1.1
        else some []) items.1).bind fun vs => if vs.length ≤ SZ then some (.lst vs, .fr) else none
def evs (Φ : Fns) : List CE → MS → Option (List (MV × Tg))
  | [], _ => some []
  | e :: r, σ => (ev Φ e σ).bind fun x => (evs Φ r σ).bind fun xs => some (x :: xs)
def evO (Φ : Fns) : Option CE → MS → Option (Option Int)
  | none, _ => some none
  | some e, σ => (ev Φ e σ).bind fun x => match x.1 with | .int i => some (some i) | _ => none
/-- a clause's tests: none, or all true -/
def evT (Φ : Fns) : List CE → MS → Option Bool
  | [], _ => some true
  | e :: r, σ => (ev Φ e σ).bind fun x => (truth x.1).bind fun t => if t = true then evT Φ r σ else some false
def evI (Φ : Fns) : CI → MS → Option (List MV × Tg)
  | .seq a, σ => (ev Φ a σ).bind fun x => (seqOf x.1).bind fun l => some (l, x.2)
  | .rng1 a, σ => (ev Φ a σ).bind fun x => match x.1 with | .int n => if rngOk n then some (rngM 0 n.toNat, .sh) else none | _ => none
  | .rng2 a b, σ => (ev Φ a σ).bind fun x => (ev Φ b σ).bind fun y => match x.1, y.1 with
      | .int m, .int n => if rngOk m && rngOk n then some (rngM m (n - m).toNat, .sh) else none
      | _, _ => none
  | .rng3 a b c, σ => none
  | .rev a, σ => (ev Φ a σ).bind fun x => (seqOf x.1).bind fun l => some (l.reverse, x.2)
end

inductive Flow where
  | nx (σ : MS)
  | ret (v : MV) (own : Bool)
  | bk (σ : MS)
  | ct (σ : MS)

/-- a list that the name owns -/
def ownL (σ : MS) (i : Nat) : Option (List MV) :=
  match σ[i]? with
  | some (some (.lst l, true)) => some l
  | _ => none

/-- what an assignment puts down -/
def asgM (σ : MS) (i : Nat) : MV × Tg → Option MS
  | (v, .sh) => some (setM σ i v false)
  | (v, .fr) => some (setM σ i v (isLst v))
  | (_, .bo) => none

def retM : MV × Tg → Flow
  | (v, .sh) => .ret v false
  | (v, .fr) => .ret v true
  | (v, .bo) => .ret v true

def isVar : CE → Bool
  | .var _ => true
  | _ => false

def goFor (f : MV → MS → Option Flow) : List MV → MS → Option Flow
  | [], σ => some (.nx σ)
  | x :: r, σ => (f x σ).bind fun
      | .nx σ' => goFor f r σ'
      | .ct σ' => goFor f r σ'
      | .bk σ' => some (.nx σ')
      | .ret v own => some (.ret v own)

def goWhl (c : MS → Option Bool) (f : MS → Option Flow) : Nat → MS → Option Flow
  | 0, _ => none
  | n + 1, σ => (c σ).bind fun t => if t = true then (f σ).bind fun
      | .nx σ' => goWhl c f n σ'
      | .ct σ' => goWhl c f n σ'
      | .bk σ' => some (.nx σ')
      | .ret v own => some (.ret v own) else some (.nx σ)

def popSem (l : List MV) : Option Int → Option (MV × List MV)
  | none => match l[l.length - 1]? with | some y => some (y, l.dropLast) | none => none
  | some i => (L2.ixN l.length i).bind fun k => match l[k]? with | some y => some (y, l.eraseIdx k) | none => none

mutual
def ex (Φ : Fns) (L : Nat) : CS → MS → Option Flow
  | .asg i e, σ => (ev Φ e σ).bind fun x => (asgM σ i x).bind fun σ' => some (.nx σ')
  | .asgT is e, σ => (ev Φ e σ).bind fun x => (keep x).bind fun v => (putT σ (.tp is) v).bind fun σ' => some (.nx σ')
  | .par i j a b, σ => (ev Φ a σ).bind fun x => (ev Φ b σ).bind fun y => (keep x).bind fun v => (keep y).bind fun w => some (.nx (setM (setM σ i v false) j w false))
  | .set i k e, σ => (ev Φ e σ).bind fun x => (keep x).bind fun v => (ev Φ k σ).bind fun y => match y.1 with
      | .int n => (ownL σ i).bind fun l => (L2.ixN l.length n).bind fun j => some (.nx (setM σ i (.lst (l.set j v)) true))
      | _ => none
  | .aug i op e, σ => (getM σ i).bind fun x => (ev Φ e σ).bind fun y => match x.1, y.1 with
      | .int m, .int n => (match op with
          | .add => some (m + n)
          | .sub => some (m - n)
          | _ => none).bind fun z => some (.nx (setM σ i (.int z) false))
      | _, _ => none
  | .app i e, σ => (ev Φ e σ).bind fun x => (keep x).bind fun v => (ownL σ i).bind fun l => if l.length < SZ then some (.nx (setM σ i (.lst (l ++ [v])) true)) else none
  | .ext i e, σ => (ev Φ e σ).bind fun x => (seqOf x.1).bind fun m => (ownL σ i).bind fun l => if l.length + m.length ≤ SZ then some (.nx (setM σ i (.lst (l ++ m)) true)) else none
  | .pop o i k, σ => (evO Φ k σ).bind fun n => (ownL σ i).bind fun l => (popSem l n).bind fun (y, l') =>
      match o with
      | none => some (.nx (setM σ i (.lst l') true))
      | some j => if j = i then none else some (.nx (setM (setM σ i (.lst l') true) j y false))
  | .expr e, σ => (ev Φ e σ).bind fun _ => some (.nx σ)
  | .ret e, σ => (ev Φ e σ).bind fun x => if x.2 = .bo ∧ isVar e = false then none else some (retM x)
  | .retN, _ => some (.ret .non false)
  | .ite c a b, σ => (ev Φ c σ).bind fun x => (truth x.1).bind fun t => if t = true then exs Φ L a σ else exs Φ L b σ
  | .forS tg it body, σ => (evI Φ it σ).bind fun items => if items.2 = .bo then none else goFor (fun x σ' => (putT σ' tg x).bind fun σ2 => exs Φ L body σ2) items.1 σ
  | .whl c body, σ => goWhl (fun σ' => (ev Φ c σ').bind fun x => truth x.1) (fun σ' => exs Φ L body σ') L σ
  | .brk, σ => some (.bk σ)
  | .cnt, σ => some (.ct σ)
  | .pass, σ => some (.nx σ)
  | .drop i, σ => match σ[i]? with
      | some (some (v, _)) => some (.nx (setM σ i v false))
      | _ => none
def exs (Φ : Fns) (L : Nat) : List CS → MS → Option Flow
  | [], σ => some (.nx σ)
  | s :: r, σ => (ex Φ L s σ).bind fun
      | .nx σ' => exs Φ L r σ'
      | .ret v own => some (.ret v own)
      | .bk σ' => some (.bk σ')
      | .ct σ' => some (.ct σ')
end

/-- a def of the text: how many parameters, how many names, its body -/
structure FD where
  np : Nat
  nn : Nat
  body : List CS

def startM (nn : Nat) (args : List MV) : MS := args.map (fun v => some (v, false)) ++ List.replicate (nn - args.length) none

def resOf : Flow → Option (MV × Bool)
  | .nx _ => some (.non, false)
  | .ret v own => some (v, own)
  | _ => none

/-- the defs, by the depth of calls -/
def run (T : List FD) (L : Nat) : Nat → Fns
  | 0, _, _ => none
  | k + 1, f, args => match T[f]? with
      | some d => if args.length = d.np then (exs (run T L k) L d.body (startM d.nn args)).bind resOf else none
      | none => none

end Mn

set_option Elab.async false
set_option linter.all false
set_option maxRecDepth 100000
set_option maxHeartbeats 1000000
/-! Mn2: how tree values lie in the abstract heap; the operations by values. -/
namespace Mn
open PySem L2

mutual
inductive Rep (G : Hp) : V → MV → Prop where
  | non : Rep G .non .non
  | bl (b : Bool) : Rep G (.bl b) (.bl b)
  | int (i : Int) : Rep G (.int i) (.int i)
  | str (s : Str) : Rep G (.str s) (.str s)
  | tup {a : Addr} {vs : List V} {xs : List MV} : Rd G a (.tup vs) → RepAll G vs xs → Rep G (.ref a) (.tup xs)
  | lst {a : Addr} {vs : List V} {xs : List MV} : Rd G a (.lst vs) → RepAll G vs xs → Rep G (.ref a) (.lst xs)
inductive RepAll (G : Hp) : List V → List MV → Prop where
  | nil : RepAll G [] []
  | cons {v : V} {vs : List V} {x : MV} {xs : List MV} : Rep G v x → RepAll G vs xs → RepAll G (v :: vs) (x :: xs)
end

theorem Rd.up {G G' : Hp} {a : Addr} {u : HO} (s : Same G G') (h : Rd G a u) : Rd G' a u := by
  rcases h with h | ⟨o, h⟩
  · exact .inl (s _ _ h)
  · exact .inr ⟨o, s _ _ h⟩

mutual
theorem Rep.up {G G' : Hp} (s : Same G G') : ∀ {v : V} {x : MV}, Rep G v x → Rep G' v x
  | _, _, .non => .non
  | _, _, .bl b => .bl b
  | _, _, .int i => .int i
  | _, _, .str z => .str z
  | _, _, .tup r a => .tup (Rd.up s r) (RepAll.up s a)
  | _, _, .lst r a => .lst (Rd.up s r) (RepAll.up s a)
theorem RepAll.up {G G' : Hp} (s : Same G G') : ∀ {vs : List V} {xs : List MV}, RepAll G vs xs → RepAll G' vs xs
  | _, _, .nil => .nil
  | _, _, .cons r a => .cons (Rep.up s r) (RepAll.up s a)
end

theorem RepAll.length {G : Hp} : ∀ {vs : List V} {xs : List MV}, RepAll G vs xs → vs.length = xs.length
  | _, _, .nil => rfl
  | _, _, .cons _ a => by rw [List.length_cons, List.length_cons, RepAll.length a]

theorem RepAll.get {G : Hp} : ∀ {vs : List V} {xs : List MV} (i : Nat) {x : MV}, RepAll G vs xs → xs[i]? = some x → ∃ v, vs[i]? = some v ∧ Rep G v x
  | _, _, _, _, .nil, h => by simp at h
  | _, _, 0, _, .cons r a, h => by
    rw [List.getElem?_cons_zero] at h
    cases h
    exact ⟨_, by rw [List.getElem?_cons_zero], r⟩
  | _, _, i + 1, _, .cons r a, h => by
    rw [List.getElem?_cons_succ] at h
    obtain ⟨v, e, q⟩ := RepAll.get i a h
    exact ⟨v, by rw [List.getElem?_cons_succ]; exact e, q⟩

theorem RepAll.getV {G : Hp} : ∀ {vs : List V} {xs : List MV} (i : Nat) {v : V}, RepAll G vs xs → vs[i]? = some v → ∃ x, xs[i]? = some x ∧ Rep G v x
  | _, _, _, _, .nil, h => by simp at h
  | _, _, 0, _, .cons r a, h => by
    rw [List.getElem?_cons_zero] at h
    cases h
    exact ⟨_, by rw [List.getElem?_cons_zero], r⟩
  | _, _, i + 1, _, .cons r a, h => by
    rw [List.getElem?_cons_succ] at h
    obtain ⟨v, e, q⟩ := RepAll.getV i a h
    exact ⟨v, by rw [List.getElem?_cons_succ]; exact e, q⟩

theorem RepAll.append {G : Hp} : ∀ {vs ws : List V} {xs ys : List MV}, RepAll G vs xs → RepAll G ws ys → RepAll G (vs ++ ws) (xs ++ ys)
  | _, _, _, _, .nil, b => b
  | _, _, _, _, .cons r a, b => .cons r (RepAll.append a b)
theorem RepAll.take {G : Hp} : ∀ {vs : List V} {xs : List MV} (n : Nat), RepAll G vs xs → RepAll G (vs.take n) (xs.take n)
  | _, _, 0, _ => by rw [List.take_zero, List.take_zero]; exact .nil
  | _, _, _ + 1, .nil => by rw [List.take_nil, List.take_nil]; exact .nil
  | _, _, n + 1, .cons r a => by rw [List.take_succ_cons, List.take_succ_cons]; exact .cons r (RepAll.take n a)
theorem RepAll.drop {G : Hp} : ∀ {vs : List V} {xs : List MV} (n : Nat), RepAll G vs xs → RepAll G (vs.drop n) (xs.drop n)
  | _, _, 0, a => a
  | _, _, _ + 1, .nil => by rw [List.drop_nil, List.drop_nil]; exact .nil
  | _, _, n + 1, .cons r a => by rw [List.drop_succ_cons, List.drop_succ_cons]; exact RepAll.drop n a
theorem RepAll.set {G : Hp} {v : V} {x : MV} (q : Rep G v x) : ∀ {vs : List V} {xs : List MV} (n : Nat), RepAll G vs xs → RepAll G (vs.set n v) (xs.set n x)
  | _, _, _, .nil => .nil
  | _, _, 0, .cons r a => .cons q a
  | _, _, n + 1, .cons r a => .cons r (RepAll.set q n a)
theorem RepAll.eraseIdx {G : Hp} : ∀ {vs : List V} {xs : List MV} (n : Nat), RepAll G vs xs → RepAll G (vs.eraseIdx n) (xs.eraseIdx n)
  | _, _, _, .nil => .nil
  | _, _, 0, .cons r a => a
  | _, _, n + 1, .cons r a => .cons r (RepAll.eraseIdx n a)
theorem RepAll.dropLast {G : Hp} {vs : List V} {xs : List MV} (h : RepAll G vs xs) : RepAll G vs.dropLast xs.dropLast := by
  rw [List.dropLast_eq_take, List.dropLast_eq_take, h.length]
  exact h.take _
theorem RepAll.reverse {G : Hp} : ∀ {vs : List V} {xs : List MV}, RepAll G vs xs → RepAll G vs.reverse xs.reverse
  | _, _, .nil => .nil
  | _, _, .cons r a => by rw [List.reverse_cons, List.reverse_cons]; exact (RepAll.reverse a).append (.cons r .nil)
theorem RepAll.rep {G : Hp} {vs : List V} {xs : List MV} (h : RepAll G vs xs) : ∀ n : Nat, RepAll G (List.replicate n vs).flatten (List.replicate n xs).flatten
  | 0 => .nil
  | n + 1 => by
    rw [List.replicate_succ, List.replicate_succ, List.flatten_cons, List.flatten_cons]
    exact h.append (RepAll.rep h n)

/-- ints lie as ints -/
theorem RepAll.ints {G : Hp} : ∀ {vs : List V} {xs : List MV} {ns : List Int}, RepAll G vs xs → intsOf xs = some ns → vs = ns.map V.int
  | _, _, ns, .nil, e => by
    unfold intsOf at e
    cases e
    rfl
  | _, _, ns, .cons r a, e => by
    cases r with
    | int i =>
      unfold intsOf at e
      obtain ⟨l, h1, h2⟩ := Option.bind_eq_some_iff.mp e
      cases h2
      rw [RepAll.ints a h1] <;> rfl
    | _ => unfold intsOf at e; cases e

/-! ### what the owners hide -/
def Vw (H : Hp) (O : Addr → Bool) : Hp := fun b => if O b = true then none else H b
def add (O : Addr → Bool) (p : Addr) : Addr → Bool := fun b => O b || decide (b = p)

theorem Vw_some {H : Hp} {O : Addr → Bool} {b : Addr} {o : HO} (h : Vw H O b = some o) : O b = false ∧ H b = some o := by
  unfold Vw at h
  by_cases e : O b = true
  · rw [if_pos e] at h; cases h
  · rw [if_neg e] at h
    exact ⟨by simpa using e, h⟩
theorem Vw_of {H : Hp} {O : Addr → Bool} {b : Addr} {o : HO} (h1 : O b = false) (h2 : H b = some o) : Vw H O b = some o := by
  unfold Vw
  rw [if_neg (by rw [h1]; exact Bool.false_ne_true)]
  exact h2
theorem Vw_le {H : Hp} {O : Addr → Bool} : Same (Vw H O) H := fun b o h => (Vw_some h).2
theorem Vw_up {H H' : Hp} {O : Addr → Bool} (s : Same H H') : Same (Vw H O) (Vw H' O) := fun b o h => Vw_of (Vw_some h).1 (s _ _ (Vw_some h).2)
theorem Vw_less {H : Hp} {O O' : Addr → Bool} (s : ∀ b, O' b = true → O b = true) : Same (Vw H O) (Vw H O') := fun b o h => by
  obtain ⟨h1, h2⟩ := Vw_some h
  refine Vw_of ?_ h2
  cases e : O' b with
  | false => rfl
  | true => rw [s b e] at h1; cases h1
theorem add_self {O : Addr → Bool} {p : Addr} : add O p p = true := by unfold add; simp
theorem add_of {O : Addr → Bool} {p b : Addr} (h : O b = true) : add O p b = true := by unfold add; simp [h]
theorem add_ne {O : Addr → Bool} {p b : Addr} (h : b ≠ p) : add O p b = O b := by unfold add; simp [h]
theorem of_add {O : Addr → Bool} {p b : Addr} (h : add O p b = true) : O b = true ∨ b = p := by
  unfold add at h
  rw [Bool.or_eq_true] at h
  rcases h with h | h
  · exact .inl h
  · exact .inr (of_decide_eq_true h)
/-- a new address hidden: nothing of before is lost -/
theorem Vw_new {H H' : Hp} {O : Addr → Bool} {p : Addr} (s : Same H H') (hp : H p = none) : Same (Vw H O) (Vw H' (add O p)) := fun b o h => by
  obtain ⟨h1, h2⟩ := Vw_some h
  have ne : b ≠ p := fun e => by rw [e, hp] at h2; cases h2
  exact Vw_of (by rw [add_ne ne]; exact h1) (s _ _ h2)
theorem same_upd {H : Hp} {p : Addr} {o : HO} (hp : H p = none) : Same H (upd H p o) := fun b u h => by
  rw [upd_ne (fun e => by rw [e, hp] at h; cases h)]
  exact h

/-- the hidden addresses hold lists -/
def Dom (O : Addr → Bool) (H : Hp) : Prop := ∀ p, O p = true → ∃ vs, H p = some (.lst vs)
theorem Dom.up {O : Addr → Bool} {H H' : Hp} (d : Dom O H) (s : Same H H') : Dom O H' := fun p h => let ⟨vs, e⟩ := d p h; ⟨vs, s _ _ e⟩
theorem Dom.new {O : Addr → Bool} {H : Hp} (d : Dom O H) {p : Addr} (h : H p = none) : O p = false := by
  cases e : O p with
  | false => rfl
  | true =>
    obtain ⟨vs, q⟩ := d p e
    rw [h] at q; cases q

mutual
theorem Rep.hid {H : Hp} {O : Addr → Bool} (d : Dom O H) : ∀ {v : V} {x : MV}, Rep H v x → x.noLst = true → Rep (Vw H O) v x
  | _, _, .non, _ => .non
  | _, _, .bl b, _ => .bl b
  | _, _, .int i, _ => .int i
  | _, _, .str z, _ => .str z
  | _, _, .tup (a := a) r q, h => by
    unfold MV.noLst at h
    refine .tup ?_ (RepAll.hid d q h)
    have na : O a = false := by
      cases e : O a with
      | false => rfl
      | true =>
        obtain ⟨vs, z⟩ := d a e
        rcases r with r | ⟨o, r⟩ <;> rw [z] at r <;> cases r
    rcases r with r | ⟨o, r⟩
    · exact .inl (Vw_of na r)
    · exact .inr ⟨o, Vw_of na r⟩
  | _, _, .lst _ _, h => by unfold MV.noLst at h; cases h
theorem RepAll.hid {H : Hp} {O : Addr → Bool} (d : Dom O H) : ∀ {vs : List V} {xs : List MV}, RepAll H vs xs → MV.noLsts xs = true → RepAll (Vw H O) vs xs
  | _, _, .nil, _ => .nil
  | _, _, .cons r a, h => by
    unfold MV.noLsts at h
    rw [Bool.and_eq_true] at h
    exact .cons (Rep.hid d r h.1) (RepAll.hid d a h.2)
end

/-- an expression's value: H ahead of it, H' behind it -/
def ResOk (O : Addr → Bool) (H H' : Hp) : MV × Tg → V → Prop
  | (x, .sh), v => Rep (Vw H' O) v x
  | (x, .fr), v => Rep (Vw H' O) v x ∧ ∀ l, x = .lst l → ∃ p vs, v = .ref p ∧ H p = none ∧ H' p = some (.lst vs) ∧ RepAll (Vw H' (add O p)) vs l
  | (x, .bo), v => ∃ p vs l, x = .lst l ∧ v = .ref p ∧ O p = true ∧ H' p = some (.lst vs) ∧ RepAll (Vw H' O) vs l

/-- a value that is looked at: visible, or a list that a name owns -/
def Bor (O : Addr → Bool) (H : Hp) (v : V) (x : MV) : Prop := Rep (Vw H O) v x ∨ ∃ p vs l, x = .lst l ∧ v = .ref p ∧ O p = true ∧ H p = some (.lst vs) ∧ RepAll (Vw H O) vs l

theorem Bor.up {O : Addr → Bool} {H H' : Hp} {v : V} {x : MV} (h : Bor O H v x) (s : Same H H') : Bor O H' v x := by
  rcases h with h | ⟨p, vs, l, e1, e2, e3, e4, e5⟩
  · exact .inl (h.up (Vw_up s))
  · exact .inr ⟨p, vs, l, e1, e2, e3, s _ _ e4, e5.up (Vw_up s)⟩
theorem Bor.rep {O : Addr → Bool} {H : Hp} {v : V} {x : MV} (h : Bor O H v x) : Rep H v x := by
  rcases h with h | ⟨p, vs, l, e1, e2, e3, e4, e5⟩
  · exact h.up Vw_le
  · rw [e1, e2]
    exact .lst (.inl e4) (e5.up Vw_le)
theorem ResOk.bor {O : Addr → Bool} {H H' : Hp} : ∀ {r : MV × Tg} {v : V}, ResOk O H H' r v → Bor O H' v r.1
  | (x, .sh), v, h => .inl h
  | (x, .fr), v, h => .inl h.1
  | (x, .bo), v, h => .inr h
theorem ResOk.up {O : Addr → Bool} {H H1 H2 : Hp} (s : Same H1 H2) : ∀ {r : MV × Tg} {v : V}, ResOk O H H1 r v → ResOk O H H2 r v
  | (x, .sh), v, h => Rep.up (Vw_up s) h
  | (x, .fr), v, h => ⟨Rep.up (Vw_up s) h.1, fun l e => let ⟨p, vs, a, b, c, d⟩ := h.2 l e; ⟨p, vs, a, b, s _ _ c, d.up (Vw_up s)⟩⟩
  | (x, .bo), v, h => let ⟨p, vs, l, a, b, c, d, e⟩ := h; ⟨p, vs, l, a, b, c, s _ _ d, e.up (Vw_up s)⟩
theorem ResOk.weak {O : Addr → Bool} {H0 H H1 : Hp} (s : Same H0 H) : ∀ {r : MV × Tg} {v : V}, ResOk O H H1 r v → ResOk O H0 H1 r v
  | (x, .sh), v, h => h
  | (x, .fr), v, h => ⟨h.1, fun l e => let ⟨p, vs, a, b, c, d⟩ := h.2 l e; ⟨p, vs, a, s.free b, c, d⟩⟩
  | (x, .bo), v, h => h
theorem ResOk.keep {O : Addr → Bool} {H H1 : Hp} : ∀ {r : MV × Tg} {v : V} {x : MV}, ResOk O H H1 r v → Mn.keep r = some x → Rep (Vw H1 O) v x
  | (x, .sh), v, y, h, e => by cases e; exact h
  | (x, .fr), v, y, h, e => by cases e; exact h.1
  | (x, .bo), v, y, h, e => by cases e

/-- the items of a list or a tuple that is looked at -/
theorem Bor.items {O : Addr → Bool} {H : Hp} {v : V} {x : MV} {l : List MV} (h : Bor O H v x) (e : seqOf x = some l) :
    ∃ a vs, v = .ref a ∧ RepAll (Vw H O) vs l ∧ ((x = .lst l ∧ Rd H a (.lst vs)) ∨ (x = .tup l ∧ Rd H a (.tup vs))) := by
  rcases h with h | ⟨p, vs, l', e1, e2, e3, e4, e5⟩
  · cases h with
    | tup r q => cases e; exact ⟨_, _, rfl, q, .inr ⟨rfl, Rd.up Vw_le r⟩⟩
    | lst r q => cases e; exact ⟨_, _, rfl, q, .inl ⟨rfl, Rd.up Vw_le r⟩⟩
    | _ => cases e
  · subst e1
    cases e
    exact ⟨p, vs, e2, e5, .inl ⟨rfl, .inl e4⟩⟩
theorem Bor.lst {O : Addr → Bool} {H : Hp} {v : V} {l : List MV} (h : Bor O H v (.lst l)) : ∃ a vs, v = .ref a ∧ RepAll (Vw H O) vs l ∧ Rd H a (.lst vs) := by
  obtain ⟨a, vs, e, r, q⟩ := h.items rfl
  rcases q with ⟨_, q⟩ | ⟨q, _⟩
  · exact ⟨a, vs, e, r, q⟩
  · cases q
theorem Bor.tup {O : Addr → Bool} {H : Hp} {v : V} {l : List MV} (h : Bor O H v (.tup l)) : ∃ a vs, v = .ref a ∧ RepAll (Vw H O) vs l ∧ Rd H a (.tup vs) := by
  obtain ⟨a, vs, e, r, q⟩ := h.items rfl
  rcases q with ⟨q, _⟩ | ⟨_, q⟩
  · cases q
  · exact ⟨a, vs, e, r, q⟩
theorem Bor.int {O : Addr → Bool} {H : Hp} {v : V} {i : Int} (h : Bor O H v (.int i)) : v = .int i := by
  rcases h with h | ⟨p, vs, l, e1, _⟩
  · cases h; rfl
  · cases e1
theorem Bor.bl {O : Addr → Bool} {H : Hp} {v : V} {b : Bool} (h : Bor O H v (.bl b)) : v = .bl b := by
  rcases h with h | ⟨p, vs, l, e1, _⟩
  · cases h; rfl
  · cases e1
theorem Bor.str {O : Addr → Bool} {H : Hp} {v : V} {z : Str} (h : Bor O H v (.str z)) : v = .str z := by
  rcases h with h | ⟨p, vs, l, e1, _⟩
  · cases h; rfl
  · cases e1
theorem Bor.non {O : Addr → Bool} {H : Hp} {v : V} (h : Bor O H v .non) : v = .non := by
  rcases h with h | ⟨p, vs, l, e1, _⟩
  · cases h; rfl
  · cases e1
theorem SqL.rd {K : PySem.W.Frag} {H : Hp} {a : Addr} {xs : List V} (h : Rd H a (.lst xs)) : SqL K H a xs := .inl h
theorem SqT.rd {K : PySem.W.Frag} {H : Hp} {a : Addr} {xs : List V} (h : Rd H a (.tup xs)) : SqT K H a xs := .inl h

/-- what is wanted behind an operation that gives r -/
def Post (O : Addr → Bool) (H : Hp) (Q : VK) (r : MV × Tg) : Prop := ∀ v H', Same H H' → ResOk O H H' r v → Q v H'

theorem Post.sh {O : Addr → Bool} {H : Hp} {Q : VK} {x : MV} {v : V} (p : Post O H Q (x, .sh)) (h : Rep (Vw H O) v x) : Q v H := p v H (Same.refl H) h
theorem Post.int {O : Addr → Bool} {H : Hp} {Q : VK} {i : Int} (p : Post O H Q (.int i, .sh)) : Q (.int i) H := p.sh (.int i)
theorem Post.bl {O : Addr → Bool} {H : Hp} {Q : VK} {b : Bool} (p : Post O H Q (.bl b, .sh)) : Q (.bl b) H := p.sh (.bl b)
theorem Post.str {O : Addr → Bool} {H : Hp} {Q : VK} {z : Str} (p : Post O H Q (.str z, .sh)) : Q (.str z) H := p.sh (.str z)
/-- a new tuple -/
theorem Post.tup {O : Addr → Bool} {H : Hp} {Q : VK} {l : List MV} {vs : List V} (p : Post O H Q (.tup l, .sh)) (d : Dom O H) (h : RepAll (Vw H O) vs l) {q : Addr} (hq : H q = none) : Q (.ref q) (upd H q (.tup vs)) :=
  p _ _ (same_upd hq) (.tup (.inl (Vw_of (d.new hq) upd_same)) (h.up (Vw_up (same_upd hq))))
/-- a new list -/
theorem Post.lst {O : Addr → Bool} {H : Hp} {Q : VK} {l : List MV} {vs : List V} (p : Post O H Q (.lst l, .fr)) (d : Dom O H) (h : RepAll (Vw H O) vs l) {q : Addr} (hq : H q = none) : Q (.ref q) (upd H q (.lst vs)) := by
  refine p _ _ (same_upd hq) ⟨.lst (.inl (Vw_of (d.new hq) upd_same)) (h.up (Vw_up (same_upd hq))), fun m e => ?_⟩
  cases e
  exact ⟨q, vs, rfl, hq, upd_same, h.up (Vw_new (same_upd hq) hq)⟩

theorem SZ_le {n : Nat} (h : n ≤ SZ) : n ≤ sizeLine := Nat.le_trans h (by rw [sizeLine_eq]; unfold SZ; decide)
theorem log2_big {i : Int} (h : i.natAbs < BIG) : i.natAbs.log2 < 400000 := PySem.Flt.log2_lt_of (by decide) (by unfold BIG at h; exact h)
theorem log2_div {i : Int} (h : i.natAbs < DIV) : i.natAbs.log2 < 9000 := PySem.Flt.log2_lt_of (by decide) (by unfold DIV at h; exact h)

section
variable {X : Cx}

/-- a list or tuple at a: both read as a list of Values -/
theorem Inv.rdL {pins : List (Addr × Obj)} {σ : St} {H : Hp} {s : Shared} {l : Addr} {xs : List V} (I : Inv X pins σ H s) (h : Rd H l (.lst xs)) :
    xs.length ≤ sizeLine ∧ ∃ (its : List Value) (n : Nat), Vals xs its ∧ xs.length = its.length ∧ s.heap.get? l = some { cls := .type "list", data := .seq its.toArray n } := by
  obtain ⟨z, its, n, r, e⟩ := h.ok I.hok
  exact ⟨z, its, n, r, r.length, e⟩

def rBin (op : BOp) : R2 := fun x y H Q => ∃ O xm ym r, Dom O H ∧ Bor O H x xm ∧ Bor O H y ym ∧ binSem op xm ym = some r ∧ Post O H Q r

theorem inv_add {x y : MV} {r : MV × Tg} (e : binSem .add x y = some r) :
    (∃ a b, x = .int a ∧ y = .int b ∧ r = (.int (a + b), .sh)) ∨ (∃ a b, x = .str a ∧ y = .str b ∧ a.length + b.length ≤ SZ ∧ r = (.str (a ++ b), .sh)) ∨
    (∃ a b, x = .lst a ∧ y = .lst b ∧ a.length + b.length ≤ SZ ∧ r = (.lst (a ++ b), .fr)) ∨ (∃ a b, x = .tup a ∧ y = .tup b ∧ a.length + b.length ≤ SZ ∧ r = (.tup (a ++ b), .sh)) := by
  cases x <;> cases y <;> simp only [binSem] at e <;> first | cases e | skip
  · exact .inl ⟨_, _, rfl, rfl, rfl⟩
  · split at e
    · cases e; exact .inr (.inl ⟨_, _, rfl, rfl, by assumption, rfl⟩)
    · cases e
  · split at e
    · cases e; exact .inr (.inr (.inr ⟨_, _, rfl, rfl, by assumption, rfl⟩))
    · cases e
  · split at e
    · cases e; exact .inr (.inr (.inl ⟨_, _, rfl, rfl, by assumption, rfl⟩))
    · cases e

theorem bin_add : OpR X (binaryOp .Add) (rBin .add) := by
  intro pins s σ H x y v u Q I rx ry ⟨O, xm, ym, r, d, bx, by_, e, p⟩
  rcases inv_add e with ⟨a, b, rfl, rfl, rfl⟩ | ⟨a, b, rfl, rfl, hz, rfl⟩ | ⟨a, b, rfl, rfl, hz, rfl⟩ | ⟨a, b, rfl, rfl, hz, rfl⟩
  · obtain rfl := bx.int
    obtain rfl := by_.int
    exact op_add pins s σ H _ _ v u Q I rx ry ⟨_, _, rfl, rfl, p.int⟩
  · obtain rfl := bx.str
    obtain rfl := by_.str
    exact op_add_str pins s σ H _ _ v u Q I rx ry ⟨_, _, rfl, rfl, SZ_le hz, p.str⟩
  · obtain ⟨l, vs, rfl, ra, h1⟩ := bx.lst
    obtain ⟨m, ws, rfl, rb, h2⟩ := by_.lst
    cases rx
    cases ry
    obtain ⟨z, its, n, rv, hl, e1⟩ := Inv.rdL I h1
    obtain ⟨z2, its2, n2, rv2, hl2, e2⟩ := Inv.rdL I h2
    have la := ra.length
    have lb := rb.length
    have hz' : vs.length + ws.length ≤ sizeLine := by rw [la, lb]; exact SZ_le hz
    refine PySem.P.add_list e1 e2 ?_ (by rw [List.size_toArray, List.size_toArray]; omega)
    have ea : its.toArray ++ its2.toArray = (its ++ its2).toArray := by simp
    rw [ea]
    exact ⟨.ref _, _, I.lnew (t' := s.toks) (rv.append rv2) (by rw [List.length_append]; exact hz'), rfl, p.lst d (ra.append rb) I.fresh⟩
  · obtain ⟨l, vs, rfl, ra, h1⟩ := bx.tup
    obtain ⟨m, ws, rfl, rb, h2⟩ := by_.tup
    have la := ra.length
    have lb := rb.length
    have hz' : vs.length + ws.length ≤ sizeLine := by rw [la, lb]; exact SZ_le hz
    refine op_catA pins s σ H _ _ v u Q I rx ry ⟨l, m, vs, ws, rfl, rfl, SqT.rd h1, SqT.rd h2, hz', fun e => ?_, fun _ e => ?_, fun _ _ q hq => p.tup d (ra.append rb) hq⟩
    · subst e
      cases ra
      rw [List.nil_append] at p
      refine p.sh ?_
      rcases by_ with w | ⟨_, _, _, z, _⟩
      · exact w
      · cases z
    · subst e
      cases rb
      rw [List.append_nil] at p
      refine p.sh ?_
      rcases bx with w | ⟨_, _, _, z, _⟩
      · exact w
      · cases z

theorem bin_sub : OpR X (binaryOp .Sub) (rBin .sub) := by
  intro pins s σ H x y v u Q I rx ry ⟨O, xm, ym, r, d, bx, by_, e, p⟩
  cases xm <;> cases ym <;> simp only [binSem] at e <;> first | cases e | skip
  obtain rfl := bx.int
  obtain rfl := by_.int
  exact op_sub pins s σ H _ _ v u Q I rx ry ⟨_, _, rfl, rfl, p.int⟩

theorem fold_cat (us : List Value) (m : Nat) : List.foldl (fun x y => x ++ y) #[] (List.replicate m us.toArray) = (List.replicate m us).flatten.toArray := by
  have h := foldl_rep us m []
  rw [List.nil_append] at h
  exact h
/-- list * int where the list may be the script -/
theorem rep_list {pins : List (Addr × Obj)} {s : Shared} {σ : St} {H : Hp} {l : Addr} {k : Int} {t : Tok} {xs : List V} {Q : VK} (I : Inv X pins σ H s) (h : Rd H l (.lst xs)) (k1 : -(2 ^ 63) ≤ k) (k2 : k < 2 ^ 63)
    (hz : xs.length * k.toNat ≤ sizeLine) (q : ∀ p, H p = none → Q (.ref p) (upd H p (.lst (List.replicate k.toNat xs).flatten))) :
    wpAny (model X.prog X.w) X.A (binaryOp .Mult (.ref l) (.int k t)) (EP X pins σ Q) X.xe s := by
  obtain ⟨z, us, n, rv, hl, e⟩ := Inv.rdL I h
  have b1 : us.toArray.size * k.toNat ≤ sizeLine := by
    rw [List.size_toArray, ← hl]
    exact hz
  have b2 : (sizeLine : Nat) ≤ (2 ^ 63 - 1) / 8 := by decide
  have c1 : ¬ us.toArray.size * k.toNat > (2 ^ 63 - 1) / 8 := by omega
  have c2 : ¬ (!Builtin.List.listFitsIndex k) = true := by simp [fitsIndex_both k1 k2]
  have c3 : ¬ Builtin.List.listTooLong (us.toArray.size * k.toNat) = true := by rw [notLongL b1]; exact Bool.false_ne_true
  have fin : EP X pins σ Q (.ref s.heap.objs.size) { s with heap := s.heap.push { cls := .type "list", data := .seq (List.replicate k.toNat us).flatten.toArray }, toks := s.toks } := by
    refine ⟨.ref _, _, I.lnew (rv.rep k.toNat) ?_, rfl, q _ I.fresh⟩
    rw [PyProof.Rows.lm_len_rep_flat, Nat.mul_comm]
    exact hz
  have fold : List.foldl (fun x y => x ++ y) #[] (List.replicate (if us.toArray.isEmpty = true then 0 else k.toNat) us.toArray) = (List.replicate k.toNat us).flatten.toArray := by
    rw [fold_cat]
    cases us with
    | nil => simp
    | cons a r => rw [if_neg (by simp)]
  refine PySem.wpAny_binaryOp_repeat_ref (T := "list") (U := "int") (by decide)
    ⟨_, e, rfl⟩ (fun s' => PySem.typeIs_int s' k t) PySem.noFill_list_mul
    PySem.F.fills_int_mul PySem.F.slot_int_rmul PySem.repeat_list
    PySem.F.slot_int_index.lookup ?_
  refine PySem.call_meets PySem.F.slot_int_rmul (PySem.typeIs_int s k t) PySem.F.entry_int_rmul
    (PySem.F.args_int_rmul_2 _ _) (PySem.int___rmul___int_list k t l us.toArray n) ?_
  refine ⟨e, rfl, ⟨_, e, rfl⟩, ?_⟩
  refine PySem.call_meets PySem.F.slot_list_mul ⟨_, e, rfl⟩ PySem.F.entry_list_mul
    (PySem.F.args_list_mul_2 _ _) (PySem.AutoListH.list___mul___list_int_3 l us.toArray n k t c2 c1 c3) ?_
  refine ⟨e, ?_⟩
  rw [fold]
  exact fin

theorem bin_mul : OpR X (binaryOp .Mult) (rBin .mul) := by
  intro pins s σ H x y v u Q I rx ry ⟨O, xm, ym, r, d, bx, by_, e, p⟩
  cases xm <;> cases ym <;> simp only [binSem] at e <;> first | cases e | skip
  · split at e
    · rename_i hz
      cases e
      obtain rfl := bx.int
      obtain rfl := by_.int
      refine op_mulW pins s σ H _ _ v u Q I rx ry ⟨_, _, rfl, rfl, ?_, p.int⟩
      have h1 := log2_big hz.1
      have h2 := log2_big hz.2
      unfold CMulW
      omega
    · cases e
  · split at e
    · rename_i a k hz
      cases e
      obtain ⟨l, vs, rfl, ra, h1⟩ := bx.lst
      obtain rfl := by_.int
      cases rx
      obtain ⟨t, rfl⟩ := ry
      have k1 := hz.1
      have k2 := hz.2.1
      unfold RNG at k1 k2
      exact rep_list I h1 (by omega) (by omega) (by rw [ra.length]; exact SZ_le hz.2.2) fun q hq => p.lst d (ra.rep k.toNat) hq
    · cases e

theorem bin_fdiv : OpR X (binaryOp .FloorDiv) (rBin .fdiv) := by
  intro pins s σ H x y v u Q I rx ry ⟨O, xm, ym, r, d, bx, by_, e, p⟩
  cases xm <;> cases ym <;> simp only [binSem] at e <;> first | cases e | skip
  split at e
  · rename_i hz
    cases e
    obtain rfl := bx.int
    obtain rfl := by_.int
    exact (opI (C := fun _ j => j ≠ 0 ∧ j.natAbs < DIV) (g := fun i j => i.fdiv j) (fun i j t u Q E s hc q => PyProof.Rows.floordiv_int hc.1 q (.inl (PyProof.noPylong_of_log2 (log2_div hc.2))))) pins s σ H _ _ v u Q I rx ry ⟨_, _, rfl, rfl, hz, p.int⟩
  · cases e

theorem bin_mod : OpR X (binaryOp .Mod) (rBin .mod) := by
  intro pins s σ H x y v u Q I rx ry ⟨O, xm, ym, r, d, bx, by_, e, p⟩
  cases xm <;> cases ym <;> simp only [binSem] at e <;> first | cases e | skip
  split at e
  · rename_i hz
    cases e
    obtain rfl := bx.int
    obtain rfl := by_.int
    exact op_modN pins s σ H _ _ v u Q I rx ry ⟨_, _, rfl, rfl, hz, p.int⟩
  · cases e

theorem bin_pow : OpR X (binaryOp .Pow) (rBin .pow) := by
  intro pins s σ H x y v u Q I rx ry ⟨O, xm, ym, r, d, bx, by_, e, p⟩
  cases xm <;> cases ym <;> simp only [binSem] at e <;> first | cases e | skip
  split at e
  · rename_i a n hz
    cases e
    obtain rfl := bx.int
    obtain rfl := by_.int
    refine (opI (C := fun i j => 0 ≤ j ∧ (Builtin.Int.intBits i : Int) * j ≤ 2 ^ 27) (g := fun i j => i ^ j.toNat) (fun i j t u Q E s hc q => PyProof.Rows.pow_int hc.1 hc.2 q)) pins s σ H _ _ v u Q I rx ry ⟨_, _, rfl, rfl, ⟨hz.1, ?_⟩, p.int⟩
    have h1 : a.natAbs.log2 < 10000 := PySem.Flt.log2_lt_of (by decide) (by have h := hz.2.2; unfold PWB at h; exact h)
    have h2 : Builtin.Int.intBits a ≤ 10000 := by unfold Builtin.Int.intBits; split <;> omega
    have h3 : (Builtin.Int.intBits a : Int) ≤ 10000 := by omega
    have h4 : (0 : Int) ≤ (Builtin.Int.intBits a : Int) := by omega
    have h5 : (Builtin.Int.intBits a : Int) * n ≤ 10000 * 1000 := Int.mul_le_mul h3 hz.2.1 hz.1 (by decide)
    exact Int.le_trans h5 (by decide)
  · cases e

end
end Mn

set_option Elab.async false
set_option linter.all false
set_option maxRecDepth 100000
set_option maxHeartbeats 1000000
/-! Mn3: comparisons, truth, places, slices, built-ins, by values. -/
namespace Mn
open PySem L2

mutual
theorem Rep.dp {K : PySem.W.Frag} {H : Hp} : ∀ {v : V} {x : MV}, Rep H v x → Dp K H v x.toD
  | _, _, .non => .non
  | _, _, .bl b => .bl b
  | _, _, .int i => .int i
  | _, _, .str z => .str z
  | _, _, .tup r a => .tup (SqT.rd r) (RepAll.dp a)
  | _, _, .lst r a => .lst (SqL.rd r) (RepAll.dp a)
theorem RepAll.dp {K : PySem.W.Frag} {H : Hp} : ∀ {vs : List V} {xs : List MV}, RepAll H vs xs → DpAll K H vs (MV.toDs xs)
  | _, _, .nil => .nil
  | _, _, .cons r a => .cons (Rep.dp r) (RepAll.dp a)
end

section
variable {X : Cx}

def rCmp (op : COp) : R2 := fun x y H Q => ∃ O xm ym b, Bor O H x xm ∧ Bor O H y ym ∧ cmpSem op xm ym = some b ∧ Q (.bl b) H

theorem cmp_lt (hu : X.A.units < cLine) : OpR X (compareOp .Lt) (rCmp .lt) := by
  intro pins s σ H x y v u Q I rx ry ⟨O, xm, ym, b, bx, by_, e, q⟩
  cases xm <;> cases ym <;> simp only [cmpSem] at e <;> first | cases e | skip
  · obtain rfl := bx.int
    obtain rfl := by_.int
    exact op_lt pins s σ H _ _ v u Q I rx ry ⟨_, _, rfl, rfl, q⟩
  · obtain ⟨ns, e1, e⟩ := Option.bind_eq_some_iff.mp e
    obtain ⟨ms, e2, e⟩ := Option.bind_eq_some_iff.mp e
    cases e
    obtain ⟨a, vs, rfl, ra, h1⟩ := bx.tup
    obtain ⟨c, ws, rfl, rb, h2⟩ := by_.tup
    obtain rfl := ra.ints e1
    obtain rfl := rb.ints e2
    exact op_ltT hu pins s σ H _ _ v u Q I rx ry ⟨_, _, _, _, rfl, rfl, SqT.rd h1, SqT.rd h2, q⟩
theorem cmp_le : OpR X (compareOp .LtE) (rCmp .le) := by
  intro pins s σ H x y v u Q I rx ry ⟨O, xm, ym, b, bx, by_, e, q⟩
  cases xm <;> cases ym <;> simp only [cmpSem] at e <;> first | cases e | skip
  obtain rfl := bx.int
  obtain rfl := by_.int
  exact op_le pins s σ H _ _ v u Q I rx ry ⟨_, _, rfl, rfl, q⟩
theorem cmp_gt : OpR X (compareOp .Gt) (rCmp .gt) := by
  intro pins s σ H x y v u Q I rx ry ⟨O, xm, ym, b, bx, by_, e, q⟩
  cases xm <;> cases ym <;> simp only [cmpSem] at e <;> first | cases e | skip
  obtain rfl := bx.int
  obtain rfl := by_.int
  exact op_gt pins s σ H _ _ v u Q I rx ry ⟨_, _, rfl, rfl, q⟩
theorem cmp_ge : OpR X (compareOp .GtE) (rCmp .ge) := by
  intro pins s σ H x y v u Q I rx ry ⟨O, xm, ym, b, bx, by_, e, q⟩
  cases xm <;> cases ym <;> simp only [cmpSem] at e <;> first | cases e | skip
  obtain rfl := bx.int
  obtain rfl := by_.int
  exact op_ge pins s σ H _ _ v u Q I rx ry ⟨_, _, rfl, rfl, q⟩

theorem inv_eq {x y : MV} {b : Bool} (e : cmpSem .eq x y = some b) : (∃ i j, x = .int i ∧ y = .int j ∧ b = decide (i = j)) ∨ (cmpOk x = true ∧ cmpOk y = true ∧ b = PyData.eqv x.toD y.toD) := by
  unfold cmpSem at e
  split at e
  all_goals first | contradiction | skip
  · cases e; exact .inl ⟨_, _, rfl, rfl, rfl⟩
  · split at e
    · rename_i h
      rw [Bool.and_eq_true] at h
      cases e
      exact .inr ⟨h.1, h.2, rfl⟩
    · cases e
theorem inv_ne {x y : MV} {b : Bool} (e : cmpSem .ne x y = some b) : (∃ i j, x = .int i ∧ y = .int j ∧ b = !decide (i = j)) ∨ (cmpOk x = true ∧ cmpOk y = true ∧ b = !PyData.eqv x.toD y.toD) := by
  unfold cmpSem at e
  split at e
  all_goals first | contradiction | skip
  · cases e; exact .inl ⟨_, _, rfl, rfl, rfl⟩
  · split at e
    · rename_i h
      rw [Bool.and_eq_true] at h
      cases e
      exact .inr ⟨h.1, h.2, rfl⟩
    · cases e
theorem dInt {i j : Int} : decide (V.int i = V.int j) = decide (i = j) := by
  rw [dec_int]
  exact Bool.beq_eq_decide_eq i j
theorem cmp_eq (hu : X.A.units + 64 < cLine) : OpR X (compareOp .Eq) (rCmp .eq) := by
  intro pins s σ H x y v u Q I rx ry ⟨O, xm, ym, b, bx, by_, e, q⟩
  rcases inv_eq e with ⟨i, j, rfl, rfl, rfl⟩ | ⟨h1, h2, rfl⟩
  · obtain rfl := bx.int
    obtain rfl := by_.int
    exact op_eq pins s σ H _ _ v u Q I rx ry ⟨rfl, by rw [dInt]; exact q⟩
  · exact op_eqD hu pins s σ H _ _ v u Q I rx ry ⟨_, _, bx.rep.dp, by_.rep.dp, h1, h2, q⟩
theorem cmp_ne (hu : X.A.units + 64 < cLine) : OpR X (compareOp .NotEq) (rCmp .ne) := by
  intro pins s σ H x y v u Q I rx ry ⟨O, xm, ym, b, bx, by_, e, q⟩
  rcases inv_ne e with ⟨i, j, rfl, rfl, rfl⟩ | ⟨h1, h2, rfl⟩
  · obtain rfl := bx.int
    obtain rfl := by_.int
    exact op_ne pins s σ H _ _ v u Q I rx ry ⟨rfl, by rw [dInt]; exact q⟩
  · exact op_neD hu pins s σ H _ _ v u Q I rx ry ⟨_, _, bx.rep.dp, by_.rep.dp, h1, h2, q⟩

/-- is, is not: None, True, False on the right -/
theorem is_bool {x : V} {v : Value} {c : Bool} (r : RelV x v) : PySem.plainIs v (.bool c) = true ∧ (v == Value.bool c) = (match x with | .bl d => d == c | _ => false) := by
  cases x with
  | non => cases r; exact ⟨rfl, rfl⟩
  | bl d => cases r; exact ⟨rfl, by cases d <;> cases c <;> rfl⟩
  | int i => obtain ⟨t, rfl⟩ := r; exact ⟨rfl, rfl⟩
  | str z => obtain ⟨t, rfl⟩ := r; exact ⟨rfl, rfl⟩
  | byt z => obtain ⟨t, rfl⟩ := r; exact ⟨rfl, rfl⟩
  | flt z => obtain ⟨t, rfl⟩ := r; exact ⟨rfl, rfl⟩
  | ref a => cases r; exact ⟨rfl, rfl⟩
  | ty n => cases r; exact ⟨rfl, rfl⟩
theorem cmp_is : OpR X (compareOp .Is) (rCmp .is) := by
  intro pins s σ H x y v u Q I rx ry ⟨O, xm, ym, b, bx, by_, e, q⟩
  cases ym with
  | non =>
    obtain rfl := by_.non
    refine op_isN pins s σ H _ _ v u Q I rx ry ⟨rfl, ?_⟩
    have e2 : decide (x = V.non) = b := by
      have r := bx.rep
      cases r <;> simp [cmpSem] at e <;> simp [e]
    rw [e2]
    exact q
  | bl c =>
    obtain rfl := by_.bl
    cases ry
    obtain ⟨p1, p2⟩ := is_bool (c := c) rx
    refine PySem.wpAny_is_plain p1 ?_
    refine ⟨.bl b, H, I, ?_, q⟩
    show Value.bool _ = Value.bool b
    rw [p2]
    have r := bx.rep
    cases r <;> simp [cmpSem] at e <;> simp [e]
  | _ => simp only [cmpSem] at e; cases e
theorem cmp_isnt : OpR X (compareOp .IsNot) (rCmp .isnt) := by
  intro pins s σ H x y v u Q I rx ry ⟨O, xm, ym, b, bx, by_, e, q⟩
  cases ym with
  | non =>
    obtain rfl := by_.non
    refine op_notN pins s σ H _ _ v u Q I rx ry ⟨rfl, ?_⟩
    have e2 : (!decide (x = V.non)) = b := by
      have r := bx.rep
      cases r <;> simp [cmpSem] at e <;> simp [e]
    rw [e2]
    exact q
  | bl c =>
    obtain rfl := by_.bl
    cases ry
    obtain ⟨p1, p2⟩ := is_bool (c := c) rx
    refine PySem.wpAny_isNot_plain p1 ?_
    refine ⟨.bl b, H, I, ?_, q⟩
    show Value.bool _ = Value.bool b
    rw [p2]
    have r := bx.rep
    cases r <;> simp [cmpSem] at e <;> simp [e]
  | _ => simp only [cmpSem] at e; cases e

theorem flat_of {G : Hp} {v : V} {x : MV} (r : Rep G v x) (h : isScal x = true) : flatV v = true := by
  cases r <;> first | rfl | (unfold isScal at h; cases h)
theorem eqV_of {G G' : Hp} {v w : V} {x y : MV} (r : Rep G v x) (r' : Rep G' w y) (h : isScal x = true) (h' : isScal y = true) : eqV v w = flatEq x y := by
  cases r <;> cases r' <;> first | rfl | (unfold isScal at h; cases h) | (unfold isScal at h'; cases h')
theorem flat_all {G : Hp} : ∀ {vs : List V} {xs : List MV}, RepAll G vs xs → xs.all isScal = true → vs.all flatV = true
  | _, _, .nil, _ => rfl
  | _, _, .cons r a, h => by
    rw [List.all_cons, Bool.and_eq_true] at h ⊢
    exact ⟨flat_of r h.1, flat_all a h.2⟩
theorem any_eq {G G' : Hp} {v : V} {x : MV} (r : Rep G' v x) (h : isScal x = true) : ∀ {vs : List V} {xs : List MV}, RepAll G vs xs → xs.all isScal = true → inV v vs = xs.any fun y => flatEq y x
  | _, _, .nil, _ => rfl
  | _, _, .cons q a, h2 => by
    rw [List.all_cons, Bool.and_eq_true] at h2
    unfold inV
    rw [List.any_cons, List.any_cons, eqV_of q r h2.1 h]
    have e := any_eq r h a h2.2
    unfold inV at e
    rw [e]
theorem cmp_in : OpR X (compareOp .In) (rCmp .inn) := by
  intro pins s σ H x y v u Q I rx ry ⟨O, xm, ym, b, bx, by_, e, q⟩
  have e' : ((seqOf ym).bind fun l => if isScal xm && l.all isScal then some (l.any fun y => flatEq y xm) else none) = some b := by
    cases xm <;> cases ym <;> exact e
  obtain ⟨l, e1, e2⟩ := Option.bind_eq_some_iff.mp e'
  obtain ⟨a, vs, rfl, ra, hk⟩ := by_.items e1
  by_cases hs : (isScal xm && l.all isScal) = true
  · rw [if_pos hs] at e2
    cases e2
    rw [Bool.and_eq_true] at hs
    refine op_in_seq pins s σ H _ _ v u Q I rx ry ⟨a, vs, rfl, ?_, flat_of bx.rep hs.1, flat_all ra hs.2, ?_⟩
    · rcases hk with ⟨_, h⟩ | ⟨_, h⟩
      · exact .inl (SqL.rd h)
      · exact .inr (SqT.rd h)
    · rw [any_eq bx.rep hs.1 ra hs.2]
      exact q
  · rw [if_neg hs] at e2; cases e2
theorem cmp_nin : OpR X (compareOp .NotIn) (rCmp .nin) := by
  intro pins s σ H x y v u Q I rx ry ⟨O, xm, ym, b, bx, by_, e, q⟩
  have e' : ((seqOf ym).bind fun l => if isScal xm && l.all isScal then some (!(l.any fun y => flatEq y xm)) else none) = some b := by
    cases xm <;> cases ym <;> exact e
  obtain ⟨l, e1, e2⟩ := Option.bind_eq_some_iff.mp e'
  obtain ⟨a, vs, rfl, ra, hk⟩ := by_.items e1
  by_cases hs : (isScal xm && l.all isScal) = true
  · rw [if_pos hs] at e2
    cases e2
    rw [Bool.and_eq_true] at hs
    refine op_notIn_seq pins s σ H _ _ v u Q I rx ry ⟨a, vs, rfl, ?_, flat_of bx.rep hs.1, flat_all ra hs.2, ?_⟩
    · rcases hk with ⟨_, h⟩ | ⟨_, h⟩
      · exact .inl (SqL.rd h)
      · exact .inr (SqT.rd h)
    · rw [any_eq bx.rep hs.1 ra hs.2]
      exact q
  · rw [if_neg hs] at e2; cases e2

/-! ### truth -/
theorem tru_of {O : Addr → Bool} {H : Hp} {v : V} {x : MV} {b : Bool} (h : Bor O H v x) (e : truth x = some b) : TruV X.K v H b := by
  cases x with
  | non => obtain rfl := h.non; cases e; rfl
  | bl c => obtain rfl := h.bl; cases e; rfl
  | int i => obtain rfl := h.int; cases e; rfl
  | str z =>
    obtain rfl := h.str
    unfold truth at e
    simp only at e
    split at e
    · rename_i hz
      cases e
      refine ⟨SZ_le hz, ?_⟩
      rw [bne, bne]
      congr 1
      rw [Bool.beq_eq_decide_eq, Bool.beq_eq_decide_eq]
      exact decide_eq_decide.mpr (by omega)
    · cases e
  | tup l =>
    obtain ⟨a, vs, rfl, ra, hk⟩ := h.tup
    cases e
    refine .inr (.inl ⟨vs, SqT.rd hk, ?_⟩)
    cases ra <;> rfl
  | lst l =>
    obtain ⟨a, vs, rfl, ra, hk⟩ := h.lst
    cases e
    refine .inl ⟨vs, SqL.rd hk, ?_⟩
    cases ra <;> rfl

/-! ### places and slices -/
theorem at_of {G : Hp} {vs : List V} {xs : List MV} {i : Int} {x : MV} (r : RepAll G vs xs) (h : atI xs i = some x) : ∃ v, atI vs i = some v ∧ Rep G v x := by
  unfold atI at h ⊢
  rw [r.length]
  obtain ⟨j, e1, e2⟩ := Option.bind_eq_some_iff.mp h
  obtain ⟨v, e3, q⟩ := r.get j e2
  exact ⟨v, by rw [e1]; exact e3, q⟩
def rIdx : R2 := fun x y H Q => ∃ O xm ym r, Dom O H ∧ Bor O H x xm ∧ Bor O H y ym ∧ idxSem xm ym = some r ∧ Post O H Q (r, .sh)
theorem ix_any : IxR X rIdx := by
  intro va sl pins s σ H x y v u Q I rx ry ⟨O, xm, ym, r, d, bx, by_, e, p⟩ hs
  cases xm <;> cases ym <;> simp only [idxSem] at e <;> first | cases e | skip
  · rename_i z i
    obtain rfl := bx.str
    obtain rfl := by_.int
    split at e
    · rename_i hz
      obtain ⟨c, e1, e2⟩ := Option.map_eq_some_iff.mp e
      cases e2
      exact ix_str va sl pins s σ H _ _ v u Q I rx ry ⟨_, _, c, rfl, rfl, SZ_le hz, e1, p.str⟩ hs
    · cases e
  · obtain ⟨a, vs, rfl, ra, hk⟩ := bx.tup
    obtain rfl := by_.int
    obtain ⟨w, e1, rw_⟩ := at_of ra e
    exact ix_tup va sl pins s σ H _ _ v u Q I rx ry ⟨_, _, _, w, rfl, rfl, SqT.rd hk, e1, p.sh rw_⟩ hs
  · obtain ⟨a, vs, rfl, ra, hk⟩ := bx.lst
    obtain rfl := by_.int
    obtain ⟨w, e1, rw_⟩ := at_of ra e
    exact ix_list va sl pins s σ H _ _ v u Q I rx ry ⟨_, _, _, w, rfl, rfl, SqL.rd hk, e1, p.sh rw_⟩ hs
theorem cut_of {G : Hp} {vs : List V} {xs : List MV} (r : RepAll G vs xs) (lo hi : Option Int) : RepAll G (cutV vs lo hi) (cutM xs lo hi) := by
  unfold cutV cutM
  rw [r.length]
  exact (r.drop _).take _
def rSlc : V → Option Int → Option Int → Hp → VK → Prop := fun x lo hi H Q => ∃ O xm r, Dom O H ∧ Bor O H x xm ∧ slcSem xm lo hi = some r ∧ Post O H Q r
theorem sl_any : SlR X rSlc := by
  intro pins s σ H x v vl vu lo hi sl Q I rx hs pl pu ⟨O, xm, r, d, bx, e, p⟩
  cases xm <;> simp only [slcSem] at e <;> cases e
  · obtain ⟨a, vs, rfl, ra, hk⟩ := bx.tup
    refine sl_tupA pins s σ H _ v vl vu lo hi sl Q I rx hs pl pu ⟨a, vs, rfl, SqT.rd hk, fun w => ?_, fun w q hq => p.tup d (cut_of ra lo hi) hq⟩
    have e1 : cutV vs lo hi = vs := by
      unfold cutV
      rw [w.1, w.2, List.drop_zero, Nat.sub_zero, List.take_length]
    have c := cut_of ra lo hi
    rw [e1] at c
    refine p.sh ?_
    rcases bx with z | ⟨_, _, _, z, _⟩
    · cases z with
      | tup z1 z2 =>
        refine .tup z1 ?_
        have ez : ∀ {ws : List V}, Rd (Vw H O) a (.tup ws) → ws = vs := fun {ws} z => by
          have z' := Rd.up Vw_le z
          rcases z' with z' | ⟨o, z'⟩ <;> rcases hk with k | ⟨o', k⟩ <;> rw [k] at z' <;> cases z' <;> rfl
        rw [ez z1]
        exact c
    · cases z
  · obtain ⟨a, vs, rfl, ra, hk⟩ := bx.lst
    exact sl_list pins s σ H _ v vl vu lo hi sl Q I rx hs pl pu ⟨a, vs, rfl, SqL.rd hk, fun q hq => p.lst d (cut_of ra lo hi) hq⟩

/-! ### built-in calls -/
/-- argument lists -/
inductive BorAll (O : Addr → Bool) (H : Hp) : List V → List MV → Prop where
  | nil : BorAll O H [] []
  | cons {v : V} {vs : List V} {x : MV} {xs : List MV} : Bor O H v x → BorAll O H vs xs → BorAll O H (v :: vs) (x :: xs)
theorem BorAll.one {O : Addr → Bool} {H : Hp} {vs : List V} {x : MV} (h : BorAll O H vs [x]) : ∃ v, vs = [v] ∧ Bor O H v x := by
  cases h with
  | cons a b => cases b; exact ⟨_, rfl, a⟩
theorem BorAll.two {O : Addr → Bool} {H : Hp} {vs : List V} {x y : MV} (h : BorAll O H vs [x, y]) : ∃ v w, vs = [v, w] ∧ Bor O H v x ∧ Bor O H w y := by
  cases h with
  | cons a b =>
    cases b with
    | cons c d => cases d; exact ⟨_, _, rfl, a, c⟩
theorem BorAll.up {O : Addr → Bool} {H H' : Hp} (s : Same H H') : ∀ {vs : List V} {xs : List MV}, BorAll O H vs xs → BorAll O H' vs xs
  | _, _, .nil => .nil
  | _, _, .cons a b => .cons (a.up s) (BorAll.up s b)
theorem BorAll.rep {O : Addr → Bool} {H : Hp} : ∀ {vs : List V} {xs : List MV}, BorAll O H vs xs → RepAll H vs xs
  | _, _, .nil => .nil
  | _, _, .cons a b => .cons a.rep (BorAll.rep b)

def rBi (b : BI) : List V → Hp → VK → Prop := fun vs H Q => ∃ O xs r, Dom O H ∧ BorAll O H vs xs ∧ biSem b xs = some r ∧ Post O H Q r

theorem max_of {ns : List Int} {m k : Int} (e : maxI ns = some k) (h1 : m ∈ ns) (h2 : ∀ y ∈ ns, y ≤ m) : m = k := by
  cases ns with
  | nil => cases e
  | cons x r =>
    have key : ∀ (r : List Int) (x : Int), (r.foldl (fun a b => if a < b then b else a) x) ∈ x :: r ∧ ∀ y ∈ x :: r, y ≤ r.foldl (fun a b => if a < b then b else a) x := by
      intro r
      induction r with
      | nil => intro x; exact ⟨List.mem_cons_self, fun y hy => by rw [List.mem_singleton] at hy; rw [hy]; exact Int.le_refl _⟩
      | cons z r ih =>
        intro x
        rw [List.foldl_cons]
        obtain ⟨i1, i2⟩ := ih (if x < z then z else x)
        refine ⟨?_, fun y hy => ?_⟩
        · rcases List.mem_cons.mp i1 with w | w
          · rw [w]
            split
            · exact List.mem_cons_of_mem _ List.mem_cons_self
            · exact List.mem_cons_self
          · exact List.mem_cons_of_mem _ (List.mem_cons_of_mem _ w)
        · have i3 := i2 _ List.mem_cons_self
          rcases List.mem_cons.mp hy with w | w
          · rw [w]
            refine Int.le_trans ?_ i3
            split <;> omega
          · rcases List.mem_cons.mp w with w | w
            · rw [w]
              refine Int.le_trans ?_ i3
              split <;> omega
            · exact i2 y (List.mem_cons_of_mem _ w)
    obtain ⟨k1, k2⟩ := key r x
    cases e
    exact Int.le_antisymm (k2 m h1) (h2 _ k1)
theorem min_of {ns : List Int} {m k : Int} (e : minI ns = some k) (h1 : m ∈ ns) (h2 : ∀ y ∈ ns, m ≤ y) : m = k := by
  cases ns with
  | nil => cases e
  | cons x r =>
    have key : ∀ (r : List Int) (x : Int), (r.foldl (fun a b => if b < a then b else a) x) ∈ x :: r ∧ ∀ y ∈ x :: r, r.foldl (fun a b => if b < a then b else a) x ≤ y := by
      intro r
      induction r with
      | nil => intro x; exact ⟨List.mem_cons_self, fun y hy => by rw [List.mem_singleton] at hy; rw [hy]; exact Int.le_refl _⟩
      | cons z r ih =>
        intro x
        rw [List.foldl_cons]
        obtain ⟨i1, i2⟩ := ih (if z < x then z else x)
        refine ⟨?_, fun y hy => ?_⟩
        · rcases List.mem_cons.mp i1 with w | w
          · rw [w]
            split
            · exact List.mem_cons_of_mem _ List.mem_cons_self
            · exact List.mem_cons_self
          · exact List.mem_cons_of_mem _ (List.mem_cons_of_mem _ w)
        · have i3 := i2 _ List.mem_cons_self
          rcases List.mem_cons.mp hy with w | w
          · rw [w]
            refine Int.le_trans i3 ?_
            split <;> omega
          · rcases List.mem_cons.mp w with w | w
            · rw [w]
              refine Int.le_trans i3 ?_
              split <;> omega
            · exact i2 y (List.mem_cons_of_mem _ w)
    obtain ⟨k1, k2⟩ := key r x
    cases e
    exact Int.le_antisymm (h2 _ k1) (k2 m h1)

theorem bi_len : CallR X (.builtin "len") (rBi .len) := by
  intro pins s σ H vs us Q I r ⟨O, xs, res, d, b, e, p⟩
  unfold biSem at e
  split at e
  all_goals first | contradiction | skip
  · cases e
    obtain ⟨v, rfl, b1⟩ := b.one
    obtain ⟨a, ws, rfl, ra, hk⟩ := b1.tup
    refine call_len_seq pins s σ H _ us Q I r ⟨a, ws, rfl, .inr (SqT.rd hk), ?_⟩
    rw [ra.length]
    exact p.int
  · cases e
    obtain ⟨v, rfl, b1⟩ := b.one
    obtain ⟨a, ws, rfl, ra, hk⟩ := b1.lst
    refine call_len_seq pins s σ H _ us Q I r ⟨a, ws, rfl, .inl (SqL.rd hk), ?_⟩
    rw [ra.length]
    exact p.int
  · split at e
    · rename_i hz
      cases e
      obtain ⟨v, rfl, b1⟩ := b.one
      obtain rfl := b1.str
      exact call_len_str pins s σ H _ us Q I r ⟨_, rfl, SZ_le hz, p.int⟩
    · cases e
theorem bi_abs : CallR X (.builtin "abs") (rBi .abs) := by
  intro pins s σ H vs us Q I r ⟨O, xs, res, d, b, e, p⟩
  unfold biSem at e
  split at e
  all_goals first | contradiction | skip
  cases e
  obtain ⟨v, rfl, b1⟩ := b.one
  obtain rfl := b1.int
  exact call_abs pins s σ H _ us Q I r ⟨_, rfl, p.int⟩
theorem bi_int : CallR X (.type "int") (rBi .int) := by
  intro pins s σ H vs us Q I r ⟨O, xs, res, d, b, e, p⟩
  unfold biSem at e
  split at e
  all_goals first | contradiction | skip
  · cases e
    obtain ⟨v, rfl, b1⟩ := b.one
    obtain rfl := b1.int
    exact call_int1 pins s σ H _ us Q I r (.inl ⟨_, rfl, p.int⟩)
  · cases e
    obtain ⟨v, rfl, b1⟩ := b.one
    obtain rfl := b1.bl
    exact call_int1 pins s σ H _ us Q I r (.inr ⟨_, rfl, p.int⟩)
theorem bi_bool : CallR X (.type "bool") (rBi .bool) := by
  intro pins s σ H vs us Q I r ⟨O, xs, res, d, b, e, p⟩
  unfold biSem at e
  split at e
  all_goals first | contradiction | skip
  · cases e
    obtain ⟨v, rfl, b1⟩ := b.one
    obtain rfl := b1.int
    exact call_bool1 pins s σ H _ us Q I r (.inl ⟨_, rfl, p.bl⟩)
  · cases e
    obtain ⟨v, rfl, b1⟩ := b.one
    obtain rfl := b1.bl
    exact call_bool1 pins s σ H _ us Q I r (.inr ⟨_, rfl, p.bl⟩)
theorem bi_tuple : CallR X (.type "tuple") (rBi .tuple) := by
  intro pins s σ H vs us Q I r ⟨O, xs, res, d, b, e, p⟩
  unfold biSem at e
  split at e
  all_goals first | contradiction | skip
  · cases e
    obtain ⟨v, rfl, b1⟩ := b.one
    obtain ⟨a, ws, rfl, ra, hk⟩ := b1.tup
    refine call_tuple_of pins s σ H _ us Q I r ⟨a, ws, rfl, .inr ⟨SqT.rd hk, p.sh ?_⟩⟩
    rcases b1 with z | ⟨_, _, _, z, _⟩
    · exact z
    · cases z
  · cases e
    obtain ⟨v, rfl, b1⟩ := b.one
    obtain ⟨a, ws, rfl, ra, hk⟩ := b1.lst
    exact call_tuple_of pins s σ H _ us Q I r ⟨a, ws, rfl, .inl ⟨SqL.rd hk, fun q hq => p.tup d ra hq⟩⟩
theorem bi_list : CallR X (.type "list") (rBi .list) := by
  intro pins s σ H vs us Q I r ⟨O, xs, res, d, b, e, p⟩
  unfold biSem at e
  split at e
  all_goals first | contradiction | skip
  · cases e
    obtain ⟨v, rfl, b1⟩ := b.one
    obtain ⟨a, ws, rfl, ra, hk⟩ := b1.tup
    exact call_list_of pins s σ H _ us Q I r ⟨a, ws, rfl, .inr (SqT.rd hk), fun q hq => p.lst d ra hq⟩
  · cases e
    obtain ⟨v, rfl, b1⟩ := b.one
    obtain ⟨a, ws, rfl, ra, hk⟩ := b1.lst
    exact call_list_of pins s σ H _ us Q I r ⟨a, ws, rfl, .inl (SqL.rd hk), fun q hq => p.lst d ra hq⟩
theorem bi_sum (hc : X.calm = true) : CallR X (.builtin "sum") (rBi .sum) := by
  intro pins s σ H vs us Q I r ⟨O, xs, res, d, b, e, p⟩
  unfold biSem at e
  split at e
  all_goals first | contradiction | skip
  obtain ⟨ns, e1, e⟩ := Option.bind_eq_some_iff.mp e
  cases e
  obtain ⟨v, rfl, b1⟩ := b.one
  obtain ⟨a, ws, rfl, ra, hk⟩ := b1.lst
  obtain rfl := ra.ints e1
  exact cr_sum hc pins s σ H _ us Q I r ⟨a, ns, rfl, SqL.rd hk, p.int⟩
theorem maxI_pos {ns : List Int} {k : Int} (h : maxI ns = some k) : 0 < ns.length := by
  cases ns with
  | nil => cases h
  | cons _ _ => exact Nat.succ_pos _
theorem minI_pos {ns : List Int} {k : Int} (h : minI ns = some k) : 0 < ns.length := by
  cases ns with
  | nil => cases h
  | cons _ _ => exact Nat.succ_pos _
theorem bi_max (hc : X.calm = true) : CallR X (.builtin "max") (rBi .max) := by
  intro pins s σ H vs us Q I r ⟨O, xs, res, d, b, e, p⟩
  unfold biSem at e
  split at e
  all_goals first | contradiction | skip
  · obtain ⟨ns, e1, e⟩ := Option.bind_eq_some_iff.mp e
    obtain ⟨k, e2, e⟩ := Option.bind_eq_some_iff.mp e
    cases e
    obtain ⟨v, rfl, b1⟩ := b.one
    obtain ⟨a, ws, rfl, ra, hk⟩ := b1.lst
    obtain rfl := ra.ints e1
    refine cr_max hc pins s σ H _ us Q I r ⟨a, ns, rfl, SqL.rd hk, maxI_pos e2, fun m h1 h2 => ?_⟩
    rw [max_of e2 h1 h2]
    exact p.int
  · cases e
    obtain ⟨v, w, rfl, b1, b2⟩ := b.two
    obtain rfl := b1.int
    obtain rfl := b2.int
    exact call_max2 hc pins s σ H _ us Q I r ⟨_, _, rfl, p.int⟩
theorem bi_min (hc : X.calm = true) : CallR X (.builtin "min") (rBi .min) := by
  intro pins s σ H vs us Q I r ⟨O, xs, res, d, b, e, p⟩
  unfold biSem at e
  split at e
  all_goals first | contradiction | skip
  · obtain ⟨ns, e1, e⟩ := Option.bind_eq_some_iff.mp e
    obtain ⟨k, e2, e⟩ := Option.bind_eq_some_iff.mp e
    cases e
    obtain ⟨v, rfl, b1⟩ := b.one
    obtain ⟨a, ws, rfl, ra, hk⟩ := b1.lst
    obtain rfl := ra.ints e1
    refine cr_min hc pins s σ H _ us Q I r ⟨a, ns, rfl, SqL.rd hk, minI_pos e2, fun m h1 h2 => ?_⟩
    rw [min_of e2 h1 h2]
    exact p.int
  · cases e
    obtain ⟨v, w, rfl, b1, b2⟩ := b.two
    obtain rfl := b1.int
    obtain rfl := b2.int
    exact call_min2 hc pins s σ H _ us Q I r ⟨_, _, rfl, p.int⟩
theorem bi_gcd : CallR X (.builtin "math.gcd") (rBi .gcd) := by
  intro pins s σ H vs us Q I r ⟨O, xs, res, d, b, e, p⟩
  unfold biSem at e
  split at e
  all_goals first | contradiction | skip
  cases e
  obtain ⟨v, w, rfl, b1, b2⟩ := b.two
  obtain rfl := b1.int
  obtain rfl := b2.int
  exact cr_gcd pins s σ H _ us Q I r ⟨_, _, rfl, p.int⟩

/-! ### isinstance -/
def tyName : Ty → String
  | .int => "int"
  | .bool => "bool"
  | .str => "str"
  | .tuple => "tuple"
  | .list => "list"
/-- the type of a value -/
def tyOf : MV → String
  | .non => "NoneType"
  | .bl _ => "bool"
  | .int _ => "int"
  | .str _ => "str"
  | .tup _ => "tuple"
  | .lst _ => "list"
theorem tyx_of {K : PySem.W.Frag} {H : Hp} {v : V} {x : MV} (r : Rep H v x) : TyX K H v (.type (tyOf x)) := by
  cases r with
  | non => exact .base .non
  | bl b => exact .base (.bl b)
  | int i => exact .base (.int i)
  | str z => exact .base (.str z)
  | tup h _ =>
    rcases h with h | ⟨o, h⟩
    · exact .base (.tup h)
    · exact .fTuple h
  | lst h _ =>
    rcases h with h | ⟨o, h⟩
    · exact .base (.lst h)
    · exact .base (.frz h)
inductive K6 where
  | non | bl | int | str | tup | lst
def k6 : MV → K6
  | .non => .non
  | .bl _ => .bl
  | .int _ => .int
  | .str _ => .str
  | .tup _ => .tup
  | .lst _ => .lst
def name6 : K6 → String
  | .non => "NoneType"
  | .bl => "bool"
  | .int => "int"
  | .str => "str"
  | .tup => "tuple"
  | .lst => "list"
def is6 : K6 → Ty → Bool
  | .bl, .bool => true
  | .bl, .int => true
  | .int, .int => true
  | .str, .str => true
  | .tup, .tuple => true
  | .lst, .list => true
  | _, _ => false
theorem kit6 (k : K6) (t : Ty) : kitB (name6 k) (tyName t) = some (is6 k t) := by
  cases k <;> cases t <;> decide +kernel
theorem kit_one (x : MV) (t : Ty) : kitB (tyOf x) (tyName t) = some (tyIs x t) := by
  have e1 : tyOf x = name6 (k6 x) := by cases x <;> rfl
  have e2 : tyIs x t = is6 (k6 x) t := by cases x <;> cases t <;> rfl
  rw [e1, e2]
  exact kit6 _ _
theorem kit_all {K : PySem.W.Frag} (x : MV) : ∀ ts : List Ty, PySem.W.kitAny K (.type (tyOf x)) (ts.map fun t => .type (tyName t)) = some (ts.any (tyIs x))
  | [] => kitAny_nil
  | t :: ts => by
    rw [List.map_cons, List.any_cons]
    refine kitAny_cons (kit_ty (kit_one x t)) (fun e => ?_) (fun e => ?_)
    · rw [e, Bool.false_or]; exact kit_all x ts
    · rw [e, Bool.true_or]
theorem clsv_all : ∀ ts : List Ty, Paired ClsV (ts.map fun t => V.ty (tyName t)) (ts.map fun t => Value.type (tyName t))
  | [] => .nil
  | t :: ts => .cons (.ty _) (clsv_all ts)

end
end Mn

set_option Elab.async false
set_option linter.all false
set_option maxRecDepth 100000
set_option maxHeartbeats 1000000
/-! Mn4: a frame's names; what an expression's reading is; its parts. -/
namespace Mn
open PySem L2

structure Sim (H0 : Hp) (O0 : Addr → Bool) (σm : MS) (O : Addr → Bool) (σ : L2.St) (H : Hp) : Prop where
  len : σm.length = σ.length
  dom : Dom O H
  same : Same H0 H
  sub : ∀ p, O0 p = true → O p = true
  new : ∀ p, O p = true → O0 p = true ∨ H0 p = none
  slot : ∀ (i : Nat) (x : MV) (own : Bool), σm[i]? = some (some (x, own)) → ∃ v, σ[i]? = some (some v) ∧ ResOk O H H (x, if own then .bo else .sh) v
  own : ∀ (i : Nat) (x : MV) (p : Addr), σm[i]? = some (some (x, true)) → σ[i]? = some (some (.ref p)) → O0 p = false
  dist : ∀ (i j : Nat) (x y : MV) (p : Addr), σm[i]? = some (some (x, true)) → σm[j]? = some (some (y, true)) → σ[i]? = some (some (.ref p)) → σ[j]? = some (some (.ref p)) → i = j

section
variable {H0 H H' : Hp} {O0 O : Addr → Bool} {σm : MS} {σ : L2.St}

theorem ResOk.both {r : MV × Tg} {v : V} {H1 H2 : Hp} (s : Same H1 H2) (h : ResOk O H1 H1 r v) (n : r.2 ≠ .fr) : ResOk O H2 H2 r v := by
  obtain ⟨x, t⟩ := r
  cases t with
  | sh => exact Rep.up (Vw_up s) h
  | fr => exact absurd rfl n
  | bo => exact ResOk.up s (r := (x, .bo)) h

theorem Sim.up (S : Sim H0 O0 σm O σ H) (s : Same H H') : Sim H0 O0 σm O σ H' where
  len := S.len
  dom := S.dom.up s
  same := S.same.trans s
  sub := S.sub
  new := S.new
  slot := fun i x own e => by
    obtain ⟨v, e1, r⟩ := S.slot i x own e
    exact ⟨v, e1, r.both s (by cases own <;> exact fun z => by cases z)⟩
  own := S.own
  dist := S.dist

theorem wipe_get (σ : MS) (i : Nat) (r : MV × Bool) : ∀ vs : List Nat, (wipeM σ vs)[i]? = some (some r) → σ[i]? = some (some r) ∧ i ∉ vs
  | [], h => ⟨h, by simp⟩
  | v :: vs, h => by
    unfold wipeM at h
    by_cases hi : v = i
    · subst hi
      by_cases hv : v < (wipeM σ vs).length
      · rw [List.getElem?_set_self hv] at h; cases h
      · rw [List.getElem?_eq_none (by simpa using hv)] at h; cases h
    · rw [List.getElem?_set_ne hi] at h
      obtain ⟨h1, h2⟩ := wipe_get σ i r vs h
      exact ⟨h1, by simp only [List.mem_cons, not_or]; exact ⟨fun e => hi e.symm, h2⟩⟩
theorem wipeM_length (σ : MS) : ∀ vs : List Nat, (wipeM σ vs).length = σ.length
  | [] => rfl
  | v :: vs => by unfold wipeM; rw [List.length_set, wipeM_length σ vs]
theorem wipe_keep {σ : L2.St} {i : Nat} {x : V} : ∀ {vs : List Nat}, σ[i]? = some (some x) → i ∉ vs → (wipe σ vs)[i]? = some (some x)
  | [], h, _ => h
  | v :: vs, h, n => by
    unfold wipe
    rw [List.getElem?_set_ne (fun e => n (by rw [e]; exact List.mem_cons_self))]
    exact wipe_keep h (fun m => n (List.mem_cons_of_mem _ m))

/-- names forgotten -/
theorem Sim.wipe (S : Sim H0 O0 σm O σ H) (vs : List Nat) : Sim H0 O0 (wipeM σm vs) O (L2.wipe σ vs) H where
  len := by rw [wipeM_length, wipe_length]; exact S.len
  dom := S.dom
  same := S.same
  sub := S.sub
  new := S.new
  slot := fun i x own e => by
    obtain ⟨e1, n⟩ := wipe_get _ _ _ _ e
    obtain ⟨v, e2, r⟩ := S.slot i x own e1
    exact ⟨v, wipe_keep e2 n, r⟩
  own := fun i x p e1 e2 => S.own i x p (wipe_get _ _ _ _ e1).1 (wipe_some e2).1
  dist := fun i j x y p e1 e2 e3 e4 => S.dist i j x y p (wipe_get _ _ _ _ e1).1 (wipe_get _ _ _ _ e2).1 (wipe_some e3).1 (wipe_some e4).1

/-- a value that is seen is stored -/
theorem Sim.put (S : Sim H0 O0 σm O σ H) {i : Nat} {x : MV} {v : V} (r : Rep (Vw H O) v x) : Sim H0 O0 (setM σm i x false) O (σ.set i (some v)) H where
  len := by unfold setM; rw [List.length_set, List.length_set]; exact S.len
  dom := S.dom
  same := S.same
  sub := S.sub
  new := S.new
  slot := fun j y own e => by
    unfold setM at e
    by_cases hj : i = j
    · subst hj
      by_cases hl : i < σm.length
      · rw [List.getElem?_set_self hl] at e
        cases e
        exact ⟨v, List.getElem?_set_self (by rw [← S.len]; exact hl), r⟩
      · rw [List.getElem?_eq_none (by rw [List.length_set]; omega)] at e; cases e
    · rw [List.getElem?_set_ne hj] at e
      obtain ⟨w, e1, q⟩ := S.slot j y own e
      exact ⟨w, by rw [List.getElem?_set_ne hj]; exact e1, q⟩
  own := fun j y p e1 e2 => by
    unfold setM at e1
    by_cases hj : i = j
    · subst hj
      by_cases hl : i < σm.length
      · rw [List.getElem?_set_self hl] at e1; cases e1
      · rw [List.getElem?_eq_none (by rw [List.length_set]; omega)] at e1; cases e1
    · rw [List.getElem?_set_ne hj] at e1 e2
      exact S.own j y p e1 e2
  dist := fun j k y z p e1 e2 e3 e4 => by
    unfold setM at e1 e2
    have ne : ∀ l w, (σm.set i (some (x, false)))[l]? = some (some (w, true)) → i ≠ l := fun l w e hl => by
      subst hl
      by_cases hl : i < σm.length
      · rw [List.getElem?_set_self hl] at e; cases e
      · rw [List.getElem?_eq_none (by rw [List.length_set]; omega)] at e; cases e
    have n1 := ne j y e1
    have n2 := ne k z e2
    rw [List.getElem?_set_ne n1] at e1 e3
    rw [List.getElem?_set_ne n2] at e2 e4
    exact S.dist j k y z p e1 e2 e3 e4

/-- a new list hidden -/
theorem Sim.hide (S : Sim H0 O0 σm O σ H) {D : Addr} {vs : List V} (n : H D = none) (s : Same H H') (h : H' D = some (.lst vs)) : Sim H0 O0 σm (add O D) σ H' where
  len := S.len
  dom := fun p e => by
    rcases of_add e with e | e
    · obtain ⟨ws, q⟩ := S.dom p e
      exact ⟨ws, s _ _ q⟩
    · rw [e]; exact ⟨vs, h⟩
  same := S.same.trans s
  sub := fun p e => add_of (S.sub p e)
  new := fun p e => by
    rcases of_add e with e | e
    · exact S.new p e
    · rw [e]; exact .inr (S.same.free n)
  slot := fun i x own e => by
    obtain ⟨v, e1, r⟩ := S.slot i x own e
    refine ⟨v, e1, ?_⟩
    cases own with
    | false => exact Rep.up (Vw_new s n) r
    | true =>
      obtain ⟨p, ws, l, a, b, c, d, q⟩ := r
      exact ⟨p, ws, l, a, b, add_of c, s _ _ d, q.up (Vw_new s n)⟩
  own := S.own
  dist := S.dist

/-- the hidden list at D changes -/
theorem Vw_set {H : Hp} {O : Addr → Bool} {D : Addr} {o : HO} (h : O D = true) : Vw (upd H D o) O = Vw H O := by
  funext b
  unfold Vw
  by_cases e : b = D
  · subst e; rw [h]; rfl
  · rw [upd_ne e]
theorem Sim.grow (S : Sim H0 O0 σm O σ H) {D : Addr} {ws : List V} (hD : O D = true) (hn : ∀ (i : Nat) (x : MV), σm[i]? = some (some (x, true)) → σ[i]? ≠ some (some (V.ref D))) (h0 : H0 D = none) : Sim H0 O0 σm O σ (upd H D (.lst ws)) where
  len := S.len
  dom := fun p e => by
    by_cases q : p = D
    · rw [q]; exact ⟨ws, upd_same⟩
    · obtain ⟨vs, z⟩ := S.dom p e
      exact ⟨vs, by rw [upd_ne q]; exact z⟩
  same := fun b o e => by
    rw [upd_ne (fun z => by rw [z, h0] at e; cases e)]
    exact S.same b o e
  sub := S.sub
  new := S.new
  slot := fun i x own e => by
    obtain ⟨v, e1, r⟩ := S.slot i x own e
    refine ⟨v, e1, ?_⟩
    cases own with
    | false => show Rep _ _ _; rw [Vw_set hD]; exact r
    | true =>
      obtain ⟨p, vs, l, a, b, c, d, q⟩ := r
      have ne : p ≠ D := fun z => by
        subst b
        rw [z] at e1
        exact hn i x e e1
      exact ⟨p, vs, l, a, b, c, by rw [upd_ne ne]; exact d, by rw [Vw_set hD]; exact q⟩
  own := S.own
  dist := S.dist

theorem Sim.get (S : Sim H0 O0 σm O σ H) {i : Nat} {r : MV × Tg} (e : getM σm i = some r) : ∃ v, σ[i]? = some (some v) ∧ ResOk O H H r v := by
  unfold getM at e
  split at e
  · rename_i x own h
    cases e
    exact S.slot i x own h
  · cases e
end

/-! ### readings -/
def tE (Φ : Fns) (e : CE) : TE := fun σ H Q => ∃ H0 O0 σm O r, Sim H0 O0 σm O σ H ∧ ev Φ e σm = some r ∧ Post O H Q r
def tT (Φ : Fns) (e : CE) : TT := fun σ H Q => ∃ H0 O0 σm O b, Sim H0 O0 σm O σ H ∧ ((ev Φ e σm).bind fun x => truth x.1) = some b ∧ ∀ H', Same H H' → Q b H'
/-- an argument list's values -/
inductive ResAll (O : Addr → Bool) (H H' : Hp) : List (MV × Tg) → List V → Prop where
  | nil : ResAll O H H' [] []
  | cons {r : MV × Tg} {rs : List (MV × Tg)} {v : V} {vs : List V} : ResOk O H H' r v → ResAll O H H' rs vs → ResAll O H H' (r :: rs) (v :: vs)
def tA (Φ : Fns) (es : List CE) : TA := fun σ H Q => ∃ H0 O0 σm O rs, Sim H0 O0 σm O σ H ∧ evs Φ es σm = some rs ∧ ∀ vs H', Same H H' → ResAll O H H' rs vs → Q vs H'

theorem tE_of {Φ : Fns} {e : CE} {σ : L2.St} {H H0 : Hp} {O0 O : Addr → Bool} {σm : MS} {Q : VK} {r : MV × Tg} (S : Sim H0 O0 σm O σ H) (h : ev Φ e σm = some r) (p : Post O H Q r) : tE Φ e σ H Q := ⟨H0, O0, σm, O, r, S, h, p⟩

theorem ResAll.bor {O : Addr → Bool} {H H' : Hp} : ∀ {rs : List (MV × Tg)} {vs : List V}, ResAll O H H' rs vs → BorAll O H' vs (rs.map (·.1))
  | _, _, .nil => .nil
  | _, _, .cons a b => .cons a.bor (ResAll.bor b)
theorem ResAll.keep {O : Addr → Bool} {H H' : Hp} : ∀ {rs : List (MV × Tg)} {vs : List V} {xs : List MV}, ResAll O H H' rs vs → rs.mapM Mn.keep = some xs → RepAll (Vw H' O) vs xs
  | _, _, xs, .nil, e => by
    rw [List.mapM_nil] at e
    cases e
    exact .nil
  | _, _, xs, .cons (r := r) (rs := rs) a b, e => by
    rw [List.mapM_cons] at e
    obtain ⟨y, e1, e⟩ := Option.bind_eq_some_iff.mp e
    obtain ⟨ys, e2, e⟩ := Option.bind_eq_some_iff.mp e
    cases e
    exact .cons (a.keep e1) (ResAll.keep b e2)
theorem ResAll.length {O : Addr → Bool} {H H' : Hp} : ∀ {rs : List (MV × Tg)} {vs : List V}, ResAll O H H' rs vs → vs.length = rs.length
  | _, _, .nil => rfl
  | _, _, .cons _ b => by rw [List.length_cons, List.length_cons, ResAll.length b]
/-- no owned list among them: all are seen -/
theorem ResAll.vis {O : Addr → Bool} {H H' : Hp} : ∀ {rs : List (MV × Tg)} {vs : List V}, ResAll O H H' rs vs → (rs.all fun x => decide (x.2 ≠ .bo)) = true → RepAll (Vw H' O) vs (rs.map (·.1))
  | _, _, .nil, _ => .nil
  | _, _, .cons (r := (x, t)) a b, h => by
    rw [List.all_cons, Bool.and_eq_true] at h
    refine .cons ?_ (ResAll.vis b h.2)
    cases t with
    | sh => exact a
    | fr => exact a.1
    | bo => exact absurd rfl (of_decide_eq_true h.1)

/-! ### targets -/
def tG (t : TGT) : TG := fun v σ H Q => ∃ H0 O0 σm O x σm', Sim H0 O0 σm O σ H ∧ Rep (Vw H O) v x ∧ putT σm t x = some σm' ∧
  ∀ σ', Sim H0 O0 σm' O σ' H → (∀ vs : List Nat, (∀ i ∈ tgSlots t, i ∈ vs) → wipe σ' vs = wipe σ vs) → Q σ' H

theorem wipe_eq_of {σ : L2.St} {i : Nat} {v : Option V} : ∀ {vs : List Nat}, i ∈ vs → wipe (σ.set i v) vs = wipe σ vs
  | w :: vs, h => by
    by_cases hi : i ∈ vs
    · unfold wipe
      rw [wipe_eq_of hi]
    · have e : i = w := by
        rcases List.mem_cons.mp h with e | e
        · exact e
        · exact absurd e hi
      subst e
      unfold wipe
      have key : ∀ (us : List Nat) (τ : L2.St), i ∉ us → wipe (τ.set i v) us = (wipe τ us).set i v := by
        intro us
        induction us with
        | nil => intro τ _; rfl
        | cons u us ih =>
          intro τ hn
          unfold wipe
          rw [ih τ (fun m => hn (List.mem_cons_of_mem _ m))]
          exact List.set_comm _ _ (fun z => hn (by rw [z]; exact List.mem_cons_self))
      rw [key vs σ hi, List.set_set]

theorem pg_nm {X : Cx} {i : Nat} {x : Str} {pos : Pos} (hN : X.N.Nodup) (hi : X.N[i]? = some x) (hx : Loc X.env.scope x) (hf : X.fn x = true ∨ X.env.scope.names.lookup x = some .local) : PG X (.Name x pos) (tG (.nm i)) := by
  refine ⟨fun pins s σ H v u Q I r h => ?_⟩
  obtain ⟨H0, O0, σm, O, y, σm', S, rp, e, k⟩ := h
  cases e
  exact (pg_name hN hi hx hf).run pins s σ H v u Q I r (k _ (S.put rp) fun vs hv => wipe_eq_of (hv i (List.mem_singleton.mpr rfl)))

/-- several names, one after another -/
def tGs (is : List Nat) : TGs := fun vs σ H Q => ∃ H0 O0 σm O xs σm', Sim H0 O0 σm O σ H ∧ RepAll (Vw H O) vs xs ∧ putAll σm is xs = some σm' ∧
  ∀ σ', Sim H0 O0 σm' O σ' H → (∀ ws : List Nat, (∀ i ∈ is, i ∈ ws) → wipe σ' ws = wipe σ ws) → Q σ' H
theorem pgs_no {X : Cx} : PGs X [] (tGs []) := by
  refine ⟨fun pins s σ H vs us Q I r h => ?_⟩
  obtain ⟨H0, O0, σm, O, xs, σm', S, rp, e, k⟩ := h
  cases rp with
  | nil =>
    cases e
    exact pgs_nil.run pins s σ H [] us Q I r ⟨rfl, k σ S fun _ _ => rfl⟩
  | cons _ _ => unfold putAll at e; cases e
theorem pgs_nm {X : Cx} {i : Nat} {is : List Nat} {x : Str} {pos : Pos} {es : List Expr} (hN : X.N.Nodup) (hi : X.N[i]? = some x) (hx : Loc X.env.scope x) (hf : X.fn x = true ∨ X.env.scope.names.lookup x = some .local) (h2 : PGs X es (tGs is)) :
    PGs X (.Name x pos :: es) (tGs (i :: is)) := by
  refine ⟨fun pins s σ H vs us Q I r h => ?_⟩
  obtain ⟨H0, O0, σm, O, xs, σm', S, rp, e, k⟩ := h
  cases rp with
  | nil => unfold putAll at e; cases e
  | cons r1 r2 =>
    unfold putAll at e
    refine (pgs_cons (pg_name hN hi hx hf) h2).run pins s σ H _ us Q I r ⟨_, _, rfl, ?_⟩
    refine ⟨H0, O0, _, O, _, σm', S.put r1, r2, e, fun σ' S' w => k σ' S' fun ws hw => ?_⟩
    rw [w ws fun j hj => hw j (List.mem_cons_of_mem _ hj)]
    exact wipe_eq_of (hw i List.mem_cons_self)
theorem pg_tp {X : Cx} {is : List Nat} {es : List Expr} {k : Nat} {pos : Pos} (hc : X.calm = true) (h : PGs X es (tGs is)) (hn : (assignEach es X.env).length = is.length) (hst : (assignEach es X.env).findIdx? (·.1) = none) :
    PG X (.Tuple es k pos) (tG (.tp is)) := by
  refine ⟨fun pins s σ H v u Q I r hw => ?_⟩
  obtain ⟨H0, O0, σm, O, y, σm', S, rp, e, q⟩ := hw
  cases y with
  | tup xs =>
    have e' : putAll σm is xs = some σm' := e
    cases rp with
    | tup r1 r2 =>
      have hl : xs.length = is.length := by
        have key : ∀ (is : List Nat) (xs : List MV) (τ τ' : MS), putAll τ is xs = some τ' → xs.length = is.length := by
          intro is
          induction is with
          | nil => intro xs τ τ' e; cases xs with
            | nil => rfl
            | cons _ _ => unfold putAll at e; cases e
          | cons i is ih => intro xs τ τ' e; cases xs with
            | nil => unfold putAll at e; cases e
            | cons x xs => unfold putAll at e; rw [List.length_cons, List.length_cons, ih xs _ _ e]
        exact key is xs σm σm' e'
      refine (pg_tup hc h hn hst).run pins s σ H _ u Q I r ⟨_, _, rfl, SqT.rd (Rd.up Vw_le r1), by rw [r2.length, hl], ?_⟩
      exact ⟨H0, O0, σm, O, xs, σm', S, r2, e', q⟩
  | _ => unfold putT at e; cases e

/-! ### what is walked -/
/-- what must stand for a walk to go on -/
def stay (tg : Tg) (O : Addr → Bool) (H H2 : Hp) : Prop := ∀ b o, H b = some o → (tg = .bo ∨ O b = false) → H2 b = some o
/-- an iterator that gives vs -/
def ItR (tg : Tg) (O : Addr → Bool) (H : Hp) (vs : List V) (J : It) : Prop := ∀ H2, stay tg O H H2 → ∀ i, (vs.length ≤ i → J.stop i H2) ∧ (i < vs.length → J.go i H2 ∧ ∀ x H3, J.yld i H2 x H3 → H3 = H2 ∧ vs[i]? = some x)
def tI (Φ : Fns) (c : CI) : TI := fun σ H R => ∃ H0 O0 σm O r, Sim H0 O0 σm O σ H ∧ evI Φ c σm = some r ∧ ∀ J H' vs, Same H H' → RepAll (Vw H' O) vs r.1 → ItR r.2 O H' vs J → R J H'

theorem stay.rd {tg : Tg} {O : Addr → Bool} {H H2 : Hp} {a : Addr} {u : HO} (s : stay tg O H H2) (h : Rd H a u) (n : tg = .bo ∨ O a = false) : Rd H2 a u := by
  rcases h with h | ⟨o, h⟩
  · exact .inl (s _ _ h n)
  · exact .inr ⟨o, s _ _ h n⟩
theorem Rd.lst_inj {H : Hp} {a : Addr} {xs ys : List V} (h : Rd H a (.lst xs)) (h' : Rd H a (.lst ys)) : xs = ys := by
  rcases h with h | ⟨o, h⟩ <;> rcases h' with h' | ⟨o', h'⟩ <;> rw [h] at h' <;> cases h' <;> rfl
theorem Rd.tup_inj {H : Hp} {a : Addr} {xs ys : List V} (h : Rd H a (.tup xs)) (h' : Rd H a (.tup ys)) : xs = ys := by
  rcases h with h | ⟨o, h⟩ <;> rcases h' with h' | ⟨o', h'⟩ <;> rw [h] at h' <;> cases h' <;> rfl

theorem itr_list {K : PySem.W.Frag} {tg : Tg} {O : Addr → Bool} {H : Hp} {a : Addr} {vs : List V} (h : Rd H a (.lst vs)) (n : tg = .bo ∨ O a = false) : ItR tg O H vs (Itl K a) := fun H2 s i =>
  have r : SqL K H2 a vs := .inl (s.rd h n)
  ⟨fun hi => ⟨vs, r, hi⟩, fun hi => ⟨⟨vs, vs[i], r, List.getElem?_eq_getElem hi⟩, fun x H3 y => ⟨y.1, y.2 vs r⟩⟩⟩
theorem itr_tup {K : PySem.W.Frag} {tg : Tg} {O : Addr → Bool} {H : Hp} {a : Addr} {vs : List V} (h : Rd H a (.tup vs)) (n : tg = .bo ∨ O a = false) : ItR tg O H vs (Itt K a) := fun H2 s i =>
  have r : SqT K H2 a vs := .inl (s.rd h n)
  ⟨fun hi => ⟨vs, r, hi⟩, fun hi => ⟨⟨vs, vs[i], r, List.getElem?_eq_getElem hi⟩, fun x H3 y => ⟨y.1, y.2 vs r⟩⟩⟩
def rngV (lo : Int) : Nat → List V
  | 0 => []
  | n + 1 => .int lo :: rngV (lo + 1) n
theorem rngV_get : ∀ (n : Nat) (lo : Int) (i : Nat), i < n → (rngV lo n)[i]? = some (.int (lo + i))
  | n + 1, lo, 0, _ => by
    show some (V.int lo) = some (V.int (lo + ((0 : Nat) : Int)))
    rw [Int.natCast_zero, Int.add_zero]
  | n + 1, lo, i + 1, h => by
    show (rngV (lo + 1) n)[i]? = _
    rw [rngV_get n (lo + 1) i (Nat.lt_of_succ_lt_succ h)]
    congr 2
    omega
theorem rngV_length : ∀ (n : Nat) (lo : Int), (rngV lo n).length = n
  | 0, _ => rfl
  | n + 1, lo => by show (rngV (lo + 1) n).length + 1 = n + 1; rw [rngV_length n]
theorem rng_rep {G : Hp} : ∀ (n : Nat) (lo : Int), RepAll G (rngV lo n) (rngM lo n)
  | 0, _ => .nil
  | n + 1, lo => .cons (.int lo) (rng_rep n (lo + 1))
theorem itr_rng {tg : Tg} {O : Addr → Bool} {H : Hp} {lo : Int} {n : Nat} : ItR tg O H (rngV lo n) (Itr lo n) := fun H2 s i => by
  rw [rngV_length]
  refine ⟨fun hi => hi, fun hi => ⟨hi, fun x H3 y => ⟨y.1, ?_⟩⟩⟩
  rw [rngV_get n lo i hi, y.2]

theorem Bor.seen {O : Addr → Bool} {H : Hp} {x : MV} {t : Tg} {v : V} {a : Addr} {H1 : Hp} {l : List MV} (h : ResOk O H1 H (x, t) v) (e : v = .ref a) (es : seqOf x = some l) : t = .bo ∨ O a = false := by
  have vis : ∀ {y : MV}, Rep (Vw H O) v y → seqOf y = some l → O a = false := fun {y} r ey => by
    cases r with
    | tup z _ => cases e; rcases z with z | ⟨o, z⟩ <;> exact (Vw_some z).1
    | lst z _ => cases e; rcases z with z | ⟨o, z⟩ <;> exact (Vw_some z).1
    | _ => cases ey
  cases t with
  | sh => exact .inr (vis h es)
  | fr => exact .inr (vis h.1 es)
  | bo => exact .inl rfl

section
variable {X : Cx} {tg : Expr} {Φ : Fns}
theorem pi_seq {e : Expr} {c : CE} (h : PE X e (tE Φ c)) : PI X tg e (tI Φ (.seq c)) := by
  refine ⟨fun pins s σ H R I ⟨H0, O0, σm, O, r, S, ev', k⟩ => ?_⟩
  unfold evI at ev'
  obtain ⟨⟨x, t⟩, e1, ev'⟩ := Option.bind_eq_some_iff.mp ev'
  obtain ⟨l, e2, ev'⟩ := Option.bind_eq_some_iff.mp ev'
  cases ev'
  cases x with
  | lst m =>
    refine (pi_list h).run pins s σ H R I (tE_of S e1 fun v H1 s1 q => ?_)
    obtain ⟨a, vs, ea, ra, hk⟩ := q.bor.lst
    cases e2
    exact ⟨a, ea, ⟨vs, SqL.rd hk⟩, k _ H1 vs s1 ra (itr_list hk (Bor.seen q ea rfl))⟩
  | tup m =>
    refine (pi_tup h).run pins s σ H R I (tE_of S e1 fun v H1 s1 q => ?_)
    obtain ⟨a, vs, ea, ra, hk⟩ := q.bor.tup
    cases e2
    exact ⟨a, ea, ⟨vs, SqT.rd hk⟩, k _ H1 vs s1 ra (itr_tup hk (Bor.seen q ea rfl))⟩
  | _ => cases e2
theorem rngOk_of {i : Int} (h : rngOk i = true) : -(2 ^ 62) ≤ i ∧ i < 2 ^ 62 := by
  unfold rngOk at h
  rw [Bool.and_eq_true] at h
  have h1 := of_decide_eq_true h.1
  have h2 := of_decide_eq_true h.2
  unfold RNG at h1 h2
  exact ⟨h1, h2⟩
theorem pi_rng1 {a : Expr} {c : CE} {p pos : Pos} (hg : Gl X "range") (hm : X.mg "range" = none) (ha : PA X [a] (tA Φ [c])) (hs : starEach [a] X.env = [(false, eval a X.env)]) : PI X tg (.Call (.Name "range" p) [a] [] pos) (tI Φ (.rng1 c)) := by
  refine ⟨fun pins s σ H R I ⟨H0, O0, σm, O, r, S, ev', k⟩ => ?_⟩
  unfold evI at ev'
  obtain ⟨⟨x, t⟩, e1, ev'⟩ := Option.bind_eq_some_iff.mp ev'
  cases x with
  | int n =>
    simp only at ev'
    split at ev'
    · rename_i hn
      cases ev'
      refine (pi_range1 hg hm ha hs).run pins s σ H R I ⟨H0, O0, σm, O, [(.int n, t)], S, by unfold evs; rw [e1]; rfl, fun vs H1 s1 q => ?_⟩
      cases q with
      | cons q1 q2 =>
        cases q2
        obtain rfl := q1.bor.int
        obtain ⟨b1, b2⟩ := rngOk_of hn
        exact ⟨n, rfl, b1, b2, k _ H1 _ s1 (rng_rep n.toNat 0) itr_rng⟩
    · cases ev'
  | _ => cases ev'
theorem pi_rng2 {a b : Expr} {c d : CE} {p pos : Pos} (hg : Gl X "range") (hm : X.mg "range" = none) (ha : PA X [a, b] (tA Φ [c, d])) (hs : starEach [a, b] X.env = [(false, eval a X.env), (false, eval b X.env)]) (hs2 : starEach [b] X.env = [(false, eval b X.env)]) :
    PI X tg (.Call (.Name "range" p) [a, b] [] pos) (tI Φ (.rng2 c d)) := by
  refine ⟨fun pins s σ H R I ⟨H0, O0, σm, O, r, S, ev', k⟩ => ?_⟩
  unfold evI at ev'
  obtain ⟨⟨x, t⟩, e1, ev'⟩ := Option.bind_eq_some_iff.mp ev'
  obtain ⟨⟨y, u⟩, e2, ev'⟩ := Option.bind_eq_some_iff.mp ev'
  have key : ∃ m n, x = .int m ∧ y = .int n ∧ (rngOk m && rngOk n) = true ∧ r = (rngM m (n - m).toNat, .sh) := by
    cases x <;> cases y <;> simp only at ev' <;> first | cases ev' | skip
    split at ev'
    · cases ev'; exact ⟨_, _, rfl, rfl, by assumption, rfl⟩
    · cases ev'
  obtain ⟨m, n, rfl, rfl, hn, rfl⟩ := key
  rw [Bool.and_eq_true] at hn
  refine (pi_range2 hg hm ha hs hs2).run pins s σ H R I ⟨H0, O0, σm, O, [(.int m, t), (.int n, u)], S, by unfold evs evs evs; rw [e1, e2]; rfl, fun vs H1 s1 q => ?_⟩
  cases q with
  | cons q1 q2 =>
    cases q2 with
    | cons q2 q3 =>
      cases q3
      obtain rfl := q1.bor.int
      obtain rfl := q2.bor.int
      obtain ⟨b1, b2⟩ := rngOk_of hn.1
      obtain ⟨b3, b4⟩ := rngOk_of hn.2
      exact ⟨m, n, rfl, ⟨b1, b2, b3, b4⟩, k _ H1 _ s1 (rng_rep (n - m).toNat m) itr_rng⟩
end
end Mn

set_option Elab.async false
set_option linter.all false
set_option maxRecDepth 100000
set_option maxHeartbeats 2000000
/-! Mn5: a def's call; comprehensions; the check of expressions, and that it is right. -/
namespace Mn
open PySem L2

/-! ### calls of defs: a promise for a caller within which no repr runs -/
structure FnG (P : Program) (w : World) (K : PySem.W.Frag) (mg : Str → Option Value) (base : Heap) (k : Nat) (f : Addr) (fd : FuncData) (ps : List Str) (sp : Sp) : Prop where
  len : ∀ vs H Q E, sp vs H Q E → vs.length = ps.length
  go : ∀ (A : Around) (outer : List Env) (s : Shared) (H : Hp) (args : Args) (us : List Value) (vs : List V) (Q : VK) (E : XK),
    Room k A → A.guards = some [] → Env0 P w K mg base A outer s H → BindsTo s fd args (ps.zip us) → Vals vs us → sp vs H Q E →
    codeAny (model P w) A (.call (.ref f) args) (CR CX0 outer P w H s Q E) s

def tagOf (b : Bool) : Tg := if b then .fr else .sh
/-- what a def promises -/
def spM (φ : List MV → Option (MV × Bool)) : Sp := fun vs H Q _ => ∃ O xs r, Dom O H ∧ RepAll (Vw H O) vs xs ∧ φ xs = some r ∧ Post O H Q (r.1, tagOf r.2)

structure FnAt (X : Cx) (φ : List MV → Option (MV × Bool)) (x : Str) : Prop where
  ex : ∃ (a : Addr) (fd : FuncData) (ps : List Str) (k : Nat), X.mg x = some (.ref a) ∧ PySem.W.keepIn X.K (.ref a) = true ∧ Binds X.K fd ps [] ∧ Room k X.A ∧ FnG X.prog X.w X.K X.mg X.base k a fd ps (spM φ)

section
variable {X : Cx}
theorem call_run {φ : List MV → Option (MV × Bool)} {a : Addr} {fd : FuncData} {ps : List Str} {k : Nat} (hb : Binds X.K fd ps []) (hr : Room k X.A) (hg : X.A.guards = some []) (F : FnG X.prog X.w X.K X.mg X.base k a fd ps (spM φ))
    {pins : List (Addr × Obj)} {σ : L2.St} {H : Hp} {s : Shared} {Q : VK} {us : List Value} {vs : List V} (I : Inv X pins σ H s) (r : Vals vs us) (h : spM φ vs H Q E0) : wpAny (model X.prog X.w) X.A (PySem.call (.ref a) us) (EP X pins σ Q) X.xe s := by
  have hl : us.length = ps.length := r.length.symm.trans (F.len _ _ _ _ h)
  have hB : BindsTo s fd ⟨us, []⟩ (ps.zip us) := by
    have z := hb s us I.kIn (by rw [List.append_nil]; exact hl)
    rw [List.append_nil] at z
    exact z
  refine wpAny_call (codeAny_mono (F.go X.A X.stack s H _ us vs Q E0 hr hg I.env0 hB r h) fun res s' hq => ?_)
  cases res with
  | error e => exact False.elim hq
  | ok fl => cases fl with
    | ret u => exact I.after hq
    | next => exact False.elim hq
    | brk => exact False.elim hq
    | cont => exact False.elim hq

theorem noLst_res {O : Addr → Bool} {H H' : Hp} {x : MV} {b : Bool} {v : V} (d0 : Dom O H) (sH : Same H H') (n : freeOf (x, b) = true) (h : ResOk (fun _ => false) H H' (x, tagOf b) v) : ResOk O H H' (x, tagOf b) v := by
  have d := d0.up sH
  have plain : x.noLst = true → ResOk O H H' (x, tagOf b) v := fun n1 => by
    have r : Rep H' v x := h.bor.rep
    clear n
    cases b with
    | false => exact r.hid d n1
    | true =>
      refine ⟨r.hid d n1, fun l e => ?_⟩
      rw [e] at n1
      unfold MV.noLst at n1
      cases n1
  cases x with
  | lst l =>
    cases b with
    | false => exact plain n
    | true =>
      obtain ⟨p, vs, e, hp, hq, r⟩ := h.2 l rfl
      subst e
      have r' : RepAll H' vs l := r.up Vw_le
      have dp : Dom (add O p) H' := fun q hq' => by
        rcases of_add hq' with z | z
        · exact d q z
        · rw [z]; exact ⟨vs, hq⟩
      refine ⟨.lst (.inl (Vw_of (d0.new hp) hq)) (r'.hid d n), fun m em => ?_⟩
      cases em
      exact ⟨p, vs, rfl, hp, hq, r'.hid dp n⟩
  | _ => exact plain (by cases b <;> exact n)
theorem dom_no {H : Hp} : Dom (fun _ => false) H := fun p h => by cases h
theorem same_no {H : Hp} : Same H (Vw H fun _ => false) := fun b o h => Vw_of rfl h

theorem evs_length {Φ : Fns} {σ : MS} : ∀ {es : List CE} {rs : List (MV × Tg)}, evs Φ es σ = some rs → rs.length = es.length
  | [], rs, h => by unfold evs at h; cases h; rfl
  | e :: es, rs, h => by
    unfold evs at h
    obtain ⟨x, e1, h⟩ := Option.bind_eq_some_iff.mp h
    obtain ⟨xs, e2, h⟩ := Option.bind_eq_some_iff.mp h
    cases h
    rw [List.length_cons, List.length_cons, evs_length e2]

/-- what the promise asks, from the arguments' values -/
theorem sp_of {Φ : Fns} {f : Nat} {cs : List CE} {H0 H H1 : Hp} {O0 O : Addr → Bool} {σm : MS} {σ : L2.St} {r : MV × Tg} {rs : List (MV × Tg)} {vs : List V} {Q : VK} (S : Sim H0 O0 σm O σ H) (e1 : evs Φ cs σm = some rs) (e : ev Φ (.call f cs) σm = some r) (p : Post O H Q r)
    (s1 : Same H H1) (q : ResAll O H H1 rs vs) : spM (Φ f) vs H1 Q E0 := by
  unfold ev at e
  rw [e1] at e
  simp only [Option.bind_some] at e
  obtain ⟨⟨x, b⟩, e2, e⟩ := Option.bind_eq_some_iff.mp e
  split at e
  · rename_i hc
    cases e
    by_cases hv : (rs.all fun x => decide (x.2 ≠ .bo)) = true
    · exact ⟨O, _, (x, b), (S.up s1).dom, q.vis hv, e2, fun v H' s' h => p v H' (s1.trans s') (ResOk.weak s1 h)⟩
    · have n : freeOf (x, b) = true := by
        rw [Bool.or_eq_true] at hc
        rcases hc with hc | hc
        · exact absurd hc hv
        · exact hc
      refine ⟨fun _ => false, _, (x, b), dom_no, q.bor.rep.up same_no, e2, fun v H' s' h => p v H' (s1.trans s') (ResOk.weak s1 ?_)⟩
      exact noLst_res (S.up s1).dom s' n h
  · cases e

theorem pe_fn {Φ : Fns} {f : Nat} {x : Str} {p pos : Pos} {a : Expr} {as : List Expr} {c : CE} {cs : List CE} (F : FnAt X (Φ f) x) (hg : X.A.guards = some []) (hgl : Gl X x) (hd : (x == ("__debug__" : Str)) = false) (ha : PA X (a :: as) (tA Φ (c :: cs)))
    (hs : starEach (a :: as) X.env = (false, eval a X.env) :: starEach as X.env) (hpl : (backTo pos (starEach as X.env)).any (·.1) = false) : PE X (.Call (.Name x p) (a :: as) [] pos) (tE Φ (.call f (c :: cs))) := by
  obtain ⟨ad, fd, ps, k, hm, hk, hb, hr, G⟩ := F.ex
  refine ⟨fun pins s σ H Q I ⟨H0, O0, σm, O, r, S, e, q⟩ => ?_⟩
  refine wpAny_Call_Name_kw (ld_glob I hgl hm ?_ hd)
  have e' := e
  unfold ev at e'
  obtain ⟨rs, e1, _⟩ := Option.bind_eq_some_iff.mp e'
  have go := ha.run pos pins s σ H (fun vs H1 => spM (Φ f) vs H1 Q E0) I ⟨H0, O0, σm, O, rs, S, e1, fun vs H1 s1 ra => sp_of S e1 e q s1 ra⟩
  refine PySem.W.callWith_K (h₀ := X.base) I.ok.mod.kin hk (thn go fun us s1 ⟨vs, H1, I1, rv, h1⟩ => ⟨I1.kIn, ?_⟩) hs hpl
  exact call_run hb hr hg G I1 rv h1
theorem pe_fn0 {Φ : Fns} {f : Nat} {x : Str} {p pos : Pos} (F : FnAt X (Φ f) x) (hg : X.A.guards = some []) (hgl : Gl X x) (hd : (x == ("__debug__" : Str)) = false) : PE X (.Call (.Name x p) [] [] pos) (tE Φ (.call f [])) := by
  obtain ⟨ad, fd, ps, k, hm, hk, hb, hr, G⟩ := F.ex
  refine ⟨fun pins s σ H Q I ⟨H0, O0, σm, O, r, S, e, q⟩ => ?_⟩
  refine wpAny_Call_Name_kw (ld_glob I hgl hm ?_ hd)
  exact PySem.W.callWith_K0 I.kIn hk (call_run (us := []) hb hr hg G I .nil (sp_of S (rs := []) rfl e q (Same.refl H) .nil))

/-! ### argument lists -/
theorem ResAll.weak {O : Addr → Bool} {H0 H H1 : Hp} (s : Same H0 H) : ∀ {rs : List (MV × Tg)} {vs : List V}, ResAll O H H1 rs vs → ResAll O H0 H1 rs vs
  | _, _, .nil => .nil
  | _, _, .cons a b => .cons (ResOk.weak s a) (ResAll.weak s b)
theorem pa_no {Φ : Fns} : PA X [] (tA Φ []) := ⟨fun pos pins s σ H Q I ⟨H0, O0, σm, O, rs, S, e, k⟩ => by
  cases e
  exact pa_nil.run pos pins s σ H Q I (k [] H (Same.refl H) .nil)⟩
theorem pa_more {Φ : Fns} {a : Expr} {as : List Expr} {c : CE} {cs : List CE} (ha : PE X a (tE Φ c)) (hr : PA X as (tA Φ cs)) (hs : starEach (a :: as) X.env = (false, eval a X.env) :: starEach as X.env) : PA X (a :: as) (tA Φ (c :: cs)) := by
  refine ⟨fun pos pins s σ H Q I ⟨H0, O0, σm, O, rs, S, e, k⟩ => ?_⟩
  unfold evs at e
  obtain ⟨x, e1, e⟩ := Option.bind_eq_some_iff.mp e
  obtain ⟨xs, e2, e⟩ := Option.bind_eq_some_iff.mp e
  cases e
  refine (pa_cons ha hr hs).run pos pins s σ H Q I (tE_of S e1 fun v H1 s1 q1 => ?_)
  exact ⟨H0, O0, σm, O, xs, S.up s1, e2, fun vs H2 s2 q2 => k (v :: vs) H2 (s1.trans s2) (.cons (q1.up s2) (q2.weak s1))⟩

/-! ### a comprehension -/
def tTs (Φ : Fns) (cs : List CE) : TT := fun σ H Q => ∃ H0 O0 σm O b, Sim H0 O0 σm O σ H ∧ evT Φ cs σm = some b ∧ ∀ H', Same H H' → Q b H'

theorem wipe_put {σ : L2.St} {v : Nat} : ∀ {vs : List Nat}, v ∈ vs → (wipe σ vs).set v none = wipe σ vs
  | w :: vs, h => by
    unfold wipe
    by_cases e : v = w
    · rw [e, List.set_set]
    · have m : v ∈ vs := by
        rcases List.mem_cons.mp h with z | z
        · exact absurd z e
        · exact z
      rw [List.set_comm _ _ (fun z => e z.symm), wipe_put m]
theorem wipe_idem (σ : L2.St) (ws : List Nat) : ∀ vs : List Nat, (∀ v ∈ vs, v ∈ ws) → wipe (wipe σ ws) vs = wipe σ ws
  | [], _ => rfl
  | v :: vs, h => by
    show (wipe (wipe σ ws) vs).set v none = wipe σ ws
    rw [wipe_idem σ ws vs fun u hu => h u (List.mem_cons_of_mem _ hu)]
    exact wipe_put (h v List.mem_cons_self)

theorem lc_of {Φ : Fns} {elt : CE} {tg : TGT} {it : CI} {ifs : List CE} {σ : L2.St} {H : Hp} {Q : VK} (h : tE Φ (.comp elt tg it ifs) σ H Q) :
    tLc (tI Φ it) (tG tg) (tTs Φ ifs) (tE Φ elt) (tgSlots tg) σ H Q := by
  obtain ⟨H0, O0, σm, O, r, S, e, post⟩ := h
  unfold ev at e
  obtain ⟨items, e1, e⟩ := Option.bind_eq_some_iff.mp e
  obtain ⟨l, e2, e⟩ := Option.bind_eq_some_iff.mp e
  split at e
  case isFalse => cases e
  rename_i hz
  cases e
  refine ⟨H0, O0, σm, O, items, S, e1, fun J H1 vs s1 ra itr D hD => ?_⟩
  have hlen : vs.length = items.1.length := ra.length
  generalize hf : (fun x => (putT (wipeM σm (tgSlots tg)) tg x).bind fun σ' => (evT Φ ifs σ').bind fun t =>
        if t = true then (ev Φ elt σ').bind fun y => (keep y).bind fun v => some [v] else some []) = f at e2
  refine ⟨fun i m H2 => m = vs.length - i ∧ i ≤ vs.length ∧ Same H1 H2 ∧ ∃ accV accM rest, H2 D = some (.lst accV) ∧ RepAll (Vw H2 (add O D)) accV accM ∧ turns f (items.1.drop i) = some rest ∧ accM ++ rest = l, ⟨vs.length, ?_⟩, ?_⟩
  · exact ⟨rfl, Nat.zero_le _, same_upd hD, [], [], l, upd_same, .nil, e2, rfl⟩
  rintro i m H2 ⟨rfl, hi, s2, accV, accM, rest, hD2, rac, ht, hl⟩
  have hst : stay items.2 O H1 H2 := fun b o e _ => s2 b o e
  have S2 : Sim H0 O0 σm (add O D) σ H2 := (S.up s1).hide hD s2 hD2
  by_cases hlt : i < vs.length
  · obtain ⟨_, hgo⟩ := itr H2 hst i
    obtain ⟨go, hy⟩ := hgo hlt
    have hlt' : i < items.1.length := by rw [← hlen]; exact hlt
    have hdrop : items.1.drop i = items.1[i] :: items.1.drop (i + 1) := List.drop_eq_getElem_cons hlt'
    rw [hdrop] at ht
    unfold turns at ht
    obtain ⟨ys, e3, ht⟩ := Option.bind_eq_some_iff.mp ht
    obtain ⟨rest', e4, ht⟩ := Option.bind_eq_some_iff.mp ht
    cases ht
    have e3' := e3
    rw [← hf] at e3
    obtain ⟨σ', e5, e3⟩ := Option.bind_eq_some_iff.mp e3
    obtain ⟨b, e6, e3⟩ := Option.bind_eq_some_iff.mp e3
    refine .inr ⟨go, fun H' => i + 1 ≤ vs.length ∧ Same H1 H' ∧ ∃ accV accM rest, H' D = some (.lst accV) ∧ RepAll (Vw H' (add O D)) accV accM ∧ turns f (items.1.drop (i + 1)) = some rest ∧ accM ++ rest = l,
      fun H' q => ⟨vs.length - (i + 1), by omega, rfl, q.1, q.2⟩, fun x H3 hx => ?_⟩
    obtain ⟨e3H, hxv⟩ := hy x H3 hx
    subst e3H
    obtain ⟨xm, hxm, rx⟩ := ra.getV i hxv
    have exm : items.1[i] = xm := by
      rw [List.getElem?_eq_getElem hlt'] at hxm
      exact Option.some.inj hxm
    rw [exm] at e5
    refine ⟨H0, O0, wipeM σm (tgSlots tg), add O D, xm, σ', S2.wipe _, rx.up (Vw_new s2 hD), e5, fun σ2 S3 w => ⟨?_, ?_⟩⟩
    · rw [w _ fun j hj => hj, wipe_idem σ _ _ fun j hj => hj]
    refine ⟨H0, O0, σ', add O D, b, S3, e6, fun H4 s4 => ?_⟩
    have sH4 : Same H1 H4 := s2.trans s4
    cases b with
    | true =>
      rw [if_pos rfl] at e3
      obtain ⟨y, e7, e3⟩ := Option.bind_eq_some_iff.mp e3
      obtain ⟨v, e8, e3⟩ := Option.bind_eq_some_iff.mp e3
      cases e3
      refine iteT ?_
      refine tE_of (S3.up s4) e7 fun yv H5 s5 q5 => ?_
      have ek := q5.keep e8
      have hD5 : H5 D = some (.lst accV) := s5 _ _ (s4 _ _ hD2)
      have hll : accV.length < sizeLine := by
        have z1 := rac.length
        have z2 := congrArg List.length hl
        rw [List.length_append, List.length_append, List.length_singleton] at z2
        have z3 := SZ_le hz
        omega
      refine ⟨accV, hD5, hll, hlt, fun b o e => ?_, accV ++ [yv], accM ++ [v], rest', upd_same, ?_, e4, ?_⟩
      · rw [upd_ne (fun z => by rw [z, hD] at e; cases e)]
        exact s5 _ _ (sH4 _ _ e)
      · rw [Vw_set add_self]
        exact (rac.up (Vw_up (s4.trans s5))).append (.cons ek .nil)
      · rw [List.append_assoc]; exact hl
    | false =>
      rw [if_neg Bool.false_ne_true] at e3
      cases e3
      refine iteF ?_
      exact ⟨hlt, sH4, accV, accM, rest', s4 _ _ hD2, rac.up (Vw_up s4), e4, by rw [List.nil_append] at hl; exact hl⟩
  · have e : i = vs.length := by omega
    subst e
    refine .inl ⟨(itr H2 hst _).1 (Nat.le_refl _), ?_⟩
    have hd : items.1.drop vs.length = [] := List.drop_eq_nil_of_le (by omega)
    rw [hd] at ht
    cases ht
    rw [List.append_nil] at hl
    subst hl
    have nO : O D = false := S.dom.new (s1.free hD)
    refine post (.ref D) H2 (s1.trans s2) ⟨.lst (.inl (Vw_of nO hD2)) (rac.up (Vw_less fun b hb => add_of hb)), fun l' e => ?_⟩
    cases e
    exact ⟨D, accV, rfl, s1.free hD, hD2, rac⟩
end
end Mn

set_option Elab.async false
set_option linter.all false
set_option maxRecDepth 100000
set_option maxHeartbeats 4000000
/-! Mn6: the check of expressions over the text, and that it is right. -/
namespace Mn
open PySem L2

structure MC where
  fns : List Str
  bis : List Str
  imp : List (Str × BI)
structure SC where
  sc : Scope
  inner : Option Scope

def locB (k : SC) (x : Str) : Bool := match k.sc.names.lookup x with
  | some .local => true
  | some .cell => (match k.inner with | none => true | some s => s.names.lookup x == some .cell)
  | _ => false
def visB (sc : Scope) (x : Str) : Bool := match sc.names.lookup x with
  | some .local => true
  | some .cell => true
  | some .free => true
  | _ => false
def glB (sc : Scope) (x : Str) : Bool := match sc.names.lookup x with
  | some .globalImplicit => true
  | _ => false
def plainName (x : Str) : Bool := !(x == ("__debug__" : Str)) && !(x == ("__classdict__" : Str)) && !(decide (x = ("__name__" : Str)))
def constB : Const → MV → Bool
  | .none, .non => true
  | .bool a, .bl b => a == b
  | .int a, .int b => a == b
  | .str a, .str b => decide (a = b)
  | _, _ => false
def opB : Operator → BOp → Bool
  | .Add, .add => true
  | .Sub, .sub => true
  | .Mult, .mul => true
  | .FloorDiv, .fdiv => true
  | .Mod, .mod => true
  | .Pow, .pow => true
  | _, _ => false
def cmpB : CmpOp → COp → Bool
  | .Lt, .lt => true
  | .LtE, .le => true
  | .Gt, .gt => true
  | .GtE, .ge => true
  | .Eq, .eq => true
  | .NotEq, .ne => true
  | .Is, .is => true
  | .IsNot, .isnt => true
  | .In, .inn => true
  | .NotIn, .nin => true
  | _, _ => false
def notStar : Expr → Bool
  | .Starred .. => false
  | _ => true
def notSet : Expr → Bool
  | .Set .. => false
  | _ => true
def notSlice : Expr → Bool
  | .Slice .. => false
  | _ => true
def chkL (f : Expr → CE → Bool) : List Expr → List CE → Bool
  | [], [] => true
  | e :: es, c :: cs => notStar e && f e c && chkL f es cs
  | _, _ => false
def chkO (f : Expr → CE → Bool) : Option Expr → Option CE → Bool
  | none, none => true
  | some e, some c => f e c
  | _, _ => false
/-- the built-ins that are called by a name of the module's -/
def biStr : BI → String
  | .len => "len"
  | .abs => "abs"
  | .int => "int"
  | .bool => "bool"
  | .tuple => "tuple"
  | .list => "list"
  | .sum => "sum"
  | .max => "max"
  | .min => "min"
  | _ => ""
def biOk : BI → Bool
  | .len | .abs | .int | .bool | .tuple | .list | .sum | .max | .min => true
  | _ => false
def tyB (C : MC) (k : SC) : Expr → Ty → Bool
  | .Name x _, t => decide (x = Str.ofString (tyName t)) && glB k.sc x && C.bis.contains x
  | _, _ => false
def tysB (C : MC) (k : SC) : List Expr → List Ty → Bool
  | [], [] => true
  | e :: es, t :: ts => tyB C k e t && tysB C k es ts
  | _, _ => false
def slotB (k : SC) (N : List Str) (x : Str) (i : Nat) : Bool := decide (N[i]? = some x) && locB k x
def namesB (k : SC) (N : List Str) : List Expr → List Nat → Bool
  | [], [] => true
  | .Name x _ :: es, i :: is => slotB k N x i && namesB k N es is
  | _, _ => false
def tgB (k : SC) (N : List Str) : Expr → TGT → Bool
  | .Name x _, .nm i => slotB k N x i
  | .Tuple es _ _, .tp is => namesB k N es is
  | _, _ => false
def ownOf : Expr → TGT → List (Str × Nat)
  | .Name x _, .nm i => [(x, i)]
  | .Tuple es _ _, .tp is => (es.map fun | .Name x _ => x | _ => Str.empty).zip is
  | _, _ => []
def chkI (f : Expr → CE → Bool) (C : MC) (k : SC) : Expr → CI → Bool
  | .Call (.Name x _) [a] [] _, .rng1 c => decide (x = ("range" : Str)) && glB k.sc "range" && C.bis.contains "range" && notStar a && f a c
  | .Call (.Name x _) [a, b] [] _, .rng2 c d => decide (x = ("range" : Str)) && glB k.sc "range" && C.bis.contains "range" && notStar a && notStar b && f a c && f b d
  | e, .seq c => notSet e && f e c
  | _, _ => false

def chkE : Nat → MC → List Str → SC → Expr → CE → Bool
  | 0, _, _, _, _, _ => false
  | n + 1, C, N, k, e, ce => match e, ce with
    | .BoolOp _ [a] _, c => chkE n C N k a c
    | .BoolOp .And (a :: b :: r) p, .and c d => chkE n C N k a c && chkE n C N k (.BoolOp .And (b :: r) p) d
    | .BoolOp .Or (a :: b :: r) p, .or c d => chkE n C N k a c && chkE n C N k (.BoolOp .Or (b :: r) p) d
    | .Constant c _ _, .lit v => constB c v
    | .Name x _, .var i => decide (N[i]? = some x) && visB k.sc x && plainName x
    | .BinOp a op b _, .bin o c d => opB op o && chkE n C N k a c && chkE n C N k b d
    | .UnaryOp .USub a _, .neg c => chkE n C N k a c
    | .UnaryOp .Not a _, .not c => chkE n C N k a c
    | .Compare a [op] [b] _, .cmp o c d => cmpB op o && notSet b && chkE n C N k a c && chkE n C N k b d
    | .IfExp t a b _, .ite c d e => chkE n C N k t c && chkE n C N k a d && chkE n C N k b e
    | .Call (.Name x _) as [] _, .call i cs => decide (C.fns[i]? = some x) && glB k.sc x && plainName x && chkL (chkE n C N k) as cs
    | .Call (.Name x _) (a :: as) [] _, .bi .gcd (c :: cs) => decide ((x, BI.gcd) ∈ C.imp) && glB k.sc x && plainName x && chkL (chkE n C N k) (a :: as) (c :: cs)
    | .Call (.Name x _) (a :: as) [] _, .bi b (c :: cs) => decide (x = Str.ofString (biStr b)) && biOk b && C.bis.contains x && glB k.sc x && plainName x && chkL (chkE n C N k) (a :: as) (c :: cs)
    | .Call (.Name x _) [a, .Tuple es _ _] [] _, .isi c ts => decide (x = ("isinstance" : Str)) && C.bis.contains x && glB k.sc x && plainName x && notStar a && chkE n C N k a c && tysB C k es ts && decide (ts.length ≤ 100)
    | .Call (.Name x _) [a, t] [] _, .isi c [ty] => decide (x = ("isinstance" : Str)) && C.bis.contains x && glB k.sc x && plainName x && notStar a && chkE n C N k a c && tyB C k t ty
    | .Tuple es _ _, .tup cs => chkL (chkE n C N k) es cs
    | .List es _, .lst cs => chkL (chkE n C N k) es cs
    | .Subscript a (.Slice lo hi none _) _, .slc c l h => chkE n C N k a c && chkO (chkE n C N k) lo l && chkO (chkE n C N k) hi h
    | .Subscript a i _, .idx c d => notSlice i && chkE n C N k a c && chkE n C N k i d
    | .ListComp elt [⟨tg, it, ifs, 0⟩] scope _, .comp c ctg cit cifs =>
        let k' : SC := ⟨relS scope k.sc, some scope⟩
        chkI (chkE n C N k) C k it cit && notSet it && blkC N k.sc scope (ownOf tg ctg) && decide ((ownOf tg ctg).map (·.2) = tgSlots ctg) && tgB k' N tg ctg &&
          (match ifs, cifs with
            | [], [] => true
            | [t], [ct] => chkE n C N k' t ct
            | _, _ => false) && chkE n C N k' elt c
    | _, _ => false

structure Good (X : Cx) (C : MC) (Φ : Fns) (N : List Str) (k : SC) : Prop where
  hN : X.N = N
  nd : X.N.Nodup
  sc : X.env.scope = k.sc
  fn : ∀ x, locB k x = true → X.fn x = true ∨ X.env.scope.names.lookup x = some .local
  calm : X.calm = true
  un : X.A.units + 200 < cLine
  gd : X.A.guards = some []
  bis : ∀ x, C.bis.contains x = true → X.mg x = none
  imp : ∀ x, (x, BI.gcd) ∈ C.imp → X.mg x = some (.builtin "math.gcd")
  fns : ∀ (i : Nat) x, C.fns[i]? = some x → FnAt X (Φ i) x

section
variable {X : Cx} {C : MC} {Φ : Fns} {N : List Str} {k : SC}

theorem Good.gl (G : Good X C Φ N k) {x : Str} (h : glB k.sc x = true) : Gl X x := by
  unfold glB at h
  show X.env.scope.names.lookup x = _
  rw [G.sc]
  split at h
  · assumption
  · cases h
theorem Good.vis (G : Good X C Φ N k) {x : Str} (h : visB k.sc x = true) : Vis X.env.scope x := by
  unfold visB at h
  rw [G.sc]
  split at h
  · exact .inl (by assumption)
  · exact .inr (.inl (by assumption))
  · exact .inr (.inr (by assumption))
  · cases h
theorem Good.loc (G : Good X C Φ N k) {x : Str} (h : locB k x = true) : Loc X.env.scope x := by
  unfold locB at h
  rw [G.sc]
  split at h
  · exact .inl (by assumption)
  · exact .inr (by assumption)
  · cases h
theorem plain1 {x : Str} (h : plainName x = true) : (x == ("__debug__" : Str)) = false ∧ (x == ("__classdict__" : Str)) = false ∧ x ≠ ("__name__" : Str) := by
  unfold plainName at h
  rw [Bool.and_eq_true, Bool.and_eq_true] at h
  obtain ⟨⟨h1, h2⟩, h3⟩ := h
  refine ⟨by simpa using h1, by simpa using h2, ?_⟩
  intro e
  rw [decide_eq_true e] at h3
  cases h3

theorem star_cons {e : Expr} {es : List Expr} {env : Env} (h : notStar e = true) : starEach (e :: es) env = (false, eval e env) :: starEach es env := by
  cases e <;> first | rfl | cases h
theorem star_any {f : Expr → CE → Bool} {pos : Pos} {env : Env} : ∀ {es : List Expr} {cs : List CE}, chkL f es cs = true → (backTo pos (starEach es env)).any (·.1) = false
  | [], _, _ => rfl
  | e :: es, [], h => by unfold chkL at h; cases h
  | e :: es, c :: cs, h => by
    unfold chkL at h
    rw [Bool.and_eq_true, Bool.and_eq_true] at h
    rw [star_cons h.1.1]
    show ((backTo pos (starEach es env)).any (·.1)) = false
    exact star_any h.2
theorem mark_no {op : CmpOp} {b : Expr} (h : notSet b = true) : behindInMarks op b = false := by
  cases b <;> first | rfl | cases h
theorem fold_no {e : Expr} {env : Env} (h : notSet e = true) : ∀ x, foldedSetIterable e env x = pure x := by
  intro x
  cases e <;> first | rfl | cases h

theorem bin_ok {op : Operator} {o : BOp} (h : opB op o = true) : OpR X (binaryOp op) (rBin o) := by
  unfold opB at h
  split at h
  · exact bin_add
  · exact bin_sub
  · exact bin_mul
  · exact bin_fdiv
  · exact bin_mod
  · exact bin_pow
  · cases h
theorem cmp_ok {op : CmpOp} {o : COp} (hu : X.A.units + 200 < cLine) (h : cmpB op o = true) : OpR X (compareOp op) (rCmp o) := by
  unfold cmpB at h
  split at h
  · exact cmp_lt (by omega)
  · exact cmp_le
  · exact cmp_gt
  · exact cmp_ge
  · exact cmp_eq (by omega)
  · exact cmp_ne (by omega)
  · exact cmp_is
  · exact cmp_isnt
  · exact cmp_in
  · exact cmp_nin
  · cases h

/-! ### expressions from their parts -/
theorem m_const {c : Const} {v : MV} {i : Nat} {pos : Pos} (h : constB c v = true) : PE X (.Constant c i pos) (tE Φ (.lit v)) := by
  refine ⟨fun pins s σ H Q I ⟨H0, O0, σm, O, r, S, e, p⟩ => ?_⟩
  unfold ev at e
  cases e
  unfold constB at h
  split at h
  · exact pe_non.run pins s σ H Q I (p.sh .non)
  · rw [beq_iff_eq] at h; subst h; exact pe_bl.run pins s σ H Q I p.bl
  · rw [beq_iff_eq] at h; subst h; exact pe_int.run pins s σ H Q I p.int
  · have h := of_decide_eq_true h; subst h; exact pe_str.run pins s σ H Q I p.str
  · cases h
theorem m_var {x : Str} {i : Nat} {pos : Pos} (hN : X.N[i]? = some x) (hv : Vis X.env.scope x) (hd : (x == ("__debug__" : Str)) = false) (hcd : (x == ("__classdict__" : Str)) = false) : PE X (.Name x pos) (tE Φ (.var i)) := by
  refine ⟨fun pins s σ H Q I ⟨H0, O0, σm, O, r, S, e, p⟩ => ?_⟩
  unfold ev at e
  obtain ⟨v, e1, q⟩ := S.get e
  exact (pe_var hN hv hd hcd).run pins s σ H Q I ⟨v, e1, p v H (Same.refl H) q⟩
section
variable {a b c : Expr} {ca cb cc : CE} {pos : Pos}
theorem m_bin {op : Operator} {o : BOp} (h : opB op o = true) (ha : PE X a (tE Φ ca)) (hb : PE X b (tE Φ cb)) : PE X (.BinOp a op b pos) (tE Φ (.bin o ca cb)) := by
  refine ⟨fun pins s σ H Q I ⟨H0, O0, σm, O, r, S, e, p⟩ => ?_⟩
  unfold ev at e
  obtain ⟨x, e1, e⟩ := Option.bind_eq_some_iff.mp e
  obtain ⟨y, e2, e⟩ := Option.bind_eq_some_iff.mp e
  refine (pe_op (bin_ok h) ha hb).run pins s σ H Q I (tE_of S e1 fun v H1 s1 q1 => tE_of (S.up s1) e2 fun w H2 s2 q2 => ?_)
  exact ⟨O, x.1, y.1, r, (S.up (s1.trans s2)).dom, q1.bor.up s2, q2.bor, e, fun z H3 s3 q3 => p z H3 (s1.trans (s2.trans s3)) (q3.weak (s1.trans s2))⟩
theorem cmp_post {o : COp} {H0 H : Hp} {O0 O : Addr → Bool} {σm : MS} {σ : L2.St} {r : MV × Tg} {Q : VK} (S : Sim H0 O0 σm O σ H) (e : ev Φ (.cmp o ca cb) σm = some r) (p : Post O H Q r) : tOp (rCmp o) (tE Φ ca) (tE Φ cb) σ H Q := by
  unfold ev at e
  obtain ⟨x, e1, e⟩ := Option.bind_eq_some_iff.mp e
  obtain ⟨y, e2, e⟩ := Option.bind_eq_some_iff.mp e
  obtain ⟨t, e3, e⟩ := Option.bind_eq_some_iff.mp e
  cases e
  refine tE_of S e1 fun v H1 s1 q1 => tE_of (S.up s1) e2 fun w H2 s2 q2 => ?_
  exact ⟨O, x.1, y.1, t, q1.bor.up s2, q2.bor, e3, p _ H2 (s1.trans s2) (.bl t)⟩
theorem m_cmp {op : CmpOp} {o : COp} (hu : X.A.units + 200 < cLine) (h : cmpB op o = true) (hs : notSet b = true) (ha : PE X a (tE Φ ca)) (hb : PE X b (tE Φ cb)) : PE X (.Compare a [op] [b] pos) (tE Φ (.cmp o ca cb)) :=
  ⟨fun pins s σ H Q I ⟨H0, O0, σm, O, r, S, e, p⟩ => (pe_cmpR (cmp_ok hu h) ha hb (mark_no hs)).run pins s σ H Q I (cmp_post S e p)⟩
theorem t_cmp {op : CmpOp} {o : COp} (hu : X.A.units + 200 < cLine) (h : cmpB op o = true) (hs : notSet b = true) (ha : PE X a (tE Φ ca)) (hb : PE X b (tE Φ cb)) : PT X (.Compare a [op] [b] pos) (tT Φ (.cmp o ca cb)) := by
  refine ⟨fun pins s σ H Q I ⟨H0, O0, σm, O, r, S, e, p⟩ => (pt_cmpR (cmp_ok hu h) ha hb (mark_no hs)).run pins s σ H Q I ?_⟩
  obtain ⟨x, e1, e2⟩ := Option.bind_eq_some_iff.mp e
  refine cmp_post S e1 fun v H1 s1 q1 => ?_
  have hx : ∃ t, x = (.bl t, .sh) := by
    unfold ev at e1
    obtain ⟨y, f1, e1⟩ := Option.bind_eq_some_iff.mp e1
    obtain ⟨z, f2, e1⟩ := Option.bind_eq_some_iff.mp e1
    obtain ⟨t, f3, e1⟩ := Option.bind_eq_some_iff.mp e1
    cases e1
    exact ⟨t, rfl⟩
  obtain ⟨t, rfl⟩ := hx
  obtain rfl := q1.bor.bl
  cases e2
  exact ⟨_, rfl, p H1 s1⟩
theorem m_neg (ha : PE X a (tE Φ ca)) : PE X (.UnaryOp .USub a pos) (tE Φ (.neg ca)) := by
  refine ⟨fun pins s σ H Q I ⟨H0, O0, σm, O, r, S, e, p⟩ => ?_⟩
  unfold ev at e
  obtain ⟨⟨x, t⟩, e1, e⟩ := Option.bind_eq_some_iff.mp e
  cases x with
  | int i =>
    cases e
    refine (pe_un un_neg ha).run pins s σ H Q I (tE_of S e1 fun v H1 s1 q1 => ?_)
    obtain rfl := q1.bor.int
    exact ⟨i, rfl, p _ H1 s1 (.int _)⟩
  | _ => cases e
theorem m_not (ha : PE X a (tE Φ ca)) : PE X (.UnaryOp .Not a pos) (tE Φ (.not ca)) := by
  refine ⟨fun pins s σ H Q I ⟨H0, O0, σm, O, r, S, e, p⟩ => ?_⟩
  unfold ev at e
  obtain ⟨x, e1, e⟩ := Option.bind_eq_some_iff.mp e
  obtain ⟨tb, e2, e⟩ := Option.bind_eq_some_iff.mp e
  cases e
  exact (pe_notT ha).run pins s σ H Q I (tE_of S e1 fun v H1 s1 q1 => ⟨tb, tru_of q1.bor e2, p _ H1 s1 (.bl _)⟩)
theorem t_not (ha : PT X a (tT Φ ca)) : PT X (.UnaryOp .Not a pos) (tT Φ (.not ca)) := by
  refine ⟨fun pins s σ H Q I ⟨H0, O0, σm, O, r, S, e, p⟩ => ?_⟩
  obtain ⟨y, e1, e2⟩ := Option.bind_eq_some_iff.mp e
  unfold ev at e1
  obtain ⟨x, f1, e1⟩ := Option.bind_eq_some_iff.mp e1
  obtain ⟨t, f2, e1⟩ := Option.bind_eq_some_iff.mp e1
  cases e1
  cases e2
  exact (pt_not ha).run pins s σ H Q I ⟨H0, O0, σm, O, t, S, by rw [f1]; exact f2, p⟩
theorem t_plain (ha : PE X a (tE Φ ca)) (he : ∀ whole, isTrue a X.env whole = (do let v ← whole; standAt a.pos; holding [v] (truthy v))) : PT X a (tT Φ ca) := by
  refine ⟨fun pins s σ H Q I ⟨H0, O0, σm, O, b, S, e, p⟩ => ?_⟩
  obtain ⟨y, e1, e2⟩ := Option.bind_eq_some_iff.mp e
  exact (pt_truth ha he).run pins s σ H Q I (tE_of S e1 fun v H1 s1 q1 => ⟨b, tru_of q1.bor e2, p H1 s1⟩)
theorem m_and {r : List Expr} (ha : PE X a (tE Φ ca)) (hb : PE X (.BoolOp .And (b :: r) pos) (tE Φ cb)) : PE X (.BoolOp .And (a :: b :: r) pos) (tE Φ (.and ca cb)) := by
  refine ⟨fun pins s σ H Q I ⟨H0, O0, σm, O, res, S, e, p⟩ => ?_⟩
  unfold ev at e
  obtain ⟨x, e1, e⟩ := Option.bind_eq_some_iff.mp e
  obtain ⟨t, e2, e⟩ := Option.bind_eq_some_iff.mp e
  refine (pe_andT ha hb).run pins s σ H Q I (tE_of S e1 fun v H1 s1 q1 => ⟨t, tru_of q1.bor e2, ?_⟩)
  cases t with
  | true => exact iteT (tE_of (S.up s1) e fun w H2 s2 q2 => p w H2 (s1.trans s2) (q2.weak s1))
  | false => cases e; exact iteF (p v H1 s1 q1)
theorem m_or {r : List Expr} (ha : PE X a (tE Φ ca)) (hb : PE X (.BoolOp .Or (b :: r) pos) (tE Φ cb)) : PE X (.BoolOp .Or (a :: b :: r) pos) (tE Φ (.or ca cb)) := by
  refine ⟨fun pins s σ H Q I ⟨H0, O0, σm, O, res, S, e, p⟩ => ?_⟩
  unfold ev at e
  obtain ⟨x, e1, e⟩ := Option.bind_eq_some_iff.mp e
  obtain ⟨t, e2, e⟩ := Option.bind_eq_some_iff.mp e
  refine (pe_orT ha hb).run pins s σ H Q I (tE_of S e1 fun v H1 s1 q1 => ⟨t, tru_of q1.bor e2, ?_⟩)
  cases t with
  | false => exact iteF (tE_of (S.up s1) e fun w H2 s2 q2 => p w H2 (s1.trans s2) (q2.weak s1))
  | true => cases e; exact iteT (p v H1 s1 q1)
theorem t_and {r : List Expr} (ha : PT X a (tT Φ ca)) (hb : PW X (.BoolOp .And (b :: r) pos) (tT Φ cb)) : PW X (.BoolOp .And (a :: b :: r) pos) (tT Φ (.and ca cb)) := by
  refine ⟨fun wh pins s σ H Q I ⟨H0, O0, σm, O, res, S, e, p⟩ => ?_⟩
  obtain ⟨y, e0, e3⟩ := Option.bind_eq_some_iff.mp e
  unfold ev at e0
  obtain ⟨x, e1, e0⟩ := Option.bind_eq_some_iff.mp e0
  obtain ⟨t, e2, e0⟩ := Option.bind_eq_some_iff.mp e0
  refine (pw_and ha hb).run wh pins s σ H Q I ⟨H0, O0, σm, O, t, S, by rw [e1]; exact e2, fun H1 s1 => ?_⟩
  cases t with
  | true => exact iteT ⟨H0, O0, σm, O, res, S.up s1, by rw [show ev Φ cb σm = some y from e0]; exact e3, fun H2 s2 => p H2 (s1.trans s2)⟩
  | false =>
    cases e0
    rw [e2] at e3
    cases e3
    exact iteF (p H1 s1)
theorem t_or {r : List Expr} (ha : PT X a (tT Φ ca)) (hb : PW X (.BoolOp .Or (b :: r) pos) (tT Φ cb)) : PW X (.BoolOp .Or (a :: b :: r) pos) (tT Φ (.or ca cb)) := by
  refine ⟨fun wh pins s σ H Q I ⟨H0, O0, σm, O, res, S, e, p⟩ => ?_⟩
  obtain ⟨y, e0, e3⟩ := Option.bind_eq_some_iff.mp e
  unfold ev at e0
  obtain ⟨x, e1, e0⟩ := Option.bind_eq_some_iff.mp e0
  obtain ⟨t, e2, e0⟩ := Option.bind_eq_some_iff.mp e0
  refine (pw_or ha hb).run wh pins s σ H Q I ⟨H0, O0, σm, O, t, S, by rw [e1]; exact e2, fun H1 s1 => ?_⟩
  cases t with
  | false => exact iteF ⟨H0, O0, σm, O, res, S.up s1, by rw [show ev Φ cb σm = some y from e0]; exact e3, fun H2 s2 => p H2 (s1.trans s2)⟩
  | true =>
    cases e0
    rw [e2] at e3
    cases e3
    exact iteT (p H1 s1)
theorem m_ite (hc : PT X c (tT Φ cc)) (ha : PE X a (tE Φ ca)) (hb : PE X b (tE Φ cb)) : PE X (.IfExp c a b pos) (tE Φ (.ite cc ca cb)) := by
  refine ⟨fun pins s σ H Q I ⟨H0, O0, σm, O, res, S, e, p⟩ => ?_⟩
  unfold ev at e
  obtain ⟨x, e1, e⟩ := Option.bind_eq_some_iff.mp e
  obtain ⟨t, e2, e⟩ := Option.bind_eq_some_iff.mp e
  refine (pe_ifExp hc ha hb).run pins s σ H Q I ⟨H0, O0, σm, O, t, S, by rw [e1]; exact e2, fun H1 s1 => ?_⟩
  cases t with
  | true => exact iteT (tE_of (S.up s1) e fun w H2 s2 q2 => p w H2 (s1.trans s2) (q2.weak s1))
  | false => exact iteF (tE_of (S.up s1) e fun w H2 s2 q2 => p w H2 (s1.trans s2) (q2.weak s1))
theorem t_ite (hc : PT X c (tT Φ cc)) (ha : PT X a (tT Φ ca)) (hb : PT X b (tT Φ cb)) : PT X (.IfExp c a b pos) (tT Φ (.ite cc ca cb)) := by
  refine ⟨fun pins s σ H Q I ⟨H0, O0, σm, O, res, S, e, p⟩ => ?_⟩
  obtain ⟨y, e0, e3⟩ := Option.bind_eq_some_iff.mp e
  unfold ev at e0
  obtain ⟨x, e1, e0⟩ := Option.bind_eq_some_iff.mp e0
  obtain ⟨t, e2, e0⟩ := Option.bind_eq_some_iff.mp e0
  refine PyProof.Rows.isTrue_IfExp (thn (hc.run pins s σ H (fun d H1 => d = t ∧ Same H H1) I ⟨H0, O0, σm, O, t, S, by rw [e1]; exact e2, fun H1 s1 => ⟨rfl, s1⟩⟩) fun d s1 hz => ?_)
  obtain ⟨H1, I1, rfl, sH⟩ := hz
  cases d with
  | true => exact iteT (ha.run pins s1 σ H1 Q I1 ⟨H0, O0, σm, O, res, S.up sH, by rw [show ev Φ ca σm = some y from e0]; exact e3, fun H2 s2 => p H2 (sH.trans s2)⟩)
  | false => exact iteF (hb.run pins s1 σ H1 Q I1 ⟨H0, O0, σm, O, res, S.up sH, by rw [show ev Φ cb σm = some y from e0]; exact e3, fun H2 s2 => p H2 (sH.trans s2)⟩)
theorem m_idx (hs : notSlice b = true) (ha : PE X a (tE Φ ca)) (hb : PE X b (tE Φ cb)) : PE X (.Subscript a b pos) (tE Φ (.idx ca cb)) := by
  have pl : PlainIx b := by
    intro o i
    cases b <;> first | rfl | cases hs
  refine ⟨fun pins s σ H Q I ⟨H0, O0, σm, O, r, S, e, p⟩ => ?_⟩
  unfold ev at e
  obtain ⟨x, e1, e⟩ := Option.bind_eq_some_iff.mp e
  obtain ⟨y, e2, e⟩ := Option.bind_eq_some_iff.mp e
  obtain ⟨v, e3, e⟩ := Option.bind_eq_some_iff.mp e
  cases e
  refine (pe_ix ix_any ha hb pl).run pins s σ H Q I (tE_of S e1 fun v H1 s1 q1 => tE_of (S.up s1) e2 fun w H2 s2 q2 => ?_)
  exact ⟨O, x.1, y.1, _, (S.up (s1.trans s2)).dom, q1.bor.up s2, q2.bor, e3, fun z H3 s3 q3 => p z H3 (s1.trans (s2.trans s3)) (q3.weak (s1.trans s2))⟩
end
def tO (Φ : Fns) (c : Option CE) : TO := fun σ H Q => ∃ H0 O0 σm O r, Sim H0 O0 σm O σ H ∧ evO Φ c σm = some r ∧ ∀ H', Same H H' → Q r H'
theorem po_ok {f : Expr → CE → Bool} {o : Option Expr} {c : Option CE} (h : chkO f o c = true) (hf : ∀ e ce, f e ce = true → PE X e (tE Φ ce)) : PO X o (tO Φ c) := by
  unfold chkO at h
  split at h
  · refine ⟨fun pins s σ H Q I ⟨H0, O0, σm, O, r, S, e, p⟩ => ?_⟩
    cases e
    exact po_none.run pins s σ H Q I (p H (Same.refl H))
  · refine ⟨fun pins s σ H Q I ⟨H0, O0, σm, O, r, S, e, p⟩ => ?_⟩
    unfold evO at e
    obtain ⟨⟨x, t⟩, e1, e⟩ := Option.bind_eq_some_iff.mp e
    cases x with
    | int i =>
      cases e
      refine (po_some (hf _ _ h)).run pins s σ H Q I (tE_of S e1 fun v H1 s1 q1 => ?_)
      obtain rfl := q1.bor.int
      exact ⟨i, rfl, p H1 s1⟩
    | _ => cases e
  · cases h
theorem m_slc {a : Expr} {ca : CE} {lo hi : Option Expr} {l h : Option CE} {pos p2 : Pos} (ha : PE X a (tE Φ ca)) (hl : PO X lo (tO Φ l)) (hh : PO X hi (tO Φ h)) : PE X (.Subscript a (.Slice lo hi none p2) pos) (tE Φ (.slc ca l h)) := by
  refine ⟨fun pins s σ H Q I ⟨H0, O0, σm, O, r, S, e, p⟩ => ?_⟩
  unfold ev at e
  obtain ⟨x, e1, e⟩ := Option.bind_eq_some_iff.mp e
  obtain ⟨lo', e2, e⟩ := Option.bind_eq_some_iff.mp e
  obtain ⟨hi', e3, e⟩ := Option.bind_eq_some_iff.mp e
  refine (pe_slice sl_any ha hl hh).run pins s σ H Q I (tE_of S e1 fun v H1 s1 q1 => ⟨H0, O0, σm, O, lo', S.up s1, e2, fun H2 s2 => ⟨H0, O0, σm, O, hi', S.up (s1.trans s2), e3, fun H3 s3 => ?_⟩⟩)
  exact ⟨O, x.1, r, (S.up (s1.trans (s2.trans s3))).dom, q1.bor.up (s2.trans s3), e, fun z H4 s4 q4 => p z H4 (s1.trans (s2.trans (s3.trans s4))) (q4.weak (s1.trans (s2.trans s3)))⟩
theorem m_tup {es : List Expr} {cs : List CE} {i : Nat} {pos : Pos} (h : PA X es (tA Φ cs)) : PE X (.Tuple es i pos) (tE Φ (.tup cs)) := by
  refine ⟨fun pins s σ H Q I ⟨H0, O0, σm, O, r, S, e, p⟩ => ?_⟩
  unfold ev at e
  obtain ⟨xs, e1, e⟩ := Option.bind_eq_some_iff.mp e
  obtain ⟨vs, e2, e⟩ := Option.bind_eq_some_iff.mp e
  split at e
  · rename_i hz
    cases e
    refine (pe_tup h).run pins s σ H Q I ⟨H0, O0, σm, O, xs, S, e1, fun ws H1 s1 q => ?_⟩
    have ra := q.keep e2
    refine ⟨by rw [ra.length]; exact SZ_le hz, fun p' hp => ?_⟩
    exact (show Post O H1 Q (.tup vs, .sh) from fun z H2 s2 q2 => p z H2 (s1.trans s2) q2).tup (S.up s1).dom ra hp
  · cases e
theorem m_lst {es : List Expr} {cs : List CE} {pos : Pos} (h : PA X es (tA Φ cs)) : PE X (.List es pos) (tE Φ (.lst cs)) := by
  refine ⟨fun pins s σ H Q I ⟨H0, O0, σm, O, r, S, e, p⟩ => ?_⟩
  unfold ev at e
  obtain ⟨xs, e1, e⟩ := Option.bind_eq_some_iff.mp e
  obtain ⟨vs, e2, e⟩ := Option.bind_eq_some_iff.mp e
  split at e
  · rename_i hz
    cases e
    refine (pe_lst h).run pins s σ H Q I ⟨H0, O0, σm, O, xs, S, e1, fun ws H1 s1 q => ?_⟩
    have ra := q.keep e2
    refine ⟨by rw [ra.length]; exact SZ_le hz, fun p' hp => ?_⟩
    exact (show Post O H1 Q (.lst vs, .fr) from fun z H2 s2 q2 => p z H2 (s1.trans s2) (ResOk.weak s1 q2)).lst (S.up s1).dom ra hp
  · cases e

/-- a built-in called -/
theorem bi_of {b : BI} {cs : List CE} {H0 H : Hp} {O0 O : Addr → Bool} {σm : MS} {σ : L2.St} {r : MV × Tg} {Q : VK} (S : Sim H0 O0 σm O σ H) (e : ev Φ (.bi b cs) σm = some r) (p : Post O H Q r) : tCB (rBi b) (tA Φ cs) σ H Q := by
  unfold ev at e
  obtain ⟨xs, e1, e⟩ := Option.bind_eq_some_iff.mp e
  exact ⟨H0, O0, σm, O, xs, S, e1, fun vs H1 s1 q => ⟨O, _, r, (S.up s1).dom, q.bor, e, fun z H2 s2 q2 => p z H2 (s1.trans s2) (q2.weak s1)⟩⟩
def biVal : BI → Value
  | .len => .builtin "len"
  | .abs => .builtin "abs"
  | .int => .type "int"
  | .bool => .type "bool"
  | .tuple => .type "tuple"
  | .list => .type "list"
  | .sum => .builtin "sum"
  | .max => .builtin "max"
  | .min => .builtin "min"
  | _ => .none
theorem boot_bi {b : BI} (h : biOk b = true) : bootBuiltins (Str.ofString (biStr b)) = some (biVal b) := by
  cases b <;> first | (cases h; done) | (unfold biStr biVal; decide +kernel)
theorem m_bi {b : BI} {x : Str} {p pos : Pos} {a : Expr} {as : List Expr} {cs : List CE} (hb : biOk b = true) (hx : x = Str.ofString (biStr b)) (hc : X.calm = true) (hg : Gl X x) (hm : X.mg x = none) (ha : PA X (a :: as) (tA Φ cs))
    (hn : x ≠ ("__name__" : Str)) (hd : (x == ("__debug__" : Str)) = false) (hs : starEach (a :: as) X.env = (false, eval a X.env) :: starEach as X.env) (hpl : (backTo pos (starEach as X.env)).any (·.1) = false) :
    PE X (.Call (.Name x p) (a :: as) [] pos) (tE Φ (.bi b cs)) := by
  have hv := boot_bi hb
  rw [← hx] at hv
  refine ⟨fun pins s σ H Q I ⟨H0, O0, σm, O, r, S, e, q⟩ => ?_⟩
  cases b with
  | len => exact (pe_callB bi_len hg hm hv ha hn hd hs hpl).run pins s σ H Q I (bi_of S e q)
  | abs => exact (pe_callB bi_abs hg hm hv ha hn hd hs hpl).run pins s σ H Q I (bi_of S e q)
  | int => exact (pe_callTy bi_int hg hm hv ha hn hd hs hpl).run pins s σ H Q I (bi_of S e q)
  | bool => exact (pe_callTy bi_bool hg hm hv ha hn hd hs hpl).run pins s σ H Q I (bi_of S e q)
  | tuple => exact (pe_callTy bi_tuple hg hm hv ha hn hd hs hpl).run pins s σ H Q I (bi_of S e q)
  | list => exact (pe_callTy bi_list hg hm hv ha hn hd hs hpl).run pins s σ H Q I (bi_of S e q)
  | sum => exact (pe_callB (bi_sum hc) hg hm hv ha hn hd hs hpl).run pins s σ H Q I (bi_of S e q)
  | max => exact (pe_callB (bi_max hc) hg hm hv ha hn hd hs hpl).run pins s σ H Q I (bi_of S e q)
  | min => exact (pe_callB (bi_min hc) hg hm hv ha hn hd hs hpl).run pins s σ H Q I (bi_of S e q)
  | _ => cases hb
theorem m_gcd {x : Str} {p pos : Pos} {a : Expr} {as : List Expr} {cs : List CE} (hg : Gl X x) (hm : X.mg x = some (.builtin "math.gcd")) (ha : PA X (a :: as) (tA Φ cs)) (hd : (x == ("__debug__" : Str)) = false)
    (hs : starEach (a :: as) X.env = (false, eval a X.env) :: starEach as X.env) (hpl : (backTo pos (starEach as X.env)).any (·.1) = false) : PE X (.Call (.Name x p) (a :: as) [] pos) (tE Φ (.bi .gcd cs)) :=
  ⟨fun pins s σ H Q I ⟨H0, O0, σm, O, r, S, e, q⟩ => (pe_callBfun bi_gcd hg hm ha hd hs hpl).run pins s σ H Q I (bi_of S e q)⟩
end
end Mn

set_option Elab.async false
set_option linter.all false
set_option maxRecDepth 100000
set_option maxHeartbeats 4000000
/-! Mn7: every expression that passes the check computes what the value language says. -/
namespace Mn
open PySem L2

section
variable {X : Cx} {C : MC} {Φ : Fns} {N : List Str} {k : SC}

theorem Good.blk (G : Good X C Φ N k) (s : Shared) (H : Hp) (scope : Scope) (cl : List (Str × Addr)) (D : Addr) (fp : List Addr) : Good (X.blk s H scope (compEnvC scope cl D X.env) fp) C Φ N ⟨relS scope k.sc, some scope⟩ where
  hN := G.hN
  nd := G.nd
  sc := by
    show relS scope X.env.scope = relS scope k.sc
    rw [G.sc]
  fn := fun x h => by
    unfold locB at h
    simp only at h
    split at h
    · rename_i e
      refine .inr ?_
      show (relS scope X.env.scope).names.lookup x = _
      rw [G.sc]
      exact e
    · exact .inl h
    · cases h
  calm := G.calm
  un := G.un
  gd := G.gd
  bis := G.bis
  imp := G.imp
  fns := fun i x h => ⟨(G.fns i x h).ex⟩

theorem ty_boot (t : Ty) : bootBuiltins (Str.ofString (tyName t)) = some (.type (tyName t)) := by
  cases t <;> (unfold tyName; decide +kernel)
theorem ty_plain (t : Ty) : Str.ofString (tyName t) ≠ ("__name__" : Str) ∧ (Str.ofString (tyName t) == ("__debug__" : Str)) = false := by
  cases t <;> (unfold tyName; decide +kernel)
theorem pe_ty (G : Good X C Φ N k) {e : Expr} {t : Ty} (h : tyB C k e t = true) : PE X e (tC (.ty (tyName t))) := by
  unfold tyB at h
  split at h
  · rw [Bool.and_eq_true, Bool.and_eq_true] at h
    have hx := of_decide_eq_true h.1.1
    have hg := G.gl h.1.2
    have hm := G.bis _ h.2
    subst hx
    exact pe_bltn hg hm (ty_boot _) rfl (ty_plain _).1 (ty_plain _).2
  · cases h
theorem ty_star {e : Expr} {t : Ty} (h : tyB C k e t = true) : notStar e = true := by
  unfold tyB at h
  split at h
  · rfl
  · cases h
theorem ty_set {e : Expr} {t : Ty} {f : Expr → CE → Bool} : True := trivial
def tTys : List Ty → TA
  | [] => tNil
  | t :: ts => tCons (tC (.ty (tyName t))) (tTys ts)
theorem pa_tys (G : Good X C Φ N k) : ∀ {es : List Expr} {ts : List Ty}, tysB C k es ts = true → PA X es (tTys ts)
  | [], [], _ => pa_nil
  | e :: es, t :: ts, h => by
    unfold tysB at h
    rw [Bool.and_eq_true] at h
    exact pa_cons (pe_ty G h.1) (pa_tys G h.2) (star_cons (ty_star h.1))
  | [], t :: ts, h => by unfold tysB at h; cases h
  | e :: es, [], h => by unfold tysB at h; cases h
theorem tys_run {σ : L2.St} {H : Hp} {Q : List V → Hp → Prop} : ∀ {ts : List Ty}, Q (ts.map fun t => V.ty (tyName t)) H → tTys ts σ H Q
  | [], q => q
  | t :: ts, q => tys_run (ts := ts) (Q := fun xs H2 => Q (V.ty (tyName t) :: xs) H2) q
theorem tys_len {es : List Expr} {ts : List Ty} (h : tysB C k es ts = true) : True := trivial

theorem boot_isi : bootBuiltins (Str.ofString "isinstance") = some (.builtin "isinstance") := by decide +kernel
theorem m_isi1 (G : Good X C Φ N k) {x : Str} {p pos : Pos} {a t : Expr} {c : CE} {ty : Ty} (hx : x = Str.ofString "isinstance") (hm : X.mg x = none) (hg : Gl X x) (hp : plainName x = true) (hs : notStar a = true) (ha : PE X a (tE Φ c)) (ht : tyB C k t ty = true) :
    PE X (.Call (.Name x p) [a, t] [] pos) (tE Φ (.isi c [ty])) := by
  obtain ⟨h1, h2, h3⟩ := plain1 hp
  have hv := boot_isi
  rw [← hx] at hv
  have st := ty_star ht
  refine ⟨fun pins s σ H Q I ⟨H0, O0, σm, O, r, S, e, q⟩ => ?_⟩
  unfold ev at e
  obtain ⟨y, e1, e⟩ := Option.bind_eq_some_iff.mp e
  cases e
  refine (pe_callB call_isi hg hm hv (pa_cons ha (pa_cons (pe_ty G ht) pa_nil (star_cons st)) (star_cons hs)) h3 h1 (star_cons hs) (by rw [star_cons st]; rfl)).run pins s σ H Q I ?_
  refine tE_of S e1 fun v H1 s1 q1 => ?_
  refine ⟨v, .ty (tyName ty), .type (tyOf y.1), .type (tyName ty), tyIs y.1 ty, rfl, .ty _, tyx_of q1.bor.rep, kit_ty (kit_one y.1 ty), ?_⟩
  refine q _ H1 s1 ?_
  rw [List.any_cons, List.any_nil, Bool.or_false]
  exact .bl _
theorem m_isi (G : Good X C Φ N k) {x : Str} {p pos p2 : Pos} {a : Expr} {es : List Expr} {i : Nat} {c : CE} {ts : List Ty} (hx : x = Str.ofString "isinstance") (hm : X.mg x = none) (hg : Gl X x) (hp : plainName x = true) (hs : notStar a = true) (ha : PE X a (tE Φ c)) (ht : tysB C k es ts = true)
    (hl : ts.length ≤ 100) : PE X (.Call (.Name x p) [a, .Tuple es i p2] [] pos) (tE Φ (.isi c ts)) := by
  obtain ⟨h1, h2, h3⟩ := plain1 hp
  have hv := boot_isi
  rw [← hx] at hv
  refine ⟨fun pins s σ H Q I ⟨H0, O0, σm, O, r, S, e, q⟩ => ?_⟩
  unfold ev at e
  obtain ⟨y, e1, e⟩ := Option.bind_eq_some_iff.mp e
  cases e
  refine (pe_callB call_isiT hg hm hv (pa_cons ha (pa_cons (pe_tup (pa_tys G ht)) pa_nil rfl) (star_cons hs)) h3 h1 (star_cons hs) rfl).run pins s σ H Q I ?_
  refine tE_of S e1 fun v H1 s1 q1 => ?_
  refine tys_run ⟨by rw [List.length_map]; exact SZ_le (Nat.le_trans hl (by unfold SZ; decide)), fun t ht => ?_⟩
  refine ⟨v, t, _, .type (tyOf y.1), _, ts.any (tyIs y.1), rfl, upd_same, clsv_all ts, tyx_of (q1.bor.rep.up (same_upd ht)), kit_all y.1 ts, ?_⟩
  exact q _ _ (s1.trans (same_upd ht)) (.bl _)

theorem pa_ok {f : Expr → CE → Bool} (hf : ∀ e c, f e c = true → PE X e (tE Φ c)) : ∀ {es : List Expr} {cs : List CE}, chkL f es cs = true → PA X es (tA Φ cs)
  | [], [], _ => pa_no
  | e :: es, c :: cs, h => by
    unfold chkL at h
    rw [Bool.and_eq_true, Bool.and_eq_true] at h
    exact pa_more (hf e c h.1.2) (pa_ok hf h.2) (star_cons h.1.1)
  | [], c :: cs, h => by unfold chkL at h; cases h
  | e :: es, [], h => by unfold chkL at h; cases h

theorem slot_ok (G : Good X C Φ N k) {x : Str} {i : Nat} (h : slotB k N x i = true) : X.N[i]? = some x ∧ Loc X.env.scope x ∧ (X.fn x = true ∨ X.env.scope.names.lookup x = some .local) := by
  unfold slotB at h
  rw [Bool.and_eq_true] at h
  exact ⟨by rw [G.hN]; exact of_decide_eq_true h.1, G.loc h.2, G.fn x h.2⟩
theorem pgs_ok (G : Good X C Φ N k) : ∀ {es : List Expr} {is : List Nat}, namesB k N es is = true → PGs X es (tGs is) ∧ (assignEach es X.env).length = is.length ∧ (assignEach es X.env).findIdx? (·.1) = none
  | [], [], _ => ⟨pgs_no, rfl, rfl⟩
  | e :: es, i :: is, h => by
    cases e with
    | Name x p =>
      unfold namesB at h
      rw [Bool.and_eq_true] at h
      obtain ⟨h1, h2, h3⟩ := slot_ok G h.1
      obtain ⟨q1, q2, q3⟩ := pgs_ok G h.2
      refine ⟨pgs_nm G.nd h1 h2 h3 q1, ?_, ?_⟩
      · show (assignEach es X.env).length + 1 = is.length + 1
        rw [q2]
      · show List.findIdx? (·.1) ((false, assign (.Name x p) X.env) :: assignEach es X.env) = none
        rw [List.findIdx?_cons, q3]
        rfl
    | _ => unfold namesB at h; cases h
  | [], i :: is, h => by unfold namesB at h; cases h
  | e :: es, [], h => by unfold namesB at h; cases e <;> cases h
theorem pg_ok (G : Good X C Φ N k) {e : Expr} {t : TGT} (h : tgB k N e t = true) : PG X e (tG t) := by
  unfold tgB at h
  split at h
  · obtain ⟨h1, h2, h3⟩ := slot_ok G h
    exact pg_nm G.nd h1 h2 h3
  · obtain ⟨q1, q2, q3⟩ := pgs_ok G h
    exact pg_tp G.calm q1 q2 q3
  · cases h

theorem pi_ok (G : Good X C Φ N k) {f : Expr → CE → Bool} (hf : ∀ e c, f e c = true → PE X e (tE Φ c)) {e : Expr} {c : CI} (h : chkI f C k e c = true) (tg : Expr) : PI X tg e (tI Φ c) := by
  unfold chkI at h
  split at h
  · simp only [Bool.and_eq_true] at h
    obtain ⟨⟨⟨⟨h1, h2⟩, h3⟩, h4⟩, h5⟩ := h
    have hx := of_decide_eq_true h1
    subst hx
    exact pi_rng1 (G.gl h2) (G.bis _ h3) (pa_more (hf _ _ h5) pa_no (star_cons h4)) (by rw [star_cons h4]; rfl)
  · simp only [Bool.and_eq_true] at h
    obtain ⟨⟨⟨⟨⟨⟨h1, h2⟩, h3⟩, h4⟩, h5⟩, h6⟩, h7⟩ := h
    have hx := of_decide_eq_true h1
    subst hx
    exact pi_rng2 (G.gl h2) (G.bis _ h3) (pa_more (hf _ _ h6) (pa_more (hf _ _ h7) pa_no (star_cons h5)) (star_cons h4)) (by rw [star_cons h4, star_cons h5]; rfl) (by rw [star_cons h5]; rfl)
  · rw [Bool.and_eq_true] at h
    exact pi_seq (hf _ _ h.2)
  · cases h

theorem isTrue_call {f : Expr} {as : List Expr} {ks : List Keyword} {pos : Pos} {env : Env} : ∀ whole, isTrue (.Call f as ks pos) env whole = (do let v ← whole; standAt (Expr.Call f as ks pos).pos; holding [v] (truthy v)) := fun _ => rfl

/-- a clause's tests -/
theorem pts_ok {ifs : List Expr} {cs : List CE} {f : Expr → CE → Bool} (hf : ∀ e c, f e c = true → PT X e (tT Φ c)) (h : (match ifs, cs with
            | [], [] => true
            | [t], [ct] => f t ct
            | _, _ => false) = true) : PTs X ifs (tTs Φ cs) := by
  split at h
  · refine ⟨fun pins s σ H Q I ⟨H0, O0, σm, O, b, S, e, p⟩ => ?_⟩
    cases e
    exact pts_nil.run pins s σ H Q I (p H (Same.refl H))
  · rename_i t ct
    refine ⟨fun pins s σ H Q I ⟨H0, O0, σm, O, b, S, e, p⟩ => ?_⟩
    unfold evT at e
    obtain ⟨x, e1, e⟩ := Option.bind_eq_some_iff.mp e
    obtain ⟨tb, e2, e⟩ := Option.bind_eq_some_iff.mp e
    have ef : tb = b := by
      cases tb with
      | true => unfold evT at e; exact Option.some.inj e
      | false => exact Option.some.inj e
    subst ef
    exact (pts_one (hf _ _ h)).run pins s σ H Q I ⟨H0, O0, σm, O, tb, S, by rw [e1]; exact e2, p⟩
  · cases h

theorem fin3 {e : Expr} {ce : CE} (z : PE X e (tE Φ ce)) (he : ∀ whole, isTrue e X.env whole = (do let v ← whole; standAt e.pos; holding [v] (truthy v))) (hn : ∀ op vs p, e ≠ .BoolOp op vs p) :
    PE X e (tE Φ ce) ∧ PT X e (tT Φ ce) ∧ (∀ op vs p, e = .BoolOp op vs p → PW X e (tT Φ ce)) := ⟨z, t_plain z he, fun op vs p h => absurd h (hn op vs p)⟩

theorem chk_all : ∀ (n : Nat) (X : Cx) (C : MC) (Φ : Fns) (N : List Str) (k : SC) (e : Expr) (ce : CE), Good X C Φ N k → chkE n C N k e ce = true →
    PE X e (tE Φ ce) ∧ PT X e (tT Φ ce) ∧ (∀ op vs p, e = .BoolOp op vs p → PW X e (tT Φ ce)) := by
  intro n
  induction n with
  | zero => intro X C Φ N k e ce G h; unfold chkE at h; cases h
  | succ n ih =>
    intro X C Φ N k e ce G h
    have pe : ∀ e c, chkE n C N k e c = true → PE X e (tE Φ c) := fun e c h => (ih X C Φ N k e c G h).1
    have pt : ∀ e c, chkE n C N k e c = true → PT X e (tT Φ c) := fun e c h => (ih X C Φ N k e c G h).2.1
    unfold chkE at h
    split at h
    · rename_i op a p
      have z := ih X C Φ N k a ce G h
      cases op with
      | And => exact ⟨pe_one z.1, (pw_and1 z.2.1).pt, fun _ _ _ _ => pw_and1 z.2.1⟩
      | Or => exact ⟨pe_one z.1, (pw_or1 z.2.1).pt, fun _ _ _ _ => pw_or1 z.2.1⟩
    · rw [Bool.and_eq_true] at h
      have z := ih X C Φ N k _ _ G h.2
      have w := t_and (pt _ _ h.1) (z.2.2 _ _ _ rfl)
      exact ⟨m_and (pe _ _ h.1) z.1, w.pt, fun _ _ _ _ => w⟩
    · rw [Bool.and_eq_true] at h
      have z := ih X C Φ N k _ _ G h.2
      have w := t_or (pt _ _ h.1) (z.2.2 _ _ _ rfl)
      exact ⟨m_or (pe _ _ h.1) z.1, w.pt, fun _ _ _ _ => w⟩
    · exact fin3 (m_const (X := X) (Φ := Φ) h) (fun _ => rfl) (fun _ _ _ e => nomatch e)
    · rw [Bool.and_eq_true, Bool.and_eq_true] at h
      obtain ⟨h1, h2, h3⟩ := plain1 h.2
      exact fin3 (m_var (X := X) (Φ := Φ) (by rw [G.hN]; exact of_decide_eq_true h.1.1) (G.vis h.1.2) h1 h2) (fun _ => rfl) (fun _ _ _ e => nomatch e)
    · rw [Bool.and_eq_true, Bool.and_eq_true] at h
      exact fin3 (m_bin h.1.1 (pe _ _ h.1.2) (pe _ _ h.2)) (fun _ => rfl) (fun _ _ _ e => nomatch e)
    · exact fin3 (m_neg (pe _ _ h)) (fun _ => rfl) (fun _ _ _ e => nomatch e)
    · exact ⟨m_not (pe _ _ h), t_not (pt _ _ h), fun _ _ _ e => nomatch e⟩
    · simp only [Bool.and_eq_true] at h
      obtain ⟨⟨⟨h1, h2⟩, h3⟩, h4⟩ := h
      exact ⟨m_cmp G.un h1 h2 (pe _ _ h3) (pe _ _ h4), t_cmp G.un h1 h2 (pe _ _ h3) (pe _ _ h4), fun _ _ _ e => nomatch e⟩
    · simp only [Bool.and_eq_true] at h
      obtain ⟨⟨h1, h2⟩, h3⟩ := h
      exact ⟨m_ite (pt _ _ h1) (pe _ _ h2) (pe _ _ h3), t_ite (pt _ _ h1) (pt _ _ h2) (pt _ _ h3), fun _ _ _ e => nomatch e⟩
    · simp only [Bool.and_eq_true] at h
      obtain ⟨⟨⟨h1, h2⟩, h3⟩, h4⟩ := h
      obtain ⟨p1, p2, p3⟩ := plain1 h3
      have F := G.fns _ _ (of_decide_eq_true h1)
      rename_i x p as pos i cs
      have z : PE X (.Call (.Name x p) as [] pos) (tE Φ (.call i cs)) := by
        cases as with
        | nil =>
          cases cs with
          | nil => exact pe_fn0 F G.gd (G.gl h2) p1
          | cons _ _ => unfold chkL at h4; cases h4
        | cons a as =>
          cases cs with
          | nil => unfold chkL at h4; cases h4
          | cons c cs =>
            have hh := h4
            unfold chkL at hh
            rw [Bool.and_eq_true, Bool.and_eq_true] at hh
            exact pe_fn F G.gd (G.gl h2) p1 (pa_ok pe h4) (star_cons hh.1.1) (star_any hh.2)
      exact ⟨z, t_plain z fun _ => rfl, fun _ _ _ e => nomatch e⟩
    · simp only [Bool.and_eq_true] at h
      obtain ⟨⟨⟨h1, h2⟩, h3⟩, h4⟩ := h
      obtain ⟨p1, p2, p3⟩ := plain1 h3
      have hh := h4
      unfold chkL at hh
      rw [Bool.and_eq_true, Bool.and_eq_true] at hh
      exact fin3 (m_gcd (G.gl h2) (G.imp _ (of_decide_eq_true h1)) (pa_ok pe h4) p1 (star_cons hh.1.1) (star_any hh.2)) (fun _ => rfl) (fun _ _ _ e => nomatch e)
    · simp only [Bool.and_eq_true] at h
      obtain ⟨⟨⟨⟨⟨h1, h2⟩, h3⟩, h4⟩, h5⟩, h6⟩ := h
      obtain ⟨p1, p2, p3⟩ := plain1 h5
      have hh := h6
      unfold chkL at hh
      rw [Bool.and_eq_true, Bool.and_eq_true] at hh
      exact fin3 (m_bi h2 (of_decide_eq_true h1) G.calm (G.gl h4) (G.bis _ h3) (pa_ok pe h6) p3 p1 (star_cons hh.1.1) (star_any hh.2)) (fun _ => rfl) (fun _ _ _ e => nomatch e)
    · simp only [Bool.and_eq_true] at h
      obtain ⟨⟨⟨⟨⟨⟨⟨h1, h2⟩, h3⟩, h4⟩, h5⟩, h6⟩, h7⟩, h8⟩ := h
      exact fin3 (m_isi G (of_decide_eq_true h1) (G.bis _ h2) (G.gl h3) h4 h5 (pe _ _ h6) h7 (of_decide_eq_true h8)) (fun _ => rfl) (fun _ _ _ e => nomatch e)
    · simp only [Bool.and_eq_true] at h
      obtain ⟨⟨⟨⟨⟨⟨h1, h2⟩, h3⟩, h4⟩, h5⟩, h6⟩, h7⟩ := h
      exact fin3 (m_isi1 G (of_decide_eq_true h1) (G.bis _ h2) (G.gl h3) h4 h5 (pe _ _ h6) h7) (fun _ => rfl) (fun _ _ _ e => nomatch e)
    · exact fin3 (m_tup (pa_ok pe h)) (fun _ => rfl) (fun _ _ _ e => nomatch e)
    · exact fin3 (m_lst (pa_ok pe h)) (fun _ => rfl) (fun _ _ _ e => nomatch e)
    · simp only [Bool.and_eq_true] at h
      obtain ⟨⟨h1, h2⟩, h3⟩ := h
      exact fin3 (m_slc (pe _ _ h1) (po_ok h2 pe) (po_ok h3 pe)) (fun _ => rfl) (fun _ _ _ e => nomatch e)
    · simp only [Bool.and_eq_true] at h
      obtain ⟨⟨h1, h2⟩, h3⟩ := h
      exact fin3 (m_idx h1 (pe _ _ h2) (pe _ _ h3)) (fun _ => rfl) (fun _ _ _ e => nomatch e)
    · rename_i elt tg it ifs scope pos c ctg cit cifs
      simp only [Bool.and_eq_true] at h
      obtain ⟨⟨⟨⟨⟨⟨h1, h2⟩, h3⟩, h4⟩, h5⟩, h6⟩, h7⟩ := h
      have ho := of_decide_eq_true h4
      have z : PE X (.ListComp elt [⟨tg, it, ifs, 0⟩] scope pos) (tE Φ (.comp c ctg cit cifs)) := by
        have w := pe_lc (X := X) (elt := elt) (tg := tg) (iter := it) (ifs := ifs) (scope := scope) (own := ownOf tg ctg) (pos := pos) (wi := tI Φ cit) (g := tG ctg) (tt := tTs Φ cifs) (te := tE Φ c) G.calm G.nd (pi_ok G pe h1 tg) (by rw [G.hN, G.sc]; exact blkOk_by h3)
          (fun s H D cl fp => pg_ok (G.blk s H scope cl D fp) h5)
          (fun s H D cl fp => pts_ok (fun e c h => (ih _ C Φ N _ e c (G.blk s H scope cl D fp) h).2.1) h6)
          (fun s H D cl fp => (ih _ C Φ N _ elt c (G.blk s H scope cl D fp) h7).1) (fold_no h2)
        refine ⟨fun pins s σ H Q I q => w.run pins s σ H Q I ?_⟩
        rw [ho]
        exact lc_of q
      exact fin3 z (fun _ => rfl) (fun _ _ _ e => nomatch e)
    · cases h
theorem chk_pe {n : Nat} {e : Expr} {ce : CE} (G : Good X C Φ N k) (h : chkE n C N k e ce = true) : PE X e (tE Φ ce) := (chk_all n X C Φ N k e ce G h).1
theorem chk_pt {n : Nat} {e : Expr} {ce : CE} (G : Good X C Φ N k) (h : chkE n C N k e ce = true) : PT X e (tT Φ ce) := (chk_all n X C Φ N k e ce G h).2.1
end
end Mn

set_option Elab.async false
set_option linter.all false
set_option maxRecDepth 100000
set_option maxHeartbeats 4000000
/-! Mn8: what statements do to a frame; their readings. -/
namespace Mn
open PySem L2
open PySem.MeetsSeq PySem.MeetsSeq2 PySem.MeetsSeq3
open PySem.AutoSeq1 (wpAny_loadPart')

theorem list_ext_tup (l : Addr) (xs : Array Value) (n : Nat) (b : Addr) (ys : Array Value) (n2 : Nat) (dd : Option Addr) (sl : Array (Option Value)) (h0 : ¬(!xs.isEmpty && Builtin.List.listTooLong (xs.size + ys.size)) = true) (h1 : xs.size ≤ sizeLine) (h2 : xs.size + ys.size ≤ sizeLine + 1) :
    Meets (Builtin.«list.extend» ⟨[.ref l, .ref b], []⟩) (fun _ R s => s.heap.get? l = some { cls := .type "list", dict := none, data := .seq xs n, slots := #[] } ∧ s.heap.get? b = some { cls := .type "tuple", dict := dd, data := .seq ys n2, slots := sl } ∧
      R (.ok (.ret Value.none)) { s with heap := s.heap.update l (Obj.mapSeq fun x => x ++ ys), toks := s.toks }) :=
  .of_wp fun prog w A R s h => by
    obtain ⟨hp, g, d, tk, os⟩ := s
    obtain ⟨hl, hb, h⟩ := h
    have f1 := AutoSeq1.idx_int
    have f2 := AutoSeq1.sub_tuple_tuple
    have f3 := AutoSeq1.sub_list_list
    have f4 := AutoSeq1.sub_tuple_list
    have f5 := AutoSeq1.sub_list_tuple
    have z : (xs ++ ys).size ≤ sizeLine + 1 := by rw [Array.size_append]; exact h2
    wp_walk using (wpAny_updateSeq hl rfl (hz := h1) (_hz' := z)), wpAny_loadPart' hl, wpAny_loadPart' hb
    exact ⟨_, rfl, h⟩

section
variable {X : Cx}
/-- xs.extend(ys), ys a list or a tuple -/
def rExtA : V → List V → Hp → VK → Prop := fun x vs H Q => ∃ l b xs zs, x = .ref l ∧ vs = [.ref b] ∧ H l = some (.lst xs) ∧ (Rd H b (.lst zs) ∨ Rd H b (.tup zs)) ∧ xs.length + zs.length ≤ sizeLine ∧ Q .non (upd H l (.lst (xs ++ zs)))
theorem mt_extA : MtM X "list.extend" rExtA := by
  intro pins s σ H x vs v us Q I rx rv ⟨l, b, xs, zs, e1, e2, hH, hB, hz, q⟩
  subst e1
  subst e2
  cases rx
  obtain ⟨u, rfl, ru⟩ := rv.one
  cases ru
  obtain ⟨z, its, n, r, hl, e⟩ := I.lstM hH
  have fin : ∀ (its2 : List Value), Vals zs its2 → EP X pins σ Q .none { s with heap := s.heap.update l (Obj.mapSeq fun x => x ++ its2.toArray), toks := s.toks } := fun its2 r2 => by
    refine ⟨.non, _, I.lset (its' := its ++ its2) hH e (by simp) (r.append r2) ?_, rfl, q⟩
    rw [List.length_append]
    exact hz
  have sz : ∀ (its2 : List Value), Vals zs its2 → its.toArray.size + its2.toArray.size ≤ sizeLine := fun its2 r2 => by
    rw [List.size_toArray, List.size_toArray, ← hl, ← r2.length]
    exact hz
  rcases hB with hB | hB
  · obtain ⟨z2, its2, n2, r2, hl2, eb⟩ := Inv.rdL I hB
    have s2 := sz its2 r2
    have lg : ¬ (!its.toArray.isEmpty && Builtin.List.listTooLong (its.toArray.size + its2.toArray.size)) = true := by rw [notLongL s2, Bool.and_false]; exact Bool.false_ne_true
    exact call_meets F.slot_list_extend ⟨_, e, rfl⟩ F.entry_list_extend (F.args_list_extend_2 _ _)
      (AutoSeq1.list_extend_list_list_0 l its.toArray n b its2.toArray n2 lg (by omega) (by omega)) ⟨e, eb, fin its2 r2⟩
  · obtain ⟨its2, r2, p, _⟩ := I.tuple (SqT.rd hB)
    obtain ⟨⟨cls, dd, data, sl⟩, ho, hc, n2, hd⟩ := p
    simp only at hc hd
    subst hc hd
    have s2 := sz its2 r2
    have lg : ¬ (!its.toArray.isEmpty && Builtin.List.listTooLong (its.toArray.size + its2.toArray.size)) = true := by rw [notLongL s2, Bool.and_false]; exact Bool.false_ne_true
    exact call_meets F.slot_list_extend ⟨_, e, rfl⟩ F.entry_list_extend (F.args_list_extend_2 _ _)
      (list_ext_tup l its.toArray n b its2.toArray n2 dd sl lg (by omega) (by omega)) ⟨e, ho, fin its2 r2⟩
end

section
variable {H0 H H' : Hp} {O0 O : Addr → Bool} {σm : MS} {σ : L2.St}

theorem Sim.lt (S : Sim H0 O0 σm O σ H) {i : Nat} {r : MV × Bool} (e : σm[i]? = some (some r)) : i < σm.length := (List.getElem?_eq_some_iff.mp e).1
/-- a name's list, owned -/
theorem Sim.owned (S : Sim H0 O0 σm O σ H) {i : Nat} {l : List MV} (e : ownL σm i = some l) : σm[i]? = some (some (.lst l, true)) ∧ ∃ p vs, σ[i]? = some (some (.ref p)) ∧ O p = true ∧ O0 p = false ∧ H0 p = none ∧ H p = some (.lst vs) ∧ RepAll (Vw H O) vs l := by
  unfold ownL at e
  split at e
  · rename_i m h
    cases e
    obtain ⟨v, e1, p, vs, l', a, b, c, d, r⟩ := S.slot i _ _ h
    cases a
    subst b
    have o0 := S.own i _ p h e1
    refine ⟨h, p, vs, e1, c, o0, ?_, d, r⟩
    rcases S.new p c with z | z
    · rw [z] at o0; cases o0
    · exact z
  · cases e

/-- the owned list at i changes -/
theorem Sim.mut (S : Sim H0 O0 σm O σ H) {i : Nat} {l l' : List MV} {p : Addr} {vs' : List V} (e : σm[i]? = some (some (.lst l, true))) (ep : σ[i]? = some (some (.ref p))) (hO : O p = true) (h0 : H0 p = none) (r : RepAll (Vw H O) vs' l') :
    Sim H0 O0 (setM σm i (.lst l') true) O σ (upd H p (.lst vs')) where
  len := by unfold setM; rw [List.length_set]; exact S.len
  dom := fun q h => by
    by_cases z : q = p
    · rw [z]; exact ⟨vs', upd_same⟩
    · obtain ⟨ws, w⟩ := S.dom q h
      exact ⟨ws, by rw [upd_ne z]; exact w⟩
  same := fun b o h => by
    rw [upd_ne (fun z => by rw [z, h0] at h; cases h)]
    exact S.same b o h
  sub := S.sub
  new := S.new
  slot := fun j y own h => by
    unfold setM at h
    by_cases hj : i = j
    · subst hj
      rw [List.getElem?_set_self (S.lt e)] at h
      cases h
      refine ⟨.ref p, ep, p, vs', l', rfl, rfl, hO, upd_same, ?_⟩
      rw [Vw_set hO]
      exact r
    · rw [List.getElem?_set_ne hj] at h
      obtain ⟨v, e1, q⟩ := S.slot j y own h
      refine ⟨v, e1, ?_⟩
      cases own with
      | false => show Rep _ _ _; rw [Vw_set hO]; exact q
      | true =>
        obtain ⟨p2, ws, m, a, b, c, d, q⟩ := q
        subst b
        have ne : p2 ≠ p := fun z => by
          subst z
          exact hj (S.dist i j _ _ p2 e h ep e1)
        exact ⟨p2, ws, m, a, rfl, c, by rw [upd_ne ne]; exact d, by rw [Vw_set hO]; exact q⟩
  own := fun j y q h e1 => by
    unfold setM at h
    by_cases hj : i = j
    · subst hj
      exact S.own i _ q e e1
    · rw [List.getElem?_set_ne hj] at h
      exact S.own j y q h e1
  dist := fun j k y z q h1 h2 e1 e2 => by
    have back : ∀ m w, (setM σm i (.lst l') true)[m]? = some (some (w, true)) → ∃ u, σm[m]? = some (some (u, true)) := fun m w h => by
      unfold setM at h
      by_cases hm : i = m
      · subst hm; exact ⟨_, e⟩
      · rw [List.getElem?_set_ne hm] at h; exact ⟨_, h⟩
    obtain ⟨u1, g1⟩ := back j y h1
    obtain ⟨u2, g2⟩ := back k z h2
    exact S.dist j k u1 u2 q g1 g2 e1 e2
theorem mut_view {p : Addr} {o : HO} (hO : O p = true) : Same (Vw H O) (Vw (upd H p o) O) := by
  rw [Vw_set hO]
  exact Same.refl _

/-- a new list is stored: the name owns it -/
theorem Sim.putOwn (S : Sim H0 O0 σm O σ H) {i : Nat} {l : List MV} {p : Addr} {vs : List V} (s : Same H H') (n : H p = none) (h : H' p = some (.lst vs)) (r : RepAll (Vw H' (add O p)) vs l) :
    Sim H0 O0 (setM σm i (.lst l) true) (add O p) (σ.set i (some (.ref p))) H' := by
  have S' := S.hide n s h
  have nO : O p = false := S.dom.new n
  have n0 : O0 p = false := by
    cases e : O0 p with
    | false => rfl
    | true => rw [S.sub p e] at nO; cases nO
  have other : ∀ (j : Nat) (y : MV), σm[j]? = some (some (y, true)) → σ[j]? ≠ some (some (V.ref p)) := fun j y e1 e2 => by
    obtain ⟨v, e3, q, ws, m, a, b, c, d⟩ := S.slot j y true e1
    rw [e3] at e2
    cases e2
    cases b
    rw [c] at nO; cases nO
  refine ⟨by unfold setM; rw [List.length_set, List.length_set]; exact S.len, S'.dom, S'.same, S'.sub, S'.new, fun j y own e => ?_, fun j y q e1 e2 => ?_, fun j k y z q e1 e2 e3 e4 => ?_⟩
  · unfold setM at e
    by_cases hj : i = j
    · subst hj
      by_cases hl : i < σm.length
      · rw [List.getElem?_set_self hl] at e
        cases e
        exact ⟨.ref p, List.getElem?_set_self (by rw [← S.len]; exact hl), p, vs, l, rfl, rfl, add_self, h, r⟩
      · rw [List.getElem?_eq_none (by rw [List.length_set]; omega)] at e; cases e
    · rw [List.getElem?_set_ne hj] at e
      obtain ⟨v, e1, q⟩ := S'.slot j y own e
      exact ⟨v, by rw [List.getElem?_set_ne hj]; exact e1, q⟩
  · unfold setM at e1
    by_cases hj : i = j
    · subst hj
      by_cases hl : i < σ.length
      · rw [List.getElem?_set_self hl] at e2
        cases e2
        exact n0
      · rw [List.getElem?_eq_none (by rw [List.length_set]; omega)] at e2; cases e2
    · rw [List.getElem?_set_ne hj] at e1 e2
      exact S.own j y q e1 e2
  · unfold setM at e1 e2
    by_cases hj : i = j
    · by_cases hk : i = k
      · rw [← hj, hk]
      · exfalso
        subst hj
        rw [List.getElem?_set_ne hk] at e2 e4
        by_cases hl : i < σ.length
        · rw [List.getElem?_set_self hl] at e3
          cases e3
          exact other k z e2 e4
        · rw [List.getElem?_eq_none (by rw [List.length_set]; omega)] at e3; cases e3
    · rw [List.getElem?_set_ne hj] at e1 e3
      by_cases hk : i = k
      · exfalso
        subst hk
        by_cases hl : i < σ.length
        · rw [List.getElem?_set_self hl] at e4
          cases e4
          exact other j y e1 e3
        · rw [List.getElem?_eq_none (by rw [List.length_set]; omega)] at e4; cases e4
      · rw [List.getElem?_set_ne hk] at e2 e4
        exact S.dist j k y z q e1 e2 e3 e4

/-- an owned list is given up -/
theorem Sim.drop (S : Sim H0 O0 σm O σ H) {i : Nat} {x : MV} {own : Bool} (e : σm[i]? = some (some (x, own))) : ∃ O', Sim H0 O0 (setM σm i x false) O' σ H ∧ Same (Vw H O) (Vw H O') := by
  have hset : ∀ (j : Nat) (y : MV) (b : Bool), i ≠ j → (setM σm i x false)[j]? = some (some (y, b)) → σm[j]? = some (some (y, b)) := fun j y b hj h => by
    unfold setM at h
    rw [List.getElem?_set_ne hj] at h
    exact h
  have hself : ∀ (y : MV) (b : Bool), (setM σm i x false)[i]? = some (some (y, b)) → y = x ∧ b = false := fun y b h => by
    unfold setM at h
    rw [List.getElem?_set_self (S.lt e)] at h
    cases h
    exact ⟨rfl, rfl⟩
  cases own with
  | false =>
    refine ⟨O, ?_, Same.refl _⟩
    have : setM σm i x false = σm := by
      unfold setM
      obtain ⟨hl, e'⟩ := List.getElem?_eq_some_iff.mp e
      rw [← e', List.set_getElem_self]
    rw [this]
    exact S
  | true =>
    obtain ⟨v, e1, p, vs, l, a, b, c, d, r⟩ := S.slot i x true e
    subst a
    subst b
    have o0 := S.own i _ p e e1
    have less : ∀ q, (O q && !decide (q = p)) = true → O q = true := fun q h => by rw [Bool.and_eq_true] at h; exact h.1
    have vw : Same (Vw H O) (Vw H fun q => O q && !decide (q = p)) := Vw_less less
    refine ⟨fun q => O q && !decide (q = p), ⟨by unfold setM; rw [List.length_set]; exact S.len, fun q h => S.dom q (less q h), S.same, fun q h => ?_, fun q h => S.new q (less q h), fun j y b h => ?_, fun j y q h e2 => ?_, fun j k y z q h1 h2 e2 e3 => ?_⟩, vw⟩
    · rw [Bool.and_eq_true]
      refine ⟨S.sub q h, ?_⟩
      have : q ≠ p := fun z => by rw [z, o0] at h; cases h
      simp [this]
    · by_cases hj : i = j
      · subst hj
        obtain ⟨rfl, rfl⟩ := hself y b h
        refine ⟨_, e1, .lst (.inl (Vw_of (by simp) d)) (r.up vw)⟩
      · obtain ⟨w, e2, q⟩ := S.slot j y b (hset j y b hj h)
        refine ⟨w, e2, ?_⟩
        cases b with
        | false => exact Rep.up vw q
        | true =>
          obtain ⟨p2, ws, m, a, b, c2, d2, r2⟩ := q
          subst b
          have ne : p2 ≠ p := fun z => by
            subst z
            exact hj (S.dist i j _ _ p2 e (hset j y true hj h) e1 e2)
          exact ⟨p2, ws, m, a, rfl, by simp [c2, ne], d2, r2.up vw⟩
    · by_cases hj : i = j
      · subst hj; cases (hself y true h).2
      · exact S.own j y q (hset j y true hj h) e2
    · by_cases hj : i = j
      · subst hj; cases (hself y true h1).2
      · by_cases hk : i = k
        · subst hk; cases (hself z true h2).2
        · exact S.dist j k y z q (hset j y true hj h1) (hset k z true hk h2) e2 e3
end

/-! ### readings of statements -/
/-- what is wanted behind a statement, by its way -/
def FinS (H0 : Hp) (O0 : Addr → Bool) (D : Ends) (O : Addr → Bool) (H : Hp) : Flow → Prop
  | .nx σm' => ∀ σ' H' O', Sim H0 O0 σm' O' σ' H' → Same (Vw H O) (Vw H' O') → D.nx σ' H'
  | .bk σm' => ∀ σ' H' O', Sim H0 O0 σm' O' σ' H' → Same (Vw H O) (Vw H' O') → D.bk σ' H'
  | .ct σm' => ∀ σ' H' O', Sim H0 O0 σm' O' σ' H' → Same (Vw H O) (Vw H' O') → D.ct σ' H'
  | .ret v own => ∀ w H', Same H0 H' → ResOk O0 H0 H' (v, tagOf own) w → D.rt w H'
def tS (Φ : Fns) (L : Nat) (c : CS) : TS := fun D σ H => ∃ H0 O0 σm O fl, Sim H0 O0 σm O σ H ∧ ex Φ L c σm = some fl ∧ FinS H0 O0 D O H fl
def tSs (Φ : Fns) (L : Nat) (cs : List CS) : TS := fun D σ H => ∃ H0 O0 σm O fl, Sim H0 O0 σm O σ H ∧ exs Φ L cs σm = some fl ∧ FinS H0 O0 D O H fl

theorem FinS.up {H0 : Hp} {O0 : Addr → Bool} {D : Ends} {O O' : Addr → Bool} {H H' : Hp} (s : Same (Vw H O) (Vw H' O')) : ∀ {fl : Flow}, FinS H0 O0 D O H fl → FinS H0 O0 D O' H' fl
  | .nx _, f => fun σ' H2 O2 S w => f σ' H2 O2 S (s.trans w)
  | .bk _, f => fun σ' H2 O2 S w => f σ' H2 O2 S (s.trans w)
  | .ct _, f => fun σ' H2 O2 S w => f σ' H2 O2 S (s.trans w)
  | .ret _ _, f => f

section
variable {X : Cx} {Φ : Fns} {L : Nat}
theorem ss_no : PSs X [] (tSs Φ L []) := ⟨fun pins s σ H D I ⟨H0, O0, σm, O, fl, S, e, f⟩ => by
  cases e
  exact pss_nil.run pins s σ H D I (f σ H O S (Same.refl _))⟩
theorem ss_more {st : Stmt} {sts : List Stmt} {c : CS} {cs : List CS} (h1 : PS X st (tS Φ L c)) (h2 : PSs X sts (tSs Φ L cs)) : PSs X (st :: sts) (tSs Φ L (c :: cs)) := by
  refine ⟨fun pins s σ H D I ⟨H0, O0, σm, O, fl, S, e, f⟩ => ?_⟩
  unfold exs at e
  obtain ⟨f1, e1, e⟩ := Option.bind_eq_some_iff.mp e
  refine (pss_cons h1 h2).run pins s σ H D I ⟨H0, O0, σm, O, f1, S, e1, ?_⟩
  cases f1 with
  | nx σm1 => exact fun σ1 H1 O1 S1 w => ⟨H0, O0, σm1, O1, fl, S1, e, f.up w⟩
  | ret v own => cases e; exact f
  | bk σm1 => cases e; exact f
  | ct σm1 => cases e; exact f
theorem ss_drop {sts : List Stmt} {i : Nat} {cs : List CS} (h : PSs X sts (tSs Φ L cs)) : PSs X sts (tSs Φ L (.drop i :: cs)) := by
  refine ⟨fun pins s σ H D I ⟨H0, O0, σm, O, fl, S, e, f⟩ => ?_⟩
  unfold exs at e
  obtain ⟨f1, e1, e⟩ := Option.bind_eq_some_iff.mp e
  unfold ex at e1
  split at e1
  · rename_i x own hx
    cases e1
    obtain ⟨O', S', w⟩ := S.drop hx
    exact h.run pins s σ H D I ⟨H0, O0, _, O', fl, S', e, f.up w⟩
  · cases e1

theorem m_asg {i : Nat} {x : Str} {e : Expr} {c : CE} {px pos : Pos} (hN : X.N.Nodup) (hi : X.N[i]? = some x) (hx : Loc X.env.scope x) (hf : X.fn x = true ∨ X.env.scope.names.lookup x = some .local)
    (h : PS X (.Assign [.Name x px] e pos) (tAsg (tE Φ c) (gName i))) : PS X (.Assign [.Name x px] e pos) (tS Φ L (.asg i c)) := by
  refine ⟨fun pins s σ H D I ⟨H0, O0, σm, O, fl, S, ev', f⟩ => ?_⟩
  unfold ex at ev'
  obtain ⟨⟨v, t⟩, e1, ev'⟩ := Option.bind_eq_some_iff.mp ev'
  obtain ⟨σm', e2, ev'⟩ := Option.bind_eq_some_iff.mp ev'
  cases ev'
  refine h.run pins s σ H D I (tE_of S e1 fun w H1 s1 q => ?_)
  cases t with
  | sh => cases e2; exact f _ H1 O ((S.up s1).put q) (Vw_up s1)
  | bo => cases e2
  | fr =>
    cases e2
    cases v with
    | lst l =>
      obtain ⟨p, vs, rfl, n, hp, r⟩ := q.2 l rfl
      exact f _ H1 (add O p) (S.putOwn s1 n hp r) (Vw_new s1 n)
    | _ => exact f _ H1 O ((S.up s1).put q.1) (Vw_up s1)
theorem m_expr {e : Expr} {c : CE} {pos : Pos} (he : PE X e (tE Φ c)) (hs : swapsWith e none pos.line X.env = pure false) : PS X (.Expr e pos) (tS Φ L (.expr c)) := by
  refine ⟨fun pins s σ H D I ⟨H0, O0, σm, O, fl, S, ev', f⟩ => ?_⟩
  unfold ex at ev'
  obtain ⟨r, e1, ev'⟩ := Option.bind_eq_some_iff.mp ev'
  cases ev'
  exact (ps_expr he hs).run pins s σ H D I (tE_of S e1 fun w H1 s1 q => f _ H1 O (S.up s1) (Vw_up s1))
theorem ret_res {H0 H H1 : Hp} {O0 O : Addr → Bool} {σm : MS} {σ : L2.St} {r : MV × Tg} {w : V} {D : Ends} (S : Sim H0 O0 σm O σ H) (s1 : Same H H1) (q : ResOk O H H1 r w) (ho : r.2 = .bo → ∀ p, w = .ref p → O0 p = false) (f : FinS H0 O0 D O H (retM r)) : D.rt w H1 := by
  obtain ⟨v, t⟩ := r
  have less : ∀ p, O0 p = true → O p = true := S.sub
  cases t with
  | sh => exact f w H1 (S.same.trans s1) (Rep.up (Vw_less less) q)
  | fr =>
    refine f w H1 (S.same.trans s1) ⟨q.1.up (Vw_less less), fun l e => ?_⟩
    obtain ⟨p, vs, a, b, c, d⟩ := q.2 l e
    refine ⟨p, vs, a, S.same.free b, c, d.up (Vw_less fun b hb => ?_)⟩
    rcases of_add hb with z | z
    · exact add_of (less b z)
    · rw [z]; exact add_self
  | bo =>
    obtain ⟨p, vs, l, a, b, c, d, e⟩ := q
    subst a
    subst b
    have o0 := ho rfl p rfl
    have n0 : H0 p = none := by
      rcases S.new p c with z | z
      · rw [z] at o0; cases o0
      · exact z
    refine f (.ref p) H1 (S.same.trans s1) ⟨.lst (.inl (Vw_of o0 d)) (e.up (Vw_less less)), fun m em => ?_⟩
    cases em
    refine ⟨p, vs, rfl, n0, d, e.up (Vw_less fun b hb => ?_)⟩
    rcases of_add hb with z | z
    · exact less b z
    · rw [z]; exact c
theorem m_ret {e : Expr} {c : CE} {pos : Pos} (he : PE X e (tE Φ c)) (hv : ∀ i, c = .var i → ∃ x px, e = .Name x px ∧ X.N[i]? = some x ∧ Vis X.env.scope x ∧ (x == ("__debug__" : Str)) = false ∧ (x == ("__classdict__" : Str)) = false) : PS X (.Return (some e) pos) (tS Φ L (.ret c)) := by
  refine ⟨fun pins s σ H D I ⟨H0, O0, σm, O, fl, S, ev', f⟩ => ?_⟩
  unfold ex at ev'
  obtain ⟨r, e1, ev'⟩ := Option.bind_eq_some_iff.mp ev'
  split at ev'
  · cases ev'
  · rename_i hr
    cases ev'
    by_cases hb : r.2 = .bo
    · have hc : isVar c = true := by
        cases z : isVar c with
        | true => rfl
        | false => exact absurd ⟨hb, z⟩ hr
      cases c with
      | var i =>
        obtain ⟨x, px, rfl, h1, h2, h3, h4⟩ := hv i rfl
        unfold ev at e1
        obtain ⟨v, g1, g2⟩ := S.get e1
        refine (ps_ret (pe_var h1 h2 h3 h4)).run pins s σ H D I ⟨v, g1, ret_res S (Same.refl H) g2 (fun _ p hp => ?_) f⟩
        unfold getM at e1
        split at e1
        · rename_i y own hy
          cases e1
          cases own with
          | true => exact S.own i y p hy (by rw [g1, hp])
          | false => cases hb
        · cases e1
      | _ => cases hc
    · exact (ps_ret he).run pins s σ H D I (tE_of S e1 fun w H1 s1 q => ret_res S s1 q (fun z => absurd z hb) f)
theorem m_retN {pos : Pos} : PS X (.Return none pos) (tS Φ L .retN) := by
  refine ⟨fun pins s σ H D I ⟨H0, O0, σm, O, fl, S, ev', f⟩ => ?_⟩
  cases ev'
  exact ps_retN.run pins s σ H D I (f .non H S.same .non)
theorem m_if {t : Expr} {a b : List Stmt} {c : CE} {ca cb : List CS} {pos : Pos} (ht : PT X t (tT Φ c)) (ha : PSs X a (tSs Φ L ca)) (hb : PSs X b (tSs Φ L cb)) : PS X (.If t a b pos) (tS Φ L (.ite c ca cb)) := by
  refine ⟨fun pins s σ H D I ⟨H0, O0, σm, O, fl, S, ev', f⟩ => ?_⟩
  unfold ex at ev'
  obtain ⟨x, e1, ev'⟩ := Option.bind_eq_some_iff.mp ev'
  obtain ⟨tb, e2, ev'⟩ := Option.bind_eq_some_iff.mp ev'
  refine (ps_if ht ha hb).run pins s σ H D I ⟨H0, O0, σm, O, tb, S, by rw [e1]; exact e2, fun H1 s1 => ?_⟩
  cases tb with
  | true => exact iteT ⟨H0, O0, σm, O, fl, S.up s1, ev', f.up (Vw_up s1)⟩
  | false => exact iteF ⟨H0, O0, σm, O, fl, S.up s1, ev', f.up (Vw_up s1)⟩
theorem m_brk {pos : Pos} : PS X (.Break pos) (tS Φ L .brk) := by
  refine ⟨fun pins s σ H D I ⟨H0, O0, σm, O, fl, S, ev', f⟩ => ?_⟩
  cases ev'
  exact ps_break.run pins s σ H D I (f σ H O S (Same.refl _))
theorem m_cnt {pos : Pos} : PS X (.Continue pos) (tS Φ L .cnt) := by
  refine ⟨fun pins s σ H D I ⟨H0, O0, σm, O, fl, S, ev', f⟩ => ?_⟩
  cases ev'
  exact ps_continue.run pins s σ H D I (f σ H O S (Same.refl _))
theorem m_pass {pos : Pos} : PS X (.Pass pos) (tS Φ L .pass) := by
  refine ⟨fun pins s σ H D I ⟨H0, O0, σm, O, fl, S, ev', f⟩ => ?_⟩
  cases ev'
  exact ps_pass.run pins s σ H D I (f σ H O S (Same.refl _))

theorem m_for {tg it : Expr} {body : List Stmt} {g : TGT} {c : CI} {cb : List CS} {pos : Pos} (hx : X.xe = fun _ _ => False) (hc : X.calm = true) (hi : PI X tg it (tI Φ c)) (hg : PG X tg (tG g)) (hb : PSs X body (tSs Φ L cb)) (hs : ∀ x, foldedSetIterable it X.env x = pure x) :
    PS X (.For tg it body [] pos) (tS Φ L (.forS g c cb)) := by
  refine ⟨fun pins s σ H D I ⟨H0, O0, σm, O, fl, S, ev', f⟩ => ?_⟩
  unfold ex at ev'
  obtain ⟨items, e1, ev'⟩ := Option.bind_eq_some_iff.mp ev'
  split at ev'
  · cases ev'
  rename_i hbo
  generalize hgf : (fun x σ' => (putT σ' g x).bind fun σ2 => exs Φ L cb σ2) = gf at ev'
  refine (ps_for (by rw [hx]; exact PySem.PassesOwn.never) hc hi hg hb hs).run pins s σ H D I ⟨H0, O0, σm, O, items, S, e1, fun J H1 vs s1 ra itr => ?_⟩
  have hlen : vs.length = items.1.length := ra.length
  refine ⟨fun i m σ2 H2 => m = vs.length - i ∧ i ≤ vs.length ∧ ∃ σm' O', Sim H0 O0 σm' O' σ2 H2 ∧ Same (Vw H1 O) (Vw H2 O') ∧ goFor gf (items.1.drop i) σm' = some fl, ⟨vs.length, rfl, Nat.zero_le _, σm, O, S.up s1, Same.refl _, ev'⟩, ?_⟩
  rintro i m σ2 H2 ⟨rfl, hi', σm', O', S', sv, hgo⟩
  have hst : stay items.2 O H1 H2 := fun b o e n => by
    rcases n with n | n
    · exact absurd n hbo
    · exact Vw_le _ _ (sv _ _ (Vw_of n e))
  have F2 : FinS H0 O0 D O' H2 fl := f.up ((Vw_up s1).trans sv)
  by_cases hlt : i < vs.length
  · obtain ⟨_, hgoi⟩ := itr H2 hst i
    obtain ⟨go, hy⟩ := hgoi hlt
    have hlt' : i < items.1.length := by rw [← hlen]; exact hlt
    rw [List.drop_eq_getElem_cons hlt'] at hgo
    unfold goFor at hgo
    obtain ⟨f1, g1, hgo⟩ := Option.bind_eq_some_iff.mp hgo
    have g1' := g1
    rw [← hgf] at g1
    obtain ⟨σ3, g2, g1⟩ := Option.bind_eq_some_iff.mp g1
    refine .inr ⟨go, fun σ4 H4 => i + 1 ≤ vs.length ∧ ∃ σm4 O4, Sim H0 O0 σm4 O4 σ4 H4 ∧ Same (Vw H1 O) (Vw H4 O4) ∧ goFor gf (items.1.drop (i + 1)) σm4 = some fl, fun σ4 H4 q => ⟨vs.length - (i + 1), by omega, rfl, q.1, q.2⟩, fun x H3 hx3 => ?_⟩
    obtain ⟨e3, hxv⟩ := hy x H3 hx3
    subst e3
    obtain ⟨xm, hxm, rx⟩ := ra.getV i hxv
    have exm : items.1[i] = xm := by
      rw [List.getElem?_eq_getElem hlt'] at hxm
      exact Option.some.inj hxm
    rw [exm] at g2
    refine ⟨H0, O0, σm', O', xm, σ3, S', rx.up sv, g2, fun σ4 S4 _ => ⟨H0, O0, σ3, O', f1, S4, g1, ?_⟩⟩
    cases f1 with
    | nx σ5 => exact fun σ6 H6 O6 S6 w => ⟨hlt, σ5, O6, S6, sv.trans w, hgo⟩
    | ct σ5 => exact fun σ6 H6 O6 S6 w => ⟨hlt, σ5, O6, S6, sv.trans w, hgo⟩
    | bk σ5 => cases hgo; exact F2
    | ret v own => cases hgo; exact F2
  · have e : i = vs.length := by omega
    subst e
    rw [List.drop_eq_nil_of_le (by omega)] at hgo
    cases hgo
    exact .inl ⟨(itr H2 hst _).1 (Nat.le_refl _), F2 σ2 H2 O' S' (Same.refl _)⟩
theorem m_whl {t : Expr} {body : List Stmt} {c : CE} {cb : List CS} {pos : Pos} (hx : X.xe = fun _ _ => False) (ht : PT X t (tT Φ c)) (hb : PSs X body (tSs Φ L cb)) : PS X (.While t body [] pos) (tS Φ L (.whl c cb)) := by
  refine ⟨fun pins s σ H D I ⟨H0, O0, σm, O, fl, S, ev', f⟩ => ?_⟩
  unfold ex at ev'
  generalize hgc : (fun σ' => (ev Φ c σ').bind fun x => truth x.1) = gc at ev'
  generalize hgf : (fun σ' => exs Φ L cb σ') = gf at ev'
  refine (ps_while (by rw [hx]; exact PySem.PassesOwn.never) ht hb).run pins s σ H D I ?_
  refine ⟨fun m σ2 H2 => ∃ σm' O', Sim H0 O0 σm' O' σ2 H2 ∧ Same (Vw H O) (Vw H2 O') ∧ goWhl gc gf m σm' = some fl, ⟨L, σm, O, S, Same.refl _, ev'⟩, ?_⟩
  rintro m σ2 H2 ⟨σm', O', S', sv, hgo⟩
  cases m with
  | zero => unfold goWhl at hgo; cases hgo
  | succ m =>
    unfold goWhl at hgo
    obtain ⟨tb, e1, hgo⟩ := Option.bind_eq_some_iff.mp hgo
    have e1' := e1
    rw [← hgc] at e1
    refine ⟨H0, O0, σm', O', tb, S', e1, fun H3 s3 => ?_⟩
    have F3 : FinS H0 O0 D O' H3 fl := f.up (sv.trans (Vw_up s3))
    cases tb with
    | false => cases hgo; exact iteF (F3 σ2 H3 O' (S'.up s3) (Same.refl _))
    | true =>
      obtain ⟨f1, g1, hgo⟩ := Option.bind_eq_some_iff.mp hgo
      rw [← hgf] at g1
      refine iteT ⟨fun σ4 H4 => ∃ σm4 O4, Sim H0 O0 σm4 O4 σ4 H4 ∧ Same (Vw H O) (Vw H4 O4) ∧ goWhl gc gf m σm4 = some fl, fun σ4 H4 q => ⟨m, Nat.lt_succ_self m, q⟩, ⟨H0, O0, σm', O', f1, S'.up s3, g1, ?_⟩⟩
      cases f1 with
      | nx σ5 => exact fun σ6 H6 O6 S6 w => ⟨σ5, O6, S6, (sv.trans (Vw_up s3)).trans w, hgo⟩
      | ct σ5 => exact fun σ6 H6 O6 S6 w => ⟨σ5, O6, S6, (sv.trans (Vw_up s3)).trans w, hgo⟩
      | bk σ5 => cases hgo; exact F3
      | ret v own => cases hgo; exact F3
end
end Mn

set_option Elab.async false
set_option linter.all false
set_option maxRecDepth 100000
set_option maxHeartbeats 4000000
/-! Mn9: statements that change a list; the check of statements, and that it is right. -/
namespace Mn
open PySem L2

section
variable {X : Cx} {Φ : Fns} {L : Nat}

theorem swaps_sub {e : Expr} {o i : Expr} {p : Pos} {l : Nat} {env : Env} : swapsWith e (some (.Subscript o i p)) l env = pure false := by
  cases e <;> rfl
theorem asg_sub {o k : Expr} {p : Pos} {env : Env} {v : Value} (h : notSlice k = true) : assign (.Subscript o k p) env v = (do
      let ov ← holding [v] (eval o env)
      let iv ← holding [v, ov] (eval k env)
      standAt p
      holding [v, ov, iv] (setItem ov iv v)
      release [v, ov, iv] []) := by
  cases k <;> first | rfl | cases h
theorem m_set {x : Str} {i : Nat} {k e : Expr} {ck ce : CE} {p1 p2 pos : Pos} (hN : X.N[i]? = some x) (hv : Vis X.env.scope x) (hd : (x == ("__debug__" : Str)) = false) (hcd : (x == ("__classdict__" : Str)) = false) (hsl : notSlice k = true) (hk : PE X k (tE Φ ck)) (he : PE X e (tE Φ ce)) :
    PS X (.Assign [.Subscript (.Name x p1) k p2] e pos) (tS Φ L (.set i ck ce)) := by
  refine ⟨fun pins s σ H D I ⟨H0, O0, σm, O, fl, S, ev', f⟩ => ?_⟩
  unfold ex at ev'
  obtain ⟨r, e1, ev'⟩ := Option.bind_eq_some_iff.mp ev'
  obtain ⟨v, e2, ev'⟩ := Option.bind_eq_some_iff.mp ev'
  obtain ⟨⟨y, t⟩, e3, ev'⟩ := Option.bind_eq_some_iff.mp ev'
  cases y with
  | int n =>
    obtain ⟨l, e4, ev'⟩ := Option.bind_eq_some_iff.mp ev'
    obtain ⟨j, e5, ev'⟩ := Option.bind_eq_some_iff.mp ev'
    cases ev'
    refine (ps_asg he (pg_sub (pe_var hN hv hd hcd) hk set_list (fun v => asg_sub hsl)) (@swaps_sub e (.Name x p1) k p2 pos.line X.env) (by rfl)).run pins s σ H D I (tE_of S e1 fun w H1 s1 q1 => ?_)
    obtain ⟨em, p, vs, g1, g2, g3, g4, g5, g6⟩ := S.owned e4
    refine ⟨.ref p, g1, tE_of (S.up s1) e3 fun iv H2 s2 q2 => ?_⟩
    obtain rfl := q2.bor.int
    have S2 := S.up (s1.trans s2)
    have rl : RepAll (Vw H2 O) vs l := g6.up (Vw_up (s1.trans s2))
    refine ⟨p, vs, n, j, rfl, rfl, s2 _ _ (s1 _ _ g5), by rw [rl.length]; exact e5, ?_⟩
    have kw := (q1.keep e2).up (Vw_up s2)
    exact f σ _ O (S2.mut em g1 g2 g4 (rl.set kw j)) ((Vw_up (s1.trans s2)).trans (mut_view g2))
  | _ => cases ev'

theorem m_aug {x : Str} {i : Nat} {op : Operator} {o : BOp} {e : Expr} {ce : CE} {px pos : Pos} (hn : X.N.Nodup) (hN : X.N[i]? = some x) (hx : Loc X.env.scope x) (hf : X.fn x = true ∨ X.env.scope.names.lookup x = some .local) (hop : opB op o = true) (he : PE X e (tE Φ ce)) :
    PS X (.AugAssign (.Name x px) op e pos) (tS Φ L (.aug i o ce)) := by
  refine ⟨fun pins s σ H D I ⟨H0, O0, σm, O, fl, S, ev', f⟩ => ?_⟩
  unfold ex at ev'
  obtain ⟨⟨y, ty⟩, e1, ev'⟩ := Option.bind_eq_some_iff.mp ev'
  obtain ⟨⟨z, tz⟩, e2, ev'⟩ := Option.bind_eq_some_iff.mp ev'
  have key : ∃ a b c, y = .int a ∧ z = .int b ∧ fl = .nx (setM σm i (.int c) false) ∧ ((o = .add ∧ c = a + b) ∨ (o = .sub ∧ c = a - b)) := by
    cases y <;> cases z <;> simp only at ev' <;> first | cases ev' | skip
    cases o <;> simp only at ev' <;> cases ev'
    · exact ⟨_, _, _, rfl, rfl, rfl, .inl ⟨rfl, rfl⟩⟩
    · exact ⟨_, _, _, rfl, rfl, rfl, .inr ⟨rfl, rfl⟩⟩
  obtain ⟨a, b, c, rfl, rfl, rfl, hc⟩ := key
  obtain ⟨v, g1, g2⟩ := S.get e1
  obtain rfl := g2.bor.int
  rcases hc with ⟨rfl, rfl⟩ | ⟨rfl, rfl⟩
  · have ho : op = .Add := by cases op <;> first | rfl | cases hop
    subst ho
    refine (ps_aug hn hN hx he ip_add hf).run pins s σ H D I ⟨_, g1, tE_of S e2 fun w H1 s1 q1 => ?_⟩
    obtain rfl := q1.bor.int
    exact ⟨a, b, rfl, rfl, f _ H1 O ((S.up s1).put (.int _)) (Vw_up s1)⟩
  · have ho : op = .Sub := by cases op <;> first | rfl | cases hop
    subst ho
    refine (ps_aug hn hN hx he ip_sub hf).run pins s σ H D I ⟨_, g1, tE_of S e2 fun w H1 s1 q1 => ?_⟩
    obtain rfl := q1.bor.int
    exact ⟨a, b, rfl, rfl, f _ H1 O ((S.up s1).put (.int _)) (Vw_up s1)⟩

theorem few_one {e : Expr} {cpos : Pos} {env : Env} (h : notStar e = true) : ((backTo cpos (starEach [e] env)).all (fun x => !x.1) && (backToKw cpos (keywordEach [] env)).all (fun x => x.1.isSome)
      && decide ([e].length + ([] : List Keyword).length + (if ([] : List Keyword).isEmpty then 0 else 1) < 30)) = true := by
  rw [star_cons h]
  rfl

theorem m_app {x : Str} {i : Nat} {e : Expr} {ce : CE} {px apos cpos pos : Pos} (hN : X.N[i]? = some x) (hv : Vis X.env.scope x) (hd : (x == ("__debug__" : Str)) = false) (hcd : (x == ("__classdict__" : Str)) = false) (he : PE X e (tE Φ ce)) (hs : notStar e = true) (hl : (apos.endLine == cpos.line) = true) :
    PS X (.Expr (.Call (.Attribute (.Name x px) ("append" : Str) apos) [e] [] cpos) pos) (tS Φ L (.app i ce)) := by
  refine ⟨fun pins s σ H D I ⟨H0, O0, σm, O, fl, S, ev', f⟩ => ?_⟩
  unfold ex at ev'
  obtain ⟨r, e1, ev'⟩ := Option.bind_eq_some_iff.mp ev'
  obtain ⟨v, e2, ev'⟩ := Option.bind_eq_some_iff.mp ev'
  obtain ⟨l, e3, ev'⟩ := Option.bind_eq_some_iff.mp ev'
  split at ev'
  · rename_i hz
    cases ev'
    obtain ⟨em, p, vs, g1, g2, g3, g4, g5, g6⟩ := S.owned e3
    refine (ps_expr (pe_bm PySem.F.plainAttrs_list PySem.F.slot_list_append PySem.F.type_list_append mt_append (pe_var hN hv hd hcd) (pa_cons he pa_nil (star_cons hs)) (by rfl) (few_one hs) hl (star_cons hs) (by rfl)) (by rfl)).run pins s σ H D I ?_
    refine ⟨.ref p, g1, .inl ⟨rfl, vs, SqL.of g5⟩, tE_of S e1 fun w H1 s1 q1 => ?_⟩
    have rl : RepAll (Vw H1 O) vs l := g6.up (Vw_up s1)
    refine ⟨p, vs, w, rfl, rfl, s1 _ _ g5, by rw [rl.length]; exact Nat.lt_of_lt_of_le hz (SZ_le (Nat.le_refl _)), ?_⟩
    exact f σ _ O ((S.up s1).mut em g1 g2 g4 (rl.append (.cons (q1.keep e2) .nil))) ((Vw_up s1).trans (mut_view g2))
  · cases ev'
theorem m_ext {x : Str} {i : Nat} {e : Expr} {ce : CE} {px apos cpos pos : Pos} (hN : X.N[i]? = some x) (hv : Vis X.env.scope x) (hd : (x == ("__debug__" : Str)) = false) (hcd : (x == ("__classdict__" : Str)) = false) (he : PE X e (tE Φ ce)) (hs : notStar e = true) (hl : (apos.endLine == cpos.line) = true) :
    PS X (.Expr (.Call (.Attribute (.Name x px) ("extend" : Str) apos) [e] [] cpos) pos) (tS Φ L (.ext i ce)) := by
  refine ⟨fun pins s σ H D I ⟨H0, O0, σm, O, fl, S, ev', f⟩ => ?_⟩
  unfold ex at ev'
  obtain ⟨r, e1, ev'⟩ := Option.bind_eq_some_iff.mp ev'
  obtain ⟨m, e2, ev'⟩ := Option.bind_eq_some_iff.mp ev'
  obtain ⟨l, e3, ev'⟩ := Option.bind_eq_some_iff.mp ev'
  split at ev'
  · rename_i hz
    cases ev'
    obtain ⟨em, p, vs, g1, g2, g3, g4, g5, g6⟩ := S.owned e3
    refine (ps_expr (pe_bm PySem.F.plainAttrs_list PySem.F.slot_list_extend PySem.F.type_list_extend mt_extA (pe_var hN hv hd hcd) (pa_cons he pa_nil (star_cons hs)) (by rfl) (few_one hs) hl (star_cons hs) (by rfl)) (by rfl)).run pins s σ H D I ?_
    refine ⟨.ref p, g1, .inl ⟨rfl, vs, SqL.of g5⟩, tE_of S e1 fun w H1 s1 q1 => ?_⟩
    have rl : RepAll (Vw H1 O) vs l := g6.up (Vw_up s1)
    obtain ⟨b, ws, rfl, rb, hk⟩ := q1.bor.items e2
    refine ⟨p, b, vs, ws, rfl, rfl, s1 _ _ g5, ?_, by rw [rl.length, rb.length]; exact SZ_le hz, ?_⟩
    · rcases hk with ⟨_, h⟩ | ⟨_, h⟩
      · exact .inl h
      · exact .inr h
    · exact f σ _ O ((S.up s1).mut em g1 g2 g4 (rl.append rb)) ((Vw_up s1).trans (mut_view g2))
  · cases ev'

/-- the value of x.pop(..): an item, and the list without it -/
theorem pop_at {l : List MV} {n : Option Int} {y : MV} {l' : List MV} (h : popSem l n = some (y, l')) {G : Hp} {vs : List V} (r : RepAll G vs l) :
    (n = none ∧ ∃ w, vs[vs.length - 1]? = some w ∧ Rep G w y ∧ RepAll G vs.dropLast l') ∨ ∃ (i : Int) (k : Nat) (w : V), n = some i ∧ ixN vs.length i = some k ∧ vs[k]? = some w ∧ Rep G w y ∧ RepAll G (vs.eraseIdx k) l' := by
  cases n with
  | none =>
    have h' : (match l[l.length - 1]? with | some y => some (y, l.dropLast) | none => none) = some (y, l') := h
    cases hz : l[l.length - 1]? with
    | none => rw [hz] at h'; cases h'
    | some z =>
      rw [hz] at h'
      cases h'
      obtain ⟨w, e, q⟩ := r.get _ hz
      exact .inl ⟨rfl, w, by rw [r.length]; exact e, q, r.dropLast⟩
  | some i =>
    have h' : ((ixN l.length i).bind fun k => match l[k]? with | some y => some (y, l.eraseIdx k) | none => none) = some (y, l') := h
    obtain ⟨k, e1, h'⟩ := Option.bind_eq_some_iff.mp h'
    cases hz : l[k]? with
    | none => rw [hz] at h'; cases h'
    | some z =>
      rw [hz] at h'
      cases h'
      obtain ⟨w, e, q⟩ := r.get _ hz
      exact .inr ⟨i, k, w, rfl, by rw [r.length]; exact e1, e, q, r.eraseIdx k⟩
theorem pop_run {x : Str} {i : Nat} {px apos cpos : Pos} {args : List Expr} {ck : Option CE} {H0 H : Hp} {O0 O : Addr → Bool} {σm : MS} {σ : L2.St} {n : Option Int} {l l' : List MV} {y : MV} {Q : VK} (S : Sim H0 O0 σm O σ H) (hN : X.N[i]? = some x) (hv : Vis X.env.scope x) (hd : (x == ("__debug__" : Str)) = false) (hcd : (x == ("__classdict__" : Str)) = false)
    (hl : (apos.endLine == cpos.line) = true) (hk : (args = [] ∧ ck = none) ∨ ∃ e ce, args = [e] ∧ ck = some ce ∧ PE X e (tE Φ ce) ∧ notStar e = true) (e1 : evO Φ ck σm = some n) (e2 : ownL σm i = some l) (e3 : popSem l n = some (y, l'))
    (q : ∀ w H' , Sim H0 O0 (setM σm i (.lst l') true) O σ H' → Same (Vw H O) (Vw H' O) → Rep (Vw H' O) w y → Q w H') :
    ∀ pins s, Inv X pins σ H s → wpAny (model X.prog X.w) X.A (eval (.Call (.Attribute (.Name x px) ("pop" : Str) apos) args [] cpos) X.env) (EP X pins σ Q) X.xe s := by
  intro pins s I
  obtain ⟨em, p, vs, g1, g2, g3, g4, g5, g6⟩ := S.owned e2
  rcases hk with ⟨rfl, rfl⟩ | ⟨e, ce, rfl, rfl, he, hs⟩
  · cases e1
    refine (pe_bm0 PySem.F.plainAttrs_list PySem.F.slot_list_pop PySem.F.type_list_pop mt_pop (pe_var hN hv hd hcd) (by rfl) hl).run pins s σ H Q I ⟨.ref p, g1, .inl ⟨rfl, vs, SqL.of g5⟩, ?_⟩
    rcases pop_at e3 g6 with ⟨_, w, h1, h2, h3⟩ | ⟨i', _, _, h, _⟩
    · refine ⟨p, vs, w, rfl, rfl, g5, h1, q w _ (S.mut em g1 g2 g4 h3) (mut_view g2) ?_⟩
      rw [Vw_set g2]
      exact h2
    · cases h
  · unfold evO at e1
    obtain ⟨⟨z, t⟩, f1, e1⟩ := Option.bind_eq_some_iff.mp e1
    cases z with
    | int m =>
      cases e1
      refine (pe_bm PySem.F.plainAttrs_list PySem.F.slot_list_pop PySem.F.type_list_pop mt_popAt (pe_var hN hv hd hcd) (pa_cons he pa_nil (star_cons hs)) (by rfl) (few_one hs) hl (star_cons hs) (by rfl)).run pins s σ H Q I ⟨.ref p, g1, .inl ⟨rfl, vs, SqL.of g5⟩, ?_⟩
      refine tE_of S f1 fun iv H1 s1 q1 => ?_
      obtain rfl := q1.bor.int
      rcases pop_at e3 g6 with ⟨h, _⟩ | ⟨i', k, w, h, h1, h2, h3, h4⟩
      · cases h
      · cases h
        obtain ⟨b1, b2, b3, b4⟩ := ixN_seq h1
        have g5' := s1 _ _ g5
        obtain ⟨zz, _⟩ := I.lstM g5
        have zl : (sizeLine : Int) < 2 ^ 63 := by decide
        refine ⟨p, vs, m, k, w, rfl, rfl, g5', by omega, by omega, b1, h2, q w _ ((S.up s1).mut em g1 g2 g4 (h4.up (Vw_up s1))) ((Vw_up s1).trans (mut_view g2)) ?_⟩
        rw [Vw_set g2]
        exact h3.up (Vw_up s1)
    | _ => cases e1
theorem m_pop {x : Str} {i : Nat} {px apos cpos pos : Pos} {args : List Expr} {ck : Option CE} (hN : X.N[i]? = some x) (hv : Vis X.env.scope x) (hd : (x == ("__debug__" : Str)) = false) (hcd : (x == ("__classdict__" : Str)) = false)
    (hl : (apos.endLine == cpos.line) = true) (hk : (args = [] ∧ ck = none) ∨ ∃ e ce, args = [e] ∧ ck = some ce ∧ PE X e (tE Φ ce) ∧ notStar e = true) : PS X (.Expr (.Call (.Attribute (.Name x px) ("pop" : Str) apos) args [] cpos) pos) (tS Φ L (.pop none i ck)) := by
  refine ⟨fun pins s σ H D I ⟨H0, O0, σm, O, fl, S, ev', f⟩ => ?_⟩
  unfold ex at ev'
  obtain ⟨n, e1, ev'⟩ := Option.bind_eq_some_iff.mp ev'
  obtain ⟨l, e2, ev'⟩ := Option.bind_eq_some_iff.mp ev'
  obtain ⟨⟨y, l'⟩, e3, ev'⟩ := Option.bind_eq_some_iff.mp ev'
  cases ev'
  have P : PE X (.Call (.Attribute (.Name x px) ("pop" : Str) apos) args [] cpos) (fun σ' H' Q => σ' = σ ∧ H' = H ∧ ∀ w H', Sim H0 O0 (setM σm i (.lst l') true) O σ H' → Same (Vw H O) (Vw H' O) → Rep (Vw H' O) w y → Q w H') :=
    ⟨fun pins2 s2 σ' H' Q I2 h => by
      obtain ⟨rfl, rfl, h⟩ := h
      exact pop_run S hN hv hd hcd hl hk e1 e2 e3 h pins2 s2 I2⟩
  exact (ps_expr P (by rfl)).run pins s σ H D I ⟨rfl, rfl, fun w H' S' v _ => f σ H' O S' v⟩
theorem m_popA {x z : Str} {i j : Nat} {px pz apos cpos pos : Pos} {args : List Expr} {ck : Option CE} (hnd : X.N.Nodup) (hN : X.N[i]? = some x) (hv : Vis X.env.scope x) (hd : (x == ("__debug__" : Str)) = false) (hcd : (x == ("__classdict__" : Str)) = false)
    (hl : (apos.endLine == cpos.line) = true) (hk : (args = [] ∧ ck = none) ∨ ∃ e ce, args = [e] ∧ ck = some ce ∧ PE X e (tE Φ ce) ∧ notStar e = true) (hj : X.N[j]? = some z) (hz : Loc X.env.scope z) (hf : X.fn z = true ∨ X.env.scope.names.lookup z = some .local) :
    PS X (.Assign [.Name z pz] (.Call (.Attribute (.Name x px) ("pop" : Str) apos) args [] cpos) pos) (tS Φ L (.pop (some j) i ck)) := by
  refine ⟨fun pins s σ H D I ⟨H0, O0, σm, O, fl, S, ev', f⟩ => ?_⟩
  unfold ex at ev'
  obtain ⟨n, e1, ev'⟩ := Option.bind_eq_some_iff.mp ev'
  obtain ⟨l, e2, ev'⟩ := Option.bind_eq_some_iff.mp ev'
  obtain ⟨⟨y, l'⟩, e3, ev'⟩ := Option.bind_eq_some_iff.mp ev'
  simp only at ev'
  split at ev'
  · cases ev'
  cases ev'
  have P : PE X (.Call (.Attribute (.Name x px) ("pop" : Str) apos) args [] cpos) (fun σ' H' Q => σ' = σ ∧ H' = H ∧ ∀ w H', Sim H0 O0 (setM σm i (.lst l') true) O σ H' → Same (Vw H O) (Vw H' O) → Rep (Vw H' O) w y → Q w H') :=
    ⟨fun pins2 s2 σ' H' Q I2 h => by
      obtain ⟨rfl, rfl, h⟩ := h
      exact pop_run S hN hv hd hcd hl hk e1 e2 e3 h pins2 s2 I2⟩
  exact (ps_set hnd hj hz P (by rfl) hf).run pins s σ H D I ⟨rfl, rfl, fun w H' S' v r => f _ H' O (S'.put r) v⟩
end

/-! ### the check of statements -/
def notComp : Expr → Bool
  | .ListComp .. => false
  | .SetComp .. => false
  | .DictComp .. => false
  | _ => true
theorem swaps_no {e : Expr} {t : Option Expr} {l : Nat} {env : Env} (h : notComp e = true) : swapsWith e t l env = pure false := by
  cases e <;> first | rfl | cases h
/-- does name = [..] exchange its stores -/
def swapB (k : SC) (x : Str) (px pos : Pos) (scope : Scope) : Bool := (match k.sc.names.lookup x with | some .local => true | _ => false) && (px.line == pos.line) && !(scope.names.any fun (n, k) => n == x && (k == .local || k == .cell))
def nameOk (k : SC) (N : List Str) (x : Str) (i : Nat) : Bool := decide (N[i]? = some x) && visB k.sc x && plainName x
def chkPop (f : Expr → CE → Bool) : List Expr → Option CE → Bool
  | [], none => true
  | [e], some c => notStar e && f e c
  | _, _ => false
def chkBlk (f : Stmt → CS → Bool) : List CS → List Stmt → Bool
  | .drop _ :: cs, ss => chkBlk f cs ss
  | c :: cs, s :: ss => f s c && chkBlk f cs ss
  | [], [] => true
  | _, _ => false
def retB (k : SC) (N : List Str) : Expr → CE → Bool
  | .Name x _, .var i => nameOk k N x i
  | _, .var _ => false
  | _, _ => true
def notComp2 : Expr → Bool
  | .SetComp .. => false
  | .DictComp .. => false
  | _ => true
def chkS : Nat → MC → List Str → SC → Stmt → CS → Bool
  | 0, _, _, _, _, _ => false
  | n + 1, C, N, k, s, c => match s, c with
    | .Assign [.Name z _] (.Call (.Attribute (.Name x _) a apos) args [] cpos) _, .pop (some j) i ck => decide (a = ("pop" : Str)) && nameOk k N x i && slotB k N z j && (apos.endLine == cpos.line) && chkPop (chkE n C N k) args ck
    | .Assign [.Name x _] e _, .asg i ce => slotB k N x i && chkE n C N k e ce && notComp2 e
    | .Assign [.Subscript (.Name x _) i _] e _, .set j ck ce => nameOk k N x j && notSlice i && chkE n C N k i ck && chkE n C N k e ce
    | .AugAssign (.Name x _) op e _, .aug i o ce => slotB k N x i && opB op o && chkE n C N k e ce
    | .Expr (.Call (.Attribute (.Name x _) a apos) [e] [] cpos) _, .app i ce => decide (a = ("append" : Str)) && nameOk k N x i && (apos.endLine == cpos.line) && notStar e && chkE n C N k e ce
    | .Expr (.Call (.Attribute (.Name x _) a apos) [e] [] cpos) _, .ext i ce => decide (a = ("extend" : Str)) && nameOk k N x i && (apos.endLine == cpos.line) && notStar e && chkE n C N k e ce
    | .Expr (.Call (.Attribute (.Name x _) a apos) args [] cpos) _, .pop none i ck => decide (a = ("pop" : Str)) && nameOk k N x i && (apos.endLine == cpos.line) && chkPop (chkE n C N k) args ck
    | .Expr e _, .expr ce => notComp e && chkE n C N k e ce
    | .Return (some e) _, .ret ce => chkE n C N k e ce && retB k N e ce
    | .Return none _, .retN => true
    | .If t a b _, .ite ct ca cb => chkE n C N k t ct && chkBlk (chkS n C N k) ca a && chkBlk (chkS n C N k) cb b
    | .For tg it body [] _, .forS ctg cit cb => chkI (chkE n C N k) C k it cit && notSet it && tgB k N tg ctg && chkBlk (chkS n C N k) cb body
    | .While t body [] _, .whl ct cb => chkE n C N k t ct && chkBlk (chkS n C N k) cb body
    | .Break _, .brk => true
    | .Continue _, .cnt => true
    | .Pass _, .pass => true
    | _, _ => false

section
variable {X : Cx} {C : MC} {Φ : Fns} {L : Nat} {N : List Str} {k : SC}

theorem sw_not {elt : Expr} {gs : List Comprehension} {scope : Scope} {pos py : Pos} {y : Str} {l : Nat} {env : Env} (hk : env.scope.kind = .function) (e : env.scope = k.sc) (h : swapB k y py pos scope = false) :
    swapsWith (.ListComp elt gs scope pos) (some (.Name y py)) l env = pure false := by
  have hb : env.blockKind = .function := by unfold Env.blockKind; rw [hk]; rfl
  have ky : env.kindOf y = k.sc.names.lookup y := by unfold Env.kindOf; rw [e]
  unfold swapsWith
  simp only [hb, ky, Expr.pos]
  unfold swapB at h
  cases z : k.sc.names.lookup y with
  | none => rfl
  | some q =>
    rw [z] at h
    cases q <;> first | rfl | skip
    simp only [Bool.true_and] at h
    show pure _ = pure false
    congr 1
theorem lc_set {n : Nat} (G : Good X C Φ N k) (kd : X.env.scope.kind = .function) {elt : Expr} {gs : List Comprehension} {scope : Scope} {pos spos py : Pos} {ce : CE} {y : Str} {i : Nat} (h : chkE n C N k (.ListComp elt gs scope pos) ce = true)
    (hy : X.N[i]? = some y) (hl : Loc X.env.scope y) (hf : X.fn y = true ∨ X.env.scope.names.lookup y = some .local) : PS X (.Assign [.Name y py] (.ListComp elt gs scope pos) spos) (tAsg (tE Φ ce) (gName i)) := by
  cases hsw : swapB k y py pos scope with
  | false => exact ps_set G.nd hy hl (chk_pe G h) (sw_not kd G.sc hsw) hf
  | true =>
    cases n with
    | zero => unfold chkE at h; cases h
    | succ n =>
      unfold chkE at h
      split at h
      all_goals first | contradiction | skip
      rename_i tg it ifs _ _ c ctg cit cifs heq
      cases heq
      simp only [Bool.and_eq_true] at h
      obtain ⟨⟨⟨⟨⟨⟨h1, h2⟩, h3⟩, h4⟩, h5⟩, h6⟩, h7⟩ := h
      have ho := of_decide_eq_true h4
      unfold swapB at hsw
      simp only [Bool.and_eq_true] at hsw
      obtain ⟨⟨w1, w2⟩, w3⟩ := hsw
      have hloc : X.env.scope.names.lookup y = some .local := by
        rw [G.sc]
        split at w1
        · assumption
        · cases w1
      have w3' : (scope.names.any fun (n, k) => n == y && (k == .local || k == .cell)) = false := by simpa using w3
      have w := ps_setLc (X := X) (i := i) (y := y) (py := py) (spos := spos) (elt := elt) (tg := tg) (iter := it) (ifs := ifs) (scope := scope) (own := ownOf tg ctg) (pos := pos) (wi := tI Φ cit) (g := tG ctg) (tt := tTs Φ cifs) (te := tE Φ c) G.calm G.nd hy hloc
        (sw_true kd hloc w2 w3') (pi_ok G (fun e c h => chk_pe G h) h1 tg) (by rw [G.hN, G.sc]; exact blkOk_by h3)
          (fun s H D cl fp => pg_ok (G.blk s H scope cl D fp) h5)
          (fun s H D cl fp => pts_ok (fun e c h => chk_pt (G.blk s H scope cl D fp) h) h6)
          (fun s H D cl fp => chk_pe (G.blk s H scope cl D fp) h7) (fold_no h2)
      refine ⟨fun pins s σ H D I q => w.run pins s σ H D I ?_⟩
      rw [ho]
      exact lc_of q

theorem name_ok (G : Good X C Φ N k) {x : Str} {i : Nat} (h : nameOk k N x i = true) : X.N[i]? = some x ∧ Vis X.env.scope x ∧ (x == ("__debug__" : Str)) = false ∧ (x == ("__classdict__" : Str)) = false := by
  unfold nameOk at h
  simp only [Bool.and_eq_true] at h
  obtain ⟨⟨h1, h2⟩, h3⟩ := h
  obtain ⟨p1, p2, _⟩ := plain1 h3
  exact ⟨by rw [G.hN]; exact of_decide_eq_true h1, G.vis h2, p1, p2⟩
theorem pop_ok {f : Expr → CE → Bool} (hf : ∀ e c, f e c = true → PE X e (tE Φ c)) {args : List Expr} {ck : Option CE} (h : chkPop f args ck = true) : (args = [] ∧ ck = none) ∨ ∃ e ce, args = [e] ∧ ck = some ce ∧ PE X e (tE Φ ce) ∧ notStar e = true := by
  unfold chkPop at h
  split at h
  · exact .inl ⟨rfl, rfl⟩
  · rw [Bool.and_eq_true] at h
    exact .inr ⟨_, _, rfl, rfl, hf _ _ h.2, h.1⟩
  · cases h
theorem blk_ok {f : Stmt → CS → Bool} (hf : ∀ s c, f s c = true → PS X s (tS Φ L c)) : ∀ {cs : List CS} {ss : List Stmt}, chkBlk f cs ss = true → PSs X ss (tSs Φ L cs)
  | [], [], _ => ss_no
  | [], s :: ss, h => by unfold chkBlk at h; cases h
  | c :: cs, ss, h => by
    unfold chkBlk at h
    split at h
    · rename_i heq
      cases heq
      exact ss_drop (blk_ok hf h)
    · rename_i _ heq
      cases heq
      rw [Bool.and_eq_true] at h
      exact ss_more (hf _ _ h.1) (blk_ok hf h.2)
    · rename_i heq; cases heq
    · cases h
theorem asg_ok (G : Good X C Φ N k) (kd : X.env.scope.kind = .function) {n : Nat} {x : Str} {px pos : Pos} {e : Expr} {i : Nat} {ce : CE} (h : (slotB k N x i && chkE n C N k e ce && notComp2 e) = true) : PS X (.Assign [.Name x px] e pos) (tS Φ L (.asg i ce)) := by
  simp only [Bool.and_eq_true] at h
  obtain ⟨⟨h1, h2⟩, h3⟩ := h
  obtain ⟨s1, s2, s3⟩ := slot_ok G h1
  refine m_asg G.nd s1 s2 s3 ?_
  by_cases hc : notComp e = true
  · exact ps_set G.nd s1 s2 (chk_pe G h2) (swaps_no hc) s3
  · cases e <;> first | exact absurd rfl hc | (cases h3; done) | skip
    exact lc_set G kd h2 s1 s2 s3
theorem chk_st (G : Good X C Φ N k) (kd : X.env.scope.kind = .function) (nox : X.xe = fun _ _ => False) : ∀ (n : Nat) (s : Stmt) (c : CS), chkS n C N k s c = true → PS X s (tS Φ L c) := by
  intro n
  induction n with
  | zero => intro s c h; unfold chkS at h; cases h
  | succ n ih =>
    intro s c h
    have pe : ∀ e c, chkE n C N k e c = true → PE X e (tE Φ c) := fun e c h => chk_pe G h
    unfold chkS at h
    split at h
    · simp only [Bool.and_eq_true] at h
      obtain ⟨⟨⟨⟨h1, h2⟩, h3⟩, h4⟩, h5⟩ := h
      have ha := of_decide_eq_true h1
      subst ha
      obtain ⟨n1, n2, n3, n4⟩ := name_ok G h2
      obtain ⟨s1, s2, s3⟩ := slot_ok G h3
      exact m_popA G.nd n1 n2 n3 n4 h4 (pop_ok pe h5) s1 s2 s3
    · exact asg_ok G kd h
    · simp only [Bool.and_eq_true] at h
      obtain ⟨⟨⟨h1, h2⟩, h3⟩, h4⟩ := h
      obtain ⟨n1, n2, n3, n4⟩ := name_ok G h1
      exact m_set n1 n2 n3 n4 h2 (pe _ _ h3) (pe _ _ h4)
    · simp only [Bool.and_eq_true] at h
      obtain ⟨⟨h1, h2⟩, h3⟩ := h
      obtain ⟨s1, s2, s3⟩ := slot_ok G h1
      exact m_aug G.nd s1 s2 s3 h2 (pe _ _ h3)
    · simp only [Bool.and_eq_true] at h
      obtain ⟨⟨⟨⟨h1, h2⟩, h3⟩, h4⟩, h5⟩ := h
      have ha := of_decide_eq_true h1
      subst ha
      obtain ⟨n1, n2, n3, n4⟩ := name_ok G h2
      exact m_app n1 n2 n3 n4 (pe _ _ h5) h4 h3
    · simp only [Bool.and_eq_true] at h
      obtain ⟨⟨⟨⟨h1, h2⟩, h3⟩, h4⟩, h5⟩ := h
      have ha := of_decide_eq_true h1
      subst ha
      obtain ⟨n1, n2, n3, n4⟩ := name_ok G h2
      exact m_ext n1 n2 n3 n4 (pe _ _ h5) h4 h3
    · simp only [Bool.and_eq_true] at h
      obtain ⟨⟨⟨h1, h2⟩, h3⟩, h4⟩ := h
      have ha := of_decide_eq_true h1
      subst ha
      obtain ⟨n1, n2, n3, n4⟩ := name_ok G h2
      exact m_pop n1 n2 n3 n4 h3 (pop_ok pe h4)
    · simp only [Bool.and_eq_true] at h
      exact m_expr (pe _ _ h.2) (swaps_no h.1)
    · simp only [Bool.and_eq_true] at h
      refine m_ret (pe _ _ h.1) (fun i hi => ?_)
      have hr := h.2
      subst hi
      unfold retB at hr
      split at hr
      · rename_i heq
        cases heq
        obtain ⟨n1, n2, n3, n4⟩ := name_ok G hr
        exact ⟨_, _, rfl, n1, n2, n3, n4⟩
      · cases hr
      · rename_i hx _
        exact absurd rfl (hx i)
    · exact m_retN
    · simp only [Bool.and_eq_true] at h
      obtain ⟨⟨h1, h2⟩, h3⟩ := h
      exact m_if (chk_pt G h1) (blk_ok (ih) h2) (blk_ok ih h3)
    · simp only [Bool.and_eq_true] at h
      obtain ⟨⟨⟨h1, h2⟩, h3⟩, h4⟩ := h
      exact m_for nox G.calm (pi_ok G pe h1 _) (pg_ok G h3) (blk_ok ih h4) (fold_no h2)
    · simp only [Bool.and_eq_true] at h
      exact m_whl nox (chk_pt G h.1) (blk_ok ih h.2)
    · exact m_brk
    · exact m_cnt
    · exact m_pass
    · cases h
end
end Mn

set_option Elab.async false
set_option linter.all false
set_option maxRecDepth 100000
set_option maxHeartbeats 4000000
/-! Mn10: the defs of a text keep their promises at every depth of calls; the law's end. -/
namespace Mn
open PySem L2 PySem.W PyProof.Rows

/-- a def of the text: its statement, names, parameters, what it says in the value language -/
structure FT where
  name : Str
  st : Stmt
  N : List Str
  ps : List Str
  d : FD

def scopeB (N P : List Str) (sc : Scope) : Bool :=
  (match sc.kind with | .function => true | _ => false) && !sc.isCoroutine && !sc.isGenerator && decide N.Nodup && decide (N.take P.length = P) &&
    (P.all fun x => match sc.names.lookup x with | some .local => true | some .cell => true | _ => false) && (sc.names.all fun y => match y.2 with | .free => false | _ => true)
theorem scope_of {N P : List Str} {sc : Scope} (h : scopeB N P sc = true) : FnScope N P sc := by
  unfold scopeB at h
  simp only [Bool.and_eq_true, List.all_eq_true] at h
  obtain ⟨⟨⟨⟨⟨⟨h1, h2⟩, h3⟩, h4⟩, h5⟩, h6⟩, h7⟩ := h
  refine ⟨?_, by simpa using h2, by simpa using h3, of_decide_eq_true h4, of_decide_eq_true h5, fun x hx => ?_, fun y hy e => ?_⟩
  · split at h1
    · assumption
    · cases h1
  · have z := h6 x hx
    split at z
    · exact .inl (by assumption)
    · exact .inr (by assumption)
    · cases z
  · have z := h7 y hy
    rw [e] at z
    cases z
def textB (C : MC) (t : FT) : Bool := scopeB t.N t.ps (defScope t.st) && decide (t.d.np = t.ps.length) && decide (t.d.nn = t.N.length) && chkBlk (chkS 200 C t.N ⟨defScope t.st, none⟩) t.d.body (defBody t.st)

/-- the def stands in the module's namespace -/
structure Stands (K : PySem.W.Frag) (mg : Str → Option Value) (t : FT) : Prop where
  ex : ∃ (f : Addr) (fd : FuncData), mg t.name = some (.ref f) ∧ Fun K t.name t.name t.st f fd ∧ Binds K fd t.ps []
structure Modu (K : PySem.W.Frag) (mg : Str → Option Value) (C : MC) (T : List FT) : Prop where
  names : C.fns = T.map (·.name)
  text : ∀ t ∈ T, textB C t = true
  all : ∀ t ∈ T, Stands K mg t
  bis : ∀ x, C.bis.contains x = true → mg x = none
  imp : ∀ x, (x, BI.gcd) ∈ C.imp → mg x = some (.builtin "math.gcd")

section
variable {P : Program} {w : World} {K : PySem.W.Frag} {mg : Str → Option Value} {base : Heap}

/-- a def by its body, for a caller within which no repr runs -/
theorem FnG.of {k : Nat} {x qual : Str} {st : Stmt} {f : Addr} {fd : FuncData} {N ps : List Str} {sp : Sp} (F : Fun K x qual st f fd) (S : FnScope N ps (defScope st)) (len : ∀ vs H Q E, sp vs H Q E → vs.length = ps.length)
    (hb : ∀ (cdv : Value) (A : Around) (outer : List Env) (s : Shared) (H : Hp) (vs : List V) (Q : VK) (E : XK), Room k (A.deeper (envOfC qual (defScope st) s.heap.objs.size f cdv)) → A.guards = some [] → sp vs H Q E →
      ∃ t, PSs (cxOf CX0 P w K mg base N qual (defScope st) f cdv A outer s H E).nox (defBody st) t ∧ t { nx := fun _ H' => Q .non H', rt := Q } (L2.start N vs) H) : FnG P w K mg base (k + 1) f fd ps sp := by
  obtain ⟨oc, od, kV, doc, pm, an, cdv, ct, osl, e, lk, hcd⟩ := F.ex
  subst e
  refine ⟨len, ?_⟩
  intro A outer s H args us vs Q E room gd e0 bind rv hsp
  have hlen := len _ _ _ _ hsp
  have kin : K.In s.heap := e0.mod.kin.keeps fun b o q => (e0.bs b o q).1
  have lim : s.heap.NoLimit := e0.mod.nolimit.keeps fun b o q => (e0.bs b o q).1
  have kinds : ∀ y ∈ ps.zip us, (defScope st).names.lookup y.1 = some .local ∨
      ((defScope st).names.lookup y.1 = some .cell ∧ ((cellsFrom (s.heap.objs.size + 1) (defScope st).names []).lookup y.1).isSome = true) := by
    intro ⟨n, v⟩ hy
    rcases S.par n (List.of_mem_zip hy).1 with z | z
    · exact .inl z
    · exact .inr ⟨z, PySem.W.cellsFrom_some _ _ _ (.inl z)⟩
  refine codeAny_call_function room.depth (kin _ _ lk) rfl S.co S.gen rfl
    (PySem.W.codeRec_of kin hcd) (bind _ _ _ _ ?_)
  refine wpAny_newFunctionEnv_cells S.kind kinds fun env he s1 inc => ?_
  subst he
  refine ⟨lim.keeps inc.toInCall.keep, codeAny_func ?_⟩
  obtain ⟨t, ht, hq⟩ := hb cdv A outer s H vs Q E (room.deeper _) gd hsp
  have I := inv_start (CX := CX0) (P := P) (w := w) (mg := mg) (base := base) (E := E) S room.hd e0 hlen rv inc
  have out : ∀ {σ' : L2.St} {H' : Hp} {v : V} {u : Value} {s' : Shared}, Inv (cxOf CX0 P w K mg base N qual (defScope st) f cdv A outer s H E) [] σ' H' s' → RelV v u → Q v H' → L2.CE outer P w H s Q u s' :=
    fun {σ' H' v u s'} J r q => ⟨v, H', J.os, J.bare, J.base, J.hok, r, q⟩
  refine wpAny_mono (ht.nox.run [] s1 (L2.start N vs) H _ I hq) ?_ fun _ _ z => z
  intro fl s' hs
  cases fl with
  | ret u => obtain ⟨v, σ', H', J, r, q⟩ := hs; exact out J r q
  | next => obtain ⟨σ', H', J, q⟩ := hs; exact out (v := V.non) (u := Value.none) J rfl q
  | brk => obtain ⟨_, _, _, q⟩ := hs; exact False.elim q
  | cont => obtain ⟨_, _, _, q⟩ := hs; exact False.elim q

/-- a frame at its start -/
theorem start_sim {N : List Str} {vs : List V} {xs : List MV} {H : Hp} {O : Addr → Bool} {nn : Nat} (d : Dom O H) (r : RepAll (Vw H O) vs xs) (hn : nn = N.length) (hl : xs.length ≤ N.length) : Sim H O (startM nn xs) O (L2.start N vs) H := by
  have hv := r.length
  have none_own : ∀ (i : Nat) (x : MV), (startM nn xs)[i]? ≠ some (some (x, true)) := fun i x h => by
    unfold startM at h
    by_cases hi : i < (xs.map fun v => some (v, false)).length
    · rw [List.getElem?_append_left hi, List.getElem?_map] at h
      cases z : xs[i]? with
      | none => rw [z] at h; cases h
      | some y => rw [z] at h; cases h
    · rw [List.getElem?_append_right (by omega), List.getElem?_replicate] at h
      split at h <;> cases h
  refine ⟨?_, d, Same.refl _, fun _ h => h, fun _ h => .inl h, fun i x own h => ?_, fun i x p h _ => absurd h (none_own i x), fun i j x y p h _ _ _ => absurd h (none_own i x)⟩
  · unfold startM L2.start
    rw [List.length_append, List.length_append, List.length_map, List.length_map, List.length_replicate, List.length_replicate, hv, hn]
  · unfold startM at h
    by_cases hi : i < xs.length
    · rw [List.getElem?_append_left (by rw [List.length_map]; exact hi), List.getElem?_map] at h
      cases z : xs[i]? with
      | none => rw [z] at h; cases h
      | some y =>
        rw [z] at h
        cases h
        obtain ⟨v, e, q⟩ := r.get i z
        refine ⟨v, ?_, q⟩
        unfold L2.start
        rw [List.getElem?_append_left (by rw [List.length_map, hv]; exact hi), List.getElem?_map, e]
        rfl
    · rw [List.getElem?_append_right (by rw [List.length_map]; omega), List.getElem?_replicate] at h
      split at h <;> cases h

theorem all_fns {C : MC} {T : List FT} (M : Modu K mg C T) (L : Nat) : ∀ (n i : Nat) (t : FT), T[i]? = some t → ∀ (f : Addr) (fd : FuncData), Fun K t.name t.name t.st f fd → FnG P w K mg base n f fd t.ps (spM (run (T.map (·.d)) L n i)) := by
  intro n
  induction n with
  | zero =>
    intro i t _ f fd _
    have no : ∀ vs H Q E, ¬ spM (run (T.map (·.d)) L 0 i) vs H Q E := fun vs H Q E h => by
      obtain ⟨O, xs, r, _, _, e, _⟩ := h
      unfold run at e
      cases e
    exact ⟨fun vs H Q E h => absurd h (no vs H Q E), fun A outer s H args us vs Q E _ _ _ _ _ h => absurd h (no vs H Q E)⟩
  | succ n ih =>
    intro i t ht f fd F
    have htm : t ∈ T := List.mem_of_getElem? ht
    have hB := M.text t htm
    unfold textB at hB
    simp only [Bool.and_eq_true] at hB
    obtain ⟨⟨⟨b1, b2⟩, b3⟩, b4⟩ := hB
    have S := scope_of b1
    have np := of_decide_eq_true b2
    have nn := of_decide_eq_true b3
    have hT : (T.map (·.d))[i]? = some t.d := by rw [List.getElem?_map, ht]; rfl
    have open_ : ∀ xs r, run (T.map (·.d)) L (n + 1) i xs = some r → xs.length = t.ps.length ∧ ∃ fl, exs (run (T.map (·.d)) L n) L t.d.body (startM t.d.nn xs) = some fl ∧ resOf fl = some r := fun xs r e => by
      unfold run at e
      rw [hT] at e
      simp only at e
      split at e
      · rename_i hl
        obtain ⟨fl, e1, e2⟩ := Option.bind_eq_some_iff.mp e
        exact ⟨by rw [hl, np], fl, e1, e2⟩
      · cases e
    refine FnG.of F S (fun vs H Q E h => ?_) (fun cdv A outer s H vs Q E hr hg h => ?_)
    · obtain ⟨O, xs, r, _, ra, e, _⟩ := h
      rw [ra.length]
      exact (open_ xs r e).1
    · obtain ⟨O, xs, r, d, ra, e, post⟩ := h
      obtain ⟨hl, fl, e1, e2⟩ := open_ xs r e
      have G : Good (cxOf CX0 P w K mg base t.N t.name (defScope t.st) f cdv A outer s H E).nox C (run (T.map (·.d)) L n) t.N ⟨defScope t.st, none⟩ := {
        hN := rfl
        nd := S.nd
        sc := rfl
        fn := fun _ _ => .inl rfl
        calm := rfl
        un := by have z := hr.un; show (A.deeper _).units + 200 < cLine; omega
        gd := hg
        bis := M.bis
        imp := M.imp
        fns := fun j x hx => by
          rw [M.names, List.getElem?_map] at hx
          cases z : T[j]? with
          | none => rw [z] at hx; cases hx
          | some u =>
            rw [z] at hx
            cases hx
            obtain ⟨g, gd, m1, m2, m3⟩ := (M.all u (List.mem_of_getElem? z)).ex
            exact ⟨g, gd, u.ps, n, m1, m2.kp, m3, hr, ih j u z g gd m2⟩ }
      refine ⟨tSs (run (T.map (·.d)) L n) L t.d.body, blk_ok (fun st c h => chk_st G S.kind rfl 200 st c h) b4, ?_⟩
      have hNl : xs.length ≤ t.N.length := by
        rw [hl]
        have := congrArg List.length S.pre
        rw [List.length_take] at this
        omega
      refine ⟨H, O, startM t.d.nn xs, O, fl, start_sim d ra nn hNl, e1, ?_⟩
      cases fl with
      | nx σ' =>
        cases e2
        exact fun σ'' H' O' S' _ => post .non H' S'.same .non
      | ret v own =>
        cases e2
        exact fun u H' s' q => post u H' s' q
      | bk _ => cases e2
      | ct _ => cases e2

/-- the module's own part holds no list -/
def noLists (K : PySem.W.Frag) : Bool := K.all fun p => match p.2.cls with | .type n => !(n == "list") | _ => true

theorem lookup_mem {α : Type} : ∀ {l : List (Addr × α)} {a : Addr} {o : α}, l.lookup a = some o → (a, o) ∈ l
  | (b, u) :: r, a, o, h => by
    rw [List.lookup_cons] at h
    cases hb : a == b with
    | true =>
      rw [hb] at h
      cases h
      have e : a = b := by simpa using hb
      subst e
      exact List.mem_cons_self
    | false =>
      rw [hb] at h
      exact List.mem_cons_of_mem _ (lookup_mem h)

theorem ints_rep {G : Hp} : ∀ ns : List Int, RepAll G (ns.map V.int) (ns.map MV.int)
  | [] => .nil
  | n :: r => .cons (.int n) (ints_rep r)

theorem law_run {mb : Str → Option Value} {k : Nat} {fa a : Addr} {fd : FuncData} {x : Str} {φ : List MV → Option (MV × Bool)} {s₁ : Shared} {vs : List Value} {ns : List Int} {own : Bool}
    (KX : K.In s₁.heap) (hns : s₁.heap.Ns mainGlobals mg) (hb : s₁.heap.Ns builtinsNs mb) (hbb : ∀ x : Str, x ≠ "__name__" → mb x = bootBuiltins x) (hlim : s₁.heap.NoLimit) (hg : s₁.gens = #[])
    (ha : s₁.heap.get? a = some { cls := .type "list", data := .seq vs.toArray }) (hi : IntsAre vs ns) (hl : ns.length ≤ sizeLine) (hr : Room k callerA) (nl : noLists K = true)
    (F : ∀ base : Heap, K.In base → base.Ns mainGlobals mg → FnG P w K mg base k fa fd [x] (spM φ)) (hbind : BindsTo s₁ fd ⟨[.ref a], []⟩ [(x, .ref a)])
    (hφ : φ [.lst (ns.map MV.int)] = some (.bl true, own)) :
    codeAny (model P w) callerA (.call (.ref fa) ⟨[.ref a], []⟩) (fun r s' => r = .ok (.ret (.bool true)) ∧ OldK s₁.heap s'.heap ∧ s'.os = s₁.os ∧ AllBare s'.gens) s₁ := by
  have rv : Vals (ns.map V.int) vs := vals_ints hi
  have hk : K.lookup a = none := by
    cases z : K.lookup a with
    | none => rfl
    | some o =>
      have e := KX a o z
      rw [ha] at e
      cases e
      have w := List.all_eq_true.mp nl _ (lookup_mem z)
      simp at w
  -- the abstract heap: the script alone, locked
  let H : Hp := fun b => if b = a then some (.frz { cls := .type "list", data := .seq vs.toArray } (.lst (ns.map V.int))) else none
  have Ha : H a = some (.frz { cls := .type "list", data := .seq vs.toArray } (.lst (ns.map V.int))) := if_pos rfl
  have Hn : ∀ b, b ≠ a → H b = none := fun b h => if_neg h
  have ok : HOk P w H s₁.heap := fun b u e => by
    by_cases hb : b = a
    · subst hb
      rw [Ha] at e
      cases e
      exact ⟨ha, by rw [List.length_map]; exact hl, vs, _, rv, ha⟩
    · rw [Hn b hb] at e; cases e
  have seen : ∀ {b : Addr} {o : Obj}, s₁.heap.get? b = some o → H b = none → (hidT s₁.heap H).get? b = some o := fun e n => hidT_get e n
  have notA : ∀ {b : Addr} {o : Obj}, b ≠ a → s₁.heap.get? b = some o → (hidT s₁.heap H).get? b = some o := fun h e => seen e (Hn _ h)
  have space : ∀ {b : Addr} {m : Str → Option Value}, s₁.heap.Ns b m → (hidT s₁.heap H).Ns b m := by
    intro b m ⟨o, es, ep, e, d, r⟩
    refine ⟨o, es, ep, notA ?_ e, d, r⟩
    intro z
    subst z
    rw [ha] at e
    cases e
    have d' : Data.seq vs.toArray _ = Data.dict es ep := d
    cases d'
  have hK : K.In (hidT s₁.heap H) := fun b o e => notA (fun z => by rw [z, hk] at e; cases e) (KX b o e)
  obtain ⟨mc, l1, l2⟩ := hlim
  have hM : Mod K mg (hidT s₁.heap H) := ⟨hK, space hns, ⟨mb, space hb, hbb⟩, mc, space l1, l2⟩
  have e0 : Env0 P w K mg (hidT s₁.heap H) callerA [] s₁ H :=
    ⟨rfl, hM, fun b o e => of_hidT e, Nat.le_of_eq (hidT_size _ _), trivial, (fun b hb => by cases hb), ok, AllBare.of_eq hg⟩
  have rep : RepAll (Vw H fun _ => false) [V.ref a] [.lst (ns.map MV.int)] := by
    refine .cons (.lst (.inr ⟨_, same_no _ _ Ha⟩) ?_) .nil
    exact ints_rep ns
  have sp : spM φ [V.ref a] H (fun v _ => v = .bl true) E0 := ⟨fun _ => false, _, _, dom_no, rep, hφ, fun v H' s' q => q.bor.bl⟩
  refine codeAny_mono ((F _ hK (space hns)).go callerA [] s₁ H _ [.ref a] [.ref a] _ E0 hr rfl e0 hbind (.cons rfl .nil) sp) ?_
  intro r s' h
  cases r with
  | error e => exact False.elim h
  | ok fl =>
    cases fl with
    | next => exact False.elim h
    | brk => exact False.elim h
    | cont => exact False.elim h
    | ret u =>
      obtain ⟨v, H', os, bare, un, ok', r', q⟩ := h
      cases (show v = .bl true from q)
      cases (show u = Value.bool true from r')
      refine ⟨rfl, OldK.of_keep fun b o e => ?_, os, bare⟩
      by_cases hb : b = a
      · subst hb
        obtain ⟨e2, _⟩ := ok' b _ (un.frzs b _ _ Ha)
        rw [ha] at e
        cases e
        exact e2
      · exact un.keep b o e (Hn b hb) (fun z => by cases z) (fun z => by cases z)
end

theorem caller_room {k : Nat} (h : k ≤ 230) : Room k callerA := by
  refine ⟨rfl, ?_, ?_⟩
  · show 1 + claimMargin + 3 * k + 5 < recursionLimit
    unfold claimMargin recursionLimit
    omega
  · show 4 + 16 * k + 200 < cLine
    unfold cLine
    omega

/-- THE END: the law's def gives True in the value language at every script -/
theorem walk {l : PySem.W.OpenLaw} {q : Program} {loose : List Str} {XP : (Str → Option Value) → Heap → Prop} {YP : World → Heap → Prop} {d : DefRec} {K : Params → PySem.W.Frag} {C : MC} {T : List FT} {i L n : Nat} {t : FT}
    (hn : l.most = some 63) (hdf : d.params.defaults = []) (hlev : n ≤ 230) (ht : T[i]? = some t) (hname : t.name = d.name) (hps : t.ps = [("script" : Str)])
    (hY : ∀ (w : World) (h : Heap), YP w h → (K w.params).In h)
    (hM : ∀ (w : World) (mg : Str → Option Value) (h : Heap), (K w.params).In h → h.Ns mainGlobals mg → Modu (K w.params) mg C T ∧ noLists (K w.params) = true)
    (hlaw : ∀ ns : List Int, ns.length ≤ 63 → ∃ own, run (T.map (·.d)) L n i [.lst (ns.map MV.int)] = some (.bl true, own)) :
    PySem.W.WalkO q loose XP YP l.row.toRowW d [] (fun f vs => PySem.call f vs) := by
  refine Att.attach_call hn hdf fun w s₀ s₁ mg mb fa o pm cd doc a vs ns G Y ho hd hcd hmg hobj hints hlen hg => ?_
  have KX := hY w _ Y
  obtain ⟨M, nl⟩ := hM w mg _ KX G.T.g
  obtain ⟨f, fd, m1, m2, m3⟩ := (M.all t (List.mem_of_getElem? ht)).ex
  have ef : f = fa := by
    rw [hname, hmg] at m1
    cases m1
    rfl
  subst ef
  obtain ⟨own, hφ⟩ := hlaw ns hlen
  have hbind : BindsTo s₁ fd ⟨[.ref a], []⟩ [(("script" : Str), .ref a)] := by
    have z := m3 s₁ [.ref a] KX (by rw [hps]; rfl)
    rw [hps] at z
    exact z
  refine law_run (φ := run (T.map (·.d)) L n i) KX G.T.g G.T.b G.T.builtins G.T.nolimit hg hobj hints (Nat.le_trans hlen (by rw [sizeLine_eq]; decide)) (caller_room hlev) nl (fun base hb hns => ?_) hbind hφ
  obtain ⟨M2, _⟩ := hM w mg base hb hns
  have z := all_fns (P := l.prog) (w := w) (base := base) M2 L n i t ht f fd m2
  rw [hps] at z
  exact z

/-! ### the facts of a text, one def at a time -/
theorem stands_mk {K : PySem.W.Frag} {mg : Str → Option Value} {h : Heap} {x : Str} {st : Stmt} {N ps : List Str} {d : FD} {f : Addr} {oc kV dc pm cd ct : Value} {od an : Option Addr} {sl : Array (Option Value)} (X : K.In h) (G : h.Ns mainGlobals mg)
    (a : PySem.W.nsIn K mainGlobals x = some (some (.ref f))) (l : K.lookup f = some ⟨oc, od, .func (PySem.W.fnOf x x (defArgs st) (defBody st) (defScope st) .none kV dc pm an cd ct), sl⟩)
    (c : PySem.W.codeIn K cd x = true) (k : PySem.W.keepIn K (.ref f) = true)
    (b : ∀ (kV doc pm : Value) (an : Option Addr) (cdv ct : Value) (us : List Value), us.length = ps.length → bindArgs (PySem.W.fnOf x x (defArgs st) (defBody st) (defScope st) .none kV doc pm an cdv ct) ⟨us, []⟩ = pure (ps.zip us)) : Stands K mg ⟨x, st, N, ps, d⟩ := by
  have F := fun_mk (st := st) l c k
  exact ⟨f, _, PySem.W.mg_of X G a, F, F.binds b⟩
theorem bis_mk {K : PySem.W.Frag} {mg : Str → Option Value} {h : Heap} (X : K.In h) (G : h.Ns mainGlobals mg) {l : List Str} (z : ∀ x ∈ l, PySem.W.nsIn K mainGlobals x = some none) : ∀ x, l.contains x = true → mg x = none :=
  fun x hx => PySem.W.mg_none_of X G (z x (List.contains_iff_mem.mp hx))
theorem forall_nil {α : Type} {p : α → Prop} : ∀ x ∈ ([] : List α), p x := fun x h => by cases h
theorem forall_cons {α : Type} {p : α → Prop} {a : α} {l : List α} (h : p a) (t : ∀ x ∈ l, p x) : ∀ x ∈ a :: l, p x := fun x hx => by
  rcases List.mem_cons.mp hx with e | e
  · rw [e]; exact h
  · exact t x e
end Mn

set_option Elab.async false
set_option maxRecDepth 100000
namespace K00
open PySem Mn
def top (i : Nat) : Stmt := PySem.Challenge.pw_heldnear_k00_fractions.main.body.getD i (.Pass ⟨0, 0, 0, 0⟩)
def b_ratio : List CS := [
  .asg 2 (.bi .gcd [.var 0, .var 1]),
  .ite (.cmp .lt (.var 1) (.lit (.int 0))) [.asg 2 (.neg (.var 2))] [],
  .ret (.tup [.bin .fdiv (.var 0) (.var 2), .bin .fdiv (.var 1) (.var 2)])]
def t_ratio : FT := ⟨"ratio", top 2, ["top", "bottom", "common"], ["top", "bottom"], ⟨2, 3, b_ratio⟩⟩
def b_ratio_sum : List CS := [
  .ret (.call 0 [.bin .add (.bin .mul (.idx (.var 0) (.lit (.int 0))) (.idx (.var 1) (.lit (.int 1)))) (.bin .mul (.idx (.var 1) (.lit (.int 0))) (.idx (.var 0) (.lit (.int 1)))), .bin .mul (.idx (.var 0) (.lit (.int 1))) (.idx (.var 1) (.lit (.int 1)))])]
def t_ratio_sum : FT := ⟨"ratio_sum", top 3, ["one", "two"], ["one", "two"], ⟨2, 2, b_ratio_sum⟩⟩
def b_ratio_difference : List CS := [
  .ret (.call 0 [.bin .sub (.bin .mul (.idx (.var 0) (.lit (.int 0))) (.idx (.var 1) (.lit (.int 1)))) (.bin .mul (.idx (.var 1) (.lit (.int 0))) (.idx (.var 0) (.lit (.int 1)))), .bin .mul (.idx (.var 0) (.lit (.int 1))) (.idx (.var 1) (.lit (.int 1)))])]
def t_ratio_difference : FT := ⟨"ratio_difference", top 4, ["one", "two"], ["one", "two"], ⟨2, 2, b_ratio_difference⟩⟩
def b_ratio_product : List CS := [
  .ret (.call 0 [.bin .mul (.idx (.var 0) (.lit (.int 0))) (.idx (.var 1) (.lit (.int 0))), .bin .mul (.idx (.var 0) (.lit (.int 1))) (.idx (.var 1) (.lit (.int 1)))])]
def t_ratio_product : FT := ⟨"ratio_product", top 5, ["one", "two"], ["one", "two"], ⟨2, 2, b_ratio_product⟩⟩
def b_ratio_order : List CS := [
  .asg 2 (.bin .mul (.idx (.var 0) (.lit (.int 0))) (.idx (.var 1) (.lit (.int 1)))),
  .asg 3 (.bin .mul (.idx (.var 1) (.lit (.int 0))) (.idx (.var 0) (.lit (.int 1)))),
  .ite (.cmp .lt (.var 2) (.var 3)) [.ret (.neg (.lit (.int 1)))] [],
  .ite (.cmp .gt (.var 2) (.var 3)) [.ret (.lit (.int 1))] [],
  .ret (.lit (.int 0))]
def t_ratio_order : FT := ⟨"ratio_order", top 6, ["one", "two", "left", "right"], ["one", "two"], ⟨2, 4, b_ratio_order⟩⟩
def b_ratio_floor : List CS := [
  .ret (.bin .fdiv (.idx (.var 0) (.lit (.int 0))) (.idx (.var 0) (.lit (.int 1))))]
def t_ratio_floor : FT := ⟨"ratio_floor", top 7, ["one"], ["one"], ⟨1, 1, b_ratio_floor⟩⟩
def b_ratio_ceiling : List CS := [
  .ret (.neg (.bin .fdiv (.neg (.idx (.var 0) (.lit (.int 0)))) (.idx (.var 0) (.lit (.int 1)))))]
def t_ratio_ceiling : FT := ⟨"ratio_ceiling", top 8, ["one"], ["one"], ⟨1, 1, b_ratio_ceiling⟩⟩
def b_dot : List CS := [
  .asg 2 (.lit (.int 0)),
  .forS (.nm 3) (.rng1 (.bi .len [.var 0])) [.asg 2 (.bin .add (.var 2) (.bin .mul (.idx (.var 0) (.var 3)) (.idx (.var 1) (.var 3))))],
  .ret (.var 2)]
def t_dot : FT := ⟨"dot", top 10, ["one", "two", "total", "k"], ["one", "two"], ⟨2, 4, b_dot⟩⟩
def b_plus : List CS := [
  .ret (.bi .tuple [.comp (.bin .add (.idx (.var 0) (.var 2)) (.idx (.var 1) (.var 2))) (.nm 2) (.rng1 (.bi .len [.var 0])) []])]
def t_plus : FT := ⟨"plus", top 11, ["one", "two", "k"], ["one", "two"], ⟨2, 3, b_plus⟩⟩
def b_minus : List CS := [
  .ret (.bi .tuple [.comp (.bin .sub (.idx (.var 0) (.var 2)) (.idx (.var 1) (.var 2))) (.nm 2) (.rng1 (.bi .len [.var 0])) []])]
def t_minus : FT := ⟨"minus", top 12, ["one", "two", "k"], ["one", "two"], ⟨2, 3, b_minus⟩⟩
def b_times : List CS := [
  .ret (.bi .tuple [.comp (.bin .mul (.var 0) (.var 2)) (.nm 2) (.seq (.var 1)) []])]
def t_times : FT := ⟨"times", top 13, ["number", "vector", "item"], ["number", "vector"], ⟨2, 3, b_times⟩⟩
def b_size : List CS := [
  .ret (.bi .sum [.comp (.bi .abs [.var 1]) (.nm 1) (.seq (.var 0)) []])]
def t_size : FT := ⟨"size", top 14, ["vector", "item"], ["vector"], ⟨1, 2, b_size⟩⟩
def b_primitive : List CS := [
  .asg 1 (.lit (.int 0)),
  .forS (.nm 2) (.seq (.var 0)) [.asg 1 (.bi .gcd [.var 1, .var 2])],
  .ite (.cmp .le (.var 1) (.lit (.int 1))) [.ret (.bi .tuple [.var 0])] [],
  .ret (.bi .tuple [.comp (.bin .fdiv (.var 2) (.var 1)) (.nm 2) (.seq (.var 0)) []])]
def t_primitive : FT := ⟨"primitive", top 15, ["vector", "common", "item"], ["vector"], ⟨1, 3, b_primitive⟩⟩
def b_unit : List CS := [
  .ret (.bi .tuple [.comp (.bin .mul (.var 2) (.bi .int [.cmp .eq (.var 3) (.var 1)])) (.nm 3) (.rng1 (.var 0)) []])]
def t_unit : FT := ⟨"unit", top 16, ["length", "index", "sign", "k"], ["length", "index", "sign"], ⟨3, 4, b_unit⟩⟩
def b__law_whole : List CS := [
  .ret (.and (.isi (.var 0) [.int]) (.not (.isi (.var 0) [.bool])))]
def t__law_whole : FT := ⟨"_law_whole", top 18, ["value"], ["value"], ⟨1, 1, b__law_whole⟩⟩
def b__law_cell : List CS := [
  .ite (.cmp .lt (.var 1) (.bi .len [.var 0])) [.ret (.idx (.var 0) (.var 1))] [],
  .asg 2 (.lit (.int 17)),
  .forS (.nm 3) (.seq (.var 0)) [.asg 2 (.bin .mod (.bi .int [.bin .add (.bin .mul (.var 2) (.lit (.int 31))) (.bin .mod (.bi .int [.var 3]) (.lit (.int 1000003)))]) (.lit (.int 1000003)))],
  .ret (.bin .mod (.bi .int [.bin .mul (.bin .mul (.bin .add (.var 2) (.lit (.int 7))) (.bin .add (.var 1) (.lit (.int 3)))) (.lit (.int 69621))]) (.lit (.int 2147483647)))]
def t__law_cell : FT := ⟨"_law_cell", top 19, ["script", "k", "seed", "cell"], ["script", "k"], ⟨2, 4, b__law_cell⟩⟩
def b__law_digits : List CS := [
  .asg 2 (.lst []),
  .asg 3 (.bi .int [.var 0]),
  .ite (.cmp .ge (.var 3) (.bin .pow (.lit (.int 10)) (.lit (.int 18)))) [.asg 3 (.bin .sub (.var 3) (.bin .pow (.lit (.int 10)) (.lit (.int 18)))), .forS (.nm 6) (.seq (.var 1)) [.app 2 (.bin .mod (.bi .int [.var 3]) (.var 6)), .asg 3 (.bin .fdiv (.bi .int [.var 3]) (.var 6))], .ret (.var 2)] [],
  .asg 4 (.bin .mod (.bi .int [.var 3]) (.lit (.int 2147483629))),
  .forS (.nm 5) (.rng1 (.bi .len [.var 1])) [.asg 4 (.bin .mod (.bi .int [.bin .add (.bin .add (.bin .mul (.var 4) (.lit (.int 48271))) (.bin .mul (.lit (.int 974711)) (.var 5))) (.lit (.int 12345))]) (.lit (.int 2147483647))), .asg 7 (.bin .mod (.bi .int [.bin .mul (.var 4) (.bin .add (.bin .fdiv (.var 4) (.lit (.int 65537))) (.lit (.int 3)))]) (.lit (.int 2147483629))), .app 2 (.bin .mod (.bin .fdiv (.var 7) (.lit (.int 19))) (.idx (.var 1) (.var 5)))],
  .ret (.var 2)]
def t__law_digits : FT := ⟨"_law_digits", top 20, ["cell", "sizes", "row", "rest", "seed", "k", "size_here", "twice"], ["cell", "sizes"], ⟨2, 8, b__law_digits⟩⟩
def b__law_common : List CS := [
  .asg 2 (.bi .abs [.var 0]),
  .asg 3 (.bi .abs [.var 1]),
  .whl (.cmp .ne (.var 3) (.lit (.int 0))) [.asg 4 (.bin .mod (.bi .int [.var 2]) (.var 3)), .asg 2 (.var 3), .asg 3 (.var 4)],
  .ret (.var 2)]
def t__law_common : FT := ⟨"_law_common", top 21, ["one", "two", "first", "other", "rest"], ["one", "two"], ⟨2, 5, b__law_common⟩⟩
def b__law_same : List CS := [
  .ite (.isi (.var 1) [.list, .tuple]) [.ite (.or (.not (.isi (.var 0) [.tuple])) (.cmp .ne (.bi .len [.var 0]) (.bi .len [.var 1]))) [.ret (.lit (.bl false))] [], .forS (.nm 2) (.rng1 (.bi .len [.var 1])) [.ite (.not (.call 18 [.idx (.var 0) (.var 2), .idx (.var 1) (.var 2)])) [.ret (.lit (.bl false))] []], .ret (.lit (.bl true))] [],
  .ite (.cmp .is (.var 1) (.lit .non)) [.ret (.cmp .is (.var 0) (.lit .non))] [],
  .ite (.cmp .is (.var 1) (.lit (.bl true))) [.ret (.cmp .is (.var 0) (.lit (.bl true)))] [],
  .ite (.cmp .is (.var 1) (.lit (.bl false))) [.ret (.cmp .is (.var 0) (.lit (.bl false)))] [],
  .ite (.isi (.var 1) [.str]) [.ret (.and (.isi (.var 0) [.str]) (.cmp .eq (.var 0) (.var 1)))] [],
  .ret (.and (.call 14 [.var 0]) (.cmp .eq (.var 0) (.var 1)))]
def t__law_same : FT := ⟨"_law_same", top 22, ["value", "due", "k"], ["value", "due"], ⟨2, 3, b__law_same⟩⟩
def b__law_number : List CS := [
  .asg 2 (.bi .int [.idx (.var 0) (.bin .add (.var 1) (.lit (.int 2)))]),
  .asg 3 (.bin .mod (.var 2) (.lit (.int 4))),
  .ite (.cmp .eq (.idx (.var 0) (.var 1)) (.lit (.int 1))) [.asg 3 (.bin .mod (.var 2) (.lit (.int 10)))] [],
  .ite (.cmp .eq (.idx (.var 0) (.var 1)) (.lit (.int 2))) [.asg 3 (.bin .mod (.var 2) (.lit (.int 61)))] [],
  .ite (.cmp .eq (.idx (.var 0) (.var 1)) (.lit (.int 3))) [.asg 3 (.bin .mod (.var 2) (.lit (.int 1000)))] [],
  .ite (.cmp .eq (.idx (.var 0) (.var 1)) (.lit (.int 4))) [.asg 3 (.var 2)] [],
  .ite (.cmp .eq (.idx (.var 0) (.var 1)) (.lit (.int 5))) [.asg 3 (.bin .add (.bin .mul (.var 2) (.bin .pow (.lit (.int 10)) (.lit (.int 20)))) (.idx (.var 0) (.bin .add (.var 1) (.lit (.int 3)))))] [],
  .ite (.cmp .eq (.idx (.var 0) (.var 1)) (.lit (.int 6))) [.asg 3 (.bin .add (.bin .pow (.idx (.var 0) (.bin .add (.var 1) (.lit (.int 3)))) (.lit (.int 4))) (.var 2))] [],
  .ite (.cmp .eq (.idx (.var 0) (.var 1)) (.lit (.int 7))) [.asg 3 (.bin .mul (.bin .mul (.bin .mul (.bin .mul (.bin .mul (.bin .mod (.var 2) (.lit (.int 3))) (.lit (.int 2))) (.lit (.int 3))) (.lit (.int 5))) (.lit (.int 7))) (.lit (.int 11)))] [],
  .ite (.cmp .eq (.idx (.var 0) (.bin .add (.var 1) (.lit (.int 1)))) (.lit (.int 1))) [.ret (.bin .sub (.lit (.int 0)) (.var 3))] [],
  .ret (.var 3)]
def t__law_number : FT := ⟨"_law_number", top 23, ["digits", "at", "first", "told"], ["digits", "at"], ⟨2, 4, b__law_number⟩⟩
def b__law_ratio : List CS := [
  .asg 2 (.call 17 [.var 0, .var 1]),
  .ite (.cmp .lt (.var 1) (.lit (.int 0))) [.asg 2 (.bin .sub (.lit (.int 0)) (.var 2))] [],
  .ret (.tup [.bin .fdiv (.var 0) (.var 2), .bin .fdiv (.var 1) (.var 2)])]
def t__law_ratio : FT := ⟨"_law_ratio", top 24, ["top", "bottom", "common"], ["top", "bottom"], ⟨2, 3, b__law_ratio⟩⟩
def b__law_reckoned : List CS := [
  .asg 4 (.bin .mul (.idx (.var 2) (.lit (.int 1))) (.idx (.var 3) (.lit (.int 1)))),
  .asg 5 (.bin .sub (.bin .mul (.idx (.var 2) (.lit (.int 0))) (.idx (.var 3) (.lit (.int 1)))) (.bin .mul (.idx (.var 3) (.lit (.int 0))) (.idx (.var 2) (.lit (.int 1))))),
  .ite (.not (.call 18 [.call 1 [.var 0, .var 1], .call 20 [.bin .add (.bin .mul (.idx (.var 2) (.lit (.int 0))) (.idx (.var 3) (.lit (.int 1)))) (.bin .mul (.idx (.var 3) (.lit (.int 0))) (.idx (.var 2) (.lit (.int 1)))), .var 4]])) [.ret (.lit (.bl false))] [],
  .ite (.not (.call 18 [.call 2 [.var 0, .var 1], .call 20 [.var 5, .var 4]])) [.ret (.lit (.bl false))] [],
  .ite (.not (.call 18 [.call 3 [.var 0, .var 1], .call 20 [.bin .mul (.idx (.var 2) (.lit (.int 0))) (.idx (.var 3) (.lit (.int 0))), .var 4]])) [.ret (.lit (.bl false))] [],
  .ite (.or (.not (.call 18 [.call 4 [.var 0, .var 1], .bin .sub (.bi .int [.cmp .gt (.var 5) (.lit (.int 0))]) (.bi .int [.cmp .lt (.var 5) (.lit (.int 0))])])) (.not (.call 18 [.call 4 [.var 0, .var 0], .lit (.int 0)]))) [.ret (.lit (.bl false))] [],
  .asg 6 (.call 5 [.var 0]),
  .asg 7 (.call 6 [.var 0]),
  .ite (.or (.not (.call 14 [.var 6])) (.not (.call 14 [.var 7]))) [.ret (.lit (.bl false))] [],
  .ite (.or (.cmp .gt (.bin .mul (.var 6) (.idx (.var 2) (.lit (.int 1)))) (.idx (.var 2) (.lit (.int 0)))) (.cmp .le (.bin .mul (.bin .add (.var 6) (.lit (.int 1))) (.idx (.var 2) (.lit (.int 1)))) (.idx (.var 2) (.lit (.int 0))))) [.ret (.lit (.bl false))] [],
  .ret (.and (.cmp .ge (.bin .mul (.var 7) (.idx (.var 2) (.lit (.int 1)))) (.idx (.var 2) (.lit (.int 0)))) (.cmp .lt (.bin .mul (.bin .sub (.var 7) (.lit (.int 1))) (.idx (.var 2) (.lit (.int 1)))) (.idx (.var 2) (.lit (.int 0)))))]
def t__law_reckoned : FT := ⟨"_law_reckoned", top 25, ["left", "right", "one", "two", "bottom", "gap", "low", "high"], ["left", "right", "one", "two"], ⟨4, 8, b__law_reckoned⟩⟩
def b__law_drawn_fractions : List CS := [
  .asg 2 (.call 16 [.var 0, .bin .add (.bin .mul (.lst [.lit (.int 8), .lit (.int 2), .bin .pow (.lit (.int 10)) (.lit (.int 9)), .bin .pow (.lit (.int 10)) (.lit (.int 40))]) (.lit (.int 2))) (.lst [.lit (.int 2)])]),
  .asg 3 (.call 16 [.var 1, .bin .add (.bin .add (.lst [.lit (.int 10)]) (.bin .mul (.lst [.lit (.int 8), .lit (.int 2), .bin .pow (.lit (.int 10)) (.lit (.int 9)), .bin .pow (.lit (.int 10)) (.lit (.int 40))]) (.lit (.int 2)))) (.lst [.lit (.int 2)])]),
  .drop 2,
  .asg 4 (.lst [.call 19 [.var 2, .lit (.int 0)], .call 19 [.var 2, .lit (.int 4)]]),
  .drop 3,
  .asg 5 (.lst [.call 19 [.var 3, .lit (.int 1)], .call 19 [.var 3, .lit (.int 5)]]),
  .ite (.cmp .eq (.idx (.var 4) (.lit (.int 1))) (.lit (.int 0))) [.set 4 (.lit (.int 1)) (.lit (.int 1))] [],
  .ite (.cmp .eq (.idx (.var 5) (.lit (.int 1))) (.lit (.int 0))) [.set 5 (.lit (.int 1)) (.neg (.lit (.int 1)))] [],
  .asg 6 (.idx (.var 5) (.lit (.int 1))),
  .ite (.cmp .eq (.idx (.var 3) (.lit (.int 0))) (.lit (.int 2))) [.asg 5 (.lst [.bin .mul (.idx (.var 4) (.lit (.int 0))) (.var 6), .bin .mul (.idx (.var 4) (.lit (.int 1))) (.var 6)])] [],
  .ite (.cmp .eq (.idx (.var 3) (.lit (.int 0))) (.lit (.int 3))) [.asg 5 (.lst [.bin .sub (.lit (.int 0)) (.bin .mul (.idx (.var 4) (.lit (.int 0))) (.var 6)), .bin .mul (.idx (.var 4) (.lit (.int 1))) (.var 6)])] [],
  .ite (.and (.cmp .eq (.idx (.var 3) (.lit (.int 0))) (.lit (.int 4))) (.cmp .ne (.idx (.var 4) (.lit (.int 0))) (.lit (.int 0)))) [.asg 5 (.lst [.bin .mul (.idx (.var 4) (.lit (.int 1))) (.var 6), .bin .mul (.idx (.var 4) (.lit (.int 0))) (.var 6)])] [],
  .ite (.cmp .eq (.idx (.var 3) (.lit (.int 0))) (.lit (.int 5))) [.asg 5 (.lst [.bin .add (.bin .mul (.idx (.var 4) (.lit (.int 0))) (.var 6)) (.lit (.int 1)), .bin .mul (.idx (.var 4) (.lit (.int 1))) (.var 6)])] [],
  .ite (.cmp .eq (.idx (.var 3) (.lit (.int 0))) (.lit (.int 6))) [.asg 5 (.lst [.idx (.var 5) (.lit (.int 0)), .idx (.var 4) (.lit (.int 1))])] [],
  .ite (.cmp .eq (.idx (.var 3) (.lit (.int 0))) (.lit (.int 7))) [.asg 5 (.lst [.bin .sub (.bin .add (.bin .fdiv (.idx (.var 4) (.lit (.int 0))) (.idx (.var 4) (.lit (.int 1)))) (.bin .mod (.bi .int [.idx (.var 5) (.lit (.int 0))]) (.lit (.int 3)))) (.lit (.int 1)), .lit (.int 1)])] [],
  .ite (.cmp .eq (.idx (.var 3) (.lit (.int 0))) (.lit (.int 8))) [.asg 5 (.lst [.lit (.int 0), .var 6])] [],
  .ite (.cmp .eq (.idx (.var 3) (.lit (.int 0))) (.lit (.int 9))) [.asg 4 (.lst [.bin .mul (.idx (.var 4) (.lit (.int 1))) (.idx (.var 5) (.lit (.int 0))), .idx (.var 4) (.lit (.int 1))])] [],
  .drop 4,
  .drop 5,
  .ret (.lst [.var 4, .var 5, .idx (.var 2) (.lit (.int 8)), .idx (.var 3) (.lit (.int 9))])]
def t__law_drawn_fractions : FT := ⟨"_law_drawn_fractions", top 26, ["one_cell", "two_cell", "digits", "more", "one", "two", "factor"], ["one_cell", "two_cell"], ⟨2, 7, b__law_drawn_fractions⟩⟩
def b__law_fractions_right : List CS := [
  .asg 1 (.idx (.var 0) (.lit (.int 0))),
  .asg 2 (.idx (.var 0) (.lit (.int 1))),
  .asg 3 (.call 20 [.idx (.var 1) (.lit (.int 0)), .idx (.var 1) (.lit (.int 1))]),
  .asg 4 (.call 20 [.idx (.var 2) (.lit (.int 0)), .idx (.var 2) (.lit (.int 1))]),
  .ite (.or (.not (.call 18 [.call 0 [.idx (.var 1) (.lit (.int 0)), .idx (.var 1) (.lit (.int 1))], .var 3])) (.not (.call 18 [.call 0 [.idx (.var 2) (.lit (.int 0)), .idx (.var 2) (.lit (.int 1))], .var 4]))) [.ret (.lit (.bl false))] [],
  .asg 5 (.var 3),
  .asg 6 (.var 4),
  .ite (.cmp .eq (.idx (.var 0) (.lit (.int 2))) (.lit (.int 1))) [.asg 5 (.bi .list [.var 3])] [],
  .ite (.cmp .eq (.idx (.var 0) (.lit (.int 3))) (.lit (.int 1))) [.asg 6 (.bi .list [.var 4])] [],
  .drop 5,
  .drop 6,
  .ite (.or (.not (.call 21 [.var 5, .var 6, .var 3, .var 4])) (.not (.call 21 [.var 6, .var 5, .var 4, .var 3]))) [.ret (.lit (.bl false))] [],
  .ite (.or (.not (.call 18 [.bi .tuple [.var 5], .var 3])) (.not (.call 18 [.bi .tuple [.var 6], .var 4]))) [.ret (.lit (.bl false))] [],
  .ret (.call 18 [.call 0 [.idx (.var 1) (.lit (.int 0)), .idx (.var 1) (.lit (.int 1))], .var 3])]
def t__law_fractions_right : FT := ⟨"_law_fractions_right", top 27, ["drawn", "one", "two", "first", "second", "left", "right"], ["drawn"], ⟨1, 7, b__law_fractions_right⟩⟩
def b__law_vector : List CS := [
  .asg 2 (.call 16 [.var 0, .bin .mul (.lst [.lit (.int 8), .bin .pow (.lit (.int 10)) (.lit (.int 6))]) (.lit (.int 9))]),
  .asg 3 (.lst []),
  .forS (.nm 4) (.rng1 (.var 1)) [.asg 5 (.idx (.var 2) (.bin .mul (.lit (.int 2)) (.bin .mod (.var 4) (.lit (.int 9))))), .asg 6 (.bin .add (.bi .int [.idx (.var 2) (.bin .add (.bin .mul (.lit (.int 2)) (.bin .mod (.var 4) (.lit (.int 9)))) (.lit (.int 1)))]) (.bin .fdiv (.var 4) (.lit (.int 9)))), .asg 7 (.bin .sub (.bin .mod (.var 6) (.lit (.int 3))) (.lit (.int 1))), .ite (.cmp .eq (.var 5) (.lit (.int 1))) [.asg 7 (.bin .sub (.bin .mod (.var 6) (.lit (.int 9))) (.lit (.int 4)))] [], .ite (.cmp .eq (.var 5) (.lit (.int 2))) [.asg 7 (.bin .sub (.bin .mod (.var 6) (.lit (.int 61))) (.lit (.int 30)))] [], .ite (.cmp .eq (.var 5) (.lit (.int 3))) [.asg 7 (.lit (.int 0))] [], .ite (.cmp .eq (.var 5) (.lit (.int 4))) [.asg 7 (.bin .sub (.var 6) (.lit (.int 500000)))] [], .ite (.cmp .eq (.var 5) (.lit (.int 5))) [.asg 7 (.bin .add (.bin .mul (.bin .sub (.var 6) (.lit (.int 500000))) (.bin .pow (.lit (.int 10)) (.lit (.int 24)))) (.var 6))] [], .ite (.cmp .eq (.var 5) (.lit (.int 6))) [.asg 7 (.bin .mul (.bin .mod (.var 6) (.lit (.int 4))) (.lit (.int 6)))] [], .app 3 (.var 7)],
  .ret (.var 3)]
def t__law_vector : FT := ⟨"_law_vector", top 28, ["cell", "many", "digits", "told", "k", "kind", "drawn", "item"], ["cell", "many"], ⟨2, 8, b__law_vector⟩⟩
def b__law_lowest : List CS := [
  .asg 1 (.lit (.int 0)),
  .forS (.nm 2) (.seq (.var 0)) [.asg 1 (.call 17 [.var 1, .var 2])],
  .ite (.cmp .le (.var 1) (.lit (.int 1))) [.ret (.bi .list [.var 0])] [],
  .ret (.comp (.bin .fdiv (.var 2) (.var 1)) (.nm 2) (.seq (.var 0)) [])]
def t__law_lowest : FT := ⟨"_law_lowest", top 29, ["vector", "common", "item"], ["vector"], ⟨1, 3, b__law_lowest⟩⟩
def b__law_items_right : List CS := [
  .asg 5 (.bi .len [.var 2]),
  .asg 6 (.lit (.int 0)),
  .asg 7 (.lit (.int 0)),
  .forS (.nm 8) (.rng1 (.var 5)) [.asg 6 (.bin .add (.var 6) (.bin .mul (.idx (.var 2) (.var 8)) (.idx (.var 3) (.var 8)))), .asg 7 (.bin .add (.var 7) (.bi .abs [.idx (.var 2) (.var 8)]))],
  .ite (.or (.not (.call 18 [.call 7 [.var 0, .var 1], .var 6])) (.not (.call 18 [.call 11 [.var 0], .var 7]))) [.ret (.lit (.bl false))] [],
  .ite (.not (.call 18 [.call 8 [.var 0, .var 1], .comp (.bin .add (.idx (.var 2) (.var 8)) (.idx (.var 3) (.var 8))) (.nm 8) (.rng1 (.var 5)) []])) [.ret (.lit (.bl false))] [],
  .ite (.not (.call 18 [.call 9 [.var 0, .var 1], .comp (.bin .sub (.idx (.var 2) (.var 8)) (.idx (.var 3) (.var 8))) (.nm 8) (.rng1 (.var 5)) []])) [.ret (.lit (.bl false))] [],
  .ite (.not (.call 18 [.call 10 [.var 4, .var 0], .comp (.bin .mul (.var 4) (.var 9)) (.nm 9) (.seq (.var 2)) []])) [.ret (.lit (.bl false))] [],
  .ret (.call 18 [.call 12 [.var 0], .call 25 [.var 2]])]
def t__law_items_right : FT := ⟨"_law_items_right", top 30, ["left", "right", "one", "two", "scalar", "many", "total", "extent", "k", "item"], ["left", "right", "one", "two", "scalar"], ⟨5, 10, b__law_items_right⟩⟩
def b__law_drawn_vectors : List CS := [
  .asg 3 (.call 16 [.var 0, .bin .add (.lst [.lit (.int 12), .lit (.int 10), .lit (.int 7), .lit (.int 2), .lit (.int 2), .lit (.int 40), .lit (.int 2)]) (.lst [.lit (.int 8), .lit (.int 2), .bin .pow (.lit (.int 10)) (.lit (.int 9)), .bin .pow (.lit (.int 10)) (.lit (.int 40))])]),
  .asg 4 (.idx (.lst [.lit (.int 2), .lit (.int 3), .lit (.int 1), .lit (.int 0), .lit (.int 4), .lit (.int 3), .lit (.int 2), .lit (.int 6), .lit (.int 9), .lit (.int 5), .lit (.int 1), .lit (.int 40)]) (.idx (.var 3) (.lit (.int 0)))),
  .asg 5 (.idx (.lst [.lit (.int 1), .lit (.int 1), .lit (.int 2), .lit (.int 3), .lit (.int 6), .lit (.int 35), .bin .add (.bin .pow (.lit (.int 10)) (.lit (.int 9))) (.lit (.int 7)), .lit (.int 0), .lit (.int 12), .bin .pow (.lit (.int 10)) (.lit (.int 30))]) (.idx (.var 3) (.lit (.int 1)))),
  .asg 6 (.comp (.bin .mul (.var 5) (.var 8)) (.nm 8) (.seq (.call 24 [.var 1, .var 4])) []),
  .asg 7 (.call 24 [.var 2, .var 4]),
  .ite (.cmp .eq (.idx (.var 3) (.lit (.int 2))) (.lit (.int 1))) [.asg 7 (.comp (.lit (.int 0)) (.nm 8) (.seq (.var 7)) [])] [],
  .ite (.cmp .eq (.idx (.var 3) (.lit (.int 2))) (.lit (.int 2))) [.asg 7 (.bi .list [.var 6])] [],
  .ite (.cmp .eq (.idx (.var 3) (.lit (.int 2))) (.lit (.int 3))) [.asg 7 (.comp (.bin .sub (.lit (.int 0)) (.var 8)) (.nm 8) (.seq (.var 6)) [])] [],
  .drop 6,
  .drop 7,
  .drop 3,
  .ret (.lst [.var 6, .var 7, .call 19 [.var 3, .lit (.int 7)], .idx (.var 3) (.lit (.int 3)), .idx (.var 3) (.lit (.int 4)), .bin .mod (.bi .int [.idx (.var 3) (.lit (.int 5))]) (.bi .max [.var 4, .lit (.int 1)]), .bin .sub (.lit (.int 1)) (.bin .mul (.lit (.int 2)) (.idx (.var 3) (.lit (.int 6))))])]
def t__law_drawn_vectors : FT := ⟨"_law_drawn_vectors", top 31, ["cell", "one_cell", "two_cell", "shape", "many", "factor", "one", "two", "item"], ["cell", "one_cell", "two_cell"], ⟨3, 9, b__law_drawn_vectors⟩⟩
def b__law_vectors_right : List CS := [
  .asg 1 (.idx (.var 0) (.lit (.int 0))),
  .asg 2 (.idx (.var 0) (.lit (.int 1))),
  .asg 3 (.bi .len [.var 1]),
  .asg 4 (.bi .tuple [.var 1]),
  .asg 5 (.bi .tuple [.var 2]),
  .ite (.cmp .eq (.idx (.var 0) (.lit (.int 3))) (.lit (.int 1))) [.asg 4 (.bi .list [.var 1])] [],
  .ite (.cmp .eq (.idx (.var 0) (.lit (.int 4))) (.lit (.int 1))) [.asg 5 (.bi .list [.var 2])] [],
  .drop 4,
  .drop 5,
  .ite (.or (.not (.call 26 [.var 4, .var 5, .var 1, .var 2, .idx (.var 0) (.lit (.int 2))])) (.not (.call 26 [.var 5, .var 4, .var 2, .var 1, .idx (.var 0) (.lit (.int 2))]))) [.ret (.lit (.bl false))] [],
  .ite (.and (.cmp .ge (.var 3) (.lit (.int 1))) (.not (.call 18 [.call 13 [.var 3, .idx (.var 0) (.lit (.int 5)), .idx (.var 0) (.lit (.int 6))], .comp (.bin .mul (.idx (.var 0) (.lit (.int 6))) (.bi .int [.cmp .eq (.var 6) (.idx (.var 0) (.lit (.int 5)))])) (.nm 6) (.rng1 (.var 3)) []]))) [.ret (.lit (.bl false))] [],
  .ite (.or (.not (.call 18 [.bi .tuple [.var 4], .var 1])) (.not (.call 18 [.bi .tuple [.var 5], .var 2]))) [.ret (.lit (.bl false))] [],
  .ret (.call 18 [.call 12 [.bi .tuple [.var 1]], .call 25 [.var 1]])]
def t__law_vectors_right : FT := ⟨"_law_vectors_right", top 32, ["drawn", "one", "two", "many", "left", "right", "k"], ["drawn"], ⟨1, 7, b__law_vectors_right⟩⟩
def b_law : List CS := [
  .forS (.nm 1) (.rng1 (.lit (.int 4))) [.ite (.not (.call 23 [.call 22 [.call 15 [.var 0, .bin .mul (.lit (.int 2)) (.var 1)], .call 15 [.var 0, .bin .add (.bin .mul (.lit (.int 2)) (.var 1)) (.lit (.int 1))]]])) [.ret (.lit (.bl false))] []],
  .forS (.nm 1) (.rng1 (.lit (.int 4))) [.asg 2 (.call 27 [.call 15 [.var 0, .bin .add (.lit (.int 8)) (.bin .mul (.lit (.int 3)) (.var 1))], .call 15 [.var 0, .bin .add (.lit (.int 9)) (.bin .mul (.lit (.int 3)) (.var 1))], .call 15 [.var 0, .bin .add (.lit (.int 10)) (.bin .mul (.lit (.int 3)) (.var 1))]]), .drop 2, .ite (.not (.call 28 [.var 2])) [.ret (.lit (.bl false))] []],
  .ret (.lit (.bl true))]
def t_law : FT := ⟨"law", top 33, ["script", "k", "drawn"], ["script"], ⟨1, 3, b_law⟩⟩
def T : List FT := [t_ratio, t_ratio_sum, t_ratio_difference, t_ratio_product, t_ratio_order, t_ratio_floor, t_ratio_ceiling, t_dot, t_plus, t_minus, t_times, t_size, t_primitive, t_unit, t__law_whole, t__law_cell, t__law_digits, t__law_common, t__law_same, t__law_number, t__law_ratio, t__law_reckoned, t__law_drawn_fractions, t__law_fractions_right, t__law_vector, t__law_lowest, t__law_items_right, t__law_drawn_vectors, t__law_vectors_right, t_law]
def C : MC := ⟨["ratio", "ratio_sum", "ratio_difference", "ratio_product", "ratio_order", "ratio_floor", "ratio_ceiling", "dot", "plus", "minus", "times", "size", "primitive", "unit", "_law_whole", "_law_cell", "_law_digits", "_law_common", "_law_same", "_law_number", "_law_ratio", "_law_reckoned", "_law_drawn_fractions", "_law_fractions_right", "_law_vector", "_law_lowest", "_law_items_right", "_law_drawn_vectors", "_law_vectors_right", "law"], ["range", "tuple", "sum", "int", "abs", "isinstance", "str", "len", "list", "bool", "max"], [("gcd", .gcd)]⟩
abbrev F_ratio : Nat := 0
abbrev F_ratio_sum : Nat := 1
abbrev F_ratio_difference : Nat := 2
abbrev F_ratio_product : Nat := 3
abbrev F_ratio_order : Nat := 4
abbrev F_ratio_floor : Nat := 5
abbrev F_ratio_ceiling : Nat := 6
abbrev F_dot : Nat := 7
abbrev F_plus : Nat := 8
abbrev F_minus : Nat := 9
abbrev F_times : Nat := 10
abbrev F_size : Nat := 11
abbrev F_primitive : Nat := 12
abbrev F_unit : Nat := 13
abbrev F_law_whole : Nat := 14
abbrev F_law_cell : Nat := 15
abbrev F_law_digits : Nat := 16
abbrev F_law_common : Nat := 17
abbrev F_law_same : Nat := 18
abbrev F_law_number : Nat := 19
abbrev F_law_ratio : Nat := 20
abbrev F_law_reckoned : Nat := 21
abbrev F_law_drawn_fractions : Nat := 22
abbrev F_law_fractions_right : Nat := 23
abbrev F_law_vector : Nat := 24
abbrev F_law_lowest : Nat := 25
abbrev F_law_items_right : Nat := 26
abbrev F_law_drawn_vectors : Nat := 27
abbrev F_law_vectors_right : Nat := 28
abbrev F_law : Nat := 29
theorem text_ok : ∀ t ∈ T, textB C t = true := by
  have h : (T.all (textB C)) = true := by decide +kernel
  exact List.all_eq_true.mp h
end K00

set_option Elab.async false
set_option linter.all false
set_option maxRecDepth 100000
set_option exponentiation.threshold 10000
/-! Mn11: stepping through a body of the value language with simp. -/
namespace Mn.S
open PySem

/-- bind, told by a lemma alone -/
def bd {α β : Type} (o : Option α) (f : α → Option β) : Option β := o.bind f
theorem bd_in {α β : Type} {o o' : Option α} {f : α → Option β} (h : o = o') : bd o f = bd o' f := by rw [h]
theorem bd_eq {α β : Type} {o : Option α} {f : α → Option β} : o.bind f = bd o f := rfl
@[simp] theorem bd_some {α β : Type} {a : α} {f : α → Option β} : bd (some a) f = f a := Eq.trans rfl (Eq.refl (f a))

/-- the value is there, and it is so -/
def OB {α : Type} (o : Option α) (P : α → Prop) : Prop := ∃ a, o = some a ∧ P a
theorem OB_in {α : Type} {o o' : Option α} {P : α → Prop} (h : o = o') : OB o P ↔ OB o' P := by rw [h]
@[simp] theorem OB_some {α : Type} {a : α} {P : α → Prop} : OB (some a) P ↔ P a := ⟨fun ⟨_, h, p⟩ => by cases h; exact p, fun p => ⟨a, rfl, p⟩⟩
@[simp] theorem OB_bd {α β : Type} {o : Option α} {f : α → Option β} {P : β → Prop} : OB (bd o f) P ↔ OB o (fun a => OB (f a) P) := by
  cases o with
  | none => exact ⟨fun ⟨_, h, _⟩ => (by cases h), fun ⟨_, h, _⟩ => (by cases h)⟩
  | some a => rw [OB_some]; rfl
theorem OB_bind {α β : Type} {o : Option α} {f : α → Option β} {P : β → Prop} : OB (o.bind f) P ↔ OB o (fun a => OB (f a) P) := by
  cases o with
  | none => exact ⟨fun ⟨_, h, _⟩ => (by cases h), fun ⟨_, h, _⟩ => (by cases h)⟩
  | some a => rw [OB_some]; rfl

/-- one of two, by a test that stands open -/
def IF (c : Bool) (A B : Prop) : Prop := (c = true → A) ∧ (c = false → B)
theorem IF_in {c c' : Bool} {A B : Prop} (h : c = c') : IF c A B ↔ IF c' A B := by rw [h]
@[simp] theorem IF_t {A B : Prop} : IF true A B ↔ A := ⟨fun h => h.1 rfl, fun a => ⟨fun _ => a, fun h => (by cases h)⟩⟩
@[simp] theorem IF_f {A B : Prop} : IF false A B ↔ B := ⟨fun h => h.2 rfl, fun a => ⟨fun h => (by cases h), fun _ => a⟩⟩
theorem IF.by {c : Bool} {A B : Prop} (h : c = true → A) (k : c = false → B) : IF c A B := ⟨h, k⟩
theorem IF.dec {p : Prop} [Decidable p] {A B : Prop} (h : p → A) (k : ¬ p → B) : IF (decide p) A B := ⟨fun e => h (of_decide_eq_true e), fun e => k (of_decide_eq_false e)⟩
theorem IF.nec {p : Prop} [Decidable p] {A B : Prop} (h : p → B) (k : ¬ p → A) : IF (!decide p) A B := by
  by_cases e : p
  · simp only [e, decide_true, Bool.not_true, IF_f]; exact h e
  · simp only [e, decide_false, Bool.not_false, IF_t]; exact k e

def W (Φ : Fns) (L : Nat) (ss : List CS) (σ : MS) (Q : Flow → Prop) : Prop := OB (exs Φ L ss σ) Q

variable {Φ : Fns} {L : Nat} {r : List CS} {σ : MS} {Q : Flow → Prop}

@[simp] theorem W_nil : W Φ L [] σ Q ↔ Q (.nx σ) := by simp only [W, exs, OB_some]

theorem W_cons (s : CS) : W Φ L (s :: r) σ Q ↔ OB (ex Φ L s σ) (fun fl => match fl with
    | .nx σ' => W Φ L r σ' Q
    | fl => Q fl) := by
  unfold W
  rw [exs]
  rw [OB_bind]
  refine ⟨fun ⟨fl, e, h⟩ => ⟨fl, e, ?_⟩, fun ⟨fl, e, h⟩ => ⟨fl, e, ?_⟩⟩
  · cases fl with
    | nx σ' => exact h
    | ret v o => exact (OB_some (a := Flow.ret v o) (P := Q)).mp h
    | bk σ' => exact (OB_some (a := Flow.bk σ') (P := Q)).mp h
    | ct σ' => exact (OB_some (a := Flow.ct σ') (P := Q)).mp h
  · cases fl with
    | nx σ' => exact h
    | ret v o => exact (OB_some (a := Flow.ret v o) (P := Q)).mpr h
    | bk σ' => exact (OB_some (a := Flow.bk σ') (P := Q)).mpr h
    | ct σ' => exact (OB_some (a := Flow.ct σ') (P := Q)).mpr h

@[simp] theorem W_asg {i e} : W Φ L (.asg i e :: r) σ Q ↔ OB (ev Φ e σ) (fun x => OB (asgM σ i x) (fun σ' => W Φ L r σ' Q)) := by
  rw [W_cons, ex]; simp only [OB_bind, OB_some]
@[simp] theorem W_asgT {is e} : W Φ L (.asgT is e :: r) σ Q ↔ OB (ev Φ e σ) (fun x => OB (keep x) (fun v => OB (putT σ (.tp is) v) (fun σ' => W Φ L r σ' Q))) := by
  rw [W_cons, ex]; simp only [OB_bind, OB_some]
@[simp] theorem W_par {i j a b} : W Φ L (.par i j a b :: r) σ Q ↔ OB (ev Φ a σ) (fun x => OB (ev Φ b σ) (fun y => OB (keep x) (fun v => OB (keep y) (fun w => W Φ L r (setM (setM σ i v false) j w false) Q)))) := by
  rw [W_cons, ex]; simp only [OB_bind, OB_some]
@[simp] theorem W_app {i e} : W Φ L (.app i e :: r) σ Q ↔ OB (ev Φ e σ) (fun x => OB (keep x) (fun v => OB (ownL σ i) (fun l => l.length < SZ ∧ W Φ L r (setM σ i (.lst (l ++ [v])) true) Q))) := by
  rw [W_cons, ex]; simp only [OB_bind]
  have : ∀ (l : List MV) (v : MV), OB (if l.length < SZ then some (Flow.nx (setM σ i (.lst (l ++ [v])) true)) else none) (fun fl => match fl with | .nx σ' => W Φ L r σ' Q | fl => Q fl) ↔ (l.length < SZ ∧ W Φ L r (setM σ i (.lst (l ++ [v])) true) Q) := by
    intro l v
    by_cases h : l.length < SZ
    · simp only [h, if_true, OB_some, true_and]
    · simp only [h, if_false, false_and, iff_false]; exact fun ⟨_, k, _⟩ => (by cases k)
  simp only [this]
@[simp] theorem W_ext {i e} : W Φ L (.ext i e :: r) σ Q ↔ OB (ev Φ e σ) (fun x => OB (seqOf x.1) (fun m => OB (ownL σ i) (fun l => l.length + m.length ≤ SZ ∧ W Φ L r (setM σ i (.lst (l ++ m)) true) Q))) := by
  rw [W_cons, ex]; simp only [OB_bind]
  have : ∀ (l : List MV) (v : List MV), OB (if l.length + v.length ≤ SZ then some (Flow.nx (setM σ i (.lst (l ++ v)) true)) else none) (fun fl => match fl with | .nx σ' => W Φ L r σ' Q | fl => Q fl) ↔ (l.length + v.length ≤ SZ ∧ W Φ L r (setM σ i (.lst (l ++ v)) true) Q) := by
    intro l v
    by_cases h : l.length + v.length ≤ SZ
    · simp only [h, if_true, OB_some, true_and]
    · simp only [h, if_false, false_and, iff_false]; exact fun ⟨_, k, _⟩ => (by cases k)
  simp only [this]

/-- x[n] = v -/
def setSem (l : List MV) (n : MV) (v : MV) : Option (List MV) := match n with
  | .int n => (L2.ixN l.length n).bind fun j => some (l.set j v)
  | _ => none
@[simp] theorem W_set {i k e} : W Φ L (.set i k e :: r) σ Q ↔ OB (ev Φ e σ) (fun x => OB (keep x) (fun v => OB (ev Φ k σ) (fun y => OB (ownL σ i) (fun l => OB (setSem l y.1 v) (fun l' => W Φ L r (setM σ i (.lst l') true) Q))))) := by
  rw [W_cons, ex]; simp only [OB_bind]
  refine ⟨?_, ?_⟩
  · rintro ⟨x, hx, v, hv, y, hy, h⟩
    refine ⟨x, hx, v, hv, y, hy, ?_⟩
    obtain ⟨y1, yt⟩ := y
    cases y1 with
    | int n =>
      obtain ⟨f, hf, q⟩ := h
      dsimp only at hf
      cases ho : ownL σ i with
      | none => rw [ho] at hf; cases hf
      | some l =>
        refine ⟨l, rfl, ?_⟩
        rw [ho] at hf
        simp only [setSem]
        cases hj : L2.ixN l.length n with
        | none => rw [Option.bind_some, hj] at hf; cases hf
        | some j =>
          rw [Option.bind_some, hj] at hf
          cases hf
          exact ⟨_, rfl, q⟩
    | _ => obtain ⟨f, hf, q⟩ := h; cases hf
  · rintro ⟨x, hx, v, hv, y, hy, l, hl, l', hl', h⟩
    refine ⟨x, hx, v, hv, y, hy, ?_⟩
    obtain ⟨y1, yt⟩ := y
    cases y1 with
    | int n =>
      dsimp only [setSem] at hl' ⊢
      rw [hl, Option.bind_some]
      cases hj : L2.ixN l.length n with
      | none => rw [hj] at hl'; cases hl'
      | some j => rw [hj] at hl'; cases hl'; exact ⟨_, rfl, h⟩
    | _ => cases hl'
def augSem (op : BOp) : MV → MV → Option MV
  | .int m, .int n => match op with
    | .add => some (.int (m + n))
    | .sub => some (.int (m - n))
    | _ => none
  | _, _ => none
@[simp] theorem W_aug {i op e} : W Φ L (.aug i op e :: r) σ Q ↔ OB (getM σ i) (fun x => OB (ev Φ e σ) (fun y => OB (augSem op x.1 y.1) (fun z => W Φ L r (setM σ i z false) Q))) := by
  rw [W_cons, ex]; simp only [OB_bind]
  have : ∀ x y : MV × Tg, OB ((match x.1, y.1 with
      | .int m, .int n => (match op with
          | .add => some (m + n)
          | .sub => some (m - n)
          | _ => none).bind fun z => some (.nx (setM σ i (.int z) false))
      | _, _ => none : Option Flow)) (fun fl => match fl with | .nx σ' => W Φ L r σ' Q | fl => Q fl) ↔ OB (augSem op x.1 y.1) (fun z => W Φ L r (setM σ i z false) Q) := by
    rintro ⟨x, t⟩ ⟨y, u⟩
    have no : ∀ P : Flow → Prop, OB (none : Option Flow) P ↔ False := fun P => ⟨fun ⟨_, h, _⟩ => (by cases h), False.elim⟩
    have no' : ∀ P : MV → Prop, OB (none : Option MV) P ↔ False := fun P => ⟨fun ⟨_, h, _⟩ => (by cases h), False.elim⟩
    cases x <;> cases y <;> cases op <;> simp only [augSem, Option.bind_some, Option.bind_none, OB_some, no, no']
  exact ⟨fun ⟨x, hx, y, hy, h⟩ => ⟨x, hx, y, hy, (this x y).mp h⟩, fun ⟨x, hx, y, hy, h⟩ => ⟨x, hx, y, hy, (this x y).mpr h⟩⟩
@[simp] theorem W_pop {i k} : W Φ L (.pop none i k :: r) σ Q ↔ OB (evO Φ k σ) (fun n => OB (ownL σ i) (fun l => OB (popSem l n) (fun y => W Φ L r (setM σ i (.lst y.2) true) Q))) := by
  rw [W_cons, ex]; simp only [OB_bind, OB_some]
theorem W_popTo {i j k} (h : j ≠ i) : W Φ L (.pop (some j) i k :: r) σ Q ↔ OB (evO Φ k σ) (fun n => OB (ownL σ i) (fun l => OB (popSem l n) (fun y => W Φ L r (setM (setM σ i (.lst y.2) true) j y.1 false) Q))) := by
  rw [W_cons, ex]; simp only [OB_bind, OB_some, h, if_false]
@[simp] theorem W_expr {e} : W Φ L (.expr e :: r) σ Q ↔ OB (ev Φ e σ) (fun _ => W Φ L r σ Q) := by
  rw [W_cons, ex]; simp only [OB_bind, OB_some]
theorem W_ret' {e} : W Φ L (.ret e :: r) σ Q ↔ OB (ev Φ e σ) (fun x => (¬ (x.2 = .bo ∧ isVar e = false)) ∧ Q (retM x)) := by
  rw [W_cons, ex]; simp only [OB_bind]
  have : ∀ x : MV × Tg, OB (if x.2 = .bo ∧ isVar e = false then none else some (retM x)) (fun fl => match fl with | .nx σ' => W Φ L r σ' Q | fl => Q fl) ↔ ((¬ (x.2 = .bo ∧ isVar e = false)) ∧ Q (retM x)) := by
    rintro ⟨x, t⟩
    by_cases h : t = .bo ∧ isVar e = false
    · simp only [h, and_self, if_true, not_true, false_and, iff_false]; exact fun ⟨_, k, _⟩ => (by cases k)
    · rw [if_neg h, OB_some]
      simp only [h, not_false_eq_true, true_and]
      cases t <;> rfl
  simp only [this]
/-- what a return gives -/
def retS (b : Bool) : MV × Tg → Option Flow
  | (v, .sh) => some (.ret v false)
  | (v, .fr) => some (.ret v true)
  | (v, .bo) => if b then some (.ret v true) else none
@[simp] theorem retS_sh {b v} : retS b (v, .sh) = some (.ret v false) := rfl
@[simp] theorem retS_fr {b v} : retS b (v, .fr) = some (.ret v true) := rfl
@[simp] theorem retS_bo {v} : retS true (v, .bo) = some (.ret v true) := rfl
@[simp] theorem W_ret {e} : W Φ L (.ret e :: r) σ Q ↔ OB (ev Φ e σ) (fun x => OB (retS (isVar e) x) Q) := by
  rw [W_ret']
  have : ∀ x : MV × Tg, ((¬ (x.2 = .bo ∧ isVar e = false)) ∧ Q (retM x)) ↔ OB (retS (isVar e) x) Q := by
    rintro ⟨x, t⟩
    cases t
    · simp [retS, retM]
    · simp [retS, retM]
    · cases h : isVar e
      · simp [retS, retM]; exact fun ⟨_, k, _⟩ => (by cases k)
      · simp [retS, retM]
  simp only [this]
@[simp] theorem W_retN : W Φ L (.retN :: r) σ Q ↔ Q (.ret .non false) := by
  rw [W_cons, ex]; simp only [OB_some]
@[simp] theorem W_brk : W Φ L (.brk :: r) σ Q ↔ Q (.bk σ) := by rw [W_cons, ex]; simp only [OB_some]
@[simp] theorem W_cnt : W Φ L (.cnt :: r) σ Q ↔ Q (.ct σ) := by rw [W_cons, ex]; simp only [OB_some]
@[simp] theorem W_pass : W Φ L (.pass :: r) σ Q ↔ W Φ L r σ Q := by rw [W_cons, ex]; simp only [OB_some]
/-- the name gives up what it owns -/
def dropM (σ : MS) (i : Nat) : Option MS := match σ[i]? with
  | some (some (v, _)) => some (setM σ i v false)
  | _ => none
@[simp] theorem W_drop {i} : W Φ L (.drop i :: r) σ Q ↔ OB (dropM σ i) (fun σ' => W Φ L r σ' Q) := by
  rw [W_cons, ex, dropM]
  have no : ∀ P : Flow → Prop, OB (none : Option Flow) P ↔ False := fun P => ⟨fun ⟨_, h, _⟩ => (by cases h), False.elim⟩
  have no' : ∀ P : MS → Prop, OB (none : Option MS) P ↔ False := fun P => ⟨fun ⟨_, h, _⟩ => (by cases h), False.elim⟩
  cases h : σ[i]? with
  | none => simp only [no, no']
  | some y => cases y with
    | none => simp only [no, no']
    | some z => simp only [OB_some]

theorem exs_append (a b : List CS) : ∀ σ, exs Φ L (a ++ b) σ = (exs Φ L a σ).bind fun
      | .nx σ' => exs Φ L b σ'
      | .ret v own => some (.ret v own)
      | .bk σ' => some (.bk σ')
      | .ct σ' => some (.ct σ') := by
  induction a with
  | nil => intro σ; simp only [List.nil_append, exs, Option.bind_some]
  | cons s a ih =>
    intro σ
    simp only [List.cons_append, exs]
    cases h : ex Φ L s σ with
    | none => rfl
    | some fl => cases fl <;> simp only [Option.bind_some, ih]

theorem W_append (a : List CS) : W Φ L (a ++ r) σ Q ↔ W Φ L a σ (fun fl => match fl with
    | .nx σ' => W Φ L r σ' Q
    | fl => Q fl) := by
  unfold W
  rw [exs_append, OB_bind]
  refine ⟨fun ⟨fl, e, h⟩ => ⟨fl, e, ?_⟩, fun ⟨fl, e, h⟩ => ⟨fl, e, ?_⟩⟩
  · cases fl with
    | nx σ' => exact h
    | ret v o => exact (OB_some (a := Flow.ret v o) (P := Q)).mp h
    | bk σ' => exact (OB_some (a := Flow.bk σ') (P := Q)).mp h
    | ct σ' => exact (OB_some (a := Flow.ct σ') (P := Q)).mp h
  · cases fl with
    | nx σ' => exact h
    | ret v o => exact (OB_some (a := Flow.ret v o) (P := Q)).mpr h
    | bk σ' => exact (OB_some (a := Flow.bk σ') (P := Q)).mpr h
    | ct σ' => exact (OB_some (a := Flow.ct σ') (P := Q)).mpr h

@[simp] theorem W_ite {c a b} : W Φ L (.ite c a b :: r) σ Q ↔ OB (ev Φ c σ) (fun x => OB (truth x.1) (fun t => IF t (W Φ L (a ++ r) σ Q) (W Φ L (b ++ r) σ Q))) := by
  rw [W_cons, ex]; simp only [OB_bind]
  have : ∀ t : Bool, OB (if t = true then exs Φ L a σ else exs Φ L b σ) (fun fl => match fl with | .nx σ' => W Φ L r σ' Q | fl => Q fl) ↔ IF t (W Φ L (a ++ r) σ Q) (W Φ L (b ++ r) σ Q) := by
    intro t
    cases t
    · simp only [Bool.false_eq_true, if_false, IF_f, W_append]; rfl
    · simp only [if_true, IF_t, W_append]; rfl
  simp only [this]

theorem W.mono {Q' : Flow → Prop} {ss : List CS} (h : W Φ L ss σ Q) (i : ∀ fl, Q fl → Q' fl) : W Φ L ss σ Q' := let ⟨a, e, q⟩ := h; ⟨a, e, i a q⟩

/-- a part first: what holds behind it is all that the rest needs -/
theorem W.cut {a : List CS} {I : MS → Prop} (h : W Φ L a σ (fun fl => match fl with | .nx σ' => I σ' | fl => Q fl)) (k : ∀ σ', I σ' → W Φ L r σ' Q) : W Φ L (a ++ r) σ Q := by
  rw [W_append]
  refine h.mono fun fl q => ?_
  cases fl with
  | nx σ' => exact k σ' q
  | _ => exact q

/-- one statement first -/
theorem W.step {s : CS} {I : MS → Prop} (h : W Φ L [s] σ (fun fl => match fl with | .nx σ' => I σ' | fl => Q fl)) (k : ∀ σ', I σ' → W Φ L r σ' Q) : W Φ L (s :: r) σ Q := W.cut (a := [s]) h k

/-! for and while -/
theorem goFor_inv {f : MV → MS → Option Flow} {Q : Flow → Prop} (xs : List MV) (I : Nat → MS → Prop) (J : MS → Prop)
    (step : ∀ k x σ, xs[k]? = some x → I k σ → OB (f x σ) (fun fl => match fl with | .nx σ' => I (k + 1) σ' | .ct σ' => I (k + 1) σ' | .bk σ' => J σ' | .ret v o => Q (.ret v o)))
    (done : ∀ σ, I xs.length σ → Q (.nx σ)) (brk : ∀ σ, J σ → Q (.nx σ)) : ∀ (r : List MV) (k : Nat) (σ : MS), xs.drop k = r → k ≤ xs.length → I k σ → OB (goFor f r σ) Q := by
  intro r
  induction r with
  | nil =>
    intro k σ hk hl hI
    have : k = xs.length := by have := List.drop_eq_nil_iff.mp hk; omega
    subst this
    exact ⟨_, rfl, done σ hI⟩
  | cons x r ih =>
    intro k σ hk hl hI
    have hlt : k < xs.length := by
      rcases Nat.lt_or_ge k xs.length with h | h
      · exact h
      · rw [List.drop_eq_nil_of_le h] at hk; cases hk
    have hx : xs[k]? = some x := by
      rw [List.drop_eq_getElem_cons hlt] at hk
      cases hk
      exact List.getElem?_eq_getElem hlt
    have hr : xs.drop (k + 1) = r := by
      rw [List.drop_eq_getElem_cons hlt] at hk
      exact (List.cons.inj hk).2
    obtain ⟨fl, e, q⟩ := step k x σ hx hI
    rw [goFor, e, Option.bind_some]
    cases fl with
    | nx σ' => exact ih (k + 1) σ' hr hlt q
    | ct σ' => exact ih (k + 1) σ' hr hlt q
    | bk σ' => exact ⟨_, rfl, brk σ' q⟩
    | ret v o => exact ⟨_, rfl, q⟩

/-- what an iteration walks: not a list that a name owns -/
def itS : List MV × Tg → Option (List MV)
  | (l, .bo) => none
  | (l, _) => some l
@[simp] theorem itS_sh {l} : itS (l, .sh) = some l := rfl
@[simp] theorem itS_fr {l} : itS (l, .fr) = some l := rfl

theorem W.forS {tg : TGT} {it : CI} {body : List CS} (xs : List MV) (I : Nat → MS → Prop) (J : MS → Prop) (hi : bd (evI Φ it σ) itS = some xs) (h0 : I 0 σ)
    (step : ∀ k x σ, xs[k]? = some x → I k σ → OB (putT σ tg x) (fun σ2 => W Φ L body σ2 (fun fl => match fl with | .nx σ' => I (k + 1) σ' | .ct σ' => I (k + 1) σ' | .bk σ' => J σ' | .ret v o => Q (.ret v o))))
    (done : ∀ σ, I xs.length σ → W Φ L r σ Q) (brk : ∀ σ, J σ → W Φ L r σ Q) : W Φ L (.forS tg it body :: r) σ Q := by
  obtain ⟨⟨l, t⟩, ht⟩ : ∃ y, evI Φ it σ = some y := by
    cases h : evI Φ it σ with
    | none => rw [h] at hi; cases hi
    | some y => exact ⟨y, rfl⟩
  rw [ht, bd_some] at hi
  have hb : l = xs ∧ t ≠ .bo := by cases t <;> cases hi <;> exact ⟨rfl, by decide⟩
  obtain ⟨rfl, hb⟩ := hb
  rw [W_cons, ex]
  rw [ht, Option.bind_some]
  rw [if_neg hb]
  refine goFor_inv (Q := fun fl => match fl with | .nx σ' => W Φ L r σ' Q | fl => Q fl) l I J ?_ done brk l 0 σ rfl (Nat.zero_le _) h0
  intro k x σ hx hI
  have := step k x σ hx hI
  rw [OB_bind]
  exact this

/-- without break -/
theorem W.for {tg : TGT} {it : CI} {body : List CS} (xs : List MV) (I : Nat → MS → Prop) (hi : bd (evI Φ it σ) itS = some xs) (h0 : I 0 σ)
    (step : ∀ k x σ, xs[k]? = some x → I k σ → OB (putT σ tg x) (fun σ2 => W Φ L body σ2 (fun fl => match fl with | .nx σ' => I (k + 1) σ' | .ct σ' => I (k + 1) σ' | .bk _ => False | .ret v o => Q (.ret v o))))
    (done : ∀ σ, I xs.length σ → W Φ L r σ Q) : W Φ L (.forS tg it body :: r) σ Q := W.forS xs I (fun _ => False) hi h0 step done (fun _ h => h.elim)

theorem goWhl_inv {c : MS → Option Bool} {f : MS → Option Flow} {Q : Flow → Prop} (I : Nat → MS → Prop) (J : MS → Prop)
    (step : ∀ m σ, I m σ → OB (c σ) (fun t => IF t (OB (f σ) (fun fl => match fl with | .nx σ' => ∃ m', m' < m ∧ I m' σ' | .ct σ' => ∃ m', m' < m ∧ I m' σ' | .bk σ' => J σ' | .ret v o => Q (.ret v o))) (J σ)))
    (brk : ∀ σ, J σ → Q (.nx σ)) : ∀ (n m : Nat) (σ : MS), m < n → I m σ → OB (goWhl c f n σ) Q := by
  intro n
  induction n with
  | zero => intro m σ h; cases h
  | succ n ih =>
    intro m σ hm hI
    obtain ⟨t, e, q⟩ := step m σ hI
    rw [goWhl, e, Option.bind_some]
    cases t with
    | false => rw [if_neg (by decide), OB_some]; exact brk σ (IF_f.mp q)
    | true =>
      rw [if_pos rfl]
      obtain ⟨fl, e2, q2⟩ := IF_t.mp q
      rw [e2, Option.bind_some]
      cases fl with
      | nx σ' => obtain ⟨m', h', hI'⟩ := q2; exact ih m' σ' (by omega) hI'
      | ct σ' => obtain ⟨m', h', hI'⟩ := q2; exact ih m' σ' (by omega) hI'
      | bk σ' => exact ⟨_, rfl, brk σ' q2⟩
      | ret v o => exact ⟨_, rfl, q2⟩

theorem W.whl {c : CE} {body : List CS} (I : Nat → MS → Prop) (J : MS → Prop) (m : Nat) (hm : m < L) (h0 : I m σ)
    (step : ∀ m σ, I m σ → OB (ev Φ c σ) (fun x => OB (truth x.1) (fun t => IF t (W Φ L body σ (fun fl => match fl with | .nx σ' => ∃ m', m' < m ∧ I m' σ' | .ct σ' => ∃ m', m' < m ∧ I m' σ' | .bk σ' => J σ' | .ret v o => Q (.ret v o))) (J σ))))
    (done : ∀ σ, J σ → W Φ L r σ Q) : W Φ L (.whl c body :: r) σ Q := by
  rw [W_cons, ex]
  refine goWhl_inv (Q := fun fl => match fl with | .nx σ' => W Φ L r σ' Q | fl => Q fl) I J ?_ done L m σ hm h0
  intro m σ hI
  rw [OB_bind]
  exact step m σ hI

/-! calls -/
theorem run_of {T : List FD} {k f : Nat} {args : List MV} {d : FD} {P : MV × Bool → Prop} (h : T[f]? = some d) (hl : args.length = d.np)
    (w : W (run T L k) L d.body (startM d.nn args) (fun fl => OB (resOf fl) P)) : OB (run T L (k + 1) f args) P := by
  rw [run, h]
  dsimp only
  rw [if_pos hl, OB_bind]
  exact w
theorem run_eq {T : List FD} {k f : Nat} {args : List MV} {d : FD} {v : MV × Bool} (h : T[f]? = some d) (hl : args.length = d.np)
    (w : W (run T L k) L d.body (startM d.nn args) (fun fl => resOf fl = some v)) : run T L (k + 1) f args = some v := by
  obtain ⟨a, e, q⟩ := run_of (P := fun a => a = v) h hl (w.mono fun fl q => by rw [q, OB_some])
  rw [e, q]
theorem run_ex {T : List FD} {k f : Nat} {args : List MV} {d : FD} {P : MV × Bool → Prop} (h : T[f]? = some d) (hl : args.length = d.np)
    (w : W (run T L k) L d.body (startM d.nn args) (fun fl => OB (resOf fl) P)) : ∃ v, run T L (k + 1) f args = some v ∧ P v := run_of h hl w

@[simp] theorem resOf_ret {v o} : resOf (.ret v o) = some (v, o) := rfl
@[simp] theorem resOf_nx {σ} : resOf (.nx σ) = some (.non, false) := rfl

/-! names -/
@[simp] theorem getM_z {v : MV} {o : Bool} {t : MS} : getM (some (v, o) :: t) 0 = some (v, if o then .bo else .sh) := rfl
@[simp] theorem getM_s {x} {t : MS} {i : Nat} : getM (x :: t) (i + 1) = getM t i := rfl
@[simp] theorem setM_z {x} {t : MS} {v o} : setM (x :: t) 0 v o = some (v, o) :: t := rfl
@[simp] theorem setM_s {x} {t : MS} {i v o} : setM (x :: t) (i + 1) v o = x :: setM t i v o := rfl
@[simp] theorem ownL_z {l : List MV} {t : MS} : ownL (some (.lst l, true) :: t) 0 = some l := rfl
@[simp] theorem ownL_s {x} {t : MS} {i} : ownL (x :: t) (i + 1) = ownL t i := rfl
def consM (x : Option (MV × Bool)) : Option MS → Option MS
  | some t => some (x :: t)
  | none => none
@[simp] theorem consM_some {x t} : consM x (some t) = some (x :: t) := rfl
@[simp] theorem dropM_z {v : MV} {o : Bool} {t : MS} : dropM (some (v, o) :: t) 0 = some (some (v, false) :: t) := rfl
@[simp] theorem dropM_s {x} {t : MS} {j : Nat} : dropM (x :: t) (j + 1) = consM x (dropM t j) := by
  unfold dropM
  rw [List.getElem?_cons_succ]
  cases h : t[j]? with
  | none => rfl
  | some y => cases y with
    | none => rfl
    | some z => rfl
@[simp] theorem asgM_sh {σ : MS} {i v} : asgM σ i (v, .sh) = some (setM σ i v false) := rfl
@[simp] theorem asgM_fr {σ : MS} {i v} : asgM σ i (v, .fr) = some (setM σ i v (isLst v)) := rfl
@[simp] theorem isLst_lst {l} : isLst (.lst l) = true := rfl
@[simp] theorem isLst_tup {l} : isLst (.tup l) = false := rfl
@[simp] theorem isLst_int {l} : isLst (.int l) = false := rfl
@[simp] theorem keep_sh {v} : keep (v, .sh) = some v := rfl
@[simp] theorem keep_fr {v} : keep (v, .fr) = some v := rfl
@[simp] theorem putT_nm {σ : MS} {i v} : putT σ (.nm i) v = some (setM σ i v false) := rfl
@[simp] theorem tgSlots_nm {i} : tgSlots (.nm i) = [i] := rfl
@[simp] theorem isVar_var {i} : isVar (.var i) = true := rfl

/-! expressions -/
@[simp] theorem ev_lit {v} : ev Φ (.lit v) σ = some (v, .sh) := by rw [ev]
@[simp] theorem ev_var {i} : ev Φ (.var i) σ = getM σ i := by rw [ev]
@[simp] theorem ev_bin {op a b} : ev Φ (.bin op a b) σ = bd (ev Φ a σ) fun x => bd (ev Φ b σ) fun y => binSem op x.1 y.1 := by rw [ev]; rfl
def negS : MV → Option (MV × Tg)
  | .int i => some (.int (-i), .sh)
  | _ => none
@[simp] theorem negS_int {i} : negS (.int i) = some (.int (-i), .sh) := rfl
@[simp] theorem ev_neg {a} : ev Φ (.neg a) σ = bd (ev Φ a σ) fun x => negS x.1 := by rw [ev]; rfl
@[simp] theorem ev_not {a} : ev Φ (.not a) σ = bd (ev Φ a σ) fun x => bd (truth x.1) fun b => some (.bl (!b), .sh) := by rw [ev]; rfl
/-- a choice that stands open -/
def CH {α : Type} (c : Bool) (a b : Option α) : Option α := if c = true then a else b
theorem CH_in {α : Type} {c c' : Bool} {a b : Option α} (h : c = c') : CH c a b = CH c' a b := by rw [h]
@[simp] theorem CH_t {α : Type} {a b : Option α} : CH true a b = a := if_pos rfl
@[simp] theorem CH_f {α : Type} {a b : Option α} : CH false a b = b := if_neg (by decide)
@[simp] theorem ev_and {a b} : ev Φ (.and a b) σ = bd (ev Φ a σ) fun x => bd (truth x.1) fun t => CH t (ev Φ b σ) (some x) := by rw [ev]; rfl
@[simp] theorem ev_or {a b} : ev Φ (.or a b) σ = bd (ev Φ a σ) fun x => bd (truth x.1) fun t => CH t (some x) (ev Φ b σ) := by rw [ev]; rfl
@[simp] theorem ev_cmp {op a b} : ev Φ (.cmp op a b) σ = bd (ev Φ a σ) fun x => bd (ev Φ b σ) fun y => bd (cmpSem op x.1 y.1) fun t => some (.bl t, .sh) := by rw [ev]; rfl
@[simp] theorem ev_ite {c a b} : ev Φ (.ite c a b) σ = bd (ev Φ c σ) fun x => bd (truth x.1) fun t => CH t (ev Φ a σ) (ev Φ b σ) := by rw [ev]; rfl
def callS (xs : List (MV × Tg)) (r : MV × Bool) : Option (MV × Tg) :=
  CH (xs.all (fun x => decide (x.2 ≠ .bo)) || freeOf r) (some (r.1, if r.2 then .fr else .sh)) none
@[simp] theorem ev_call {f args} : ev Φ (.call f args) σ = bd (evs Φ args σ) fun xs => bd (Φ f (xs.map (·.1))) fun r => callS xs r := by rw [ev]; rfl
@[simp] theorem callS_f {xs v o} : callS xs (v, o) = CH (xs.all (fun x => decide (x.2 ≠ .bo)) || freeOf (v, o)) (some (v, if o then .fr else .sh)) none := rfl
@[simp] theorem ev_bi {b args} : ev Φ (.bi b args) σ = bd (evs Φ args σ) fun xs => biSem b (xs.map (·.1)) := by rw [ev]; rfl
@[simp] theorem ev_isi {a ts} : ev Φ (.isi a ts) σ = bd (ev Φ a σ) fun x => some (.bl (ts.any (tyIs x.1)), .sh) := by rw [ev]; rfl
def szS (vs : List MV) (x : MV × Tg) : Option (MV × Tg) := CH (decide (vs.length ≤ SZ)) (some x) none
@[simp] theorem ev_tup {l} : ev Φ (.tup l) σ = bd (evs Φ l σ) fun xs => bd (xs.mapM keep) fun vs => szS vs (.tup vs, .sh) := by rw [ev]; simp only [szS, CH, decide_eq_true_eq]; rfl
@[simp] theorem ev_lst {l} : ev Φ (.lst l) σ = bd (evs Φ l σ) fun xs => bd (xs.mapM keep) fun vs => szS vs (.lst vs, .fr) := by rw [ev]; simp only [szS, CH, decide_eq_true_eq]; rfl
@[simp] theorem szS_ok {vs x} (h : vs.length ≤ 4000000) : szS vs x = some x := by
  unfold szS SZ; rw [decide_eq_true h]; rfl
@[simp] theorem ev_idx {a i} : ev Φ (.idx a i) σ = bd (ev Φ a σ) fun x => bd (ev Φ i σ) fun y => bd (idxSem x.1 y.1) fun v => some (v, .sh) := by rw [ev]; rfl
@[simp] theorem ev_slc {a lo hi} : ev Φ (.slc a lo hi) σ = bd (ev Φ a σ) fun x => bd (evO Φ lo σ) fun l => bd (evO Φ hi σ) fun h => slcSem x.1 l h := by rw [ev]; rfl
@[simp] theorem evs_nil : evs Φ [] σ = some [] := by rw [evs]
@[simp] theorem evs_cons {e l} : evs Φ (e :: l) σ = bd (ev Φ e σ) fun x => bd (evs Φ l σ) fun xs => some (x :: xs) := by rw [evs]; rfl
@[simp] theorem evO_none : evO Φ none σ = some none := by rw [evO]
def intO : MV → Option (Option Int)
  | .int i => some (some i)
  | _ => none
@[simp] theorem intO_int {i} : intO (.int i) = some (some i) := rfl
@[simp] theorem evO_some {e} : evO Φ (some e) σ = bd (ev Φ e σ) fun x => intO x.1 := by rw [evO]; rfl
@[simp] theorem evT_nil : evT Φ [] σ = some true := by rw [evT]
@[simp] theorem evT_cons {e l} : evT Φ (e :: l) σ = bd (ev Φ e σ) fun x => bd (truth x.1) fun t => CH t (evT Φ l σ) (some false) := by rw [evT]; rfl
@[simp] theorem evI_seq {a} : evI Φ (.seq a) σ = bd (ev Φ a σ) fun x => bd (seqOf x.1) fun l => some (l, x.2) := by rw [evI]; rfl
def rg1 : MV → Option (List MV × Tg)
  | .int n => if rngOk n then some (rngM 0 n.toNat, .sh) else none
  | _ => none
@[simp] theorem evI_rng1 {a} : evI Φ (.rng1 a) σ = bd (ev Φ a σ) fun x => rg1 x.1 := by rw [evI]; rfl
def rg2 : MV → MV → Option (List MV × Tg)
  | .int m, .int n => if rngOk m && rngOk n then some (rngM m (n - m).toNat, .sh) else none
  | _, _ => none
@[simp] theorem evI_rng2 {a b} : evI Φ (.rng2 a b) σ = bd (ev Φ a σ) fun x => bd (ev Φ b σ) fun y => rg2 x.1 y.1 := by rw [evI]; rfl
theorem rngOk_b {n : Int} (h : -4611686018427387904 ≤ n) (k : n < 4611686018427387904) : rngOk n = true := by
  unfold rngOk RNG; simp only [Bool.and_eq_true, decide_eq_true_eq]; omega
theorem rg1_ok {n : Int} (h : -4611686018427387904 ≤ n) (k : n < 4611686018427387904) : rg1 (.int n) = some (rngM 0 n.toNat, .sh) := by
  unfold rg1; simp only [rngOk_b h k, if_true]
theorem rngOk_n {n : Nat} (k : n < 4611686018427387904) : rngOk (n : Int) = true := rngOk_b (by omega) (by omega)
@[simp] theorem rg1_nat {n : Nat} (k : rngOk (n : Int) = true) : rg1 (.int n) = some (rngM 0 n, .sh) := by
  unfold rg1; simp only [k, if_true]; rfl
@[simp] theorem rg1_i {n : Int} (k : rngOk n = true) : rg1 (.int n) = some (rngM 0 n.toNat, .sh) := by
  unfold rg1; simp only [k, if_true]
theorem rg2_ok {m n : Int} (h : -4611686018427387904 ≤ n) (k : n < 4611686018427387904) (h' : -4611686018427387904 ≤ m) (k' : m < 4611686018427387904) : rg2 (.int m) (.int n) = some (rngM m (n - m).toNat, .sh) := by
  unfold rg2; simp only [rngOk_b h k, rngOk_b h' k', Bool.and_self, if_true]
theorem rngM_len (n : Nat) : ∀ lo, (rngM lo n).length = n := by
  induction n with
  | zero => intro lo; rfl
  | succ n ih => intro lo; rw [rngM, List.length_cons, ih]
@[simp] theorem rngM_length {n : Nat} {lo} : (rngM lo n).length = n := rngM_len n lo
theorem rngM_get (n : Nat) : ∀ lo k, (rngM lo n)[k]? = if k < n then some (.int (lo + k)) else none := by
  induction n with
  | zero => intro lo k; rfl
  | succ n ih =>
    intro lo k
    rw [rngM]
    cases k with
    | zero => simp
    | succ k =>
      rw [List.getElem?_cons_succ, ih]
      by_cases h : k < n
      · simp only [h, if_true, Nat.add_lt_add_iff_right]
        congr 2
        push_cast
        omega
      · simp only [h, if_false, Nat.add_lt_add_iff_right]
theorem rngM_at {n : Nat} {lo : Int} {k : Nat} {x : MV} (h : (rngM lo n)[k]? = some x) : k < n ∧ x = .int (lo + k) := by
  rw [rngM_get] at h
  split at h
  · cases h; exact ⟨‹_›, rfl⟩
  · cases h

/-! comprehensions -/
theorem turns_map {f : MV → Option (List MV)} {g : MV → MV} : ∀ {l : List MV}, (∀ x ∈ l, f x = some [g x]) → turns f l = some (l.map g) := by
  intro l
  induction l with
  | nil => intro _; rfl
  | cons x r ih =>
    intro h
    rw [turns, h x (List.mem_cons_self), Option.bind_some, ih (fun y hy => h y (List.mem_cons_of_mem _ hy))]
    rfl
theorem turns_all {f : MV → Option (List MV)} {P : MV → Prop} : ∀ {l : List MV}, (∀ x ∈ l, ∃ y, f x = some [y] ∧ P y) → ∃ vs, turns f l = some vs ∧ vs.length = l.length ∧ ∀ y ∈ vs, P y := by
  intro l
  induction l with
  | nil => intro _; exact ⟨[], rfl, rfl, fun _ h => by cases h⟩
  | cons x r ih =>
    intro h
    obtain ⟨y, e, p⟩ := h x (List.mem_cons_self)
    obtain ⟨vs, e2, l2, p2⟩ := ih (fun y hy => h y (List.mem_cons_of_mem _ hy))
    refine ⟨y :: vs, ?_, by rw [List.length_cons, List.length_cons, l2], ?_⟩
    · rw [turns, e, Option.bind_some, e2]; rfl
    · intro z hz
      rcases List.mem_cons.mp hz with rfl | hz
      · exact p
      · exact p2 z hz

/-- one turn of a comprehension -/
def turn1 (Φ : Fns) (elt : CE) (tg : TGT) (ifs : List CE) (σ : MS) (x : MV) : Option (List MV) :=
  bd (putT (wipeM σ (tgSlots tg)) tg x) fun σ' => bd (evT Φ ifs σ') fun t =>
        CH t (bd (ev Φ elt σ') fun y => bd (keep y) fun v => some [v]) (some [])
theorem ev_comp {elt tg it ifs} : ev Φ (.comp elt tg it ifs) σ = (evI Φ it σ).bind fun items => (turns (turn1 Φ elt tg ifs σ) items.1).bind fun vs => szS vs (.lst vs, .fr) := by
  rw [ev]; simp only [CH, szS, decide_eq_true_eq, bd_eq]; rfl
theorem ev_comp_map {elt tg it ifs} {xs : List MV} {t} (g : MV → MV) (h : evI Φ it σ = some (xs, t)) (hl : xs.length ≤ 4000000) (hg : ∀ x ∈ xs, turn1 Φ elt tg ifs σ x = some [g x]) :
    ev Φ (.comp elt tg it ifs) σ = some (.lst (xs.map g), .fr) := by
  rw [ev_comp, h, Option.bind_some, turns_map hg, Option.bind_some, szS_ok (by rw [List.length_map]; exact hl)]

@[simp] theorem wipeM_nil {σ : MS} : wipeM σ [] = σ := rfl
@[simp] theorem wipeM_cons {σ : MS} {v vs} : wipeM σ (v :: vs) = (wipeM σ vs).set v none := rfl

/-! what operators compute -/
@[simp] theorem bin_add {a b : Int} : binSem .add (.int a) (.int b) = some (.int (a + b), .sh) := rfl
@[simp] theorem bin_sub {a b : Int} : binSem .sub (.int a) (.int b) = some (.int (a - b), .sh) := rfl
@[simp] theorem bin_addL {a b : List MV} (h : a.length + b.length ≤ 4000000) : binSem .add (.lst a) (.lst b) = some (.lst (a ++ b), .fr) := by
  rw [binSem, if_pos (by unfold SZ; exact h)]
@[simp] theorem bin_addT {a b : List MV} (h : a.length + b.length ≤ 4000000) : binSem .add (.tup a) (.tup b) = some (.tup (a ++ b), .sh) := by
  rw [binSem, if_pos (by unfold SZ; exact h)]

/-- a number of at most n binary figures -/
class Bd (a : Int) (n : outParam Nat) : Prop where
  le : a.natAbs < 2 ^ n
theorem Bd.of {a : Int} {n : Nat} (h : -(2 : Int) ^ n < a) (k : a < 2 ^ n) : Bd a n := ⟨by
  have : (2 : Int) ^ n = ((2 ^ n : Nat) : Int) := by push_cast; rfl
  rw [this] at h k
  omega⟩
theorem Bd.up {a : Int} {n m : Nat} (h : Bd a n) (k : n ≤ m) : Bd a m := ⟨Nat.lt_of_lt_of_le h.le (Nat.pow_le_pow_right (by decide) k)⟩
instance Bd.mul {a b : Int} {n m : Nat} [ha : Bd a n] [hb : Bd b m] : Bd (a * b) (n + m) := ⟨by
  rw [Int.natAbs_mul, Nat.pow_add]
  exact Nat.mul_lt_mul'' ha.le hb.le⟩
theorem two_pow_le (n m : Nat) : 2 ^ n + 2 ^ m ≤ 2 ^ (max n m + 1) := by
  have a : 2 ^ n ≤ 2 ^ max n m := Nat.pow_le_pow_right (by decide) (Nat.le_max_left _ _)
  have b : 2 ^ m ≤ 2 ^ max n m := Nat.pow_le_pow_right (by decide) (Nat.le_max_right _ _)
  rw [Nat.pow_succ]; omega
instance Bd.add {a b : Int} {n m : Nat} [ha : Bd a n] [hb : Bd b m] : Bd (a + b) (max n m + 1) := ⟨by
  have := Int.natAbs_add_le a b
  have := two_pow_le n m
  have := ha.le; have := hb.le
  omega⟩
instance Bd.neg {a : Int} {n : Nat} [ha : Bd a n] : Bd (-a) n := ⟨by rw [Int.natAbs_neg]; exact ha.le⟩
instance Bd.sub {a b : Int} {n m : Nat} [ha : Bd a n] [hb : Bd b m] : Bd (a - b) (max n m + 1) := by
  rw [Int.sub_eq_add_neg]; exact Bd.add
instance Bd.lit {n : Nat} : Bd (no_index (OfNat.ofNat n : Int)) (Nat.log2 n + 1) := ⟨by
  show n < 2 ^ (Nat.log2 n + 1)
  exact Nat.lt_log2_self⟩
theorem Bd.fdiv {a b : Int} {n : Nat} (ha : Bd a n) : Bd (a.fdiv b) n := by
  refine ⟨?_⟩
  have h := ha.le
  by_cases hb : b = 0
  · subst hb; simp; exact Nat.pos_of_ne_zero (by exact Nat.ne_of_gt (Nat.two_pow_pos n))
  · have : (a.fdiv b).natAbs ≤ a.natAbs := by
      rcases Int.lt_trichotomy b 0 with hb | hb | hb
      · have : a.fdiv b = (-a).fdiv (-b) := (Int.neg_fdiv_neg a b).symm
        rw [this, Int.fdiv_eq_ediv_of_nonneg _ (by omega), ← Int.natAbs_neg a]
        exact Int.natAbs_ediv_le_natAbs _ _
      · contradiction
      · rw [Int.fdiv_eq_ediv_of_nonneg _ (by omega)]
        exact Int.natAbs_ediv_le_natAbs _ _
    omega
@[simp] theorem bin_mul {a b : Int} {n m : Nat} [ha : Bd a n] [hb : Bd b m] (hn : n ≤ 400000) (hm : m ≤ 400000) : binSem .mul (.int a) (.int b) = some (.int (a * b), .sh) := by
  rw [binSem, if_pos]
  unfold BIG
  exact ⟨(ha.up hn).le, (hb.up hm).le⟩
@[simp] theorem bin_mod {a b : Int} (h : 0 < b) : binSem .mod (.int a) (.int b) = some (.int (a % b), .sh) := by
  rw [binSem, if_pos (by omega), Int.fmod_eq_emod_of_nonneg _ (by omega)]
@[simp] theorem bin_div {a b : Int} {m : Nat} [hb : Bd b m] (h : 0 < b) (hm : m ≤ 9000) : binSem .fdiv (.int a) (.int b) = some (.int (a / b), .sh) := by
  rw [binSem, if_pos ⟨by omega, by unfold DIV; exact (hb.up hm).le⟩, Int.fdiv_eq_ediv_of_nonneg _ (by omega)]
theorem bin_fdiv {a b : Int} {m : Nat} [hb : Bd b m] (h : b ≠ 0) (hm : m ≤ 9000) : binSem .fdiv (.int a) (.int b) = some (.int (a.fdiv b), .sh) := by
  rw [binSem, if_pos ⟨h, by unfold DIV; exact (hb.up hm).le⟩]
@[simp] theorem bin_pow {a b : Int} {m : Nat} [ha : Bd a m] (h : 0 ≤ b) (h2 : b ≤ 1000) (hm : m ≤ 10000) : binSem .pow (.int a) (.int b) = some (.int (a ^ b.toNat), .sh) := by
  rw [binSem, if_pos ⟨h, h2, by unfold PWB; exact (ha.up hm).le⟩]
instance Bd.pow {a : Int} {n m : Nat} [ha : Bd a n] : Bd (a ^ m) (n * m + 1) := ⟨by
  rw [Int.natAbs_pow, Nat.pow_succ, Nat.pow_mul]
  have := Nat.pow_le_pow_left (Nat.le_of_lt ha.le) m
  have : 0 < (2 ^ n) ^ m := Nat.pow_pos (Nat.two_pow_pos n)
  omega⟩
theorem Bd.emod {a b : Int} {n : Nat} (h : 0 < b) (hb : Bd b n) : Bd (a % b) n := ⟨by
  have h1 := Int.emod_nonneg a (by omega : b ≠ 0)
  have h2 := Int.emod_lt_of_pos a h
  have := hb.le
  omega⟩

@[simp] theorem cmp_lt {a b : Int} : cmpSem .lt (.int a) (.int b) = some (decide (a < b)) := rfl
@[simp] theorem cmp_le {a b : Int} : cmpSem .le (.int a) (.int b) = some (decide (a ≤ b)) := rfl
@[simp] theorem cmp_gt {a b : Int} : cmpSem .gt (.int a) (.int b) = some (decide (b < a)) := rfl
@[simp] theorem cmp_ge {a b : Int} : cmpSem .ge (.int a) (.int b) = some (decide (b ≤ a)) := rfl
@[simp] theorem cmp_eq {a b : Int} : cmpSem .eq (.int a) (.int b) = some (decide (a = b)) := rfl
@[simp] theorem cmp_ne {a b : Int} : cmpSem .ne (.int a) (.int b) = some (!decide (a = b)) := rfl
@[simp] theorem truth_bl {b} : truth (.bl b) = some b := rfl
@[simp] theorem truth_int {i} : truth (.int i) = some (i != 0) := rfl
@[simp] theorem truth_lst {i} : truth (.lst i) = some (!i.isEmpty) := rfl
@[simp] theorem truth_tup {i} : truth (.tup i) = some (!i.isEmpty) := rfl
@[simp] theorem seqOf_lst {l} : seqOf (.lst l) = some l := rfl
@[simp] theorem seqOf_tup {l} : seqOf (.tup l) = some l := rfl
@[simp] theorem idx_lst {l i} : idxSem (.lst l) (.int i) = atM l i := rfl
@[simp] theorem idx_tup {l i} : idxSem (.tup l) (.int i) = atM l i := rfl
theorem atM_nat {l : List MV} {k : Nat} : atM l (k : Int) = l[k]? := by
  unfold atM L2.atI L2.ixN
  rw [if_pos (by omega)]
  by_cases h : k < l.length
  · rw [if_pos (by omega)]; rfl
  · rw [if_neg (by omega), Option.bind_none, List.getElem?_eq_none (by omega)]
@[simp] theorem atM_of {l : List MV} {i : Int} (h : 0 ≤ i) : atM l i = l[i.toNat]? := by
  obtain ⟨k, rfl⟩ := Int.eq_ofNat_of_zero_le h
  exact atM_nat
theorem atM_in {l : List MV} {i : Int} (h : 0 ≤ i) (k : i < l.length) : ∃ x, atM l i = some x ∧ x ∈ l := by
  rw [atM_of h, List.getElem?_eq_getElem (by omega)]
  exact ⟨_, rfl, List.getElem_mem _⟩
@[simp] theorem bi_lenL {l} : biSem .len [.lst l] = some (.int l.length, .sh) := rfl
@[simp] theorem bi_lenT {l} : biSem .len [.tup l] = some (.int l.length, .sh) := rfl
@[simp] theorem bi_abs {i : Int} : biSem .abs [.int i] = some (.int i.natAbs, .sh) := by
  rw [biSem]; congr 3; split <;> omega
@[simp] theorem bi_int {i} : biSem .int [.int i] = some (.int i, .sh) := rfl
@[simp] theorem bi_intB {b} : biSem .int [.bl b] = some (.int (if b then 1 else 0), .sh) := rfl
@[simp] theorem bi_boolI {i} : biSem .bool [.int i] = some (.bl (i != 0), .sh) := rfl
@[simp] theorem bi_boolB {i} : biSem .bool [.bl i] = some (.bl i, .sh) := rfl
@[simp] theorem bi_tupL {l} : biSem .tuple [.lst l] = some (.tup l, .sh) := rfl
@[simp] theorem bi_tupT {l} : biSem .tuple [.tup l] = some (.tup l, .sh) := rfl
@[simp] theorem bi_lstL {l} : biSem .list [.lst l] = some (.lst l, .fr) := rfl
@[simp] theorem bi_lstT {l} : biSem .list [.tup l] = some (.lst l, .fr) := rfl
@[simp] theorem bi_max {a b} : biSem .max [.int a, .int b] = some (.int (max a b), .sh) := by
  rw [biSem]; congr 3; split <;> omega
@[simp] theorem bi_min {a b} : biSem .min [.int a, .int b] = some (.int (min a b), .sh) := by
  rw [biSem]; congr 3; split <;> omega
@[simp] theorem bi_gcd {a b : Int} : biSem .gcd [.int a, .int b] = some (.int ((Nat.gcd a.natAbs b.natAbs : Nat) : Int), .sh) := rfl
@[simp] theorem ty_non_int  : tyIs .non .int = false := rfl
@[simp] theorem ty_non_bool  : tyIs .non .bool = false := rfl
@[simp] theorem ty_non_str  : tyIs .non .str = false := rfl
@[simp] theorem ty_non_tuple  : tyIs .non .tuple = false := rfl
@[simp] theorem ty_non_list  : tyIs .non .list = false := rfl
@[simp] theorem ty_bl_int {b : Bool} : tyIs (.bl b) .int = true := rfl
@[simp] theorem ty_bl_bool {b : Bool} : tyIs (.bl b) .bool = true := rfl
@[simp] theorem ty_bl_str {b : Bool} : tyIs (.bl b) .str = false := rfl
@[simp] theorem ty_bl_tuple {b : Bool} : tyIs (.bl b) .tuple = false := rfl
@[simp] theorem ty_bl_list {b : Bool} : tyIs (.bl b) .list = false := rfl
@[simp] theorem ty_int_int {i : Int} : tyIs (.int i) .int = true := rfl
@[simp] theorem ty_int_bool {i : Int} : tyIs (.int i) .bool = false := rfl
@[simp] theorem ty_int_str {i : Int} : tyIs (.int i) .str = false := rfl
@[simp] theorem ty_int_tuple {i : Int} : tyIs (.int i) .tuple = false := rfl
@[simp] theorem ty_int_list {i : Int} : tyIs (.int i) .list = false := rfl
@[simp] theorem ty_str_int {s : Str} : tyIs (.str s) .int = false := rfl
@[simp] theorem ty_str_bool {s : Str} : tyIs (.str s) .bool = false := rfl
@[simp] theorem ty_str_str {s : Str} : tyIs (.str s) .str = true := rfl
@[simp] theorem ty_str_tuple {s : Str} : tyIs (.str s) .tuple = false := rfl
@[simp] theorem ty_str_list {s : Str} : tyIs (.str s) .list = false := rfl
@[simp] theorem ty_tup_int {l : List MV} : tyIs (.tup l) .int = false := rfl
@[simp] theorem ty_tup_bool {l : List MV} : tyIs (.tup l) .bool = false := rfl
@[simp] theorem ty_tup_str {l : List MV} : tyIs (.tup l) .str = false := rfl
@[simp] theorem ty_tup_tuple {l : List MV} : tyIs (.tup l) .tuple = true := rfl
@[simp] theorem ty_tup_list {l : List MV} : tyIs (.tup l) .list = false := rfl
@[simp] theorem ty_lst_int {l : List MV} : tyIs (.lst l) .int = false := rfl
@[simp] theorem ty_lst_bool {l : List MV} : tyIs (.lst l) .bool = false := rfl
@[simp] theorem ty_lst_str {l : List MV} : tyIs (.lst l) .str = false := rfl
@[simp] theorem ty_lst_tuple {l : List MV} : tyIs (.lst l) .tuple = false := rfl
@[simp] theorem ty_lst_list {l : List MV} : tyIs (.lst l) .list = true := rfl
/-- a list of numbers -/
abbrev mi (l : List Int) : List MV := l.map MV.int
theorem intsOf_mi (l : List Int) : intsOf (mi l) = some l := by
  induction l with
  | nil => rfl
  | cons x r ih => rw [mi, List.map_cons, intsOf]; rw [mi] at ih; rw [ih]; rfl
@[simp] theorem bi_sum {l : List Int} : biSem .sum [.lst (l.map MV.int)] = some (.int l.sum, .sh) := by
  rw [biSem]; rw [show intsOf (l.map MV.int) = some l from intsOf_mi l]; rfl

end Mn.S

set_option Elab.async false
set_option linter.all false
set_option maxRecDepth 100000
/-! Mn12: the defs that most laws share. -/
namespace Mn.S
open PySem
variable {T : List FD} {L : Nat}

def bwhole : List CS := [.ret (.and (.isi (.var 0) [.int]) (.not (.isi (.var 0) [.bool])))]
def isInt : MV → Bool
  | .int _ => true
  | _ => false
theorem whole_ok {f k : Nat} (h : T[f]? = some ⟨1, 1, bwhole⟩) (hk : 1 ≤ k) (v : MV) : run T L k f [v] = some (.bl (isInt v), false) := by
  obtain ⟨k, rfl⟩ : ∃ j, k = j + 1 := ⟨k - 1, by omega⟩
  refine run_eq h rfl ?_
  cases v <;> simp [bwhole, startM, isInt]

def bsame (f g : Nat) : List CS := [
  .ite (.isi (.var 1) [.list, .tuple]) [.ite (.or (.not (.isi (.var 0) [.tuple])) (.cmp .ne (.bi .len [.var 0]) (.bi .len [.var 1]))) [.ret (.lit (.bl false))] [], .forS (.nm 2) (.rng1 (.bi .len [.var 1])) [.ite (.not (.call f [.idx (.var 0) (.var 2), .idx (.var 1) (.var 2)])) [.ret (.lit (.bl false))] []], .ret (.lit (.bl true))] [],
  .ite (.cmp .is (.var 1) (.lit .non)) [.ret (.cmp .is (.var 0) (.lit .non))] [],
  .ite (.cmp .is (.var 1) (.lit (.bl true))) [.ret (.cmp .is (.var 0) (.lit (.bl true)))] [],
  .ite (.cmp .is (.var 1) (.lit (.bl false))) [.ret (.cmp .is (.var 0) (.lit (.bl false)))] [],
  .ite (.isi (.var 1) [.str]) [.ret (.and (.isi (.var 0) [.str]) (.cmp .eq (.var 0) (.var 1)))] [],
  .ret (.and (.call g [.var 0]) (.cmp .eq (.var 0) (.var 1)))]

mutual
/-- what is due, with tuples for lists -/
def tz : MV → MV
  | .tup l => .tup (tzs l)
  | .lst l => .tup (tzs l)
  | x => x
def tzs : List MV → List MV
  | [] => []
  | x :: r => tz x :: tzs r
end
mutual
def deep : MV → Nat
  | .tup l => deeps l + 1
  | .lst l => deeps l + 1
  | _ => 0
def deeps : List MV → Nat
  | [] => 0
  | x :: r => max (deep x) (deeps r)
end
theorem tzs_map : ∀ l, tzs l = l.map tz
  | [] => rfl
  | x :: r => by rw [tzs, tzs_map r]; rfl
theorem deeps_le : ∀ {l : List MV} {x}, x ∈ l → deep x ≤ deeps l
  | [], _, h => by cases h
  | y :: r, x, h => by
    rw [deeps]
    rcases List.mem_cons.mp h with rfl | h
    · exact Nat.le_max_left _ _
    · exact Nat.le_trans (deeps_le h) (Nat.le_max_right _ _)
@[simp] theorem tz_int {i} : tz (.int i) = .int i := by simp [tz]
@[simp] theorem tzs_mi {l : List Int} : tzs (l.map MV.int) = l.map MV.int := by
  rw [tzs_map, List.map_map]; exact List.map_congr_left fun x _ => tz_int
theorem deeps_mi {l : List Int} : deeps (l.map MV.int) = 0 := by
  induction l with
  | nil => rfl
  | cons x r ih => rw [List.map_cons, deeps, ih]; simp [deep]
/-- sizes within what len takes, texts short -/
def okSize : MV → Prop
  | .str s => SeqAt.shaped (PyData.str s) = true
  | _ => True
mutual
def fits : MV → Prop
  | .tup l => l.length < 4000000 ∧ fitss l
  | .lst l => l.length < 4000000 ∧ fitss l
  | x => okSize x
def fitss : List MV → Prop
  | [] => True
  | x :: r => fits x ∧ fitss r
end
theorem fitss_all : ∀ {l : List MV} {x}, fitss l → x ∈ l → fits x
  | [], _, _, h => by cases h
  | y :: r, x, f, h => by
    rw [fitss] at f
    rcases List.mem_cons.mp h with rfl | h
    · exact f.1
    · exact fitss_all f.2 h
theorem fitss_mi {l : List Int} : fitss (l.map MV.int) := by
  induction l with
  | nil => trivial
  | cons x r ih => rw [List.map_cons, fitss]; exact ⟨by simp [fits, okSize], ih⟩

theorem same_seq {f g : Nat} {k : Nat} (ih : ∀ d : MV, deep d + 2 ≤ k → fits d → run T L k f [tz d, d] = some (.bl true, false)) (l : List MV) (v : MV) (dv : deep v = deeps l + 1) (tv : tz v = .tup (tzs l))
    (lv : biSem .len [v] = some (.int l.length, .sh)) (iv : (tyIs v .list || tyIs v .tuple) = true) (xv : ∀ i, idxSem v (.int i) = atM l i)
    (hn : rngOk (l.length : Int) = true) (fl : fitss l) (hd : deep v + 2 ≤ k + 1) : W (run T L k) L (bsame f g) (startM 3 [tz v, v]) (fun fl => resOf fl = some (.bl true, false)) := by
  have eq2 : (tzs l).length = l.length := by rw [tzs_map, List.length_map]
  simp [bsame, startM, iv, tv, lv, eq2]
  refine W.for (rngM 0 l.length) (fun _ σ => ∃ x, σ = [some (.tup (tzs l), false), some (v, false), x]) (by simp [lv, hn]) ⟨_, rfl⟩ ?_ ?_
  · intro i x σ hx hs
    obtain ⟨y, rfl⟩ := hs
    obtain ⟨hi, rfl⟩ := rngM_at hx
    have e1 : (tzs l)[i]? = some (tz l[i]) := by
      rw [tzs_map, List.getElem?_map, List.getElem?_eq_getElem hi]; rfl
    have e2 : l[i]? = some l[i] := List.getElem?_eq_getElem hi
    have mem : l[i] ∈ l := List.getElem_mem hi
    have e3 := ih l[i] (by have := deeps_le mem; omega) (fitss_all fl mem)
    simp [xv, e1, e2, e3, tv, freeOf, MV.noLst]
  · rintro σ ⟨y, rfl⟩
    simp

theorem same_ok {f g : Nat} (hf : T[f]? = some ⟨2, 3, bsame f g⟩) (hg : T[g]? = some ⟨1, 1, bwhole⟩) : ∀ (k : Nat) (d : MV), deep d + 2 ≤ k → fits d → run T L k f [tz d, d] = some (.bl true, false) := by
  intro k
  induction k with
  | zero => intro d h; omega
  | succ k ih =>
    intro d hd fi
    refine run_eq hf rfl ?_
    cases d with
    | tup l =>
      have := fi
      rw [fits] at this
      exact same_seq ih l _ (by rw [deep]) (by rw [tz]) rfl rfl (fun _ => rfl) (rngOk_n (by have := this.1; omega)) this.2 hd
    | lst l =>
      have := fi
      rw [fits] at this
      exact same_seq ih l _ (by rw [deep]) (by rw [tz]) rfl rfl (fun _ => rfl) (rngOk_n (by have := this.1; omega)) this.2 hd
    | non => simp [bsame, startM, cmpSem, tz]
    | bl b => cases b <;> simp [bsame, startM, cmpSem, tz]
    | int i =>
      have hw := whole_ok (L := L) hg (k := k) (by omega) (.int i)
      simp [bsame, startM, cmpSem, tz, hw, freeOf, MV.noLst, isInt]
    | str s =>
      have hs : cmpOk (.str s) = true := by
        have : fits (.str s) = okSize (.str s) := by simp [fits]
        rw [this] at fi
        exact fi
      have he : PyData.eqv (PyData.str s) (PyData.str s) = true := by simp [PyData.eqv]
      simp [bsame, startM, cmpSem, tz, hs, MV.toD, he]

def bcell : List CS := [
  .ite (.cmp .lt (.var 1) (.bi .len [.var 0])) [.ret (.idx (.var 0) (.var 1))] [],
  .asg 2 (.lit (.int 17)),
  .forS (.nm 3) (.seq (.var 0)) [.asg 2 (.bin .mod (.bi .int [.bin .add (.bin .mul (.var 2) (.lit (.int 31))) (.bin .mod (.bi .int [.var 3]) (.lit (.int 1000003)))]) (.lit (.int 1000003)))],
  .ret (.bin .mod (.bi .int [.bin .mul (.bin .mul (.bin .add (.var 2) (.lit (.int 7))) (.bin .add (.var 1) (.lit (.int 3)))) (.lit (.int 69621))]) (.lit (.int 2147483647)))]

theorem Bd.rng {a : Int} {n : Nat} (h0 : 0 ≤ a) (h : a < 2 ^ n) : Bd a n := Bd.of (by have : (0 : Int) < 2 ^ n := Int.pow_pos (by decide); omega) h

theorem cell_ok {f k : Nat} (h : T[f]? = some ⟨2, 4, bcell⟩) (hk : 1 ≤ k) (ns : List Int) (j : Int) (hj : 0 ≤ j) (hj2 : j < 1000000) : ∃ c : Int, run T L k f [.lst (ns.map MV.int), .int j] = some (.int c, false) := by
  obtain ⟨k, rfl⟩ : ∃ j, k = j + 1 := ⟨k - 1, by omega⟩
  have : OB (run T L (k + 1) f [.lst (ns.map MV.int), .int j]) (fun r => ∃ c : Int, r = (.int c, false)) := by
    refine run_of h rfl ?_
    simp [bcell, startM]
    refine IF.dec (fun hl => ?_) (fun hl => ?_)
    · have e : (ns.map MV.int)[j.toNat]? = some (.int ns[j.toNat]) := by
        rw [List.getElem?_map, List.getElem?_eq_getElem (by omega)]; rfl
      simp [hj, e]
    · skip
      refine W.for (ns.map MV.int) (fun _ σ => ∃ s x, 0 ≤ s ∧ s < 1000003 ∧ σ = [some (.lst (ns.map MV.int), false), some (.int j, false), some (.int s, false), x]) (by simp) ⟨17, _, by decide, by decide, rfl⟩ ?_ ?_
      · rintro i x σ hx ⟨s, y, h0, h1, rfl⟩
        obtain ⟨n, hn, rfl⟩ := List.mem_map.mp (List.mem_of_getElem? hx)
        haveI : Bd s 20 := Bd.rng h0 (by omega)
        simp (decide := true)
        omega
      · rintro σ ⟨s, y, h0, h1, rfl⟩
        haveI : Bd s 20 := Bd.rng h0 (by omega)
        haveI : Bd j 20 := Bd.rng hj (by omega)
        simp (decide := true)
  obtain ⟨r, e, c, rfl⟩ := this
  exact ⟨c, e⟩

def bdigits : List CS := [
  .asg 2 (.lst []),
  .asg 3 (.bi .int [.var 0]),
  .ite (.cmp .ge (.var 3) (.bin .pow (.lit (.int 10)) (.lit (.int 18)))) [.asg 3 (.bin .sub (.var 3) (.bin .pow (.lit (.int 10)) (.lit (.int 18)))), .forS (.nm 6) (.seq (.var 1)) [.app 2 (.bin .mod (.bi .int [.var 3]) (.var 6)), .asg 3 (.bin .fdiv (.bi .int [.var 3]) (.var 6))], .ret (.var 2)] [],
  .asg 4 (.bin .mod (.bi .int [.var 3]) (.lit (.int 2147483629))),
  .forS (.nm 5) (.rng1 (.bi .len [.var 1])) [.asg 4 (.bin .mod (.bi .int [.bin .add (.bin .add (.bin .mul (.var 4) (.lit (.int 48271))) (.bin .mul (.lit (.int 974711)) (.var 5))) (.lit (.int 12345))]) (.lit (.int 2147483647))), .asg 7 (.bin .mod (.bi .int [.bin .mul (.var 4) (.bin .add (.bin .fdiv (.var 4) (.lit (.int 65537))) (.lit (.int 3)))]) (.lit (.int 2147483629))), .app 2 (.bin .mod (.bin .fdiv (.var 7) (.lit (.int 19))) (.idx (.var 1) (.var 5)))],
  .ret (.var 2)]

/-- figures below their sizes -/
inductive Below : List Int → List Int → Prop where
  | nil : Below [] []
  | cons {d s : Int} {ds ss : List Int} (h0 : 0 ≤ d) (h1 : d < s) (r : Below ds ss) : Below (d :: ds) (s :: ss)
theorem Below.len {a b} (h : Below a b) : a.length = b.length := by
  induction h with
  | nil => rfl
  | cons _ _ _ ih => rw [List.length_cons, List.length_cons, ih]
theorem Below.snoc {a b} (h : Below a b) {d s : Int} (h0 : 0 ≤ d) (h1 : d < s) : Below (a ++ [d]) (b ++ [s]) := by
  induction h with
  | nil => exact .cons h0 h1 .nil
  | cons x y _ ih => exact .cons x y ih

theorem SZ_gt {n : Nat} (h : n < 4000000) : n < SZ := by unfold SZ; exact h

theorem digits_ok {f k : Nat} (h : T[f]? = some ⟨2, 8, bdigits⟩) (hk : 1 ≤ k) (c : Int) (sizes : List Int) (hl : sizes.length ≤ 10000) (hs : ∀ s ∈ sizes, 0 < s ∧ Bd s 9000) :
    ∃ ds : List Int, run T L k f [.int c, .lst (sizes.map MV.int)] = some (.lst (ds.map MV.int), true) ∧ Below ds sizes := by
  obtain ⟨k, rfl⟩ : ∃ j, k = j + 1 := ⟨k - 1, by omega⟩
  have : OB (run T L (k + 1) f [.int c, .lst (sizes.map MV.int)]) (fun r => ∃ ds : List Int, r = (.lst (ds.map MV.int), true) ∧ Below ds sizes) := by
    refine run_of h rfl ?_
    simp (decide := true) [bdigits, startM]
    refine IF.dec (fun hc => ?_) (fun hc => ?_)
    · refine W.for (sizes.map MV.int) (fun i σ => ∃ ds r x, Below ds (sizes.take i) ∧ σ = [some (.int c, false), some (.lst (sizes.map MV.int), false), some (.lst (ds.map MV.int), true), some (.int r, false), none, none, x, none]) (by simp) ⟨[], _, _, .nil, rfl⟩ ?_ ?_
      · rintro i x σ hx ⟨ds, r, y, hb, rfl⟩
        have hi : i < sizes.length := by
          rcases Nat.lt_or_ge i sizes.length with q | q
          · exact q
          · rw [List.getElem?_eq_none (by rw [List.length_map]; exact q)] at hx; cases hx
        have hx' : x = .int sizes[i] := by
          rw [List.getElem?_map, List.getElem?_eq_getElem hi] at hx; cases hx; rfl
        subst hx'
        have hp := hs sizes[i] (List.getElem_mem hi)
        haveI := hp.2
        have hlen : ds.length < SZ := SZ_gt (by have := hb.len; rw [List.length_take] at this; omega)
        simp (decide := true) [hp.1, hlen]
        refine ⟨ds ++ [r % sizes[i]], ?_, by simp⟩
        rw [List.take_add_one, List.getElem?_eq_getElem hi]
        exact hb.snoc (Int.emod_nonneg _ (by omega)) (Int.emod_lt_of_pos _ hp.1)
      · rintro σ ⟨ds, r, y, hb, rfl⟩
        rw [List.take_of_length_le (by simp)] at hb
        simp
        exact ⟨ds, rfl, hb⟩
    · have hn : rngOk (sizes.length : Int) = true := rngOk_n (by omega)
      refine W.for (rngM 0 sizes.length) (fun i σ => ∃ ds s x y, 0 ≤ s ∧ s < 2147483647 ∧ Below ds (sizes.take i) ∧ σ = [some (.int c, false), some (.lst (sizes.map MV.int), false), some (.lst (ds.map MV.int), true), some (.int c, false), some (.int s, false), x, none, y]) (by simp [hn]) ⟨[], _, _, _, Int.emod_nonneg _ (by decide), Int.lt_trans (Int.emod_lt_of_pos _ (by decide)) (by decide), .nil, rfl⟩ ?_ ?_
      · rintro i x σ hx ⟨ds, s, y, z, h0, h1, hb, rfl⟩
        obtain ⟨hi, rfl⟩ := rngM_at hx
        have e2 : (sizes.map MV.int)[i]? = some (.int sizes[i]) := by rw [List.getElem?_map, List.getElem?_eq_getElem hi]; rfl
        have hp := hs sizes[i] (List.getElem_mem hi)
        haveI := hp.2
        haveI : Bd s 31 := Bd.rng h0 (by omega)
        haveI : Bd (i : Int) 14 := Bd.rng (by omega) (by omega)
        have hlen : ds.length < SZ := SZ_gt (by have := hb.len; rw [List.length_take] at this; omega)
        have hi1 : i < sizes.length := hi
        have fin : ∀ v s' : Int, 0 ≤ s' → s' < 2147483647 → 0 ≤ v → v < sizes[i] → ∃ ds1 s1, 0 ≤ s1 ∧ s1 < 2147483647 ∧ Below ds1 (List.take (i + 1) sizes) ∧ List.map MV.int ds ++ [MV.int v] = List.map MV.int ds1 ∧ s' = s1 := by
          intro v s' a1 a2 a3 a4
          refine ⟨ds ++ [v], s', a1, a2, ?_, by simp, rfl⟩
          rw [List.take_add_one, List.getElem?_eq_getElem hi1]
          exact hb.snoc a3 a4
        have b1 : ∀ a : Int, 0 ≤ a % 2147483647 ∧ a % 2147483647 < 2147483647 := fun a => ⟨Int.emod_nonneg _ (by decide), Int.emod_lt_of_pos _ (by decide)⟩
        have b2 : ∀ a : Int, Bd (a % 2147483647) 31 := fun a => Bd.rng (b1 a).1 (by have := (b1 a).2; omega)
        have b3 : ∀ a : Int, Bd ((a % 2147483647) / 65537) 31 := fun a => Bd.rng (by have := (b1 a).1; omega) (by have := b1 a; omega)
        simp (decide := true) [hp.1, hlen, e2]
        exact fin _ _ (b1 _).1 (b1 _).2 (Int.emod_nonneg _ (by omega)) (Int.emod_lt_of_pos _ hp.1)
      · rintro σ ⟨ds, s, y, z, h0, h1, hb, rfl⟩
        rw [List.take_of_length_le (by simp)] at hb
        simp
        exact ⟨ds, rfl, hb⟩
  obtain ⟨r, e, ds, rfl, hb⟩ := this
  exact ⟨ds, e, hb⟩

def bcommon : List CS := [
  .asg 2 (.bi .abs [.var 0]),
  .asg 3 (.bi .abs [.var 1]),
  .whl (.cmp .ne (.var 3) (.lit (.int 0))) [.asg 4 (.bin .mod (.bi .int [.var 2]) (.var 3)), .asg 2 (.var 3), .asg 3 (.var 4)],
  .ret (.var 2)]

theorem gcd_steps {a b n : Nat} (hb : 0 < b) (h : b < 2 ^ n) (hab : b ≤ a) : a % b = 0 ∨ True := Or.inr trivial

/-- Euclid: after two turns the lesser is halved -/
theorem mod_half {a b : Nat} (hb : 0 < b) (h : b ≤ a) : 2 * (a % b) < a + b := by
  have := Nat.mod_lt a hb
  omega

theorem common_ok {f k : Nat} (h : T[f]? = some ⟨2, 5, bcommon⟩) (hk : 1 ≤ k) (a b : Int) {n : Nat} (ha : Bd a n) (hb : Bd b n) (hL : 2 * n + 2 < L) :
    run T L k f [.int a, .int b] = some (.int (Nat.gcd a.natAbs b.natAbs : Nat), false) := by
  obtain ⟨k, rfl⟩ : ∃ j, k = j + 1 := ⟨k - 1, by omega⟩
  refine run_eq h rfl ?_
  simp [bcommon, startM]
  refine W.whl (fun m σ => ∃ (x y : Nat) (z : Option (MV × Bool)), Nat.gcd x y = Nat.gcd a.natAbs b.natAbs ∧ (y = 0 ∨ (∃ i, x < 2 ^ i ∧ y < 2 ^ i ∧ 2 * i + 1 ≤ m) ∨ (y ≤ x ∧ x * y < 2 ^ m)) ∧ σ = [some (.int a, false), some (.int b, false), some (.int x, false), some (.int y, false), z])
    (fun σ => ∃ (z : Option (MV × Bool)), σ = [some (.int a, false), some (.int b, false), some (.int (Nat.gcd a.natAbs b.natAbs : Nat), false), some (.int 0, false), z]) (2 * n + 1) (by omega) ⟨a.natAbs, b.natAbs, none, rfl, Or.inr (Or.inl ⟨n, ha.le, hb.le, Nat.le_refl _⟩), rfl⟩ ?_ ?_
  · rintro m σ ⟨x, y, z, hg, hm, rfl⟩
    simp
    refine IF.nec (fun h0 => ?_) (fun h0 => ?_)
    · subst h0
      rw [Nat.gcd_zero_right] at hg
      exact ⟨by rw [hg], rfl⟩
    · have hy : 0 < y := by omega
      have hy' : (0 : Int) < y := by omega
      simp [hy]
      refine ⟨m - 1, ?_, y, x % y, ?_, ?_, ?_⟩
      · rcases hm with q | ⟨i, _, _, q⟩ | ⟨q1, q2⟩
        · omega
        · omega
        · have : 1 ≤ x * y := Nat.mul_pos (by omega) hy
          have : m ≠ 0 := by intro e; subst e; omega
          omega
      · rw [← hg, Nat.gcd_comm y, ← Nat.gcd_rec, Nat.gcd_comm]
      · have hmod := Nat.mod_lt x hy
        have key : 1 ≤ x % y → y ≤ x → y * (x % y) * 2 ≤ x * y := by
          intro _ hxy
          have : 2 * (x % y) ≤ x := by
            have h1 := Nat.div_add_mod x y
            have h2 : 1 ≤ x / y := Nat.div_pos hxy hy
            have : y * 1 ≤ y * (x / y) := Nat.mul_le_mul_left y h2
            omega
          calc y * (x % y) * 2 = y * (2 * (x % y)) := by rw [Nat.mul_assoc, Nat.mul_comm (x % y)]
            _ ≤ y * x := Nat.mul_le_mul_left _ this
            _ = x * y := Nat.mul_comm _ _
        rcases hm with q | ⟨i, q1, q2, q3⟩ | ⟨q1, q2⟩
        · omega
        · refine Or.inr (Or.inr ⟨by omega, ?_⟩)
          have h2 : y * (x % y) < 2 ^ i * 2 ^ i := Nat.mul_lt_mul'' q2 (by omega)
          rw [← Nat.pow_add] at h2
          exact Nat.lt_of_lt_of_le h2 (Nat.pow_le_pow_right (by decide) (by omega))
        · by_cases hz : x % y = 0
          · exact Or.inl hz
          · refine Or.inr (Or.inr ⟨by omega, ?_⟩)
            have := key (by omega) q1
            have hm1 : m = (m - 1) + 1 := by
              have : 1 ≤ x * y := Nat.mul_pos (by omega) hy
              have : m ≠ 0 := by intro e; subst e; omega
              omega
            rw [hm1, Nat.pow_succ] at q2
            omega
      · exact ⟨rfl, by push_cast; rfl⟩
  · rintro σ ⟨z, rfl⟩
    simp

end Mn.S

set_option Elab.async false
set_option linter.all false
set_option maxRecDepth 100000
set_option exponentiation.threshold 10000
namespace K00
open PySem Mn Mn.S
def LL : Nat := 30000
def NN : Nat := 200
def R (k : Nat) : Fns := run (T.map (·.d)) LL k
theorem R_eq {k f : Nat} {args : List MV} {d : FD} {v : MV × Bool} (h : (T.map (·.d))[f]? = some d) (hl : args.length = d.np) (w : W (R k) LL d.body (startM d.nn args) (fun fl => resOf fl = some v)) : R (k + 1) f args = some v := run_eq h hl w
theorem R_ex {k f : Nat} {args : List MV} {d : FD} {P : MV × Bool → Prop} (h : (T.map (·.d))[f]? = some d) (hl : args.length = d.np) (w : W (R k) LL d.body (startM d.nn args) (fun fl => OB (resOf fl) P)) : OB (R (k + 1) f args) P := run_of h hl w

theorem R_whole {k : Nat} (hk : 1 ≤ k) (v : MV) : R k 14 [v] = some (.bl (isInt v), false) := whole_ok (f := 14) rfl hk v
theorem R_same {k : Nat} (d : MV) (hk : deep d + 2 ≤ k) (fi : fits d) : R k 18 [tz d, d] = some (.bl true, false) := same_ok (f := 18) (g := 14) rfl rfl k d hk fi
theorem R_cell {k : Nat} (hk : 1 ≤ k) (ns : List Int) (j : Int) (hj : 0 ≤ j) (hj2 : j < 1000000) : ∃ c : Int, R k 15 [.lst (ns.map MV.int), .int j] = some (.int c, false) := cell_ok (f := 15) rfl hk ns j hj hj2
theorem R_digits {k : Nat} (hk : 1 ≤ k) (c : Int) (sizes : List Int) (hl : sizes.length ≤ 10000) (hs : ∀ s ∈ sizes, 0 < s ∧ Bd s 9000) : ∃ ds : List Int, R k 16 [.int c, .lst (sizes.map MV.int)] = some (.lst (ds.map MV.int), true) ∧ Below ds sizes := digits_ok (f := 16) rfl hk c sizes hl hs
theorem R_common {k : Nat} (hk : 1 ≤ k) (a b : Int) (ha : Bd a 10000) (hb : Bd b 10000) : R k 17 [.int a, .int b] = some (.int (Nat.gcd a.natAbs b.natAbs : Nat), false) := common_ok (f := 17) rfl hk a b ha hb (by decide)

/-- two equal lists of numbers -/
theorem same_ints {k : Nat} (l : List Int) (hl : l.length < 4000000) (hk : 3 ≤ k) (v : MV) (hv : v = .tup (l.map MV.int) ∨ v = .lst (l.map MV.int)) : R k 18 [.tup (l.map MV.int), v] = some (.bl true, false) := by
  rcases hv with rfl | rfl
  · have h := R_same (k := k) (.tup (l.map MV.int)) (by rw [deep, deeps_mi]; omega) (by rw [fits]; exact ⟨by rw [List.length_map]; exact hl, fitss_mi⟩)
    rw [tz, tzs_mi] at h; exact h
  · have h := R_same (k := k) (.lst (l.map MV.int)) (by rw [deep, deeps_mi]; omega) (by rw [fits]; exact ⟨by rw [List.length_map]; exact hl, fitss_mi⟩)
    rw [tz, tzs_mi] at h; exact h
theorem same_pair {k : Nat} (hk : 3 ≤ k) (a b : Int) : R k 18 [.tup [.int a, .int b], .tup [.int a, .int b]] = some (.bl true, false) := same_ints [a, b] (by show 2 < 4000000; decide) hk _ (Or.inl rfl)
theorem same_int {k : Nat} (hk : 2 ≤ k) {a b : Int} (h : a = b) : R k 18 [.int a, .int b] = some (.bl true, false) := by
  subst h
  have h := R_same (k := k) (.int a) (by simp [deep]; omega) (by simp [fits, okSize])
  rw [tz_int] at h
  exact h

/-- in lowest terms -/
def nr (a b : Int) : Int × Int := (a.fdiv (if b < 0 then -(Nat.gcd a.natAbs b.natAbs : Nat) else (Nat.gcd a.natAbs b.natAbs : Nat)), b.fdiv (if b < 0 then -(Nat.gcd a.natAbs b.natAbs : Nat) else (Nat.gcd a.natAbs b.natAbs : Nat)))

theorem gcd_bd {a b : Int} {n : Nat} (hb : Bd b n) (h : b ≠ 0) : Bd ((Nat.gcd a.natAbs b.natAbs : Nat) : Int) n := ⟨by
  rw [Int.natAbs_natCast]
  exact Nat.lt_of_le_of_lt (Nat.gcd_le_right _ (by omega)) hb.le⟩

theorem R_ratio {k : Nat} (hk : 1 ≤ k) {a b : Int} {m : Nat} [hb : Bd b m] (hm : m ≤ 9000) (h : b ≠ 0) : R k 0 [.int a, .int b] = some (.tup [.int (nr a b).1, .int (nr a b).2], false) := by
  obtain ⟨k, rfl⟩ : ∃ j, k = j + 1 := ⟨k - 1, by omega⟩
  refine R_eq (d := ⟨2, 3, b_ratio⟩) rfl rfl ?_
  have hg : ((Nat.gcd a.natAbs b.natAbs : Nat) : Int) ≠ 0 := by
    have := Nat.gcd_pos_of_pos_right a.natAbs (n := b.natAbs) (by omega)
    omega
  haveI hgb := gcd_bd (a := a) hb h
  have e1 : ∀ x : Int, binSem .fdiv (.int x) (.int (Nat.gcd a.natAbs b.natAbs : Nat)) = some (.int (x.fdiv (Nat.gcd a.natAbs b.natAbs : Nat)), .sh) := fun x => bin_fdiv hg hm
  have e2 : ∀ x : Int, binSem .fdiv (.int x) (.int (-(Nat.gcd a.natAbs b.natAbs : Nat))) = some (.int (x.fdiv (-(Nat.gcd a.natAbs b.natAbs : Nat))), .sh) := fun x => bin_fdiv (by omega) hm
  simp [b_ratio, startM]
  refine IF.dec (fun hl => ?_) (fun hl => ?_)
  · simp [e2, nr, hl]
  · simp [e1, nr, hl]

theorem R_lratio {k : Nat} (hk : 2 ≤ k) {a b : Int} {n m : Nat} [ha : Bd a n] [hb : Bd b m] (hn : n ≤ 9000) (hm : m ≤ 9000) (h : b ≠ 0) : R k 20 [.int a, .int b] = some (.tup [.int (nr a b).1, .int (nr a b).2], false) := by
  obtain ⟨k, rfl⟩ : ∃ j, k = j + 1 := ⟨k - 1, by omega⟩
  refine R_eq (d := ⟨2, 3, b__law_ratio⟩) rfl rfl ?_
  have hg : ((Nat.gcd a.natAbs b.natAbs : Nat) : Int) ≠ 0 := by
    have := Nat.gcd_pos_of_pos_right a.natAbs (n := b.natAbs) (by omega)
    omega
  haveI hgb := gcd_bd (a := a) hb h
  have e1 : ∀ x : Int, binSem .fdiv (.int x) (.int (Nat.gcd a.natAbs b.natAbs : Nat)) = some (.int (x.fdiv (Nat.gcd a.natAbs b.natAbs : Nat)), .sh) := fun x => bin_fdiv hg hm
  have e2 : ∀ x : Int, binSem .fdiv (.int x) (.int (-(Nat.gcd a.natAbs b.natAbs : Nat))) = some (.int (x.fdiv (-(Nat.gcd a.natAbs b.natAbs : Nat))), .sh) := fun x => bin_fdiv (by omega) hm
  have e3 := R_common (k := k) (by omega) a b (ha.up (by omega)) (hb.up (by omega))
  simp [b__law_ratio, startM, e3]
  refine IF.dec (fun hl => ?_) (fun hl => ?_)
  · simp [e2, nr, hl]
  · simp [e1, nr, hl]

/-- a list or a tuple of these -/
def pr (s : Bool) (l : List MV) : MV := if s then .lst l else .tup l
@[simp] theorem pr_idx {s l i} : idxSem (pr s l) (.int i) = atM l i := by cases s <;> rfl
@[simp] theorem pr_tup {s l} : biSem .tuple [pr s l] = some (.tup l, .sh) := by cases s <;> rfl
@[simp] theorem pr_list {s l} : biSem .list [pr s l] = some (.lst l, .fr) := by cases s <;> rfl
@[simp] theorem pr_len {s l} : biSem .len [pr s l] = some (.int l.length, .sh) := by cases s <;> rfl
@[simp] theorem pr_seq {s l} : seqOf (pr s l) = some l := by cases s <;> rfl

section two
variable {k : Nat} {s t : Bool} {p q u v : Int} {a b c d : Nat} [hp : Bd p a] [hq : Bd q b] [hu : Bd u c] [hv : Bd v d]
theorem R_sum (hk : 2 ≤ k) (hb : b + d ≤ 9000) (ha : a ≤ 9000) (hc : c ≤ 9000) (h : q ≠ 0) (h' : v ≠ 0) : R k 1 [pr s [.int p, .int q], pr t [.int u, .int v]] = some (.tup [.int (nr (p * v + u * q) (q * v)).1, .int (nr (p * v + u * q) (q * v)).2], false) := by
  obtain ⟨k, rfl⟩ : ∃ j, k = j + 1 := ⟨k - 1, by omega⟩
  refine R_eq (d := ⟨2, 2, b_ratio_sum⟩) rfl rfl ?_
  have e := R_ratio (k := k) (by omega) (a := p * v + u * q) (b := q * v) hb (Int.mul_ne_zero h h')
  have hm : ∀ n, n ≤ 9000 → n ≤ 400000 := fun n h => by omega
  simp [b_ratio_sum, startM, e, hm a ha, hm c hc, hm b (by omega), hm d (by omega), Mn.freeOf]
theorem R_difference (hk : 2 ≤ k) (hb : b + d ≤ 9000) (ha : a ≤ 9000) (hc : c ≤ 9000) (h : q ≠ 0) (h' : v ≠ 0) : R k 2 [pr s [.int p, .int q], pr t [.int u, .int v]] = some (.tup [.int (nr (p * v - u * q) (q * v)).1, .int (nr (p * v - u * q) (q * v)).2], false) := by
  obtain ⟨k, rfl⟩ : ∃ j, k = j + 1 := ⟨k - 1, by omega⟩
  refine R_eq (d := ⟨2, 2, b_ratio_difference⟩) rfl rfl ?_
  have e := R_ratio (k := k) (by omega) (a := p * v - u * q) (b := q * v) hb (Int.mul_ne_zero h h')
  have hm : ∀ n, n ≤ 9000 → n ≤ 400000 := fun n h => by omega
  simp [b_ratio_difference, startM, e, hm a ha, hm c hc, hm b (by omega), hm d (by omega), Mn.freeOf]
theorem R_product (hk : 2 ≤ k) (hb : b + d ≤ 9000) (ha : a ≤ 9000) (hc : c ≤ 9000) (h : q ≠ 0) (h' : v ≠ 0) : R k 3 [pr s [.int p, .int q], pr t [.int u, .int v]] = some (.tup [.int (nr (p * u) (q * v)).1, .int (nr (p * u) (q * v)).2], false) := by
  obtain ⟨k, rfl⟩ : ∃ j, k = j + 1 := ⟨k - 1, by omega⟩
  refine R_eq (d := ⟨2, 2, b_ratio_product⟩) rfl rfl ?_
  have e := R_ratio (k := k) (by omega) (a := p * u) (b := q * v) hb (Int.mul_ne_zero h h')
  have hm : ∀ n, n ≤ 9000 → n ≤ 400000 := fun n h => by omega
  simp [b_ratio_product, startM, e, hm a ha, hm c hc, hm b (by omega), hm d (by omega), Mn.freeOf]
theorem R_order (hk : 1 ≤ k) (hb : b ≤ 9000) (ha : a ≤ 9000) (hc : c ≤ 9000) (hd : d ≤ 9000) : R k 4 [pr s [.int p, .int q], pr t [.int u, .int v]] = some (.int (if p * v < u * q then -1 else if u * q < p * v then 1 else 0), false) := by
  obtain ⟨k, rfl⟩ : ∃ j, k = j + 1 := ⟨k - 1, by omega⟩
  refine R_eq (d := ⟨2, 4, b_ratio_order⟩) rfl rfl ?_
  have hm : ∀ n, n ≤ 9000 → n ≤ 400000 := fun n h => by omega
  simp [b_ratio_order, startM, hm a ha, hm c hc, hm b (by omega), hm d (by omega), Mn.freeOf]
  refine IF.dec (fun h1 => ?_) (fun h1 => IF.dec (fun h2 => ?_) (fun h2 => ?_))
  · intro h3; omega
  · simp only [h1, h2, if_true, if_false]
  · simp only [h1, h2, if_false]
theorem R_floor (hk : 1 ≤ k) (hb : b ≤ 9000) (h : 0 < q) : R k 5 [pr s [.int p, .int q]] = some (.int (p / q), false) := by
  obtain ⟨k, rfl⟩ : ∃ j, k = j + 1 := ⟨k - 1, by omega⟩
  refine R_eq (d := ⟨1, 1, b_ratio_floor⟩) rfl rfl ?_
  simp [b_ratio_floor, startM, hb, h]
theorem R_ceiling (hk : 1 ≤ k) (hb : b ≤ 9000) (h : 0 < q) : R k 6 [pr s [.int p, .int q]] = some (.int (-(-p / q)), false) := by
  obtain ⟨k, rfl⟩ : ∃ j, k = j + 1 := ⟨k - 1, by omega⟩
  refine R_eq (d := ⟨1, 1, b_ratio_ceiling⟩) rfl rfl ?_
  simp [b_ratio_ceiling, startM, hb, h]

theorem R_reckoned (hk : 4 ≤ k) (ha : a ≤ 4000) (hb : b ≤ 4000) (hc : c ≤ 4000) (hd : d ≤ 4000) (h : 0 < q) (h' : 0 < v) : R k 21 [pr s [.int p, .int q], pr t [.int u, .int v], .tup [.int p, .int q], .tup [.int u, .int v]] = some (.bl true, false) := by
  obtain ⟨k, rfl⟩ : ∃ j, k = j + 1 := ⟨k - 1, by omega⟩
  refine R_eq (d := ⟨4, 8, b__law_reckoned⟩) rfl rfl ?_
  have hm : ∀ n, n ≤ 4000 → n ≤ 400000 := fun n h => by omega
  haveI : Bd (p / q) 4000 := by have := (hp.up ha).fdiv (b := q); rwa [Int.fdiv_eq_ediv_of_nonneg _ (by omega)] at this
  haveI : Bd (-(-p / q)) 4000 := by
    have : Bd (-p / q) 4000 := by have := (Bd.neg (ha := hp.up ha)).fdiv (b := q); rwa [Int.fdiv_eq_ediv_of_nonneg _ (by omega)] at this
    exact Bd.neg
  have hqv : q * v ≠ 0 := Int.mul_ne_zero (by omega) (by omega)
  have e1 := R_sum (k := k) (s := s) (t := t) (p := p) (q := q) (u := u) (v := v) (by omega) (by omega) (by omega) (by omega) (by omega) (by omega)
  have e2 := R_difference (k := k) (s := s) (t := t) (p := p) (q := q) (u := u) (v := v) (by omega) (by omega) (by omega) (by omega) (by omega) (by omega)
  have e3 := R_product (k := k) (s := s) (t := t) (p := p) (q := q) (u := u) (v := v) (by omega) (by omega) (by omega) (by omega) (by omega) (by omega)
  have f1 := R_lratio (k := k) (by omega) (a := p * v + u * q) (b := q * v) (by omega) (by omega) hqv
  have f2 := R_lratio (k := k) (by omega) (a := p * v - u * q) (b := q * v) (by omega) (by omega) hqv
  have f3 := R_lratio (k := k) (by omega) (a := p * u) (b := q * v) (by omega) (by omega) hqv
  have e4 := R_order (k := k) (s := s) (t := t) (p := p) (q := q) (u := u) (v := v) (by omega) (by omega) (by omega) (by omega) (by omega)
  have e5 := R_order (k := k) (s := s) (t := s) (p := p) (q := q) (u := p) (v := q) (by omega) (by omega) (by omega) (by omega) (by omega)
  have e6 := R_floor (k := k) (s := s) (p := p) (q := q) (by omega) (by omega) h
  have e7 := R_ceiling (k := k) (s := s) (p := p) (q := q) (by omega) (by omega) h
  have g1 := fun x y => same_pair (k := k) (by omega) x y
  have g2 := R_whole (k := k) (by omega)
  have l1 : p / q * q ≤ p := Int.ediv_mul_le _ (by omega)
  have l2 : p < (p / q + 1) * q := Int.lt_ediv_add_one_mul_self _ h
  have l3 : -p / q * q ≤ -p := Int.ediv_mul_le _ (by omega)
  have l4 : -p < (-p / q + 1) * q := Int.lt_ediv_add_one_mul_self _ h
  have n1 : ¬ p < p / q * q := by omega
  have n2 : ¬ (p / q + 1) * q ≤ p := by omega
  have n3 : p ≤ -(-p / q * q) := by omega
  have n3' : p ≤ -(-p / q) * q := by rw [Int.neg_mul]; omega
  have n4 : (-(-p / q) - 1) * q < p := by
    have : (-(-p / q) - 1) * q = -((-p / q + 1) * q) := by rw [← Int.neg_mul]; congr 1; omega
    omega
  simp [b__law_reckoned, startM, e1, e2, e3, e4, e5, e6, e7, f1, f2, f3, g1, g2, hm a ha, hm b hb, hm c hc, hm d hd, Mn.freeOf, MV.noLst, MV.noLsts, isInt, n1, n2, n3, n4]
  rw [same_int (by omega) (by split <;> split <;> split <;> omega)]
  simp [e1, e2, e3, e4, e5, e6, e7, f1, f2, f3, g1, g2, hm a ha, hm b hb, hm c hc, hm d hd, Mn.freeOf, MV.noLst, MV.noLsts, isInt, n1, n2, n3, n4]
  rw [same_int (by omega) (by first | rfl | (split <;> split <;> omega))]
  simp (decide := true) [e1, e2, e3, e4, e5, e6, e7, f1, f2, f3, g1, g2, hm a ha, hm b hb, hm c hc, hm d hd, Mn.freeOf, MV.noLst, MV.noLsts, isInt, n1, n2, n3, n3', n4]
end two

end K00

set_option Elab.async false
set_option linter.all false
set_option maxRecDepth 100000
set_option exponentiation.threshold 10000
namespace Mn.S
open PySem
theorem W.split {Φ : Fns} {L : Nat} {ss : List CS} {σ : MS} {Q : Flow → Prop} (n : Nat) (I : MS → Prop) (h : W Φ L (ss.take n) σ (fun fl => match fl with | .nx σ' => I σ' | fl => Q fl)) (k : ∀ σ', I σ' → W Φ L (ss.drop n) σ' Q) : W Φ L ss σ Q := by
  have := W.cut (r := ss.drop n) h k
  rwa [List.take_append_drop] at this
@[simp] theorem bin_rep {a : List MV} {k : Int} (h : k < 4611686018427387904) (h' : -4611686018427387904 < k) (hl : a.length * k.toNat ≤ 4000000) : binSem .mul (.lst a) (.int k) = some (.lst (List.replicate k.toNat a).flatten, .fr) := by
  rw [binSem, if_pos ⟨by unfold RNG; exact h, by unfold RNG; exact h', by unfold SZ; exact hl⟩]
theorem Below.c {ds : List Int} {s : Int} {ss : List Int} (h : Below ds (s :: ss)) : ∃ d r, ds = d :: r ∧ 0 ≤ d ∧ d < s ∧ Below r ss := by
  cases h with
  | cons a b r => exact ⟨_, _, rfl, a, b, r⟩
theorem Below.n {ds : List Int} (h : Below ds []) : ds = [] := by cases h; rfl
end Mn.S
namespace K00
open PySem Mn Mn.S

theorem R_number {k : Nat} (hk : 1 ≤ k) (ds : List Int) (i a b c d : Int) (e0 : atM (ds.map MV.int) i = some (.int a)) (e1 : atM (ds.map MV.int) (i + 1) = some (.int b)) (e2 : atM (ds.map MV.int) (i + 2) = some (.int c)) (e3 : atM (ds.map MV.int) (i + 3) = some (.int d))
    (ha : 0 ≤ a ∧ a < 8) (hb : 0 ≤ b ∧ b < 2) (hc : 0 ≤ c ∧ c < 10 ^ 9) (hd : 0 ≤ d ∧ d < 10 ^ 40) : ∃ v : Int, R k 19 [.lst (ds.map MV.int), .int i] = some (.int v, false) ∧ Bd v 700 := by
  obtain ⟨k, rfl⟩ : ∃ j, k = j + 1 := ⟨k - 1, by omega⟩
  haveI : Bd c 30 := Bd.rng hc.1 (by omega)
  haveI : Bd d 134 := Bd.rng hd.1 (by omega)
  have : OB (R (k + 1) 19 [.lst (ds.map MV.int), .int i]) (fun r => ∃ v : Int, r = (.int v, false) ∧ Bd v 700) := by
    refine R_ex (d := ⟨2, 4, b__law_number⟩) rfl rfl ?_
    refine W.split 9 (fun σ => ∃ v : Int, Bd v 690 ∧ σ = [some (.lst (ds.map MV.int), false), some (.int i, false), some (.int c, false), some (.int v, false)]) ?_ ?_
    · have up : ∀ (v : Int) (n : Nat), Bd v n → n ≤ 690 → Bd v 690 := fun v n h k => h.up k
      have m3 : Bd (c % 3) 2 := Bd.emod (by decide) inferInstance
      have m4 : Bd (c % 4) 3 := Bd.emod (by decide) inferInstance
      have m10 : Bd (c % 10) 4 := Bd.emod (by decide) inferInstance
      have m61 : Bd (c % 61) 6 := Bd.emod (by decide) inferInstance
      have m1000 : Bd (c % 1000) 10 := Bd.emod (by decide) inferInstance
      rcases (by omega : a = 0 ∨ a = 1 ∨ a = 2 ∨ a = 3 ∨ a = 4 ∨ a = 5 ∨ a = 6 ∨ a = 7) with rfl | rfl | rfl | rfl | rfl | rfl | rfl | rfl <;>
        (simp (decide := true) [-atM_of, b__law_number, startM, e0, e1, e2, e3]; exact up _ _ inferInstance (by decide))
    · rintro σ ⟨v, hv, rfl⟩
      simp [-atM_of, b__law_number, startM, e1]
      exact IF.dec (fun _ => (Bd.neg (ha := hv)).up (by decide)) (fun _ => hv.up (by decide))
  obtain ⟨r, e, v, rfl, h⟩ := this
  exact ⟨v, e, h⟩

theorem nr_pos {a b : Int} (h : b ≠ 0) : 0 < (nr a b).2 := by
  have hg : 0 < Nat.gcd a.natAbs b.natAbs := Nat.gcd_pos_of_pos_right _ (by omega)
  have hle : Nat.gcd a.natAbs b.natAbs ≤ b.natAbs := Nat.gcd_le_right _ (by omega)
  generalize hG : Nat.gcd a.natAbs b.natAbs = g at hg hle
  unfold nr
  rw [hG]
  show 0 < b.fdiv _
  by_cases hb : b < 0
  · rw [if_pos hb]
    have : b.fdiv (-(g : Int)) = (-b).fdiv (g : Int) := by rw [← Int.neg_fdiv_neg b, Int.neg_neg]
    rw [this, Int.fdiv_eq_ediv_of_nonneg _ (by omega)]
    exact Int.lt_of_lt_of_le (by decide) (Int.le_ediv_of_mul_le (a := 1) (by omega) (by omega))
  · rw [if_neg hb, Int.fdiv_eq_ediv_of_nonneg _ (by omega)]
    exact Int.lt_of_lt_of_le (by decide) (Int.le_ediv_of_mul_le (a := 1) (by omega) (by omega))
theorem nr_bd1 {a b : Int} {n : Nat} (h : Bd a n) : Bd (nr a b).1 n := h.fdiv
theorem nr_bd2 {a b : Int} {n : Nat} (h : Bd b n) : Bd (nr a b).2 n := h.fdiv

/-- what the fractions are drawn as -/
def FR (p q u v s t : Int) : Prop := q ≠ 0 ∧ v ≠ 0 ∧ Bd p 3000 ∧ Bd q 3000 ∧ Bd u 3000 ∧ Bd v 3000

set_option maxHeartbeats 0 in
theorem R_drawn {k : Nat} (hk : 2 ≤ k) (c1 c2 : Int) : ∃ p q u v s t : Int, R k 22 [.int c1, .int c2] = some (.lst [.lst [.int p, .int q], .lst [.int u, .int v], .int s, .int t], true) ∧ FR p q u v s t := by
  obtain ⟨k, rfl⟩ : ∃ j, k = j + 1 := ⟨k - 1, by omega⟩
  have : OB (R (k + 1) 22 [.int c1, .int c2]) (fun r => ∃ p q u v s t : Int, r = (.lst [.lst [.int p, .int q], .lst [.int u, .int v], .int s, .int t], true) ∧ FR p q u v s t) := by
    refine R_ex (d := ⟨2, 7, b__law_drawn_fractions⟩) rfl rfl ?_
    obtain ⟨ds, hd, bd⟩ := R_digits (k := k) (by omega) c1 [8, 2, 10 ^ 9, 10 ^ 40, 8, 2, 10 ^ 9, 10 ^ 40, 2] (by decide) (by
      intro s hs
      simp only [List.mem_cons, List.not_mem_nil, or_false] at hs
      rcases hs with rfl | rfl | rfl | rfl | rfl | rfl | rfl | rfl | rfl <;> exact ⟨by decide, Bd.up (n := 200) ⟨by decide⟩ (by decide)⟩)
    obtain ⟨ms, hm, bm⟩ := R_digits (k := k) (by omega) c2 [10, 8, 2, 10 ^ 9, 10 ^ 40, 8, 2, 10 ^ 9, 10 ^ 40, 2] (by decide) (by
      intro s hs
      simp only [List.mem_cons, List.not_mem_nil, or_false] at hs
      rcases hs with rfl | rfl | rfl | rfl | rfl | rfl | rfl | rfl | rfl | rfl <;> exact ⟨by decide, Bd.up (n := 200) ⟨by decide⟩ (by decide)⟩)
    obtain ⟨d0, _, rfl, x0, y0, bd⟩ := bd.c
    obtain ⟨d1, _, rfl, x1, y1, bd⟩ := bd.c
    obtain ⟨d2, _, rfl, x2, y2, bd⟩ := bd.c
    obtain ⟨d3, _, rfl, x3, y3, bd⟩ := bd.c
    obtain ⟨d4, _, rfl, x4, y4, bd⟩ := bd.c
    obtain ⟨d5, _, rfl, x5, y5, bd⟩ := bd.c
    obtain ⟨d6, _, rfl, x6, y6, bd⟩ := bd.c
    obtain ⟨d7, _, rfl, x7, y7, bd⟩ := bd.c
    obtain ⟨d8, _, rfl, x8, y8, bd⟩ := bd.c
    cases bd.n
    clear bd
    obtain ⟨m, _, rfl, xm, ym, bm⟩ := bm.c
    obtain ⟨m0, _, rfl, u0, v0, bm⟩ := bm.c
    obtain ⟨m1, _, rfl, u1, v1, bm⟩ := bm.c
    obtain ⟨m2, _, rfl, u2, v2, bm⟩ := bm.c
    obtain ⟨m3, _, rfl, u3, v3, bm⟩ := bm.c
    obtain ⟨m4, _, rfl, u4, v4, bm⟩ := bm.c
    obtain ⟨m5, _, rfl, u5, v5, bm⟩ := bm.c
    obtain ⟨m6, _, rfl, u6, v6, bm⟩ := bm.c
    obtain ⟨m7, _, rfl, u7, v7, bm⟩ := bm.c
    obtain ⟨m8, _, rfl, u8, v8, bm⟩ := bm.c
    cases bm.n
    obtain ⟨p, hp, bp⟩ := R_number (k := k) (by omega) [d0, d1, d2, d3, d4, d5, d6, d7, d8] 0 d0 d1 d2 d3 (by simp) (by simp) (by simp) (by simp) ⟨x0, y0⟩ ⟨x1, y1⟩ ⟨x2, y2⟩ ⟨x3, y3⟩
    obtain ⟨q, hq, bq⟩ := R_number (k := k) (by omega) [d0, d1, d2, d3, d4, d5, d6, d7, d8] 4 d4 d5 d6 d7 (by simp) (by simp) (by simp) (by simp) ⟨x4, y4⟩ ⟨x5, y5⟩ ⟨x6, y6⟩ ⟨x7, y7⟩
    obtain ⟨u, hu, bu⟩ := R_number (k := k) (by omega) [m, m0, m1, m2, m3, m4, m5, m6, m7, m8] 1 m0 m1 m2 m3 (by simp) (by simp) (by simp) (by simp) ⟨u0, v0⟩ ⟨u1, v1⟩ ⟨u2, v2⟩ ⟨u3, v3⟩
    obtain ⟨v, hv, bv⟩ := R_number (k := k) (by omega) [m, m0, m1, m2, m3, m4, m5, m6, m7, m8] 5 m4 m5 m6 m7 (by simp) (by simp) (by simp) (by simp) ⟨u4, v4⟩ ⟨u5, v5⟩ ⟨u6, v6⟩ ⟨u7, v7⟩
    simp at hd hm hp hq hu hv
    let A := some (MV.int c1, false)
    refine W.split 6 (fun σ => σ = [some (MV.int c1, false), some (MV.int c2, false), some (.lst [.int d0, .int d1, .int d2, .int d3, .int d4, .int d5, .int d6, .int d7, .int d8], false), some (.lst [.int m, .int m0, .int m1, .int m2, .int m3, .int m4, .int m5, .int m6, .int m7, .int m8], false), some (.lst [.int p, .int q], true), some (.lst [.int u, .int v], true), none]) ?_ ?_
    · simp (decide := true) [b__law_drawn_fractions, startM, hd, hm, hp, hq, hu, hv, Mn.freeOf, MV.noLst, MV.noLsts]
    · rintro σ rfl
      refine W.split 3 (fun σ => ∃ p q u v : Int, q ≠ 0 ∧ v ≠ 0 ∧ Bd p 700 ∧ Bd q 700 ∧ Bd u 700 ∧ Bd v 700 ∧ σ = [some (MV.int c1, false), some (MV.int c2, false), some (.lst [.int d0, .int d1, .int d2, .int d3, .int d4, .int d5, .int d6, .int d7, .int d8], false), some (.lst [.int m, .int m0, .int m1, .int m2, .int m3, .int m4, .int m5, .int m6, .int m7, .int m8], false), some (.lst [.int p, .int q], true), some (.lst [.int u, .int v], true), some (.int v, false)]) ?_ ?_
      · have o1 : Bd 1 700 := ⟨by decide⟩
        have o2 : Bd (-1) 700 := ⟨by decide⟩
        by_cases hq0 : q = 0 <;> by_cases hv0 : v = 0 <;> simp [b__law_drawn_fractions, setSem, L2.ixN, hq0, hv0] <;> (refine ⟨_, _, ?_, _, _, ?_, ?_, ?_, ?_, ?_, ⟨rfl, rfl⟩, rfl, rfl⟩ <;> first | assumption | decide)
      · rintro σ ⟨p, q, u, v, hq0, hv0, bp, bq, bu, bv, rfl⟩
        clear hd hm hp hq hu hv
        have up : ∀ (v : Int) (n : Nat), Bd v n → n ≤ 3000 → Bd v 3000 := fun v n h k => h.up k
        have fd : Bd (p.fdiv q) 700 := bp.fdiv
        have m3 : Bd (u % 3) 2 := Bd.emod (by decide) inferInstance
        have dv := fun x => bin_fdiv (a := x) hq0 (by decide : 700 ≤ 9000)
        have o1 : Bd 1 3000 := ⟨by decide⟩
        have o0 : Bd 0 3000 := ⟨by decide⟩
        rcases (by omega : m = 0 ∨ m = 1 ∨ m = 2 ∨ m = 3 ∨ m = 4 ∨ m = 5 ∨ m = 6 ∨ m = 7 ∨ m = 8 ∨ m = 9) with rfl | rfl | rfl | rfl | rfl | rfl | rfl | rfl | rfl | rfl
        case inr.inr.inr.inr.inl =>
          by_cases hp0 : p = 0 <;> (simp (decide := true) [b__law_drawn_fractions, hp0, dv, FR]; refine ⟨_, _, _, _, ⟨⟨rfl, rfl⟩, rfl, rfl⟩, ?_, ?_, ?_, ?_, ?_, ?_⟩ <;> first | assumption | exact Int.mul_ne_zero hq0 hv0 | exact Int.mul_ne_zero hp0 hv0 | exact up _ _ inferInstance (by decide) | decide)
        all_goals (simp (decide := true) [b__law_drawn_fractions, dv, FR])
        all_goals (refine ⟨_, _, _, _, ⟨⟨rfl, rfl⟩, rfl, rfl⟩, ?_, ?_, ?_, ?_, ?_, ?_⟩ <;> first | assumption | exact Int.mul_ne_zero hq0 hv0 | exact up _ _ inferInstance (by decide) | decide)
  obtain ⟨r, e, p, q, u, v, s, t, rfl, h⟩ := this
  exact ⟨p, q, u, v, s, t, e, h⟩

end K00

set_option Elab.async false
set_option linter.all false
set_option maxRecDepth 100000
set_option exponentiation.threshold 10000
namespace K00
open PySem Mn Mn.S

@[simp] theorem pr_noLst {l} : MV.noLst (pr false l) = MV.noLsts l := by simp [pr, MV.noLst]

set_option maxHeartbeats 0 in
theorem R_fright {k : Nat} (hk : 6 ≤ k) {p q u v s t : Int} (h : FR p q u v s t) : R k 23 [.lst [.lst [.int p, .int q], .lst [.int u, .int v], .int s, .int t]] = some (.bl true, false) := by
  obtain ⟨k, rfl⟩ : ∃ j, k = j + 1 := ⟨k - 1, by omega⟩
  obtain ⟨hq, hv, bp, bq, bu, bv⟩ := h
  have a1 := R_ratio (k := k) (a := p) (by omega) (hb := bq) (by decide) hq
  have a2 := R_ratio (k := k) (a := u) (by omega) (hb := bv) (by decide) hv
  have a3 := R_lratio (k := k) (by omega) (ha := bp) (hb := bq) (by decide) (by decide) hq
  have a4 := R_lratio (k := k) (by omega) (ha := bu) (hb := bv) (by decide) (by decide) hv
  have g1 := fun x y => same_pair (k := k) (by omega) x y
  have b1 := fun s t => R_reckoned (k := k) (s := s) (t := t) (hp := nr_bd1 (b := q) bp) (hq := nr_bd2 (a := p) bq) (hu := nr_bd1 (b := v) bu) (hv := nr_bd2 (a := u) bv) (by omega) (by decide) (by decide) (by decide) (by decide) (nr_pos hq) (nr_pos hv)
  have b2 := fun s t => R_reckoned (k := k) (s := s) (t := t) (hp := nr_bd1 (b := v) bu) (hq := nr_bd2 (a := u) bv) (hu := nr_bd1 (b := q) bp) (hv := nr_bd2 (a := p) bq) (by omega) (by decide) (by decide) (by decide) (by decide) (nr_pos hv) (nr_pos hq)
  have b11 := b1 true true; have b12 := b1 true false; have b13 := b1 false true; have b14 := b1 false false
  have b21 := b2 true true; have b22 := b2 true false; have b23 := b2 false true; have b24 := b2 false false
  simp only [pr, if_true, if_false, Bool.false_eq_true] at b11 b12 b13 b14 b21 b22 b23 b24
  refine R_eq (d := ⟨1, 7, b__law_fractions_right⟩) rfl rfl ?_
  by_cases hs : s = 1 <;> by_cases ht : t = 1 <;>
    simp (decide := true) [b__law_fractions_right, startM, a1, a2, a3, a4, g1, b11, b12, b13, b14, b21, b22, b23, b24, hs, ht, Mn.freeOf, MV.noLst, MV.noLsts]
end K00

set_option Elab.async false
set_option linter.all false
set_option maxRecDepth 100000
set_option exponentiation.threshold 10000
namespace Mn.S
open PySem
theorem Below.get {ds ss : List Int} (h : Below ds ss) : ∀ {i : Nat} {s : Int}, ss[i]? = some s → ∃ d, ds[i]? = some d ∧ 0 ≤ d ∧ d < s := by
  induction h with
  | nil => intro i s h; cases h
  | cons a b _ ih =>
    intro i s h
    cases i with
    | zero => cases h; exact ⟨_, rfl, a, b⟩
    | succ i => exact ih h
theorem rngM_mem {n : Nat} {lo : Int} {x : MV} (h : x ∈ rngM lo n) : ∃ k : Nat, k < n ∧ x = .int (lo + k) := by
  obtain ⟨k, hk⟩ := List.mem_iff_getElem?.mp h
  exact ⟨k, rngM_at hk⟩
/-- the number, as a place -/
def ix : MV → Nat
  | .int i => i.toNat
  | _ => 0
def nu : MV → Int
  | .int i => i
  | _ => 0
@[simp] theorem ix_int {k : Nat} : ix (.int k) = k := by simp [ix]
@[simp] theorem nu_int {i : Int} : nu (.int i) = i := rfl
theorem comp_ints {Φ : Fns} {σ : MS} {elt tg it ifs} {xs : List MV} {t} (h : MV → Int) (e : evI Φ it σ = some (xs, t)) (hl : xs.length ≤ 4000000) (hg : ∀ x ∈ xs, turn1 Φ elt tg ifs σ x = some [.int (h x)]) :
    ev Φ (.comp elt tg it ifs) σ = some (.lst ((xs.map h).map MV.int), .fr) := by
  rw [ev_comp_map (fun x => .int (h x)) e hl hg, List.map_map]; rfl
def gd (a : List Int) (k : Nat) : Int := a.getD k 0
theorem gd_eq {a : List Int} {k : Nat} (h : k < a.length) : gd a k = a[k] := by simp [gd, List.getElem?_eq_getElem h]
theorem get_mi {a : List Int} {k : Nat} (h : k < a.length) : (a.map MV.int)[k]? = some (.int (gd a k)) := by
  rw [List.getElem?_map, List.getElem?_eq_getElem h, gd_eq h]; rfl
theorem gd_mem {a : List Int} {k : Nat} (h : k < a.length) : gd a k ∈ a := by
  rw [gd_eq h]; exact List.getElem_mem h
end Mn.S
namespace K00
open PySem Mn Mn.S

def gg (xs : List Int) : Nat := xs.foldl (fun c x => Nat.gcd c x.natAbs) 0
theorem gg_snoc {xs : List Int} {x : Int} : gg (xs ++ [x]) = Nat.gcd (gg xs) x.natAbs := by simp [gg, List.foldl_append]
theorem gg_bd' {n : Nat} (xs : List Int) : ∀ c : Nat, c < 2 ^ n → (∀ x ∈ xs, Bd x n) → xs.foldl (fun c x => Nat.gcd c x.natAbs) c < 2 ^ n := by
  induction xs with
  | nil => intro c h _; exact h
  | cons x r ih =>
    intro c h hb
    refine ih _ ?_ (fun y hy => hb y (List.mem_cons_of_mem _ hy))
    by_cases hc : c = 0
    · subst hc; show Nat.gcd 0 x.natAbs < 2 ^ n; rw [Nat.gcd_zero_left]; exact (hb x List.mem_cons_self).le
    · exact Nat.lt_of_le_of_lt (Nat.gcd_le_left _ (by omega)) h
theorem gg_bd {n : Nat} {xs : List Int} (h : ∀ x ∈ xs, Bd x n) : Bd (gg xs : Int) n := ⟨by rw [Int.natAbs_natCast]; exact gg_bd' xs 0 (Nat.two_pow_pos n) h⟩
def prim (xs : List Int) : List Int := if gg xs ≤ 1 then xs else xs.map (· / (gg xs : Int))

theorem take_snoc {xs : List Int} {i : Nat} (h : i < xs.length) : xs.take (i + 1) = xs.take i ++ [gd xs i] := by
  rw [List.take_add_one, List.getElem?_eq_getElem h, gd_eq h]; rfl
theorem at_mi {xs : List Int} {i : Nat} {x : MV} (h : (xs.map MV.int)[i]? = some x) : i < xs.length ∧ x = .int (gd xs i) := by
  rcases Nat.lt_or_ge i xs.length with q | q
  · rw [get_mi q] at h; cases h; exact ⟨q, rfl⟩
  · rw [List.getElem?_eq_none (by rw [List.length_map]; exact q)] at h; cases h

theorem R_primitive {k : Nat} (hk : 1 ≤ k) (s : Bool) (xs : List Int) (hl : xs.length ≤ 1000) (hb : ∀ x ∈ xs, Bd x 9000) : R k 12 [pr s (xs.map MV.int)] = some (.tup ((prim xs).map MV.int), false) := by
  obtain ⟨k, rfl⟩ : ∃ j, k = j + 1 := ⟨k - 1, by omega⟩
  refine R_eq (d := ⟨1, 3, b_primitive⟩) rfl rfl ?_
  simp [b_primitive, startM]
  refine W.for (xs.map MV.int) (fun i σ => ∃ x, σ = [some (pr s (xs.map MV.int), false), some (.int (gg (xs.take i) : Nat), false), x]) (by simp) ⟨none, rfl⟩ ?_ ?_
  · rintro i x σ hx ⟨y, rfl⟩
    obtain ⟨hi, rfl⟩ := at_mi hx
    simp [take_snoc hi, gg_snoc]
  · rintro σ ⟨y, rfl⟩
    rw [List.take_of_length_le (by simp)]
    simp
    haveI := gg_bd hb
    refine IF.dec (fun h => ?_) (fun h => ?_)
    · have : gg xs ≤ 1 := by omega
      simp [prim, this]
    · have h1 : ¬ gg xs ≤ 1 := by omega
      have h0 : 0 < gg xs := by omega
      rw [comp_ints (xs := xs.map MV.int) (t := .sh) (fun x => nu x / (gg xs : Int)) (by simp) (by simp; omega) (by
        intro x hx
        obtain ⟨n, hn, rfl⟩ := List.mem_map.mp hx
        simp [turn1, h0])]
      simp [prim, h1, Function.comp_def]
theorem R_lowest {k : Nat} (hk : 2 ≤ k) (xs : List Int) (hl : xs.length ≤ 1000) (hb : ∀ x ∈ xs, Bd x 9000) : R k 25 [.lst (xs.map MV.int)] = some (.lst ((prim xs).map MV.int), true) := by
  obtain ⟨k, rfl⟩ : ∃ j, k = j + 1 := ⟨k - 1, by omega⟩
  refine R_eq (d := ⟨1, 3, b__law_lowest⟩) rfl rfl ?_
  simp [b__law_lowest, startM]
  refine W.for (xs.map MV.int) (fun i σ => ∃ x, σ = [some (.lst (xs.map MV.int), false), some (.int (gg (xs.take i) : Nat), false), x]) (by simp) ⟨none, rfl⟩ ?_ ?_
  · rintro i x σ hx ⟨y, rfl⟩
    obtain ⟨hi, rfl⟩ := at_mi hx
    have e := R_common (k := k) (by omega) (gg (xs.take i) : Nat) (gd xs i) ((gg_bd (n := 9000) (fun x hx => hb x (List.mem_of_mem_take hx))).up (by decide)) ((hb _ (gd_mem hi)).up (by decide))
    simp at e
    simp [take_snoc hi, gg_snoc, e]
  · rintro σ ⟨y, rfl⟩
    rw [List.take_of_length_le (by simp)]
    simp
    haveI := gg_bd hb
    refine IF.dec (fun h => ?_) (fun h => ?_)
    · have : gg xs ≤ 1 := by omega
      simp [prim, this]
    · have h1 : ¬ gg xs ≤ 1 := by omega
      have h0 : 0 < gg xs := by omega
      rw [comp_ints (xs := xs.map MV.int) (t := .sh) (fun x => nu x / (gg xs : Int)) (by simp) (by simp; omega) (by
        intro x hx
        obtain ⟨n, hn, rfl⟩ := List.mem_map.mp hx
        simp [turn1, h0])]
      simp [prim, h1, Function.comp_def]

def dt (a b : List Int) : Nat → Int
  | 0 => 0
  | n + 1 => dt a b n + gd a n * gd b n

theorem R_dot {k : Nat} (hk : 1 ≤ k) (s t : Bool) (a b : List Int) (hl : b.length = a.length) (hn : a.length ≤ 1000) (ha : ∀ x ∈ a, Bd x 9000) (hb : ∀ x ∈ b, Bd x 9000) : R k 7 [pr s (a.map MV.int), pr t (b.map MV.int)] = some (.int (dt a b a.length), false) := by
  obtain ⟨k, rfl⟩ : ∃ j, k = j + 1 := ⟨k - 1, by omega⟩
  refine R_eq (d := ⟨2, 4, b_dot⟩) rfl rfl ?_
  have hr := rngOk_n (n := a.length) (by omega)
  simp [b_dot, startM]
  refine W.for (rngM 0 a.length) (fun i σ => ∃ x, σ = [some (pr s (a.map MV.int), false), some (pr t (b.map MV.int), false), some (.int (dt a b i), false), x]) (by simp [hr]) ⟨none, rfl⟩ ?_ ?_
  · rintro i x σ hx ⟨y, rfl⟩
    obtain ⟨hi, rfl⟩ := rngM_at hx
    haveI := ha _ (gd_mem hi)
    haveI := hb _ (gd_mem (hl ▸ hi : i < b.length))
    have e1 := get_mi hi
    have e2 := get_mi (hl ▸ hi : i < b.length)
    simp only [List.getElem?_map] at e1 e2
    simp (decide := true) [e1, e2, dt]
  · rintro σ ⟨y, rfl⟩
    simp

def pl (a b : List Int) (n : Nat) : List Int := (rngM 0 n).map (fun x => gd a (ix x) + gd b (ix x))
def mn (a b : List Int) (n : Nat) : List Int := (rngM 0 n).map (fun x => gd a (ix x) - gd b (ix x))

theorem R_plus {k : Nat} (hk : 1 ≤ k) (s t : Bool) (a b : List Int) (hl : b.length = a.length) (hn : a.length ≤ 1000) : R k 8 [pr s (a.map MV.int), pr t (b.map MV.int)] = some (.tup ((pl a b a.length).map MV.int), false) := by
  obtain ⟨k, rfl⟩ : ∃ j, k = j + 1 := ⟨k - 1, by omega⟩
  refine R_eq (d := ⟨2, 3, b_plus⟩) rfl rfl ?_
  have hr := rngOk_n (n := a.length) (by omega)
  simp [b_plus, startM]
  rw [comp_ints (xs := rngM 0 a.length) (t := .sh) (fun x => gd a (ix x) + gd b (ix x)) (by simp [hr]) (by simp; omega) (by
        intro x hx
        obtain ⟨i, hi, rfl⟩ := rngM_mem hx
        have e1 := get_mi hi
        have e2 := get_mi (hl ▸ hi : i < b.length)
        simp only [List.getElem?_map] at e1 e2
        simp [turn1, e1, e2])]
  simp [pl]
theorem R_minus {k : Nat} (hk : 1 ≤ k) (s t : Bool) (a b : List Int) (hl : b.length = a.length) (hn : a.length ≤ 1000) : R k 9 [pr s (a.map MV.int), pr t (b.map MV.int)] = some (.tup ((mn a b a.length).map MV.int), false) := by
  obtain ⟨k, rfl⟩ : ∃ j, k = j + 1 := ⟨k - 1, by omega⟩
  refine R_eq (d := ⟨2, 3, b_minus⟩) rfl rfl ?_
  have hr := rngOk_n (n := a.length) (by omega)
  simp [b_minus, startM]
  rw [comp_ints (xs := rngM 0 a.length) (t := .sh) (fun x => gd a (ix x) - gd b (ix x)) (by simp [hr]) (by simp; omega) (by
        intro x hx
        obtain ⟨i, hi, rfl⟩ := rngM_mem hx
        have e1 := get_mi hi
        have e2 := get_mi (hl ▸ hi : i < b.length)
        simp only [List.getElem?_map] at e1 e2
        simp [turn1, e1, e2])]
  simp [mn]
theorem R_times {k : Nat} (hk : 1 ≤ k) (s : Bool) (c : Int) [hc : Bd c 9000] (a : List Int) (hn : a.length ≤ 1000) (ha : ∀ x ∈ a, Bd x 9000) : R k 10 [.int c, pr s (a.map MV.int)] = some (.tup ((a.map (fun x => c * x)).map MV.int), false) := by
  obtain ⟨k, rfl⟩ : ∃ j, k = j + 1 := ⟨k - 1, by omega⟩
  refine R_eq (d := ⟨2, 3, b_times⟩) rfl rfl ?_
  simp [b_times, startM]
  rw [comp_ints (xs := a.map MV.int) (t := .sh) (fun x => c * nu x) (by simp) (by simp; omega) (by
        intro x hx
        obtain ⟨n, hn, rfl⟩ := List.mem_map.mp hx
        haveI := ha n hn
        simp (decide := true) [turn1])]
  simp [Function.comp_def]
theorem R_size {k : Nat} (hk : 1 ≤ k) (s : Bool) (a : List Int) (hn : a.length ≤ 1000) : R k 11 [pr s (a.map MV.int)] = some (.int (a.map (fun x => (x.natAbs : Int))).sum, false) := by
  obtain ⟨k, rfl⟩ : ∃ j, k = j + 1 := ⟨k - 1, by omega⟩
  refine R_eq (d := ⟨1, 2, b_size⟩) rfl rfl ?_
  simp [b_size, startM]
  rw [comp_ints (xs := a.map MV.int) (t := .sh) (fun x => ((nu x).natAbs : Int)) (by simp) (by simp; omega) (by
        intro x hx
        obtain ⟨n, hn, rfl⟩ := List.mem_map.mp hx
        simp [turn1])]
  have e := bi_sum (l := (a.map MV.int).map (fun x => ((nu x).natAbs : Int)))
  have e2 : (a.map MV.int).map (fun x => ((nu x).natAbs : Int)) = a.map (fun x => (x.natAbs : Int)) := by rw [List.map_map]; rfl
  rw [e2] at e ⊢
  simp only [OB_some, evs_nil, bd_some, List.map_cons, List.map_nil, OB_bd, e, retS_sh, resOf_ret]

theorem R_unit {k : Nat} (hk : 1 ≤ k) (n : Nat) (hn : n ≤ 1000) (j c : Int) [hc : Bd c 9000] : R k 13 [.int n, .int j, .int c] = some (.tup (((rngM 0 n).map (fun x => c * (if nu x = j then 1 else 0))).map MV.int), false) := by
  obtain ⟨k, rfl⟩ : ∃ j, k = j + 1 := ⟨k - 1, by omega⟩
  refine R_eq (d := ⟨3, 4, b_unit⟩) rfl rfl ?_
  have hr := rngOk_n (n := n) (by omega)
  have o0 : Bd 0 1 := ⟨by decide⟩
  have o1 : Bd 1 1 := ⟨by decide⟩
  have ob : ∀ p : Prop, [Decidable p] → Bd (if p then 1 else 0) 1 := fun p _ => by split <;> assumption
  simp [b_unit, startM]
  rw [comp_ints (xs := rngM 0 n) (t := .sh) (fun x => c * (if nu x = j then 1 else 0)) (by simp [hr]) (by simp; omega) (by
        intro x hx
        obtain ⟨i, hi, rfl⟩ := rngM_mem hx
        simp (decide := true) [turn1])]
  simp

theorem R_same_ints {k : Nat} (hk : 3 ≤ k) (l : List Int) (hl : l.length ≤ 1000) (s : Bool) : R k 18 [.tup (l.map MV.int), pr s (l.map MV.int)] = some (.bl true, false) := same_ints l (by omega) hk _ (by cases s; exact Or.inl rfl; exact Or.inr rfl)

/-- what stands for a list of numbers -/
structure Vec (n : Nat) (a : List Int) : Prop where
  len : a.length = n
  bd : ∀ x ∈ a, Bd x 9000

theorem R_items {k : Nat} (hk : 6 ≤ k) (s t : Bool) {n : Nat} (hn : n ≤ 1000) {a b : List Int} (va : Vec n a) (vb : Vec n b) (c : Int) [hc : Bd c 9000] : R k 26 [pr s (a.map MV.int), pr t (b.map MV.int), .lst (a.map MV.int), .lst (b.map MV.int), .int c] = some (.bl true, false) := by
  obtain ⟨k, rfl⟩ : ∃ j, k = j + 1 := ⟨k - 1, by omega⟩
  obtain ⟨rfl, ha⟩ := va
  obtain ⟨hl, hb⟩ := vb
  refine R_eq (d := ⟨5, 10, b__law_items_right⟩) rfl rfl ?_
  have hr := rngOk_n (n := a.length) (by omega)
  simp [b__law_items_right, startM]
  refine W.for (rngM 0 a.length) (fun i σ => ∃ x, σ = [some (pr s (a.map MV.int), false), some (pr t (b.map MV.int), false), some (.lst (a.map MV.int), false), some (.lst (b.map MV.int), false), some (.int c, false), some (.int a.length, false), some (.int (dt a b i), false), some (.int ((a.take i).map (fun x => (x.natAbs : Int))).sum, false), x, none]) (by simp [hr]) ⟨none, rfl⟩ ?_ ?_
  · rintro i x σ hx ⟨y, rfl⟩
    obtain ⟨hi, rfl⟩ := rngM_at hx
    haveI := ha _ (gd_mem hi)
    haveI := hb _ (gd_mem (hl ▸ hi : i < b.length))
    have e1 := get_mi hi
    have e2 := get_mi (hl ▸ hi : i < b.length)
    simp only [List.getElem?_map] at e1 e2
    simp (decide := true) [e1, e2, dt, take_snoc hi]
  · rintro σ ⟨y, rfl⟩
    rw [rngM_length, List.take_length]
    have d1 := R_dot (k := k) (by omega) s t a b hl hn ha hb
    have d2 := R_size (k := k) (by omega) s a hn
    have d3 := R_plus (k := k) (by omega) s t a b hl hn
    have d4 := R_minus (k := k) (by omega) s t a b hl hn
    have d5 := R_times (k := k) (by omega) s c a hn ha
    have d6 := R_primitive (k := k) (by omega) s a hn ha
    have d7 := R_lowest (k := k) (by omega) a hn ha
    have s1 := fun x => same_int (k := k) (by omega) (rfl : (x : Int) = x)
    have s2 : ∀ l : List Int, l.length ≤ 1000 → R k 18 [.tup (l.map MV.int), .lst (l.map MV.int)] = some (.bl true, false) := fun l h => R_same_ints (by omega) l h true
    have c1 : ∀ z y, ev (R k) (.comp (.bin .add (.idx (.var 2) (.var 8)) (.idx (.var 3) (.var 8))) (.nm 8) (.rng1 (.var 5)) []) [some (pr s (a.map MV.int), false), some (pr t (b.map MV.int), false), some (.lst (a.map MV.int), false), some (.lst (b.map MV.int), false), some (.int c, false), some (.int a.length, false), z, some (.int ((a.map (fun x => (x.natAbs : Int))).sum), false), y, none] = some (.lst ((pl a b a.length).map MV.int), .fr) := by
      intro z y
      refine comp_ints (xs := rngM 0 a.length) (t := .sh) (fun x => gd a (ix x) + gd b (ix x)) (by simp [hr]) (by simp; omega) ?_
      intro x hx
      obtain ⟨i, hi, rfl⟩ := rngM_mem hx
      have e1 := get_mi hi
      have e2 := get_mi (hl ▸ hi : i < b.length)
      simp only [List.getElem?_map] at e1 e2
      simp [turn1, e1, e2]
    have c2 : ∀ z y, ev (R k) (.comp (.bin .sub (.idx (.var 2) (.var 8)) (.idx (.var 3) (.var 8))) (.nm 8) (.rng1 (.var 5)) []) [some (pr s (a.map MV.int), false), some (pr t (b.map MV.int), false), some (.lst (a.map MV.int), false), some (.lst (b.map MV.int), false), some (.int c, false), some (.int a.length, false), z, some (.int ((a.map (fun x => (x.natAbs : Int))).sum), false), y, none] = some (.lst ((mn a b a.length).map MV.int), .fr) := by
      intro z y
      refine comp_ints (xs := rngM 0 a.length) (t := .sh) (fun x => gd a (ix x) - gd b (ix x)) (by simp [hr]) (by simp; omega) ?_
      intro x hx
      obtain ⟨i, hi, rfl⟩ := rngM_mem hx
      have e1 := get_mi hi
      have e2 := get_mi (hl ▸ hi : i < b.length)
      simp only [List.getElem?_map] at e1 e2
      simp [turn1, e1, e2]
    have c3 : ∀ z y, ev (R k) (.comp (.bin .mul (.var 4) (.var 9)) (.nm 9) (.seq (.var 2)) []) [some (pr s (a.map MV.int), false), some (pr t (b.map MV.int), false), some (.lst (a.map MV.int), false), some (.lst (b.map MV.int), false), some (.int c, false), some (.int a.length, false), z, some (.int ((a.map (fun x => (x.natAbs : Int))).sum), false), y, none] = some (.lst ((a.map (fun x => c * x)).map MV.int), .fr) := by
      intro z y
      rw [comp_ints (xs := a.map MV.int) (t := .sh) (fun x => c * nu x) (by simp) (by simp; omega) (by
        intro x hx
        obtain ⟨n, hn, rfl⟩ := List.mem_map.mp hx
        haveI := ha n hn
        simp (decide := true) [turn1])]
      simp [Function.comp_def]
    have l1 : (pl a b a.length).length = a.length := by simp [pl]
    have l2 : (mn a b a.length).length = a.length := by simp [mn]
    have l3 : (a.map (fun x => c * x)).length = a.length := by simp
    have l4 : (prim a).length = a.length := by unfold prim; split <;> simp
    have t1 := s2 _ (l1 ▸ hn)
    have t2 := s2 _ (l2 ▸ hn)
    have t3 := s2 _ (l3 ▸ hn)
    have t4 := s2 _ (l4 ▸ hn)
    simp (decide := true) [-List.map_map, d1, d2, d3, d4, d5, d6, d7, s1, c1, c2, c3, t1, t2, t3, t4, Mn.freeOf, MV.noLst, MV.noLsts]

theorem szs18 : ∀ j, j < 9 → ([8, 1000000, 8, 1000000, 8, 1000000, 8, 1000000, 8, 1000000, 8, 1000000, 8, 1000000, 8, 1000000, 8, 1000000] : List Int)[2 * j]? = some 8 ∧ ([8, 1000000, 8, 1000000, 8, 1000000, 8, 1000000, 8, 1000000, 8, 1000000, 8, 1000000, 8, 1000000, 8, 1000000] : List Int)[2 * j + 1]? = some 1000000 := by decide

def VI (c : Int) (n : Nat) (ds : List Int) (i : Nat) (σ : MS) : Prop := ∃ (xs : List Int) (x y z w : Option (MV × Bool)), xs.length = i ∧ (∀ x ∈ xs, Bd x 200) ∧ σ = [some (.int c, false), some (.int n, false), some (.lst (ds.map MV.int), true), some (.lst (xs.map MV.int), true), x, y, z, w]

theorem R_vector {k : Nat} (hk : 2 ≤ k) (c : Int) (n : Nat) (hn : n ≤ 1000) : ∃ xs : List Int, R k 24 [.int c, .int n] = some (.lst (xs.map MV.int), true) ∧ xs.length = n ∧ ∀ x ∈ xs, Bd x 200 := by
  obtain ⟨k, rfl⟩ : ∃ j, k = j + 1 := ⟨k - 1, by omega⟩
  have : OB (R (k + 1) 24 [.int c, .int n]) (fun r => ∃ xs : List Int, r = (.lst (xs.map MV.int), true) ∧ xs.length = n ∧ ∀ x ∈ xs, Bd x 200) := by
    refine R_ex (d := ⟨2, 8, b__law_vector⟩) rfl rfl ?_
    obtain ⟨ds, hd, bd⟩ := R_digits (k := k) (by omega) c [8, 1000000, 8, 1000000, 8, 1000000, 8, 1000000, 8, 1000000, 8, 1000000, 8, 1000000, 8, 1000000, 8, 1000000] (by decide) (by
      intro s hs
      have : s = 8 ∨ s = 1000000 := by
        simp only [List.mem_cons, List.not_mem_nil, or_false] at hs; omega
      rcases this with rfl | rfl <;> exact ⟨by decide, Bd.up (n := 200) ⟨by decide⟩ (by decide)⟩)
    simp only [List.map_cons, List.map_nil] at hd
    have hr := rngOk_n (n := n) (by omega)
    simp (decide := true) [b__law_vector, startM, hd]
    refine W.for (rngM 0 n) (VI c n ds) (by simp [hr]) ⟨[], none, none, none, none, rfl, fun _ h => (by cases h), rfl⟩ ?_ ?_
    · rintro i x σ hx ⟨xs, _, _, _, _, hl, hb, rfl⟩
      obtain ⟨hi, rfl⟩ := rngM_at hx
      have hj : i % 9 < 9 := Nat.mod_lt _ (by decide)
      obtain ⟨d, hd, d0, d1⟩ := bd.get (szs18 _ hj).1
      obtain ⟨e, he, e0, e1⟩ := bd.get (szs18 _ hj).2
      have f1 : atM (ds.map MV.int) (2 * ((i : Int) % 9)) = some (.int d) := by
        rw [show 2 * ((i : Int) % 9) = ((2 * (i % 9) : Nat) : Int) by push_cast; rfl, atM_nat, List.getElem?_map, hd]; rfl
      have f2 : atM (ds.map MV.int) (2 * ((i : Int) % 9) + 1) = some (.int e) := by
        rw [show 2 * ((i : Int) % 9) + 1 = ((2 * (i % 9) + 1 : Nat) : Int) by push_cast; rfl, atM_nat, List.getElem?_map, he]; rfl
      haveI : Bd ((i : Int) % 9) 4 := Bd.emod (by decide) inferInstance
      haveI : Bd e 20 := Bd.rng e0 (by omega)
      haveI b9 : Bd ((i : Int) / 9) 10 := Bd.rng (by omega) (by omega)
      have hlen : xs.length < SZ := SZ_gt (by omega)
      generalize hg : e + (i : Int) / 9 = g
      haveI : Bd g 30 := hg ▸ (Bd.add (ha := ‹Bd e 20›) (hb := b9)).up (by decide)
      have m3 : Bd (g % 3) 2 := Bd.emod (by decide) inferInstance
      have m9 : Bd (g % 9) 4 := Bd.emod (by decide) inferInstance
      have m4 : Bd (g % 4) 3 := Bd.emod (by decide) inferInstance
      have m61 : Bd (g % 61) 6 := Bd.emod (by decide) inferInstance
      have up : ∀ (v : Int) (n : Nat), Bd v n → n ≤ 200 → Bd v 200 := fun v n h k => h.up k
      have fin' : ∀ (v : Int) (a b c' e : Option (MV × Bool)), Bd v 200 → VI c n ds (i + 1) [some (.int c, false), some (.int n, false), some (.lst (ds.map MV.int), true), some (.lst (xs.map MV.int ++ [.int v]), true), a, b, c', e] := by
        intro v a b c' e hv
        refine ⟨xs ++ [v], a, b, c', e, by simp [hl], ?_, by simp⟩
        intro x hx
        rcases List.mem_append.mp hx with h | h
        · exact hb x h
        · cases List.mem_singleton.mp h; exact hv
      rcases (by omega : d = 0 ∨ d = 1 ∨ d = 2 ∨ d = 3 ∨ d = 4 ∨ d = 5 ∨ d = 6 ∨ d = 7) with rfl | rfl | rfl | rfl | rfl | rfl | rfl | rfl <;>
        (simp (decide := true) [-atM_of, f1, f2, hg, hlen]; exact fin' _ _ _ _ _ (up _ _ inferInstance (by decide)))
    · rintro σ ⟨xs, _, _, _, _, hl, hb, rfl⟩
      simp
      exact ⟨xs, rfl, by simpa using hl, hb⟩
  obtain ⟨r, e, xs, rfl, h⟩ := this
  exact ⟨xs, e, h⟩
end K00

set_option Elab.async false
set_option linter.all false
set_option maxRecDepth 100000
set_option exponentiation.threshold 10000
namespace K00
open PySem Mn Mn.S

/-- what the vectors are drawn as -/
structure VR (n : Nat) (a b : List Int) (c j g : Int) : Prop where
  va : Vec n a
  vb : Vec n b
  hn : n ≤ 40
  hc : Bd c 9000
  hg : Bd g 9000

theorem at_lit {L : List Int} {i : Int} (h : 0 ≤ i) (k : i < L.length) {P : Int → Prop} (hP : ∀ x ∈ L, P x) : ∃ x, atM (L.map MV.int) i = some (.int x) ∧ P x := by
  obtain ⟨x, e, m⟩ := atM_in (l := L.map MV.int) h (by rw [List.length_map]; exact k)
  obtain ⟨n, hn, rfl⟩ := List.mem_map.mp m
  exact ⟨n, e, hP n hn⟩

def DV (c0 c1 c2 : Int) (dl : List MV) (n : Nat) (f : Int) (X : List Int) (σ : MS) : Prop := ∃ (ys : List Int) (x : Option (MV × Bool)), Vec n ys ∧ σ = [some (.int c0, false), some (.int c1, false), some (.int c2, false), some (.lst dl, true), some (.int n, false), some (.int f, false), some (.lst (X.map MV.int), true), some (.lst (ys.map MV.int), true), x]

set_option maxHeartbeats 0 in
theorem R_drawnv {k : Nat} (hk : 4 ≤ k) (c0 c1 c2 : Int) : ∃ (n : Nat) (a b : List Int) (c s t j g : Int), R k 27 [.int c0, .int c1, .int c2] = some (.lst [.lst (a.map MV.int), .lst (b.map MV.int), .int c, .int s, .int t, .int j, .int g], true) ∧ VR n a b c j g := by
  obtain ⟨k, rfl⟩ : ∃ j, k = j + 1 := ⟨k - 1, by omega⟩
  have : OB (R (k + 1) 27 [.int c0, .int c1, .int c2]) (fun r => ∃ (n : Nat) (a b : List Int) (c s t j g : Int), r = (.lst [.lst (a.map MV.int), .lst (b.map MV.int), .int c, .int s, .int t, .int j, .int g], true) ∧ VR n a b c j g) := by
    refine R_ex (d := ⟨3, 9, b__law_drawn_vectors⟩) rfl rfl ?_
    obtain ⟨ds, hd, bd⟩ := R_digits (k := k) (by omega) c0 [12, 10, 7, 2, 2, 40, 2, 8, 2, 10 ^ 9, 10 ^ 40] (by decide) (by
      intro s hs
      simp only [List.mem_cons, List.not_mem_nil, or_false] at hs
      rcases hs with rfl | rfl | rfl | rfl | rfl | rfl | rfl | rfl | rfl | rfl | rfl <;> exact ⟨by decide, Bd.up (n := 200) ⟨by decide⟩ (by decide)⟩)
    obtain ⟨d0, _, rfl, x0, y0, bd⟩ := bd.c
    obtain ⟨d1, _, rfl, x1, y1, bd⟩ := bd.c
    obtain ⟨d2, _, rfl, x2, y2, bd⟩ := bd.c
    obtain ⟨d3, _, rfl, x3, y3, bd⟩ := bd.c
    obtain ⟨d4, _, rfl, x4, y4, bd⟩ := bd.c
    obtain ⟨d5, _, rfl, x5, y5, bd⟩ := bd.c
    obtain ⟨d6, _, rfl, x6, y6, bd⟩ := bd.c
    obtain ⟨d7, _, rfl, x7, y7, bd⟩ := bd.c
    obtain ⟨d8, _, rfl, x8, y8, bd⟩ := bd.c
    obtain ⟨d9, _, rfl, x9, y9, bd⟩ := bd.c
    obtain ⟨d10, _, rfl, x10, y10, bd⟩ := bd.c
    cases bd.n
    clear bd
    obtain ⟨c, hc, bc⟩ := R_number (k := k) (by omega) [d0, d1, d2, d3, d4, d5, d6, d7, d8, d9, d10] 7 d7 d8 d9 d10 (by simp) (by simp) (by simp) (by simp) ⟨x7, y7⟩ ⟨x8, y8⟩ ⟨x9, y9⟩ ⟨x10, y10⟩
    obtain ⟨m, hm, m0, m1⟩ := at_lit (L := [2, 3, 1, 0, 4, 3, 2, 6, 9, 5, 1, 40]) (i := d0) x0 y0 (P := fun x => 0 ≤ x ∧ x ≤ 40) (by decide)
    obtain ⟨f, hf, bf⟩ := at_lit (L := [1, 1, 2, 3, 6, 35, 1000000007, 0, 12, 1000000000000000000000000000000]) (i := d1) x1 y1 (P := fun x => Bd x 200) (by
      intro s hs
      simp only [List.mem_cons, List.not_mem_nil, or_false] at hs
      rcases hs with rfl | rfl | rfl | rfl | rfl | rfl | rfl | rfl | rfl | rfl <;> exact ⟨by decide⟩)
    obtain ⟨n, rfl⟩ := Int.eq_ofNat_of_zero_le m0
    obtain ⟨xs, hxs, lx, bx⟩ := R_vector (k := k) (by omega) c1 n (by omega)
    obtain ⟨ys, hys, ly, by'⟩ := R_vector (k := k) (by omega) c2 n (by omega)
    simp at hd hm hf hc
    obtain ⟨dl, hdl⟩ : ∃ dl : List MV, dl = [.int d0, .int d1, .int d2, .int d3, .int d4, .int d5, .int d6, .int d7, .int d8, .int d9, .int d10] := ⟨_, rfl⟩
    have g0 : atM dl 0 = some (.int d0) := by simp [hdl]
    have g1 : atM dl 1 = some (.int d1) := by simp [hdl]
    have g2 : atM dl 2 = some (.int d2) := by simp [hdl]
    have g3 : atM dl 3 = some (.int d3) := by simp [hdl]
    have g4 : atM dl 4 = some (.int d4) := by simp [hdl]
    have g5 : atM dl 5 = some (.int d5) := by simp [hdl]
    have g6 : atM dl 6 = some (.int d6) := by simp [hdl]
    rw [← hdl] at hd hc
    refine W.split 5 (fun σ => σ = [some (.int c0, false), some (.int c1, false), some (.int c2, false), some (.lst dl, true), some (.int n, false), some (.int f, false), some (.lst ((xs.map (fun x => f * x)).map MV.int), true), some (.lst (ys.map MV.int), true), none]) ?_ ?_
    · simp (decide := true) [-atM_of, b__law_drawn_vectors, startM, hd, hm, hf, g0, g1]
      rw [comp_ints (xs := xs.map MV.int) (t := .fr) (fun x => f * nu x) (by simp [hxs, Mn.freeOf]) (by simp; omega) (by
        intro x hx
        obtain ⟨n, hn, rfl⟩ := List.mem_map.mp hx
        haveI := bx n hn
        simp (decide := true) [turn1])]
      simp [hys, Function.comp_def]
    · rintro σ rfl
      refine W.split 3 (DV c0 c1 c2 dl n f (xs.map (fun x => f * x))) ?_ ?_
      · have vx : Vec n (xs.map (fun x => f * x)) := ⟨by simp [lx], by
          intro x hx
          obtain ⟨y, hy, rfl⟩ := List.mem_map.mp hx
          exact (Bd.mul (ha := bf) (hb := bx y hy)).up (by decide)⟩
        have vy : Vec n ys := ⟨ly, fun x hx => (by' x hx).up (by decide)⟩
        generalize hX : xs.map (fun x => f * x) = X at vx
        have q1 := fun (z : Option (MV × Bool)) (Y : List Int) (v : Vec n Y) => comp_ints (Φ := R k) (σ := [some (.int c0, false), some (.int c1, false), some (.int c2, false), some (.lst dl, true), some (.int n, false), some (.int f, false), some (.lst (X.map MV.int), true), some (.lst (Y.map MV.int), true), z]) (elt := .lit (.int 0)) (tg := .nm 8) (it := .seq (.var 7)) (ifs := []) (xs := Y.map MV.int) (t := .bo) (fun x => 0) (by simp) (by simp; have := v.len; omega) (by
          intro x hx
          simp [turn1])
        have q2 := fun (z : Option (MV × Bool)) (Y : List Int) => comp_ints (Φ := R k) (σ := [some (.int c0, false), some (.int c1, false), some (.int c2, false), some (.lst dl, true), some (.int n, false), some (.int f, false), some (.lst (X.map MV.int), true), some (.lst (Y.map MV.int), true), z]) (elt := .bin .sub (.lit (.int 0)) (.var 8)) (tg := .nm 8) (it := .seq (.var 6)) (ifs := []) (xs := X.map MV.int) (t := .bo) (fun x => 0 - nu x) (by simp) (by simp; have := vx.len; omega) (by
          intro x hx
          obtain ⟨n, hn, rfl⟩ := List.mem_map.mp hx
          simp [turn1])
        have q3 : ∀ x z, Vec n x → DV c0 c1 c2 dl n f X [some (.int c0, false), some (.int c1, false), some (.int c2, false), some (.lst dl, true), some (.int n, false), some (.int f, false), some (.lst (X.map MV.int), true), some (.lst (x.map MV.int), true), z] := fun x z h => ⟨x, z, h, rfl⟩
        have w1 : Vec n ((ys.map MV.int).map (fun _ => (0 : Int))) := ⟨by simp [ly], by
          intro x hx
          obtain ⟨y, hy, rfl⟩ := List.mem_map.mp hx
          exact Bd.up (n := 1) ⟨by decide⟩ (by decide)⟩
        have w2 : Vec n ((X.map MV.int).map (fun x => -nu x)) := ⟨by simp [vx.len], by
          intro x hx
          obtain ⟨y, hy, rfl⟩ := List.mem_map.mp hx
          obtain ⟨z, hz, rfl⟩ := List.mem_map.mp hy
          have := vx.bd z hz
          exact Bd.neg (ha := this)⟩
        have hcase : d2 = 1 ∨ d2 = 2 ∨ d2 = 3 ∨ (d2 ≠ 1 ∧ d2 ≠ 2 ∧ d2 ≠ 3) := by omega
        have q1' := q1 none ys vy
        have q2' := q2 none ys
        clear hd hm hf hc hxs hys
        rcases hcase with rfl | rfl | rfl | ⟨h1, h2, h3⟩
        · simp (decide := true) [-atM_of, -List.map_map, b__law_drawn_vectors, g2, q1']
          exact q3 _ _ w1
        · simp (decide := true) [-atM_of, -List.map_map, b__law_drawn_vectors, g2]
          exact q3 _ _ vx
        · simp (decide := true) [-atM_of, -List.map_map, b__law_drawn_vectors, g2, q2']
          exact q3 _ _ w2
        · simp (decide := true) [-atM_of, -List.map_map, b__law_drawn_vectors, g2, h1, h2, h3]
          exact q3 _ _ vy
      · have vx : Vec n (xs.map (fun x => f * x)) := ⟨by simp [lx], by
          intro x hx
          obtain ⟨y, hy, rfl⟩ := List.mem_map.mp hx
          exact (Bd.mul (ha := bf) (hb := bx y hy)).up (by decide)⟩
        generalize xs.map (fun x => f * x) = X at vx
        rintro σ ⟨Y, z, vy, rfl⟩
        have hmax : (0 : Int) < max (n : Int) 1 := by omega
        haveI : Bd d6 2 := Bd.rng x6 (by omega)
        simp (decide := true) [-atM_of, b__law_drawn_vectors, g3, g4, g5, g6, hc, hmax]
        exact ⟨n, X, Y, c, _, _, _, _, ⟨rfl, rfl, rfl, rfl, rfl, rfl, rfl⟩, vx, vy, by omega, bc.up (by decide), (fun (v : Int) (n : Nat) (h : Bd v n) (q : n ≤ 9000) => h.up q) _ _ inferInstance (by decide)⟩
  obtain ⟨r, e, n, a, b, c, s, t, j, g, rfl, h⟩ := this
  exact ⟨n, a, b, c, s, t, j, g, e, h⟩

set_option maxHeartbeats 0 in
theorem R_vright {k : Nat} (hk : 8 ≤ k) {n : Nat} {a b : List Int} {c s t j g : Int} (h : VR n a b c j g) : R k 28 [.lst [.lst (a.map MV.int), .lst (b.map MV.int), .int c, .int s, .int t, .int j, .int g]] = some (.bl true, false) := by
  obtain ⟨k, rfl⟩ : ∃ j, k = j + 1 := ⟨k - 1, by omega⟩
  obtain ⟨va, vb, hn, hc, hg⟩ := h
  have la := va.len
  have lb := vb.len
  have i1 := fun s t => R_items (k := k) (by omega) s t (by omega) va vb c
  have i2 := fun s t => R_items (k := k) (by omega) s t (by omega) vb va c
  have i11 := i1 true true; have i12 := i1 true false; have i13 := i1 false true; have i14 := i1 false false
  have i21 := i2 true true; have i22 := i2 true false; have i23 := i2 false true; have i24 := i2 false false
  have s2 := fun l h => R_same_ints (k := k) (by omega) l h true
  have p1 := R_primitive (k := k) (by omega) false a (by omega) va.bd
  simp only [pr, if_true, if_false, Bool.false_eq_true] at i11 i12 i13 i14 i21 i22 i23 i24 s2 p1
  have l4 : (prim a).length = a.length := by unfold prim; split <;> simp
  have sa := s2 a (by omega)
  have sb := s2 b (by omega)
  have sp := s2 (prim a) (by omega)
  have lo := R_lowest (k := k) (by omega) a (by omega) va.bd
  have un := R_unit (k := k) (by omega) a.length (by omega) j g
  have su := s2 ((rngM 0 a.length).map (fun x => g * (if nu x = j then 1 else 0))) (by simp; omega)
  have hr := rngOk_n (n := a.length) (by omega)
  have o0 : Bd 0 1 := ⟨by decide⟩
  have o1 : Bd 1 1 := ⟨by decide⟩
  have ob : ∀ p : Prop, [Decidable p] → Bd (if p then 1 else 0) 1 := fun p _ => by split <;> assumption
  have c1 : ∀ (s t : Int) z1 z2, ev (R k) (.comp (.bin .mul (.idx (.var 0) (.lit (.int 6))) (.bi .int [.cmp .eq (.var 6) (.idx (.var 0) (.lit (.int 5)))])) (.nm 6) (.rng1 (.var 3)) []) [some (.lst [.lst (a.map MV.int), .lst (b.map MV.int), .int c, .int s, .int t, .int j, .int g], false), some (.lst (a.map MV.int), false), some (.lst (b.map MV.int), false), some (.int a.length, false), z1, z2, none] = some (.lst (((rngM 0 a.length).map (fun x => g * (if nu x = j then 1 else 0))).map MV.int), .fr) := by
    intro s t z1 z2
    refine comp_ints (xs := rngM 0 a.length) (t := .sh) (fun x => g * (if nu x = j then 1 else 0)) (by simp [hr]) (by simp; omega) ?_
    intro x hx
    obtain ⟨i, hi, rfl⟩ := rngM_mem hx
    simp (decide := true) [turn1]
  refine R_eq (d := ⟨1, 7, b__law_vectors_right⟩) rfl rfl ?_
  by_cases hs : s = 1 <;> by_cases ht : t = 1 <;> by_cases hm : 1 ≤ (a.length : Int) <;>
    simp (decide := true) [-List.map_map, b__law_vectors_right, startM, hs, ht, hm, i11, i12, i13, i14, i21, i22, i23, i24, sa, sb, sp, lo, p1, un, su, c1, Mn.freeOf, MV.noLst, MV.noLsts]

theorem law_holds : ∀ ns : List Int, ns.length ≤ 63 → ∃ own, Mn.run (T.map (·.d)) LL NN F_law [.lst (ns.map Mn.MV.int)] = some (.bl true, own) := by
  intro ns hn
  refine ⟨false, ?_⟩
  show R (199 + 1) 29 _ = _
  refine R_eq (d := ⟨1, 3, b_law⟩) rfl rfl ?_
  simp [b_law, startM]
  have hr : rngOk 4 = true := rngOk_n (n := 4) (by decide)
  refine W.for (rngM 0 4) (fun i σ => ∃ x, σ = [some (.lst (ns.map MV.int), false), x, none]) (by simp [hr]) ⟨none, rfl⟩ ?_ ?_
  · rintro i x σ hx ⟨y, rfl⟩
    obtain ⟨hi, rfl⟩ := rngM_at hx
    obtain ⟨c1, h1⟩ := R_cell (k := 199) (by decide) ns (2 * i) (by omega) (by omega)
    obtain ⟨c2, h2⟩ := R_cell (k := 199) (by decide) ns (2 * i + 1) (by omega) (by omega)
    obtain ⟨p, q, u, v, s, t, h3, h4⟩ := R_drawn (k := 199) (by decide) c1 c2
    have h5 := R_fright (k := 199) (by decide) h4
    haveI : Bd (i : Int) 10 := Bd.rng (by omega) (by omega)
    simp (decide := true) [h1, h2, h3, h5, Mn.freeOf, MV.noLst]
  · rintro σ ⟨y, rfl⟩
    refine W.for (rngM 0 4) (fun i σ => ∃ x y, σ = [some (.lst (ns.map MV.int), false), x, y]) (by simp [hr]) ⟨y, none, rfl⟩ ?_ ?_
    · rintro i x σ hx ⟨y, z, rfl⟩
      obtain ⟨hi, rfl⟩ := rngM_at hx
      obtain ⟨c1, h1⟩ := R_cell (k := 199) (by decide) ns (8 + 3 * i) (by omega) (by omega)
      obtain ⟨c2, h2⟩ := R_cell (k := 199) (by decide) ns (9 + 3 * i) (by omega) (by omega)
      obtain ⟨c3, h3⟩ := R_cell (k := 199) (by decide) ns (10 + 3 * i) (by omega) (by omega)
      obtain ⟨n, a, b, c, s, t, j, g, h4, h5⟩ := R_drawnv (k := 199) (by decide) c1 c2 c3
      have h6 := R_vright (k := 199) (s := s) (t := t) (by decide) h5
      haveI : Bd (i : Int) 10 := Bd.rng (by omega) (by omega)
      simp (decide := true) [h1, h2, h3, h4, h6, Mn.freeOf, MV.noLst]
    · rintro σ ⟨y, z, rfl⟩
      simp
end K00

open PySem PySem.W PyProof.Rows Mn
set_option maxRecDepth 100000 in
set_option maxHeartbeats 0 in
theorem PySem.Challenge.cw_heldnear_k00_fractions_holds : PySem.Challenge.rw_heldnear_k00_fractions.Holds := by
  w_on; o_law; k_head; (case hw => w_witness2)
  k_fill
  refine Mn.walk (l := PySem.Challenge.rw_heldnear_k00_fractions) (C := K00.C) (T := K00.T) (i := 29) (L := K00.LL) (n := K00.NN) rfl rfl (by decide) rfl rfl rfl (fun w h Y => PySem.W.kIn_of Y) ?M K00.law_holds
  intro w mg h KX G
  refine' ⟨⟨rfl, K00.text_ok, Mn.forall_cons ?s0 (Mn.forall_cons ?s1 (Mn.forall_cons ?s2 (Mn.forall_cons ?s3 (Mn.forall_cons ?s4 (Mn.forall_cons ?s5 (Mn.forall_cons ?s6 (Mn.forall_cons ?s7 (Mn.forall_cons ?s8 (Mn.forall_cons ?s9 (Mn.forall_cons ?s10 (Mn.forall_cons ?s11 (Mn.forall_cons ?s12 (Mn.forall_cons ?s13 (Mn.forall_cons ?s14 (Mn.forall_cons ?s15 (Mn.forall_cons ?s16 (Mn.forall_cons ?s17 (Mn.forall_cons ?s18 (Mn.forall_cons ?s19 (Mn.forall_cons ?s20 (Mn.forall_cons ?s21 (Mn.forall_cons ?s22 (Mn.forall_cons ?s23 (Mn.forall_cons ?s24 (Mn.forall_cons ?s25 (Mn.forall_cons ?s26 (Mn.forall_cons ?s27 (Mn.forall_cons ?s28 (Mn.forall_cons ?s29 (Mn.forall_nil)))))))))))))))))))))))))))))), Mn.bis_mk KX G ?bis, ?imp⟩, ?nl⟩
  case s0 =>
    refine' Mn.stands_mk (x := "ratio") (st := K00.top 2) KX G ?a ?l ?c ?k (fun _ _ _ _ _ _ us hl => match us, hl with | [_, _], _ => rfl)
    (case a => k_is); (case l => k_is); (case c => k_is); (case k => k_is)
  case s1 =>
    refine' Mn.stands_mk (x := "ratio_sum") (st := K00.top 3) KX G ?a ?l ?c ?k (fun _ _ _ _ _ _ us hl => match us, hl with | [_, _], _ => rfl)
    (case a => k_is); (case l => k_is); (case c => k_is); (case k => k_is)
  case s2 =>
    refine' Mn.stands_mk (x := "ratio_difference") (st := K00.top 4) KX G ?a ?l ?c ?k (fun _ _ _ _ _ _ us hl => match us, hl with | [_, _], _ => rfl)
    (case a => k_is); (case l => k_is); (case c => k_is); (case k => k_is)
  case s3 =>
    refine' Mn.stands_mk (x := "ratio_product") (st := K00.top 5) KX G ?a ?l ?c ?k (fun _ _ _ _ _ _ us hl => match us, hl with | [_, _], _ => rfl)
    (case a => k_is); (case l => k_is); (case c => k_is); (case k => k_is)
  case s4 =>
    refine' Mn.stands_mk (x := "ratio_order") (st := K00.top 6) KX G ?a ?l ?c ?k (fun _ _ _ _ _ _ us hl => match us, hl with | [_, _], _ => rfl)
    (case a => k_is); (case l => k_is); (case c => k_is); (case k => k_is)
  case s5 =>
    refine' Mn.stands_mk (x := "ratio_floor") (st := K00.top 7) KX G ?a ?l ?c ?k (fun _ _ _ _ _ _ us hl => match us, hl with | [_], _ => rfl)
    (case a => k_is); (case l => k_is); (case c => k_is); (case k => k_is)
  case s6 =>
    refine' Mn.stands_mk (x := "ratio_ceiling") (st := K00.top 8) KX G ?a ?l ?c ?k (fun _ _ _ _ _ _ us hl => match us, hl with | [_], _ => rfl)
    (case a => k_is); (case l => k_is); (case c => k_is); (case k => k_is)
  case s7 =>
    refine' Mn.stands_mk (x := "dot") (st := K00.top 10) KX G ?a ?l ?c ?k (fun _ _ _ _ _ _ us hl => match us, hl with | [_, _], _ => rfl)
    (case a => k_is); (case l => k_is); (case c => k_is); (case k => k_is)
  case s8 =>
    refine' Mn.stands_mk (x := "plus") (st := K00.top 11) KX G ?a ?l ?c ?k (fun _ _ _ _ _ _ us hl => match us, hl with | [_, _], _ => rfl)
    (case a => k_is); (case l => k_is); (case c => k_is); (case k => k_is)
  case s9 =>
    refine' Mn.stands_mk (x := "minus") (st := K00.top 12) KX G ?a ?l ?c ?k (fun _ _ _ _ _ _ us hl => match us, hl with | [_, _], _ => rfl)
    (case a => k_is); (case l => k_is); (case c => k_is); (case k => k_is)
  case s10 =>
    refine' Mn.stands_mk (x := "times") (st := K00.top 13) KX G ?a ?l ?c ?k (fun _ _ _ _ _ _ us hl => match us, hl with | [_, _], _ => rfl)
    (case a => k_is); (case l => k_is); (case c => k_is); (case k => k_is)
  case s11 =>
    refine' Mn.stands_mk (x := "size") (st := K00.top 14) KX G ?a ?l ?c ?k (fun _ _ _ _ _ _ us hl => match us, hl with | [_], _ => rfl)
    (case a => k_is); (case l => k_is); (case c => k_is); (case k => k_is)
  case s12 =>
    refine' Mn.stands_mk (x := "primitive") (st := K00.top 15) KX G ?a ?l ?c ?k (fun _ _ _ _ _ _ us hl => match us, hl with | [_], _ => rfl)
    (case a => k_is); (case l => k_is); (case c => k_is); (case k => k_is)
  case s13 =>
    refine' Mn.stands_mk (x := "unit") (st := K00.top 16) KX G ?a ?l ?c ?k (fun _ _ _ _ _ _ us hl => match us, hl with | [_, _, _], _ => rfl)
    (case a => k_is); (case l => k_is); (case c => k_is); (case k => k_is)
  case s14 =>
    refine' Mn.stands_mk (x := "_law_whole") (st := K00.top 18) KX G ?a ?l ?c ?k (fun _ _ _ _ _ _ us hl => match us, hl with | [_], _ => rfl)
    (case a => k_is); (case l => k_is); (case c => k_is); (case k => k_is)
  case s15 =>
    refine' Mn.stands_mk (x := "_law_cell") (st := K00.top 19) KX G ?a ?l ?c ?k (fun _ _ _ _ _ _ us hl => match us, hl with | [_, _], _ => rfl)
    (case a => k_is); (case l => k_is); (case c => k_is); (case k => k_is)
  case s16 =>
    refine' Mn.stands_mk (x := "_law_digits") (st := K00.top 20) KX G ?a ?l ?c ?k (fun _ _ _ _ _ _ us hl => match us, hl with | [_, _], _ => rfl)
    (case a => k_is); (case l => k_is); (case c => k_is); (case k => k_is)
  case s17 =>
    refine' Mn.stands_mk (x := "_law_common") (st := K00.top 21) KX G ?a ?l ?c ?k (fun _ _ _ _ _ _ us hl => match us, hl with | [_, _], _ => rfl)
    (case a => k_is); (case l => k_is); (case c => k_is); (case k => k_is)
  case s18 =>
    refine' Mn.stands_mk (x := "_law_same") (st := K00.top 22) KX G ?a ?l ?c ?k (fun _ _ _ _ _ _ us hl => match us, hl with | [_, _], _ => rfl)
    (case a => k_is); (case l => k_is); (case c => k_is); (case k => k_is)
  case s19 =>
    refine' Mn.stands_mk (x := "_law_number") (st := K00.top 23) KX G ?a ?l ?c ?k (fun _ _ _ _ _ _ us hl => match us, hl with | [_, _], _ => rfl)
    (case a => k_is); (case l => k_is); (case c => k_is); (case k => k_is)
  case s20 =>
    refine' Mn.stands_mk (x := "_law_ratio") (st := K00.top 24) KX G ?a ?l ?c ?k (fun _ _ _ _ _ _ us hl => match us, hl with | [_, _], _ => rfl)
    (case a => k_is); (case l => k_is); (case c => k_is); (case k => k_is)
  case s21 =>
    refine' Mn.stands_mk (x := "_law_reckoned") (st := K00.top 25) KX G ?a ?l ?c ?k (fun _ _ _ _ _ _ us hl => match us, hl with | [_, _, _, _], _ => rfl)
    (case a => k_is); (case l => k_is); (case c => k_is); (case k => k_is)
  case s22 =>
    refine' Mn.stands_mk (x := "_law_drawn_fractions") (st := K00.top 26) KX G ?a ?l ?c ?k (fun _ _ _ _ _ _ us hl => match us, hl with | [_, _], _ => rfl)
    (case a => k_is); (case l => k_is); (case c => k_is); (case k => k_is)
  case s23 =>
    refine' Mn.stands_mk (x := "_law_fractions_right") (st := K00.top 27) KX G ?a ?l ?c ?k (fun _ _ _ _ _ _ us hl => match us, hl with | [_], _ => rfl)
    (case a => k_is); (case l => k_is); (case c => k_is); (case k => k_is)
  case s24 =>
    refine' Mn.stands_mk (x := "_law_vector") (st := K00.top 28) KX G ?a ?l ?c ?k (fun _ _ _ _ _ _ us hl => match us, hl with | [_, _], _ => rfl)
    (case a => k_is); (case l => k_is); (case c => k_is); (case k => k_is)
  case s25 =>
    refine' Mn.stands_mk (x := "_law_lowest") (st := K00.top 29) KX G ?a ?l ?c ?k (fun _ _ _ _ _ _ us hl => match us, hl with | [_], _ => rfl)
    (case a => k_is); (case l => k_is); (case c => k_is); (case k => k_is)
  case s26 =>
    refine' Mn.stands_mk (x := "_law_items_right") (st := K00.top 30) KX G ?a ?l ?c ?k (fun _ _ _ _ _ _ us hl => match us, hl with | [_, _, _, _, _], _ => rfl)
    (case a => k_is); (case l => k_is); (case c => k_is); (case k => k_is)
  case s27 =>
    refine' Mn.stands_mk (x := "_law_drawn_vectors") (st := K00.top 31) KX G ?a ?l ?c ?k (fun _ _ _ _ _ _ us hl => match us, hl with | [_, _, _], _ => rfl)
    (case a => k_is); (case l => k_is); (case c => k_is); (case k => k_is)
  case s28 =>
    refine' Mn.stands_mk (x := "_law_vectors_right") (st := K00.top 32) KX G ?a ?l ?c ?k (fun _ _ _ _ _ _ us hl => match us, hl with | [_], _ => rfl)
    (case a => k_is); (case l => k_is); (case c => k_is); (case k => k_is)
  case s29 =>
    refine' Mn.stands_mk (x := "law") (st := K00.top 33) KX G ?a ?l ?c ?k (fun _ _ _ _ _ _ us hl => match us, hl with | [_], _ => rfl)
    (case a => k_is); (case l => k_is); (case c => k_is); (case k => k_is)
  case bis =>
    refine' Mn.forall_cons ?z0 (Mn.forall_cons ?z1 (Mn.forall_cons ?z2 (Mn.forall_cons ?z3 (Mn.forall_cons ?z4 (Mn.forall_cons ?z5 (Mn.forall_cons ?z6 (Mn.forall_cons ?z7 (Mn.forall_cons ?z8 (Mn.forall_cons ?z9 (Mn.forall_cons ?z10 (Mn.forall_nil)))))))))))
    (case z0 => k_is)
    (case z1 => k_is)
    (case z2 => k_is)
    (case z3 => k_is)
    (case z4 => k_is)
    (case z5 => k_is)
    (case z6 => k_is)
    (case z7 => k_is)
    (case z8 => k_is)
    (case z9 => k_is)
    (case z10 => k_is)
  case imp =>
    intro x hx
    cases List.mem_singleton.mp hx
    refine' PySem.W.mg_of KX G ?g
    (case g => k_is)
  case nl => first | rfl | decide +kernel | k_is

