import PyProof.Rows.All
import Wide.All
import OpenK.AllK
import Wide.FinOn
import HandS.ForMost
import HandS.TupMul
import HandS.Wide
import HandS.Gcd
import HandS.IsInst
import HandS.Style
import HandS.Flow
import HandS.SortInts
import HandS.Rev
import HandS.TupAny
import HandS.RevTup
import KE.LtData
import PySem.Challenge.RW_heldnear_k01_small_systems
set_option Elab.async false
set_option linter.all false
set_option maxRecDepth 100000
set_option maxHeartbeats 4000000
namespace Mn
open PySem PySem.Spec PyProof.Rows L2
/-! Mn0: tuple * int. -/
theorem tuple_mul1 (l : Addr) (items : Array Value) (n : Nat) (dd : Option Addr) (sl : Array (Option Value)) (u : Tok) :
    Meets (Builtin.«tuple.__mul__» ⟨[.ref l, .int 1 u], []⟩) (fun _ R s => s.heap.get? l = some { cls := .type "tuple", dict := dd, data := .seq items n, slots := sl } ∧
      R (.ok (.ret (Value.ref l))) s) :=
  .of_wp fun prog w A R s h => by
    obtain ⟨hp, g, d, tk, os⟩ := s
    obtain ⟨hl, h⟩ := h
    have f1 := AutoSeq1.idx_int
    have c0 : (decide ((1 : Int) < -(2 ^ 63)) || decide ((1 : Int) ≥ 2 ^ 63)) = false := by decide
    have c1 : (items.isEmpty || (1 : Int) == 1) = true := by cases items.isEmpty <;> rfl
    wp_walk using wpAny_loadPart' hl
    repeat (first
      | (refine wpAny_ite_false (decide_eq_false (by rw [c0]; exact Bool.false_ne_true)) ?_; wp_walk using wpAny_loadPart' hl)
      | (refine wpAny_ite_true (decide_eq_true (by rw [c1])) ?_; wp_walk using wpAny_loadPart' hl))
    exact ⟨_, rfl, h⟩
theorem tuple_mul0 (l : Addr) (items : Array Value) (n : Nat) (dd : Option Addr) (sl : Array (Option Value)) (x : Int) (u : Tok) (h0 : x ≤ 0) (h1 : -(2 ^ 63) ≤ x) (he : items.isEmpty = false) :
    Meets (Builtin.«tuple.__mul__» ⟨[.ref l, .int x u], []⟩) (fun _ R s => s.heap.get? l = some { cls := .type "tuple", dict := dd, data := .seq items n, slots := sl } ∧
      R (.ok (.ret (Value.ref s.heap.objs.size))) { s with heap := s.heap.push { cls := Value.type "tuple", data := Data.seq #[] }, toks := s.toks }) :=
  .of_wp fun prog w A R s h => by
    obtain ⟨hp, g, d, tk, os⟩ := s
    obtain ⟨hl, h⟩ := h
    have f1 := AutoSeq1.idx_int
    have c0 : (decide (x < -(2 ^ 63)) || decide (x ≥ 2 ^ 63)) = false := by
      rw [decide_eq_false (by omega), decide_eq_false (by omega)] <;> rfl
    have c1 : (items.isEmpty || x == 1) = false := by
      rw [he, Bool.false_or]
      exact beq_eq_false_iff_ne.mpr (by omega)
    have c2 : (decide (x ≤ 0) || items.isEmpty) = true := by rw [decide_eq_true h0]; rfl
    wp_walk using wpAny_loadPart' hl
    repeat (first
      | (refine wpAny_ite_false (decide_eq_false (by rw [c0]; exact Bool.false_ne_true)) ?_; wp_walk using wpAny_loadPart' hl)
      | (refine wpAny_ite_false (decide_eq_false (by rw [c1]; exact Bool.false_ne_true)) ?_; wp_walk using wpAny_loadPart' hl)
      | (refine wpAny_ite_true (decide_eq_true (by rw [c2])) ?_; wp_walk using wpAny_loadPart' hl))
    exact ⟨_, rfl, h⟩

variable {X : Cx}
/-- tuple * int -/
def rTupMul (K : PySem.W.Frag) : R2 := fun x y H Q => ∃ l k xs, x = .ref l ∧ y = .int k ∧ SqT K H l xs ∧ xs ≠ [] ∧ -1000 ≤ k ∧ k ≤ 1000 ∧ xs.length ≤ 1000 ∧ (k = 1 → Q (.ref l) H) ∧ (k ≠ 1 → ∀ p, H p = none → Q (.ref p) (upd H p (.tup (List.replicate k.toNat xs).flatten)))
theorem op_tupMul : OpR X (binaryOp .Mult) (rTupMul X.K) := by
  intro pins s σ H x y v u Q I rx ry h
  obtain ⟨l, k, xs, rfl, rfl, hT, hne, h1, h2, hz, q1, q⟩ := h
  by_cases hk : 2 ≤ k
  · exact op_repT pins s σ H _ _ v u Q I rx ry ⟨l, k, xs, rfl, rfl, hT, hne, hk, h2, hz, q (by omega)⟩
  cases rx
  obtain ⟨t, rfl⟩ := ry
  obtain ⟨its, r, ⟨⟨cls, dd, data, sl⟩, ho, hc, n, hd⟩, hs⟩ := I.tuple hT
  simp only at hc hd
  subst hc hd
  have hle : its.length = xs.length := r.length.symm
  have hn : its ≠ [] := fun e => hne (by
    rw [e] at hle
    exact List.eq_nil_of_length_eq_zero hle.symm)
  have hi : its.toArray.isEmpty = false := by
    cases its with
    | nil => exact absurd rfl hn
    | cons a b => rfl
  by_cases hk1 : k = 1
  · subst hk1
    refine wpAny_binaryOp_repeat_ref (T := "tuple") (U := "int") (by decide) ⟨_, ho, rfl⟩ (fun s' => typeIs_int s' 1 t) noFill_tuple_mul F.fills_int_mul F.slot_int_rmul repeat_tuple F.slot_int_index.lookup
      (call_meets F.slot_int_rmul (typeIs_int s 1 t) F.entry_int_rmul (F.args_int_rmul_2 _ _) (int_rmul_tuple 1 t l its.toArray n dd sl)
        ⟨ho, rfl, ⟨_, ho, rfl⟩, call_meets F.slot_tuple_mul ⟨_, ho, rfl⟩ F.entry_tuple_mul (F.args_tuple_mul_2 _ _) (tuple_mul1 l its.toArray n dd sl t) ⟨ho, ?_⟩⟩)
    exact ⟨.ref l, H, I, rfl, q1 rfl⟩
  · refine wpAny_binaryOp_repeat_ref (T := "tuple") (U := "int") (by decide) ⟨_, ho, rfl⟩ (fun s' => typeIs_int s' k t) noFill_tuple_mul F.fills_int_mul F.slot_int_rmul repeat_tuple F.slot_int_index.lookup
      (call_meets F.slot_int_rmul (typeIs_int s k t) F.entry_int_rmul (F.args_int_rmul_2 _ _) (int_rmul_tuple k t l its.toArray n dd sl)
        ⟨ho, rfl, ⟨_, ho, rfl⟩, call_meets F.slot_tuple_mul ⟨_, ho, rfl⟩ F.entry_tuple_mul (F.args_tuple_mul_2 _ _) (tuple_mul0 l its.toArray n dd sl k t (by omega) (by omega) hi) ⟨ho, ?_⟩⟩)
    have e0 : (List.replicate k.toNat xs).flatten = [] := by rw [show k.toNat = 0 by omega]; rfl
    have q' := q hk1
    rw [e0] at q'
    refine ⟨.ref s.heap.objs.size, _, I.laid (t' := s.toks) (o := .tup []) (fun b ob q => Heap.get?_push_of_some _ q) (Nat.le_refl _) ?_, rfl, q' _ (I.hok.fresh (Nat.le_refl _))⟩
    exact ⟨Nat.zero_le _, [], .nil, IsTup.new _ _⟩
end Mn

set_option Elab.async false
set_option linter.all false
set_option maxRecDepth 100000
/-! Mn1: a small value language, its expressions and statements, and what they compute. -/
namespace Mn
open PySem

/-- values as trees: lists and tuples by their contents -/
inductive MV where
  | non | bl (b : Bool) | int (i : Int) | str (s : Str) | tup (l : List MV) | lst (l : List MV)

instance : Inhabited MV := ⟨.non⟩

/-- how a value is held: shared; a new list that nothing else holds; a list that a name of the frame owns -/
inductive Tg where
  | sh | fr | bo
deriving DecidableEq

inductive BOp where
  | add | sub | mul | fdiv | mod | pow
deriving DecidableEq

inductive COp where
  | lt | le | gt | ge | eq | ne | is | isnt | inn | nin
deriving DecidableEq

/-- built-in functions -/
inductive BI where
  | len | abs | int | bool | tuple | list | sum | max | min | gcd | sorted | repr | listrev
deriving DecidableEq

/-- built-in types, for isinstance -/
inductive Ty where
  | int | bool | str | tuple | list
deriving DecidableEq

/-- what a for or a comprehension stores into -/
inductive TGT where
  | nm (i : Nat)
  | tp (is : List Nat)
deriving DecidableEq

mutual
inductive CE where
  | lit (v : MV)
  | var (i : Nat)
  | bin (op : BOp) (a b : CE)
  | neg (a : CE)
  | not (a : CE)
  | and (a b : CE)
  | or (a b : CE)
  | cmp (op : COp) (a b : CE)
  | chain (op op' : COp) (a b c : CE)
  | ite (c a b : CE)
  | call (f : Nat) (args : List CE)
  | bi (b : BI) (args : List CE)
  | isi (a : CE) (ts : List Ty)
  | tup (l : List CE)
  | lst (l : List CE)
  | idx (a i : CE)
  | slc (a : CE) (lo hi : Option CE)
  | comp (elt : CE) (tg : TGT) (it : CI) (ifs : List CE)
  | comp2 (elt : CE) (tg : TGT) (it : CI) (ifs : List CE) (tg1 : TGT) (it1 : CI) (ifs1 : List CE)
/-- what is walked -/
inductive CI where
  | seq (a : CE)
  | rng1 (a : CE)
  | rng2 (a b : CE)
  | rng3 (a b c : CE)
  | rev (a : CE)
end

inductive CS where
  | asg (i : Nat) (e : CE)
  | asgT (is : List Nat) (e : CE)
  | par (i j : Nat) (a b : CE)
  | set (i : Nat) (k e : CE)
  | aug (i : Nat) (op : BOp) (e : CE)
  | app (i : Nat) (e : CE)
  | ext (i : Nat) (e : CE)
  | pop (o : Option Nat) (i : Nat) (k : Option CE)
  | expr (e : CE)
  | ret (e : CE)
  | retN
  | ite (c : CE) (a b : List CS)
  | forS (tg : TGT) (it : CI) (body : List CS)
  | whl (c : CE) (body : List CS)
  | brk
  | cnt
  | pass
  | drop (i : Nat)

/-- a frame's names: a value, and whether the name owns it -/
abbrev MS := List (Option (MV × Bool))

/-- sizes -/
@[irreducible] def SZ : Nat := 4000000
@[irreducible] def BIG : Nat := 2 ^ 400000
@[irreducible] def DIV : Nat := 2 ^ 9000
@[irreducible] def PWB : Nat := 2 ^ 10000
@[irreducible] def RNG : Int := 2 ^ 62

mutual
def MV.toD : MV → PyData
  | .non => .none
  | .bl b => .bool b
  | .int i => .int i
  | .str s => .str s
  | .tup l => .tuple (MV.toDs l)
  | .lst l => .list (MV.toDs l)
def MV.toDs : List MV → List PyData
  | [] => []
  | x :: r => MV.toD x :: MV.toDs r
end

mutual
def MV.noLst : MV → Bool
  | .tup l => MV.noLsts l
  | .lst _ => false
  | _ => true
def MV.noLsts : List MV → Bool
  | [] => true
  | x :: r => MV.noLst x && MV.noLsts r
end

/-- a value that shares no list with anything: without lists, or a new list of such -/
def freeOf : MV × Bool → Bool
  | (.lst l, true) => MV.noLsts l
  | (x, _) => x.noLst

def truth : MV → Option Bool
  | .non => some false
  | .bl b => some b
  | .int i => some (i != 0)
  | .str s => if s.length ≤ SZ then some (s.length != 0) else none
  | .tup l => some (!l.isEmpty)
  | .lst l => some (!l.isEmpty)

def lexLt : List Int → List Int → Bool := HT.lexLt

def intsOf : List MV → Option (List Int)
  | [] => some []
  | .int i :: r => (intsOf r).bind fun l => some (i :: l)
  | _ :: _ => none

def binSem : BOp → MV → MV → Option (MV × Tg)
  | .add, .int a, .int b => some (.int (a + b), .sh)
  | .add, .str a, .str b => if a.length + b.length ≤ SZ then some (.str (a ++ b), .sh) else none
  | .add, .lst a, .lst b => if a.length + b.length ≤ SZ then some (.lst (a ++ b), .fr) else none
  | .add, .tup a, .tup b => if a.length + b.length ≤ SZ then some (.tup (a ++ b), .sh) else none
  | .sub, .int a, .int b => some (.int (a - b), .sh)
  | .mul, .int a, .int b => if a.natAbs < BIG ∧ b.natAbs < BIG then some (.int (a * b), .sh) else none
  | .mul, .lst a, .int k => if k < RNG ∧ -RNG < k ∧ a.length * k.toNat ≤ SZ then some (.lst (List.replicate k.toNat a).flatten, .fr) else none
  | .mul, .tup a, .int k => if a.isEmpty = false ∧ -1000 ≤ k ∧ k ≤ 1000 ∧ a.length ≤ 1000 then some (.tup (List.replicate k.toNat a).flatten, .sh) else none
  | .fdiv, .int a, .int b => if b ≠ 0 ∧ b.natAbs < DIV then some (.int (a.fdiv b), .sh) else none
  | .mod, .int a, .int b => if b ≠ 0 then some (.int (a.fmod b), .sh) else none
  | .pow, .int a, .int b => if 0 ≤ b ∧ b ≤ 1000 ∧ a.natAbs < PWB then some (.int (a ^ b.toNat), .sh) else none
  | _, _, _ => none

/-- data that == takes -/
def cmpOk (a : MV) : Bool := SeqAt.shaped a.toD

def isScal : MV → Bool
  | .non => true
  | .bl _ => true
  | .int _ => true
  | .str _ => true
  | _ => false

/-- an int of its own kind, or a text: no 1 == True -/
def flatEq : MV → MV → Bool
  | .non, .non => true
  | .bl a, .bl b => a == b
  | .bl a, .int b => (if a then 1 else 0) == b
  | .int a, .bl b => a == (if b then 1 else 0)
  | .int a, .int b => a == b
  | .str a, .str b => a == b
  | _, _ => false

def seqOf : MV → Option (List MV)
  | .tup l => some l
  | .lst l => some l
  | _ => none

def cmpSem : COp → MV → MV → Option Bool
  | .lt, .int a, .int b => some (decide (a < b))
  | .le, .int a, .int b => some (decide (a ≤ b))
  | .gt, .int a, .int b => some (decide (b < a))
  | .ge, .int a, .int b => some (decide (b ≤ a))
  | .lt, .tup a, .tup b => (intsOf a).bind fun x => (intsOf b).bind fun y => some (HT.lexLt x y)
  | .eq, .int a, .int b => some (decide (a = b))
  | .ne, .int a, .int b => some (!decide (a = b))
  | .eq, .str a, .str b => some (a == b)
  | .ne, .str a, .str b => some (a != b)
  | .eq, a, b => if cmpOk a && cmpOk b then some (PyData.eqv a.toD b.toD) else none
  | .ne, a, b => if cmpOk a && cmpOk b then some (!PyData.eqv a.toD b.toD) else none
  | .is, a, .non => some (match a with | .non => true | _ => false)
  | .isnt, a, .non => some (match a with | .non => false | _ => true)
  | .is, a, .bl b => some (match a with | .bl c => c == b | _ => false)
  | .isnt, a, .bl b => some (match a with | .bl c => !(c == b) | _ => true)
  | .inn, a, s => (seqOf s).bind fun l => if isScal a && l.all isScal then some (l.any fun y => flatEq y a) else none
  | .nin, a, s => (seqOf s).bind fun l => if isScal a && l.all isScal then some (!(l.any fun y => flatEq y a)) else none
  | _, _, _ => none

def tyIs : MV → Ty → Bool
  | .bl _, .bool => true
  | .bl _, .int => true
  | .int _, .int => true
  | .str _, .str => true
  | .tup _, .tuple => true
  | .lst _, .list => true
  | _, _ => false

/-- x[i] -/
def atM (l : List MV) (i : Int) : Option MV := L2.atI l i

def idxSem : MV → MV → Option MV
  | .tup l, .int i => atM l i
  | .lst l, .int i => atM l i
  | .str s, .int i => if s.length ≤ SZ then (L2.atI s.cps.toList i).map fun c => .str ⟨#[c]⟩ else none
  | _, _ => none

def cutM (xs : List MV) (lo hi : Option Int) : List MV := (xs.drop (HT.sIx xs.length 0 lo)).take (HT.sIx xs.length xs.length hi - HT.sIx xs.length 0 lo)

def slcSem : MV → Option Int → Option Int → Option (MV × Tg)
  | .tup l, lo, hi => some (.tup (cutM l lo hi), .sh)
  | .lst l, lo, hi => some (.lst (cutM l lo hi), .fr)
  | _, _, _ => none

def maxI : List Int → Option Int
  | [] => none
  | x :: r => some (r.foldl (fun a b => if a < b then b else a) x)
def minI : List Int → Option Int
  | [] => none
  | x :: r => some (r.foldl (fun a b => if b < a then b else a) x)

/-- repr(x) -/
def reprM (v : MV) : Option (MV × Tg) :=
  if v.toD.showable = true ∧ v.toD.hasDict = false ∧ v.toD.shown.length ≤ SZ ∧ v.toD.depth ≤ 60 then some (.str v.toD.shown, .sh) else none

def biSem : BI → List MV → Option (MV × Tg)
  | .repr, [.tup l] => reprM (.tup l)
  | .repr, [.lst l] => reprM (.lst l)
  | .len, [.tup l] => some (.int l.length, .sh)
  | .len, [.lst l] => some (.int l.length, .sh)
  | .len, [.str s] => if s.length ≤ SZ then some (.int s.length, .sh) else none
  | .abs, [.int i] => some (.int (if i < 0 then -i else i), .sh)
  | .int, [.int i] => some (.int i, .sh)
  | .int, [.bl b] => some (.int (if b then 1 else 0), .sh)
  | .bool, [.int i] => some (.bl (i != 0), .sh)
  | .bool, [.bl b] => some (.bl b, .sh)
  | .tuple, [.tup l] => some (.tup l, .sh)
  | .tuple, [.lst l] => some (.tup l, .sh)
  | .list, [.tup l] => some (.lst l, .fr)
  | .list, [.lst l] => some (.lst l, .fr)
  | .sum, [.lst l] => (intsOf l).bind fun x => some (.int x.sum, .sh)
  | .max, [.lst l] => (intsOf l).bind fun x => (maxI x).bind fun m => some (.int m, .sh)
  | .min, [.lst l] => (intsOf l).bind fun x => (minI x).bind fun m => some (.int m, .sh)
  | .max, [.int a, .int b] => some (.int (if b > a then b else a), .sh)
  | .min, [.int a, .int b] => some (.int (if b < a then b else a), .sh)
  | .gcd, [.int a, .int b] => some (.int ((Nat.gcd a.natAbs b.natAbs : Nat) : Int), .sh)
  | _, _ => none

/-- lo, lo + 1, .. (n of them) -/
def rngM (lo : Int) : Nat → List MV
  | 0 => []
  | n + 1 => .int lo :: rngM (lo + 1) n

def getM (σ : MS) (i : Nat) : Option (MV × Tg) :=
  match σ[i]? with
  | some (some (v, own)) => some (v, if own then .bo else .sh)
  | _ => none

def setM (σ : MS) (i : Nat) (v : MV) (own : Bool) : MS := σ.set i (some (v, own))

/-- a value that may be kept -/
def keep : MV × Tg → Option MV
  | (v, .bo) => none
  | (v, _) => some v

def isLst : MV → Bool
  | .lst _ => true
  | _ => false

def putAll : MS → List Nat → List MV → Option MS
  | σ, [], [] => some σ
  | σ, i :: is, v :: vs => putAll (setM σ i v false) is vs
  | _, _, _ => none

def putT (σ : MS) : TGT → MV → Option MS
  | .nm i, v => some (setM σ i v false)
  | .tp is, .tup vs => putAll σ is vs
  | .tp _, _ => none

def tgSlots : TGT → List Nat
  | .nm i => [i]
  | .tp is => is

def wipeM (σ : MS) : List Nat → MS
  | [] => σ
  | v :: vs => (wipeM σ vs).set v none

/-- the turns of a comprehension: each gives items -/
def turns (f : MV → Option (List MV)) : List MV → Option (List MV)
  | [] => some []
  | x :: r => (f x).bind fun ys => (turns f r).bind fun l => some (ys ++ l)

abbrev Fns := Nat → List MV → Option (MV × Bool)

def rngOk (i : Int) : Bool := decide (-RNG ≤ i) && decide (i < RNG)

mutual
def ev (Φ : Fns) : CE → MS → Option (MV × Tg)
  | .lit v, _ => some (v, .sh)
  | .var i, σ => getM σ i
  | .bin op a b, σ => (ev Φ a σ).bind fun x => (ev Φ b σ).bind fun y => binSem op x.1 y.1
  | .neg a, σ => (ev Φ a σ).bind fun x => match x.1 with | .int i => some (.int (-i), .sh) | _ => none
  | .not a, σ => (ev Φ a σ).bind fun x => (truth x.1).bind fun b => some (.bl (!b), .sh)
  | .and a b, σ => (ev Φ a σ).bind fun x => (truth x.1).bind fun t => if t = true then ev Φ b σ else some x
  | .or a b, σ => (ev Φ a σ).bind fun x => (truth x.1).bind fun t => if t = true then some x else ev Φ b σ
  | .cmp op a b, σ => (ev Φ a σ).bind fun x => (ev Φ b σ).bind fun y => (cmpSem op x.1 y.1).bind fun t => some (.bl t, .sh)
  | .chain op op' a b c, σ => (ev Φ a σ).bind fun x => (ev Φ b σ).bind fun y => (cmpSem op x.1 y.1).bind fun t =>
      if t = true then (ev Φ c σ).bind fun z => (cmpSem op' y.1 z.1).bind fun u => some (.bl u, .sh) else some (.bl false, .sh)
  | .ite c a b, σ => (ev Φ c σ).bind fun x => (truth x.1).bind fun t => if t = true then ev Φ a σ else ev Φ b σ
  | .call f args, σ => (evs Φ args σ).bind fun xs => (Φ f (xs.map (·.1))).bind fun r =>
      if xs.all (fun x => decide (x.2 ≠ .bo)) || freeOf r then some (r.1, if r.2 then .fr else .sh) else none
  | .bi b args, σ => (evs Φ args σ).bind fun xs => biSem b (xs.map (·.1))
  | .isi a ts, σ => (ev Φ a σ).bind fun x => some (.bl (ts.any (tyIs x.1)), .sh)
  | .tup l, σ => (evs Φ l σ).bind fun xs => (xs.mapM keep).bind fun vs => if vs.length ≤ SZ then some (.tup vs, .sh) else none
  | .lst l, σ => (evs Φ l σ).bind fun xs => (xs.mapM keep).bind fun vs => if vs.length ≤ SZ then some (.lst vs, .fr) else none
  | .idx a i, σ => (ev Φ a σ).bind fun x => (ev Φ i σ).bind fun y => (idxSem x.1 y.1).bind fun v => some (v, .sh)
  | .slc a lo hi, σ => (ev Φ a σ).bind fun x => (evO Φ lo σ).bind fun l => (evO Φ hi σ).bind fun h => slcSem x.1 l h
  | .comp elt tg it ifs, σ => (evI Φ it σ).bind fun items =>
      (turns (fun x => (putT (wipeM σ (tgSlots tg)) tg x).bind fun σ' => (evT Φ ifs σ').bind fun t =>
        if t = true then (ev Φ elt σ').bind fun y => (keep y).bind fun v => some [v] else some []) items.1).bind fun vs => if vs.length ≤ SZ then some (.lst vs, .fr) else none
  | .comp2 elt tg it ifs tg1 it1 ifs1, σ => (evI Φ it σ).bind fun items =>
      (turns (fun x => (putT (wipeM σ (tgSlots tg ++ tgSlots tg1)) tg x).bind fun σ' => (evT Φ ifs σ').bind fun t =>
        if t = true then (evI Φ it1 σ').bind fun items1 =>
          turns (fun x1 => (putT (wipeM σ' (tgSlots tg1)) tg1 x1).bind fun σ2 => (evT Φ ifs1 σ2).bind fun t1 =>
            if t1 = true then (ev Φ elt σ2).bind fun y => (keep y).bind fun v => some [v] else some []) items1.1
        else some []) items.1).bind fun vs => if vs.length ≤ SZ then some (.lst vs, .fr) else none
def evs (Φ : Fns) : List CE → MS → Option (List (MV × Tg))
  | [], _ => some []
  | e :: r, σ => (ev Φ e σ).bind fun x => (evs Φ r σ).bind fun xs => some (x :: xs)
def evO (Φ : Fns) : Option CE → MS → Option (Option Int)
  | none, _ => some none
  | some e, σ => (ev Φ e σ).bind fun x => match x.1 with | .int i => some (some i) | _ => none
/-- a clause's tests: none, or all true -/
def evT (Φ : Fns) : List CE → MS → Option Bool
  | [], _ => some true
  | e :: r, σ => (ev Φ e σ).bind fun x => (truth x.1).bind fun t => if t = true then evT Φ r σ else some false
def evI (Φ : Fns) : CI → MS → Option (List MV × Tg)
  | .seq a, σ => (ev Φ a σ).bind fun x => (seqOf x.1).bind fun l => some (l, x.2)
  | .rng1 a, σ => (ev Φ a σ).bind fun x => match x.1 with | .int n => if rngOk n then some (rngM 0 n.toNat, .sh) else none | _ => none
  | .rng2 a b, σ => (ev Φ a σ).bind fun x => (ev Φ b σ).bind fun y => match x.1, y.1 with
      | .int m, .int n => if rngOk m && rngOk n then some (rngM m (n - m).toNat, .sh) else none
      | _, _ => none
  | .rng3 a b c, σ => none
  | .rev a, σ => (ev Φ a σ).bind fun x => (seqOf x.1).bind fun l => some (l.reverse, x.2)
end

inductive Flow where
  | nx (σ : MS)
  | ret (v : MV) (own : Bool)
  | bk (σ : MS)
  | ct (σ : MS)

/-- a list that the name owns -/
def ownL (σ : MS) (i : Nat) : Option (List MV) :=
  match σ[i]? with
  | some (some (.lst l, true)) => some l
  | _ => none

/-- what an assignment puts down -/
def asgM (σ : MS) (i : Nat) : MV × Tg → Option MS
  | (v, .sh) => some (setM σ i v false)
  | (v, .fr) => some (setM σ i v (isLst v))
  | (_, .bo) => none

def retM : MV × Tg → Flow
  | (v, .sh) => .ret v false
  | (v, .fr) => .ret v true
  | (v, .bo) => .ret v true

def isVar : CE → Bool
  | .var _ => true
  | _ => false

def goFor (f : MV → MS → Option Flow) : List MV → MS → Option Flow
  | [], σ => some (.nx σ)
  | x :: r, σ => (f x σ).bind fun
      | .nx σ' => goFor f r σ'
      | .ct σ' => goFor f r σ'
      | .bk σ' => some (.nx σ')
      | .ret v own => some (.ret v own)

def goWhl (c : MS → Option Bool) (f : MS → Option Flow) : Nat → MS → Option Flow
  | 0, _ => none
  | n + 1, σ => (c σ).bind fun t => if t = true then (f σ).bind fun
      | .nx σ' => goWhl c f n σ'
      | .ct σ' => goWhl c f n σ'
      | .bk σ' => some (.nx σ')
      | .ret v own => some (.ret v own) else some (.nx σ)

def popSem (l : List MV) : Option Int → Option (MV × List MV)
  | none => match l[l.length - 1]? with | some y => some (y, l.dropLast) | none => none
  | some i => (L2.ixN l.length i).bind fun k => match l[k]? with | some y => some (y, l.eraseIdx k) | none => none

mutual
def ex (Φ : Fns) (L : Nat) : CS → MS → Option Flow
  | .asg i e, σ => (ev Φ e σ).bind fun x => (asgM σ i x).bind fun σ' => some (.nx σ')
  | .asgT is e, σ => (ev Φ e σ).bind fun x => (keep x).bind fun v => (putT σ (.tp is) v).bind fun σ' => some (.nx σ')
  | .par i j a b, σ => (ev Φ a σ).bind fun x => (ev Φ b σ).bind fun y => (keep x).bind fun v => (keep y).bind fun w => some (.nx (setM (setM σ i v false) j w false))
  | .set i k e, σ => (ev Φ e σ).bind fun x => (keep x).bind fun v => (ev Φ k σ).bind fun y => match y.1 with
      | .int n => (ownL σ i).bind fun l => (L2.ixN l.length n).bind fun j => some (.nx (setM σ i (.lst (l.set j v)) true))
      | _ => none
  | .aug i op e, σ => (getM σ i).bind fun x => (ev Φ e σ).bind fun y => match x.1, y.1 with
      | .int m, .int n => (match op with
          | .add => some (m + n)
          | .sub => some (m - n)
          | _ => none).bind fun z => some (.nx (setM σ i (.int z) false))
      | _, _ => none
  | .app i e, σ => (ev Φ e σ).bind fun x => (keep x).bind fun v => (ownL σ i).bind fun l => if l.length < SZ then some (.nx (setM σ i (.lst (l ++ [v])) true)) else none
  | .ext i e, σ => (ev Φ e σ).bind fun x => (seqOf x.1).bind fun m => (ownL σ i).bind fun l => if l.length + m.length ≤ SZ then some (.nx (setM σ i (.lst (l ++ m)) true)) else none
  | .pop o i k, σ => (evO Φ k σ).bind fun n => (ownL σ i).bind fun l => (popSem l n).bind fun (y, l') =>
      match o with
      | none => some (.nx (setM σ i (.lst l') true))
      | some j => if j = i then none else some (.nx (setM (setM σ i (.lst l') true) j y false))
  | .expr e, σ => (ev Φ e σ).bind fun _ => some (.nx σ)
  | .ret e, σ => (ev Φ e σ).bind fun x => if x.2 = .bo ∧ isVar e = false then none else some (retM x)
  | .retN, _ => some (.ret .non false)
  | .ite c a b, σ => (ev Φ c σ).bind fun x => (truth x.1).bind fun t => if t = true then exs Φ L a σ else exs Φ L b σ
  | .forS tg it body, σ => (evI Φ it σ).bind fun items => if items.2 = .bo then none else goFor (fun x σ' => (putT σ' tg x).bind fun σ2 => exs Φ L body σ2) items.1 σ
  | .whl c body, σ => goWhl (fun σ' => (ev Φ c σ').bind fun x => truth x.1) (fun σ' => exs Φ L body σ') L σ
  | .brk, σ => some (.bk σ)
  | .cnt, σ => some (.ct σ)
  | .pass, σ => some (.nx σ)
  | .drop i, σ => match σ[i]? with
      | some (some (v, _)) => some (.nx (setM σ i v false))
      | _ => none
def exs (Φ : Fns) (L : Nat) : List CS → MS → Option Flow
  | [], σ => some (.nx σ)
  | s :: r, σ => (ex Φ L s σ).bind fun
      | .nx σ' => exs Φ L r σ'
      | .ret v own => some (.ret v own)
      | .bk σ' => some (.bk σ')
      | .ct σ' => some (.ct σ')
end

/-- a def of the text: how many parameters, how many names, its body -/
structure FD where
  np : Nat
  nn : Nat
  body : List CS

def startM (nn : Nat) (args : List MV) : MS := args.map (fun v => some (v, false)) ++ List.replicate (nn - args.length) none

def resOf : Flow → Option (MV × Bool)
  | .nx _ => some (.non, false)
  | .ret v own => some (v, own)
  | _ => none

/-- the defs, by the depth of calls -/
def run (T : List FD) (L : Nat) : Nat → Fns
  | 0, _, _ => none
  | k + 1, f, args => match T[f]? with
      | some d => if args.length = d.np then (exs (run T L k) L d.body (startM d.nn args)).bind resOf else none
      | none => none

end Mn

set_option Elab.async false
set_option linter.all false
set_option maxRecDepth 100000
set_option maxHeartbeats 1000000
/-! Mn2: how tree values lie in the abstract heap; the operations by values. -/
namespace Mn
open PySem L2

mutual
inductive Rep (G : Hp) : V → MV → Prop where
  | non : Rep G .non .non
  | bl (b : Bool) : Rep G (.bl b) (.bl b)
  | int (i : Int) : Rep G (.int i) (.int i)
  | str (s : Str) : Rep G (.str s) (.str s)
  | tup {a : Addr} {vs : List V} {xs : List MV} : Rd G a (.tup vs) → RepAll G vs xs → Rep G (.ref a) (.tup xs)
  | lst {a : Addr} {vs : List V} {xs : List MV} : Rd G a (.lst vs) → RepAll G vs xs → Rep G (.ref a) (.lst xs)
inductive RepAll (G : Hp) : List V → List MV → Prop where
  | nil : RepAll G [] []
  | cons {v : V} {vs : List V} {x : MV} {xs : List MV} : Rep G v x → RepAll G vs xs → RepAll G (v :: vs) (x :: xs)
end

theorem Rd.up {G G' : Hp} {a : Addr} {u : HO} (s : Same G G') (h : Rd G a u) : Rd G' a u := by
  rcases h with h | ⟨o, h⟩
  · exact .inl (s _ _ h)
  · exact .inr ⟨o, s _ _ h⟩

mutual
theorem Rep.up {G G' : Hp} (s : Same G G') : ∀ {v : V} {x : MV}, Rep G v x → Rep G' v x
  | _, _, .non => .non
  | _, _, .bl b => .bl b
  | _, _, .int i => .int i
  | _, _, .str z => .str z
  | _, _, .tup r a => .tup (Rd.up s r) (RepAll.up s a)
  | _, _, .lst r a => .lst (Rd.up s r) (RepAll.up s a)
theorem RepAll.up {G G' : Hp} (s : Same G G') : ∀ {vs : List V} {xs : List MV}, RepAll G vs xs → RepAll G' vs xs
  | _, _, .nil => .nil
  | _, _, .cons r a => .cons (Rep.up s r) (RepAll.up s a)
end

theorem RepAll.length {G : Hp} : ∀ {vs : List V} {xs : List MV}, RepAll G vs xs → vs.length = xs.length
  | _, _, .nil => rfl
  | _, _, .cons _ a => by rw [List.length_cons, List.length_cons, RepAll.length a]

theorem RepAll.get {G : Hp} : ∀ {vs : List V} {xs : List MV} (i : Nat) {x : MV}, RepAll G vs xs → xs[i]? = some x → ∃ v, vs[i]? = some v ∧ Rep G v x
  | _, _, _, _, .nil, h => by simp at h
  | _, _, 0, _, .cons r a, h => by
    rw [List.getElem?_cons_zero] at h
    cases h
    exact ⟨_, by rw [List.getElem?_cons_zero], r⟩
  | _, _, i + 1, _, .cons r a, h => by
    rw [List.getElem?_cons_succ] at h
    obtain ⟨v, e, q⟩ := RepAll.get i a h
    exact ⟨v, by rw [List.getElem?_cons_succ]; exact e, q⟩

theorem RepAll.getV {G : Hp} : ∀ {vs : List V} {xs : List MV} (i : Nat) {v : V}, RepAll G vs xs → vs[i]? = some v → ∃ x, xs[i]? = some x ∧ Rep G v x
  | _, _, _, _, .nil, h => by simp at h
  | _, _, 0, _, .cons r a, h => by
    rw [List.getElem?_cons_zero] at h
    cases h
    exact ⟨_, by rw [List.getElem?_cons_zero], r⟩
  | _, _, i + 1, _, .cons r a, h => by
    rw [List.getElem?_cons_succ] at h
    obtain ⟨v, e, q⟩ := RepAll.getV i a h
    exact ⟨v, by rw [List.getElem?_cons_succ]; exact e, q⟩

theorem RepAll.append {G : Hp} : ∀ {vs ws : List V} {xs ys : List MV}, RepAll G vs xs → RepAll G ws ys → RepAll G (vs ++ ws) (xs ++ ys)
  | _, _, _, _, .nil, b => b
  | _, _, _, _, .cons r a, b => .cons r (RepAll.append a b)
theorem RepAll.take {G : Hp} : ∀ {vs : List V} {xs : List MV} (n : Nat), RepAll G vs xs → RepAll G (vs.take n) (xs.take n)
  | _, _, 0, _ => by rw [List.take_zero, List.take_zero]; exact .nil
  | _, _, _ + 1, .nil => by rw [List.take_nil, List.take_nil]; exact .nil
  | _, _, n + 1, .cons r a => by rw [List.take_succ_cons, List.take_succ_cons]; exact .cons r (RepAll.take n a)
theorem RepAll.drop {G : Hp} : ∀ {vs : List V} {xs : List MV} (n : Nat), RepAll G vs xs → RepAll G (vs.drop n) (xs.drop n)
  | _, _, 0, a => a
  | _, _, _ + 1, .nil => by rw [List.drop_nil, List.drop_nil]; exact .nil
  | _, _, n + 1, .cons r a => by rw [List.drop_succ_cons, List.drop_succ_cons]; exact RepAll.drop n a
theorem RepAll.set {G : Hp} {v : V} {x : MV} (q : Rep G v x) : ∀ {vs : List V} {xs : List MV} (n : Nat), RepAll G vs xs → RepAll G (vs.set n v) (xs.set n x)
  | _, _, _, .nil => .nil
  | _, _, 0, .cons r a => .cons q a
  | _, _, n + 1, .cons r a => .cons r (RepAll.set q n a)
theorem RepAll.eraseIdx {G : Hp} : ∀ {vs : List V} {xs : List MV} (n : Nat), RepAll G vs xs → RepAll G (vs.eraseIdx n) (xs.eraseIdx n)
  | _, _, _, .nil => .nil
  | _, _, 0, .cons r a => a
  | _, _, n + 1, .cons r a => .cons r (RepAll.eraseIdx n a)
theorem RepAll.dropLast {G : Hp} {vs : List V} {xs : List MV} (h : RepAll G vs xs) : RepAll G vs.dropLast xs.dropLast := by
  rw [List.dropLast_eq_take, List.dropLast_eq_take, h.length]
  exact h.take _
theorem RepAll.reverse {G : Hp} : ∀ {vs : List V} {xs : List MV}, RepAll G vs xs → RepAll G vs.reverse xs.reverse
  | _, _, .nil => .nil
  | _, _, .cons r a => by rw [List.reverse_cons, List.reverse_cons]; exact (RepAll.reverse a).append (.cons r .nil)
theorem RepAll.rep {G : Hp} {vs : List V} {xs : List MV} (h : RepAll G vs xs) : ∀ n : Nat, RepAll G (List.replicate n vs).flatten (List.replicate n xs).flatten
  | 0 => .nil
  | n + 1 => by
    rw [List.replicate_succ, List.replicate_succ, List.flatten_cons, List.flatten_cons]
    exact h.append (RepAll.rep h n)

/-- ints lie as ints -/
theorem RepAll.ints {G : Hp} : ∀ {vs : List V} {xs : List MV} {ns : List Int}, RepAll G vs xs → intsOf xs = some ns → vs = ns.map V.int
  | _, _, ns, .nil, e => by
    unfold intsOf at e
    cases e
    rfl
  | _, _, ns, .cons r a, e => by
    cases r with
    | int i =>
      unfold intsOf at e
      obtain ⟨l, h1, h2⟩ := Option.bind_eq_some_iff.mp e
      cases h2
      rw [RepAll.ints a h1] <;> rfl
    | _ => unfold intsOf at e; cases e

/-! ### what the owners hide -/
def Vw (H : Hp) (O : Addr → Bool) : Hp := fun b => if O b = true then none else H b
def add (O : Addr → Bool) (p : Addr) : Addr → Bool := fun b => O b || decide (b = p)

theorem Vw_some {H : Hp} {O : Addr → Bool} {b : Addr} {o : HO} (h : Vw H O b = some o) : O b = false ∧ H b = some o := by
  unfold Vw at h
  by_cases e : O b = true
  · rw [if_pos e] at h; cases h
  · rw [if_neg e] at h
    exact ⟨by simpa using e, h⟩
theorem Vw_of {H : Hp} {O : Addr → Bool} {b : Addr} {o : HO} (h1 : O b = false) (h2 : H b = some o) : Vw H O b = some o := by
  unfold Vw
  rw [if_neg (by rw [h1]; exact Bool.false_ne_true)]
  exact h2
theorem Vw_le {H : Hp} {O : Addr → Bool} : Same (Vw H O) H := fun b o h => (Vw_some h).2
theorem Vw_up {H H' : Hp} {O : Addr → Bool} (s : Same H H') : Same (Vw H O) (Vw H' O) := fun b o h => Vw_of (Vw_some h).1 (s _ _ (Vw_some h).2)
theorem Vw_less {H : Hp} {O O' : Addr → Bool} (s : ∀ b, O' b = true → O b = true) : Same (Vw H O) (Vw H O') := fun b o h => by
  obtain ⟨h1, h2⟩ := Vw_some h
  refine Vw_of ?_ h2
  cases e : O' b with
  | false => rfl
  | true => rw [s b e] at h1; cases h1
theorem add_self {O : Addr → Bool} {p : Addr} : add O p p = true := by unfold add; simp
theorem add_of {O : Addr → Bool} {p b : Addr} (h : O b = true) : add O p b = true := by unfold add; simp [h]
theorem add_ne {O : Addr → Bool} {p b : Addr} (h : b ≠ p) : add O p b = O b := by unfold add; simp [h]
theorem of_add {O : Addr → Bool} {p b : Addr} (h : add O p b = true) : O b = true ∨ b = p := by
  unfold add at h
  rw [Bool.or_eq_true] at h
  rcases h with h | h
  · exact .inl h
  · exact .inr (of_decide_eq_true h)
/-- a new address hidden: nothing of before is lost -/
theorem Vw_new {H H' : Hp} {O : Addr → Bool} {p : Addr} (s : Same H H') (hp : H p = none) : Same (Vw H O) (Vw H' (add O p)) := fun b o h => by
  obtain ⟨h1, h2⟩ := Vw_some h
  have ne : b ≠ p := fun e => by rw [e, hp] at h2; cases h2
  exact Vw_of (by rw [add_ne ne]; exact h1) (s _ _ h2)
theorem same_upd {H : Hp} {p : Addr} {o : HO} (hp : H p = none) : Same H (upd H p o) := fun b u h => by
  rw [upd_ne (fun e => by rw [e, hp] at h; cases h)]
  exact h

/-- the hidden addresses hold lists -/
def Dom (O : Addr → Bool) (H : Hp) : Prop := ∀ p, O p = true → ∃ vs, H p = some (.lst vs)
theorem Dom.up {O : Addr → Bool} {H H' : Hp} (d : Dom O H) (s : Same H H') : Dom O H' := fun p h => let ⟨vs, e⟩ := d p h; ⟨vs, s _ _ e⟩
theorem Dom.new {O : Addr → Bool} {H : Hp} (d : Dom O H) {p : Addr} (h : H p = none) : O p = false := by
  cases e : O p with
  | false => rfl
  | true =>
    obtain ⟨vs, q⟩ := d p e
    rw [h] at q; cases q

mutual
theorem Rep.hid {H : Hp} {O : Addr → Bool} (d : Dom O H) : ∀ {v : V} {x : MV}, Rep H v x → x.noLst = true → Rep (Vw H O) v x
  | _, _, .non, _ => .non
  | _, _, .bl b, _ => .bl b
  | _, _, .int i, _ => .int i
  | _, _, .str z, _ => .str z
  | _, _, .tup (a := a) r q, h => by
    unfold MV.noLst at h
    refine .tup ?_ (RepAll.hid d q h)
    have na : O a = false := by
      cases e : O a with
      | false => rfl
      | true =>
        obtain ⟨vs, z⟩ := d a e
        rcases r with r | ⟨o, r⟩ <;> rw [z] at r <;> cases r
    rcases r with r | ⟨o, r⟩
    · exact .inl (Vw_of na r)
    · exact .inr ⟨o, Vw_of na r⟩
  | _, _, .lst _ _, h => by unfold MV.noLst at h; cases h
theorem RepAll.hid {H : Hp} {O : Addr → Bool} (d : Dom O H) : ∀ {vs : List V} {xs : List MV}, RepAll H vs xs → MV.noLsts xs = true → RepAll (Vw H O) vs xs
  | _, _, .nil, _ => .nil
  | _, _, .cons r a, h => by
    unfold MV.noLsts at h
    rw [Bool.and_eq_true] at h
    exact .cons (Rep.hid d r h.1) (RepAll.hid d a h.2)
end

/-- an expression's value: H ahead of it, H' behind it -/
def ResOk (O : Addr → Bool) (H H' : Hp) : MV × Tg → V → Prop
  | (x, .sh), v => Rep (Vw H' O) v x
  | (x, .fr), v => Rep (Vw H' O) v x ∧ ∀ l, x = .lst l → ∃ p vs, v = .ref p ∧ H p = none ∧ H' p = some (.lst vs) ∧ RepAll (Vw H' (add O p)) vs l
  | (x, .bo), v => ∃ p vs l, x = .lst l ∧ v = .ref p ∧ O p = true ∧ H' p = some (.lst vs) ∧ RepAll (Vw H' O) vs l

/-- a value that is looked at: visible, or a list that a name owns -/
def Bor (O : Addr → Bool) (H : Hp) (v : V) (x : MV) : Prop := Rep (Vw H O) v x ∨ ∃ p vs l, x = .lst l ∧ v = .ref p ∧ O p = true ∧ H p = some (.lst vs) ∧ RepAll (Vw H O) vs l

theorem Bor.up {O : Addr → Bool} {H H' : Hp} {v : V} {x : MV} (h : Bor O H v x) (s : Same H H') : Bor O H' v x := by
  rcases h with h | ⟨p, vs, l, e1, e2, e3, e4, e5⟩
  · exact .inl (h.up (Vw_up s))
  · exact .inr ⟨p, vs, l, e1, e2, e3, s _ _ e4, e5.up (Vw_up s)⟩
theorem Bor.rep {O : Addr → Bool} {H : Hp} {v : V} {x : MV} (h : Bor O H v x) : Rep H v x := by
  rcases h with h | ⟨p, vs, l, e1, e2, e3, e4, e5⟩
  · exact h.up Vw_le
  · rw [e1, e2]
    exact .lst (.inl e4) (e5.up Vw_le)
theorem ResOk.bor {O : Addr → Bool} {H H' : Hp} : ∀ {r : MV × Tg} {v : V}, ResOk O H H' r v → Bor O H' v r.1
  | (x, .sh), v, h => .inl h
  | (x, .fr), v, h => .inl h.1
  | (x, .bo), v, h => .inr h
theorem ResOk.up {O : Addr → Bool} {H H1 H2 : Hp} (s : Same H1 H2) : ∀ {r : MV × Tg} {v : V}, ResOk O H H1 r v → ResOk O H H2 r v
  | (x, .sh), v, h => Rep.up (Vw_up s) h
  | (x, .fr), v, h => ⟨Rep.up (Vw_up s) h.1, fun l e => let ⟨p, vs, a, b, c, d⟩ := h.2 l e; ⟨p, vs, a, b, s _ _ c, d.up (Vw_up s)⟩⟩
  | (x, .bo), v, h => let ⟨p, vs, l, a, b, c, d, e⟩ := h; ⟨p, vs, l, a, b, c, s _ _ d, e.up (Vw_up s)⟩
theorem ResOk.weak {O : Addr → Bool} {H0 H H1 : Hp} (s : Same H0 H) : ∀ {r : MV × Tg} {v : V}, ResOk O H H1 r v → ResOk O H0 H1 r v
  | (x, .sh), v, h => h
  | (x, .fr), v, h => ⟨h.1, fun l e => let ⟨p, vs, a, b, c, d⟩ := h.2 l e; ⟨p, vs, a, s.free b, c, d⟩⟩
  | (x, .bo), v, h => h
theorem ResOk.keep {O : Addr → Bool} {H H1 : Hp} : ∀ {r : MV × Tg} {v : V} {x : MV}, ResOk O H H1 r v → Mn.keep r = some x → Rep (Vw H1 O) v x
  | (x, .sh), v, y, h, e => by cases e; exact h
  | (x, .fr), v, y, h, e => by cases e; exact h.1
  | (x, .bo), v, y, h, e => by cases e

/-- the items of a list or a tuple that is looked at -/
theorem Bor.items {O : Addr → Bool} {H : Hp} {v : V} {x : MV} {l : List MV} (h : Bor O H v x) (e : seqOf x = some l) :
    ∃ a vs, v = .ref a ∧ RepAll (Vw H O) vs l ∧ ((x = .lst l ∧ Rd H a (.lst vs)) ∨ (x = .tup l ∧ Rd H a (.tup vs))) := by
  rcases h with h | ⟨p, vs, l', e1, e2, e3, e4, e5⟩
  · cases h with
    | tup r q => cases e; exact ⟨_, _, rfl, q, .inr ⟨rfl, Rd.up Vw_le r⟩⟩
    | lst r q => cases e; exact ⟨_, _, rfl, q, .inl ⟨rfl, Rd.up Vw_le r⟩⟩
    | _ => cases e
  · subst e1
    cases e
    exact ⟨p, vs, e2, e5, .inl ⟨rfl, .inl e4⟩⟩
theorem Bor.lst {O : Addr → Bool} {H : Hp} {v : V} {l : List MV} (h : Bor O H v (.lst l)) : ∃ a vs, v = .ref a ∧ RepAll (Vw H O) vs l ∧ Rd H a (.lst vs) := by
  obtain ⟨a, vs, e, r, q⟩ := h.items rfl
  rcases q with ⟨_, q⟩ | ⟨q, _⟩
  · exact ⟨a, vs, e, r, q⟩
  · cases q
theorem Bor.tup {O : Addr → Bool} {H : Hp} {v : V} {l : List MV} (h : Bor O H v (.tup l)) : ∃ a vs, v = .ref a ∧ RepAll (Vw H O) vs l ∧ Rd H a (.tup vs) := by
  obtain ⟨a, vs, e, r, q⟩ := h.items rfl
  rcases q with ⟨q, _⟩ | ⟨_, q⟩
  · cases q
  · exact ⟨a, vs, e, r, q⟩
theorem Bor.int {O : Addr → Bool} {H : Hp} {v : V} {i : Int} (h : Bor O H v (.int i)) : v = .int i := by
  rcases h with h | ⟨p, vs, l, e1, _⟩
  · cases h; rfl
  · cases e1
theorem Bor.bl {O : Addr → Bool} {H : Hp} {v : V} {b : Bool} (h : Bor O H v (.bl b)) : v = .bl b := by
  rcases h with h | ⟨p, vs, l, e1, _⟩
  · cases h; rfl
  · cases e1
theorem Bor.str {O : Addr → Bool} {H : Hp} {v : V} {z : Str} (h : Bor O H v (.str z)) : v = .str z := by
  rcases h with h | ⟨p, vs, l, e1, _⟩
  · cases h; rfl
  · cases e1
theorem Bor.non {O : Addr → Bool} {H : Hp} {v : V} (h : Bor O H v .non) : v = .non := by
  rcases h with h | ⟨p, vs, l, e1, _⟩
  · cases h; rfl
  · cases e1
theorem SqL.rd {K : PySem.W.Frag} {H : Hp} {a : Addr} {xs : List V} (h : Rd H a (.lst xs)) : SqL K H a xs := .inl h
theorem SqT.rd {K : PySem.W.Frag} {H : Hp} {a : Addr} {xs : List V} (h : Rd H a (.tup xs)) : SqT K H a xs := .inl h

/-- what is wanted behind an operation that gives r -/
def Post (O : Addr → Bool) (H : Hp) (Q : VK) (r : MV × Tg) : Prop := ∀ v H', Same H H' → ResOk O H H' r v → Q v H'

theorem Post.sh {O : Addr → Bool} {H : Hp} {Q : VK} {x : MV} {v : V} (p : Post O H Q (x, .sh)) (h : Rep (Vw H O) v x) : Q v H := p v H (Same.refl H) h
theorem Post.int {O : Addr → Bool} {H : Hp} {Q : VK} {i : Int} (p : Post O H Q (.int i, .sh)) : Q (.int i) H := p.sh (.int i)
theorem Post.bl {O : Addr → Bool} {H : Hp} {Q : VK} {b : Bool} (p : Post O H Q (.bl b, .sh)) : Q (.bl b) H := p.sh (.bl b)
theorem Post.str {O : Addr → Bool} {H : Hp} {Q : VK} {z : Str} (p : Post O H Q (.str z, .sh)) : Q (.str z) H := p.sh (.str z)
/-- a new tuple -/
theorem Post.tup {O : Addr → Bool} {H : Hp} {Q : VK} {l : List MV} {vs : List V} (p : Post O H Q (.tup l, .sh)) (d : Dom O H) (h : RepAll (Vw H O) vs l) {q : Addr} (hq : H q = none) : Q (.ref q) (upd H q (.tup vs)) :=
  p _ _ (same_upd hq) (.tup (.inl (Vw_of (d.new hq) upd_same)) (h.up (Vw_up (same_upd hq))))
/-- a new list -/
theorem Post.lst {O : Addr → Bool} {H : Hp} {Q : VK} {l : List MV} {vs : List V} (p : Post O H Q (.lst l, .fr)) (d : Dom O H) (h : RepAll (Vw H O) vs l) {q : Addr} (hq : H q = none) : Q (.ref q) (upd H q (.lst vs)) := by
  refine p _ _ (same_upd hq) ⟨.lst (.inl (Vw_of (d.new hq) upd_same)) (h.up (Vw_up (same_upd hq))), fun m e => ?_⟩
  cases e
  exact ⟨q, vs, rfl, hq, upd_same, h.up (Vw_new (same_upd hq) hq)⟩

theorem SZ_le {n : Nat} (h : n ≤ SZ) : n ≤ sizeLine := Nat.le_trans h (by rw [sizeLine_eq]; unfold SZ; decide)
theorem log2_big {i : Int} (h : i.natAbs < BIG) : i.natAbs.log2 < 400000 := PySem.Flt.log2_lt_of (by decide) (by unfold BIG at h; exact h)
theorem log2_div {i : Int} (h : i.natAbs < DIV) : i.natAbs.log2 < 9000 := PySem.Flt.log2_lt_of (by decide) (by unfold DIV at h; exact h)

section
variable {X : Cx}

/-- a list or tuple at a: both read as a list of Values -/
theorem Inv.rdL {pins : List (Addr × Obj)} {σ : St} {H : Hp} {s : Shared} {l : Addr} {xs : List V} (I : Inv X pins σ H s) (h : Rd H l (.lst xs)) :
    xs.length ≤ sizeLine ∧ ∃ (its : List Value) (n : Nat), Vals xs its ∧ xs.length = its.length ∧ s.heap.get? l = some { cls := .type "list", data := .seq its.toArray n } := by
  obtain ⟨z, its, n, r, e⟩ := h.ok I.hok
  exact ⟨z, its, n, r, r.length, e⟩

def rBin (op : BOp) : R2 := fun x y H Q => ∃ O xm ym r, Dom O H ∧ Bor O H x xm ∧ Bor O H y ym ∧ binSem op xm ym = some r ∧ Post O H Q r

theorem inv_add {x y : MV} {r : MV × Tg} (e : binSem .add x y = some r) :
    (∃ a b, x = .int a ∧ y = .int b ∧ r = (.int (a + b), .sh)) ∨ (∃ a b, x = .str a ∧ y = .str b ∧ a.length + b.length ≤ SZ ∧ r = (.str (a ++ b), .sh)) ∨
    (∃ a b, x = .lst a ∧ y = .lst b ∧ a.length + b.length ≤ SZ ∧ r = (.lst (a ++ b), .fr)) ∨ (∃ a b, x = .tup a ∧ y = .tup b ∧ a.length + b.length ≤ SZ ∧ r = (.tup (a ++ b), .sh)) := by
  cases x <;> cases y <;> simp only [binSem] at e <;> first | cases e | skip
  · exact .inl ⟨_, _, rfl, rfl, rfl⟩
  · split at e
    · cases e; exact .inr (.inl ⟨_, _, rfl, rfl, by assumption, rfl⟩)
    · cases e
  · split at e
    · cases e; exact .inr (.inr (.inr ⟨_, _, rfl, rfl, by assumption, rfl⟩))
    · cases e
  · split at e
    · cases e; exact .inr (.inr (.inl ⟨_, _, rfl, rfl, by assumption, rfl⟩))
    · cases e

theorem bin_add : OpR X (binaryOp .Add) (rBin .add) := by
  intro pins s σ H x y v u Q I rx ry ⟨O, xm, ym, r, d, bx, by_, e, p⟩
  rcases inv_add e with ⟨a, b, rfl, rfl, rfl⟩ | ⟨a, b, rfl, rfl, hz, rfl⟩ | ⟨a, b, rfl, rfl, hz, rfl⟩ | ⟨a, b, rfl, rfl, hz, rfl⟩
  · obtain rfl := bx.int
    obtain rfl := by_.int
    exact op_add pins s σ H _ _ v u Q I rx ry ⟨_, _, rfl, rfl, p.int⟩
  · obtain rfl := bx.str
    obtain rfl := by_.str
    exact op_add_str pins s σ H _ _ v u Q I rx ry ⟨_, _, rfl, rfl, SZ_le hz, p.str⟩
  · obtain ⟨l, vs, rfl, ra, h1⟩ := bx.lst
    obtain ⟨m, ws, rfl, rb, h2⟩ := by_.lst
    cases rx
    cases ry
    obtain ⟨z, its, n, rv, hl, e1⟩ := Inv.rdL I h1
    obtain ⟨z2, its2, n2, rv2, hl2, e2⟩ := Inv.rdL I h2
    have la := ra.length
    have lb := rb.length
    have hz' : vs.length + ws.length ≤ sizeLine := by rw [la, lb]; exact SZ_le hz
    refine PySem.P.add_list e1 e2 ?_ (by rw [List.size_toArray, List.size_toArray]; omega)
    have ea : its.toArray ++ its2.toArray = (its ++ its2).toArray := by simp
    rw [ea]
    exact ⟨.ref _, _, I.lnew (t' := s.toks) (rv.append rv2) (by rw [List.length_append]; exact hz'), rfl, p.lst d (ra.append rb) I.fresh⟩
  · obtain ⟨l, vs, rfl, ra, h1⟩ := bx.tup
    obtain ⟨m, ws, rfl, rb, h2⟩ := by_.tup
    have la := ra.length
    have lb := rb.length
    have hz' : vs.length + ws.length ≤ sizeLine := by rw [la, lb]; exact SZ_le hz
    refine op_catA pins s σ H _ _ v u Q I rx ry ⟨l, m, vs, ws, rfl, rfl, SqT.rd h1, SqT.rd h2, hz', fun e => ?_, fun _ e => ?_, fun _ _ q hq => p.tup d (ra.append rb) hq⟩
    · subst e
      cases ra
      rw [List.nil_append] at p
      refine p.sh ?_
      rcases by_ with w | ⟨_, _, _, z, _⟩
      · exact w
      · cases z
    · subst e
      cases rb
      rw [List.append_nil] at p
      refine p.sh ?_
      rcases bx with w | ⟨_, _, _, z, _⟩
      · exact w
      · cases z

theorem bin_sub : OpR X (binaryOp .Sub) (rBin .sub) := by
  intro pins s σ H x y v u Q I rx ry ⟨O, xm, ym, r, d, bx, by_, e, p⟩
  cases xm <;> cases ym <;> simp only [binSem] at e <;> first | cases e | skip
  obtain rfl := bx.int
  obtain rfl := by_.int
  exact op_sub pins s σ H _ _ v u Q I rx ry ⟨_, _, rfl, rfl, p.int⟩

theorem fold_cat (us : List Value) (m : Nat) : List.foldl (fun x y => x ++ y) #[] (List.replicate m us.toArray) = (List.replicate m us).flatten.toArray := by
  have h := foldl_rep us m []
  rw [List.nil_append] at h
  exact h
/-- list * int where the list may be the script -/
theorem rep_list {pins : List (Addr × Obj)} {s : Shared} {σ : St} {H : Hp} {l : Addr} {k : Int} {t : Tok} {xs : List V} {Q : VK} (I : Inv X pins σ H s) (h : Rd H l (.lst xs)) (k1 : -(2 ^ 63) ≤ k) (k2 : k < 2 ^ 63)
    (hz : xs.length * k.toNat ≤ sizeLine) (q : ∀ p, H p = none → Q (.ref p) (upd H p (.lst (List.replicate k.toNat xs).flatten))) :
    wpAny (model X.prog X.w) X.A (binaryOp .Mult (.ref l) (.int k t)) (EP X pins σ Q) X.xe s := by
  obtain ⟨z, us, n, rv, hl, e⟩ := Inv.rdL I h
  have b1 : us.toArray.size * k.toNat ≤ sizeLine := by
    rw [List.size_toArray, ← hl]
    exact hz
  have b2 : (sizeLine : Nat) ≤ (2 ^ 63 - 1) / 8 := by decide
  have c1 : ¬ us.toArray.size * k.toNat > (2 ^ 63 - 1) / 8 := by omega
  have c2 : ¬ (!Builtin.List.listFitsIndex k) = true := by simp [fitsIndex_both k1 k2]
  have c3 : ¬ Builtin.List.listTooLong (us.toArray.size * k.toNat) = true := by rw [notLongL b1]; exact Bool.false_ne_true
  have fin : EP X pins σ Q (.ref s.heap.objs.size) { s with heap := s.heap.push { cls := .type "list", data := .seq (List.replicate k.toNat us).flatten.toArray }, toks := s.toks } := by
    refine ⟨.ref _, _, I.lnew (rv.rep k.toNat) ?_, rfl, q _ I.fresh⟩
    rw [PyProof.Rows.lm_len_rep_flat, Nat.mul_comm]
    exact hz
  have fold : List.foldl (fun x y => x ++ y) #[] (List.replicate (if us.toArray.isEmpty = true then 0 else k.toNat) us.toArray) = (List.replicate k.toNat us).flatten.toArray := by
    rw [fold_cat]
    cases us with
    | nil => simp
    | cons a r => rw [if_neg (by simp)]
  refine PySem.wpAny_binaryOp_repeat_ref (T := "list") (U := "int") (by decide)
    ⟨_, e, rfl⟩ (fun s' => PySem.typeIs_int s' k t) PySem.noFill_list_mul
    PySem.F.fills_int_mul PySem.F.slot_int_rmul PySem.repeat_list
    PySem.F.slot_int_index.lookup ?_
  refine PySem.call_meets PySem.F.slot_int_rmul (PySem.typeIs_int s k t) PySem.F.entry_int_rmul
    (PySem.F.args_int_rmul_2 _ _) (PySem.int___rmul___int_list k t l us.toArray n) ?_
  refine ⟨e, rfl, ⟨_, e, rfl⟩, ?_⟩
  refine PySem.call_meets PySem.F.slot_list_mul ⟨_, e, rfl⟩ PySem.F.entry_list_mul
    (PySem.F.args_list_mul_2 _ _) (PySem.AutoListH.list___mul___list_int_3 l us.toArray n k t c2 c1 c3) ?_
  refine ⟨e, ?_⟩
  rw [fold]
  exact fin

theorem bin_mul : OpR X (binaryOp .Mult) (rBin .mul) := by
  intro pins s σ H x y v u Q I rx ry ⟨O, xm, ym, r, d, bx, by_, e, p⟩
  cases xm <;> cases ym <;> simp only [binSem] at e <;> first | cases e | skip
  · split at e
    · rename_i hz
      cases e
      obtain rfl := bx.int
      obtain rfl := by_.int
      refine op_mulW pins s σ H _ _ v u Q I rx ry ⟨_, _, rfl, rfl, ?_, p.int⟩
      have h1 := log2_big hz.1
      have h2 := log2_big hz.2
      unfold CMulW
      omega
    · cases e
  · split at e
    · rename_i a k hz
      cases e
      have bw := bx
      obtain ⟨l, vs, rfl, ra, h1⟩ := bx.tup
      obtain rfl := by_.int
      refine op_tupMul pins s σ H _ _ v u Q I rx ry ⟨l, k, vs, rfl, rfl, SqT.rd h1, ?_, hz.2.1, hz.2.2.1, by rw [ra.length]; exact hz.2.2.2, fun e => ?_, fun _ q hq => p.tup d (ra.rep k.toNat) hq⟩
      · intro e0
        subst e0
        cases ra
        exact absurd hz.1 (by decide)
      · subst e
        rw [show (List.replicate (1 : Int).toNat a).flatten = a by simp] at p
        refine p.sh ?_
        rcases bw with w | ⟨_, _, _, z, _⟩
        · exact w
        · cases z
    · cases e
  · split at e
    · rename_i a k hz
      cases e
      obtain ⟨l, vs, rfl, ra, h1⟩ := bx.lst
      obtain rfl := by_.int
      cases rx
      obtain ⟨t, rfl⟩ := ry
      have k1 := hz.1
      have k2 := hz.2.1
      unfold RNG at k1 k2
      exact rep_list I h1 (by omega) (by omega) (by rw [ra.length]; exact SZ_le hz.2.2) fun q hq => p.lst d (ra.rep k.toNat) hq
    · cases e

theorem bin_fdiv : OpR X (binaryOp .FloorDiv) (rBin .fdiv) := by
  intro pins s σ H x y v u Q I rx ry ⟨O, xm, ym, r, d, bx, by_, e, p⟩
  cases xm <;> cases ym <;> simp only [binSem] at e <;> first | cases e | skip
  split at e
  · rename_i hz
    cases e
    obtain rfl := bx.int
    obtain rfl := by_.int
    exact (opI (C := fun _ j => j ≠ 0 ∧ j.natAbs < DIV) (g := fun i j => i.fdiv j) (fun i j t u Q E s hc q => PyProof.Rows.floordiv_int hc.1 q (.inl (PyProof.noPylong_of_log2 (log2_div hc.2))))) pins s σ H _ _ v u Q I rx ry ⟨_, _, rfl, rfl, hz, p.int⟩
  · cases e

theorem bin_mod : OpR X (binaryOp .Mod) (rBin .mod) := by
  intro pins s σ H x y v u Q I rx ry ⟨O, xm, ym, r, d, bx, by_, e, p⟩
  cases xm <;> cases ym <;> simp only [binSem] at e <;> first | cases e | skip
  split at e
  · rename_i hz
    cases e
    obtain rfl := bx.int
    obtain rfl := by_.int
    exact op_modN pins s σ H _ _ v u Q I rx ry ⟨_, _, rfl, rfl, hz, p.int⟩
  · cases e

theorem bin_pow : OpR X (binaryOp .Pow) (rBin .pow) := by
  intro pins s σ H x y v u Q I rx ry ⟨O, xm, ym, r, d, bx, by_, e, p⟩
  cases xm <;> cases ym <;> simp only [binSem] at e <;> first | cases e | skip
  split at e
  · rename_i a n hz
    cases e
    obtain rfl := bx.int
    obtain rfl := by_.int
    refine (opI (C := fun i j => 0 ≤ j ∧ (Builtin.Int.intBits i : Int) * j ≤ 2 ^ 27) (g := fun i j => i ^ j.toNat) (fun i j t u Q E s hc q => PyProof.Rows.pow_int hc.1 hc.2 q)) pins s σ H _ _ v u Q I rx ry ⟨_, _, rfl, rfl, ⟨hz.1, ?_⟩, p.int⟩
    have h1 : a.natAbs.log2 < 10000 := PySem.Flt.log2_lt_of (by decide) (by have h := hz.2.2; unfold PWB at h; exact h)
    have h2 : Builtin.Int.intBits a ≤ 10000 := by unfold Builtin.Int.intBits; split <;> omega
    have h3 : (Builtin.Int.intBits a : Int) ≤ 10000 := by omega
    have h4 : (0 : Int) ≤ (Builtin.Int.intBits a : Int) := by omega
    have h5 : (Builtin.Int.intBits a : Int) * n ≤ 10000 * 1000 := Int.mul_le_mul h3 hz.2.1 hz.1 (by decide)
    exact Int.le_trans h5 (by decide)
  · cases e

end
end Mn

set_option Elab.async false
set_option linter.all false
set_option maxRecDepth 100000
set_option maxHeartbeats 1000000
/-! Mn3: comparisons, truth, places, slices, built-ins, by values. -/
namespace Mn
open PySem L2

mutual
theorem Rep.dp {K : PySem.W.Frag} {H : Hp} : ∀ {v : V} {x : MV}, Rep H v x → Dp K H v x.toD
  | _, _, .non => .non
  | _, _, .bl b => .bl b
  | _, _, .int i => .int i
  | _, _, .str z => .str z
  | _, _, .tup r a => .tup (SqT.rd r) (RepAll.dp a)
  | _, _, .lst r a => .lst (SqL.rd r) (RepAll.dp a)
theorem RepAll.dp {K : PySem.W.Frag} {H : Hp} : ∀ {vs : List V} {xs : List MV}, RepAll H vs xs → DpAll K H vs (MV.toDs xs)
  | _, _, .nil => .nil
  | _, _, .cons r a => .cons (Rep.dp r) (RepAll.dp a)
end

section
variable {X : Cx}

def rCmp (op : COp) : R2 := fun x y H Q => ∃ O xm ym b, Bor O H x xm ∧ Bor O H y ym ∧ cmpSem op xm ym = some b ∧ Q (.bl b) H

theorem cmp_lt (hu : X.A.units < cLine) : OpR X (compareOp .Lt) (rCmp .lt) := by
  intro pins s σ H x y v u Q I rx ry ⟨O, xm, ym, b, bx, by_, e, q⟩
  cases xm <;> cases ym <;> simp only [cmpSem] at e <;> first | cases e | skip
  · obtain rfl := bx.int
    obtain rfl := by_.int
    exact op_lt pins s σ H _ _ v u Q I rx ry ⟨_, _, rfl, rfl, q⟩
  · obtain ⟨ns, e1, e⟩ := Option.bind_eq_some_iff.mp e
    obtain ⟨ms, e2, e⟩ := Option.bind_eq_some_iff.mp e
    cases e
    obtain ⟨a, vs, rfl, ra, h1⟩ := bx.tup
    obtain ⟨c, ws, rfl, rb, h2⟩ := by_.tup
    obtain rfl := ra.ints e1
    obtain rfl := rb.ints e2
    exact op_ltT hu pins s σ H _ _ v u Q I rx ry ⟨_, _, _, _, rfl, rfl, SqT.rd h1, SqT.rd h2, q⟩
theorem cmp_le : OpR X (compareOp .LtE) (rCmp .le) := by
  intro pins s σ H x y v u Q I rx ry ⟨O, xm, ym, b, bx, by_, e, q⟩
  cases xm <;> cases ym <;> simp only [cmpSem] at e <;> first | cases e | skip
  obtain rfl := bx.int
  obtain rfl := by_.int
  exact op_le pins s σ H _ _ v u Q I rx ry ⟨_, _, rfl, rfl, q⟩
theorem cmp_gt : OpR X (compareOp .Gt) (rCmp .gt) := by
  intro pins s σ H x y v u Q I rx ry ⟨O, xm, ym, b, bx, by_, e, q⟩
  cases xm <;> cases ym <;> simp only [cmpSem] at e <;> first | cases e | skip
  obtain rfl := bx.int
  obtain rfl := by_.int
  exact op_gt pins s σ H _ _ v u Q I rx ry ⟨_, _, rfl, rfl, q⟩
theorem cmp_ge : OpR X (compareOp .GtE) (rCmp .ge) := by
  intro pins s σ H x y v u Q I rx ry ⟨O, xm, ym, b, bx, by_, e, q⟩
  cases xm <;> cases ym <;> simp only [cmpSem] at e <;> first | cases e | skip
  obtain rfl := bx.int
  obtain rfl := by_.int
  exact op_ge pins s σ H _ _ v u Q I rx ry ⟨_, _, rfl, rfl, q⟩

theorem inv_eq {x y : MV} {b : Bool} (e : cmpSem .eq x y = some b) : (∃ i j, x = .int i ∧ y = .int j ∧ b = decide (i = j)) ∨ (∃ i j, x = .str i ∧ y = .str j ∧ b = (i == j)) ∨ (cmpOk x = true ∧ cmpOk y = true ∧ b = PyData.eqv x.toD y.toD) := by
  unfold cmpSem at e
  split at e
  all_goals first | contradiction | skip
  · cases e; exact .inl ⟨_, _, rfl, rfl, rfl⟩
  · cases e; exact .inr (.inl ⟨_, _, rfl, rfl, rfl⟩)
  · split at e
    · rename_i h
      rw [Bool.and_eq_true] at h
      cases e
      exact .inr (.inr ⟨h.1, h.2, rfl⟩)
    · cases e
theorem inv_ne {x y : MV} {b : Bool} (e : cmpSem .ne x y = some b) : (∃ i j, x = .int i ∧ y = .int j ∧ b = !decide (i = j)) ∨ (∃ i j, x = .str i ∧ y = .str j ∧ b = (i != j)) ∨ (cmpOk x = true ∧ cmpOk y = true ∧ b = !PyData.eqv x.toD y.toD) := by
  unfold cmpSem at e
  split at e
  all_goals first | contradiction | skip
  · cases e; exact .inl ⟨_, _, rfl, rfl, rfl⟩
  · cases e; exact .inr (.inl ⟨_, _, rfl, rfl, rfl⟩)
  · split at e
    · rename_i h
      rw [Bool.and_eq_true] at h
      cases e
      exact .inr (.inr ⟨h.1, h.2, rfl⟩)
    · cases e
theorem dInt {i j : Int} : decide (V.int i = V.int j) = decide (i = j) := by
  rw [dec_int]
  exact Bool.beq_eq_decide_eq i j
theorem cmp_eq (hu : X.A.units + 64 < cLine) : OpR X (compareOp .Eq) (rCmp .eq) := by
  intro pins s σ H x y v u Q I rx ry ⟨O, xm, ym, b, bx, by_, e, q⟩
  rcases inv_eq e with ⟨i, j, rfl, rfl, rfl⟩ | ⟨i, j, rfl, rfl, rfl⟩ | ⟨h1, h2, rfl⟩
  · obtain rfl := bx.int
    obtain rfl := by_.int
    exact op_eq pins s σ H _ _ v u Q I rx ry ⟨rfl, by rw [dInt]; exact q⟩
  · obtain rfl := bx.str
    obtain rfl := by_.str
    obtain ⟨t, rfl⟩ := rx
    obtain ⟨t', rfl⟩ := ry
    refine PyProof.Rows.eq_str ?_
    exact ⟨.bl _, H, I, rfl, q⟩
  · exact op_eqD hu pins s σ H _ _ v u Q I rx ry ⟨_, _, bx.rep.dp, by_.rep.dp, h1, h2, q⟩
theorem cmp_ne (hu : X.A.units + 64 < cLine) : OpR X (compareOp .NotEq) (rCmp .ne) := by
  intro pins s σ H x y v u Q I rx ry ⟨O, xm, ym, b, bx, by_, e, q⟩
  rcases inv_ne e with ⟨i, j, rfl, rfl, rfl⟩ | ⟨i, j, rfl, rfl, rfl⟩ | ⟨h1, h2, rfl⟩
  · obtain rfl := bx.int
    obtain rfl := by_.int
    exact op_ne pins s σ H _ _ v u Q I rx ry ⟨rfl, by rw [dInt]; exact q⟩
  · obtain rfl := bx.str
    obtain rfl := by_.str
    obtain ⟨t, rfl⟩ := rx
    obtain ⟨t', rfl⟩ := ry
    refine PyProof.Rows.ne_str ?_
    exact ⟨.bl _, H, I, rfl, q⟩
  · exact op_neD hu pins s σ H _ _ v u Q I rx ry ⟨_, _, bx.rep.dp, by_.rep.dp, h1, h2, q⟩

/-- is, is not: None, True, False on the right -/
theorem is_bool {x : V} {v : Value} {c : Bool} (r : RelV x v) : PySem.plainIs v (.bool c) = true ∧ (v == Value.bool c) = (match x with | .bl d => d == c | _ => false) := by
  cases x with
  | non => cases r; exact ⟨rfl, rfl⟩
  | bl d => cases r; exact ⟨rfl, by cases d <;> cases c <;> rfl⟩
  | int i => obtain ⟨t, rfl⟩ := r; exact ⟨rfl, rfl⟩
  | str z => obtain ⟨t, rfl⟩ := r; exact ⟨rfl, rfl⟩
  | byt z => obtain ⟨t, rfl⟩ := r; exact ⟨rfl, rfl⟩
  | flt z => obtain ⟨t, rfl⟩ := r; exact ⟨rfl, rfl⟩
  | ref a => cases r; exact ⟨rfl, rfl⟩
  | ty n => cases r; exact ⟨rfl, rfl⟩
theorem cmp_is : OpR X (compareOp .Is) (rCmp .is) := by
  intro pins s σ H x y v u Q I rx ry ⟨O, xm, ym, b, bx, by_, e, q⟩
  cases ym with
  | non =>
    obtain rfl := by_.non
    refine op_isN pins s σ H _ _ v u Q I rx ry ⟨rfl, ?_⟩
    have e2 : decide (x = V.non) = b := by
      have r := bx.rep
      cases r <;> simp [cmpSem] at e <;> simp [e]
    rw [e2]
    exact q
  | bl c =>
    obtain rfl := by_.bl
    cases ry
    obtain ⟨p1, p2⟩ := is_bool (c := c) rx
    refine PySem.wpAny_is_plain p1 ?_
    refine ⟨.bl b, H, I, ?_, q⟩
    show Value.bool _ = Value.bool b
    rw [p2]
    have r := bx.rep
    cases r <;> simp [cmpSem] at e <;> simp [e]
  | _ => simp only [cmpSem] at e; cases e
theorem cmp_isnt : OpR X (compareOp .IsNot) (rCmp .isnt) := by
  intro pins s σ H x y v u Q I rx ry ⟨O, xm, ym, b, bx, by_, e, q⟩
  cases ym with
  | non =>
    obtain rfl := by_.non
    refine op_notN pins s σ H _ _ v u Q I rx ry ⟨rfl, ?_⟩
    have e2 : (!decide (x = V.non)) = b := by
      have r := bx.rep
      cases r <;> simp [cmpSem] at e <;> simp [e]
    rw [e2]
    exact q
  | bl c =>
    obtain rfl := by_.bl
    cases ry
    obtain ⟨p1, p2⟩ := is_bool (c := c) rx
    refine PySem.wpAny_isNot_plain p1 ?_
    refine ⟨.bl b, H, I, ?_, q⟩
    show Value.bool _ = Value.bool b
    rw [p2]
    have r := bx.rep
    cases r <;> simp [cmpSem] at e <;> simp [e]
  | _ => simp only [cmpSem] at e; cases e

theorem flat_of {G : Hp} {v : V} {x : MV} (r : Rep G v x) (h : isScal x = true) : flatV v = true := by
  cases r <;> first | rfl | (unfold isScal at h; cases h)
theorem eqV_of {G G' : Hp} {v w : V} {x y : MV} (r : Rep G v x) (r' : Rep G' w y) (h : isScal x = true) (h' : isScal y = true) : eqV v w = flatEq x y := by
  cases r <;> cases r' <;> first | rfl | (unfold isScal at h; cases h) | (unfold isScal at h'; cases h')
theorem flat_all {G : Hp} : ∀ {vs : List V} {xs : List MV}, RepAll G vs xs → xs.all isScal = true → vs.all flatV = true
  | _, _, .nil, _ => rfl
  | _, _, .cons r a, h => by
    rw [List.all_cons, Bool.and_eq_true] at h ⊢
    exact ⟨flat_of r h.1, flat_all a h.2⟩
theorem any_eq {G G' : Hp} {v : V} {x : MV} (r : Rep G' v x) (h : isScal x = true) : ∀ {vs : List V} {xs : List MV}, RepAll G vs xs → xs.all isScal = true → inV v vs = xs.any fun y => flatEq y x
  | _, _, .nil, _ => rfl
  | _, _, .cons q a, h2 => by
    rw [List.all_cons, Bool.and_eq_true] at h2
    unfold inV
    rw [List.any_cons, List.any_cons, eqV_of q r h2.1 h]
    have e := any_eq r h a h2.2
    unfold inV at e
    rw [e]
theorem cmp_in : OpR X (compareOp .In) (rCmp .inn) := by
  intro pins s σ H x y v u Q I rx ry ⟨O, xm, ym, b, bx, by_, e, q⟩
  have e' : ((seqOf ym).bind fun l => if isScal xm && l.all isScal then some (l.any fun y => flatEq y xm) else none) = some b := by
    cases xm <;> cases ym <;> exact e
  obtain ⟨l, e1, e2⟩ := Option.bind_eq_some_iff.mp e'
  obtain ⟨a, vs, rfl, ra, hk⟩ := by_.items e1
  by_cases hs : (isScal xm && l.all isScal) = true
  · rw [if_pos hs] at e2
    cases e2
    rw [Bool.and_eq_true] at hs
    refine op_in_seq pins s σ H _ _ v u Q I rx ry ⟨a, vs, rfl, ?_, flat_of bx.rep hs.1, flat_all ra hs.2, ?_⟩
    · rcases hk with ⟨_, h⟩ | ⟨_, h⟩
      · exact .inl (SqL.rd h)
      · exact .inr (SqT.rd h)
    · rw [any_eq bx.rep hs.1 ra hs.2]
      exact q
  · rw [if_neg hs] at e2; cases e2
theorem cmp_nin : OpR X (compareOp .NotIn) (rCmp .nin) := by
  intro pins s σ H x y v u Q I rx ry ⟨O, xm, ym, b, bx, by_, e, q⟩
  have e' : ((seqOf ym).bind fun l => if isScal xm && l.all isScal then some (!(l.any fun y => flatEq y xm)) else none) = some b := by
    cases xm <;> cases ym <;> exact e
  obtain ⟨l, e1, e2⟩ := Option.bind_eq_some_iff.mp e'
  obtain ⟨a, vs, rfl, ra, hk⟩ := by_.items e1
  by_cases hs : (isScal xm && l.all isScal) = true
  · rw [if_pos hs] at e2
    cases e2
    rw [Bool.and_eq_true] at hs
    refine op_notIn_seq pins s σ H _ _ v u Q I rx ry ⟨a, vs, rfl, ?_, flat_of bx.rep hs.1, flat_all ra hs.2, ?_⟩
    · rcases hk with ⟨_, h⟩ | ⟨_, h⟩
      · exact .inl (SqL.rd h)
      · exact .inr (SqT.rd h)
    · rw [any_eq bx.rep hs.1 ra hs.2]
      exact q
  · rw [if_neg hs] at e2; cases e2

/-! ### truth -/
theorem tru_of {O : Addr → Bool} {H : Hp} {v : V} {x : MV} {b : Bool} (h : Bor O H v x) (e : truth x = some b) : TruV X.K v H b := by
  cases x with
  | non => obtain rfl := h.non; cases e; rfl
  | bl c => obtain rfl := h.bl; cases e; rfl
  | int i => obtain rfl := h.int; cases e; rfl
  | str z =>
    obtain rfl := h.str
    unfold truth at e
    simp only at e
    split at e
    · rename_i hz
      cases e
      refine ⟨SZ_le hz, ?_⟩
      rw [bne, bne]
      congr 1
      rw [Bool.beq_eq_decide_eq, Bool.beq_eq_decide_eq]
      exact decide_eq_decide.mpr (by omega)
    · cases e
  | tup l =>
    obtain ⟨a, vs, rfl, ra, hk⟩ := h.tup
    cases e
    refine .inr (.inl ⟨vs, SqT.rd hk, ?_⟩)
    cases ra <;> rfl
  | lst l =>
    obtain ⟨a, vs, rfl, ra, hk⟩ := h.lst
    cases e
    refine .inl ⟨vs, SqL.rd hk, ?_⟩
    cases ra <;> rfl

/-! ### places and slices -/
theorem at_of {G : Hp} {vs : List V} {xs : List MV} {i : Int} {x : MV} (r : RepAll G vs xs) (h : atI xs i = some x) : ∃ v, atI vs i = some v ∧ Rep G v x := by
  unfold atI at h ⊢
  rw [r.length]
  obtain ⟨j, e1, e2⟩ := Option.bind_eq_some_iff.mp h
  obtain ⟨v, e3, q⟩ := r.get j e2
  exact ⟨v, by rw [e1]; exact e3, q⟩
def rIdx : R2 := fun x y H Q => ∃ O xm ym r, Dom O H ∧ Bor O H x xm ∧ Bor O H y ym ∧ idxSem xm ym = some r ∧ Post O H Q (r, .sh)
theorem ix_any : IxR X rIdx := by
  intro va sl pins s σ H x y v u Q I rx ry ⟨O, xm, ym, r, d, bx, by_, e, p⟩ hs
  cases xm <;> cases ym <;> simp only [idxSem] at e <;> first | cases e | skip
  · rename_i z i
    obtain rfl := bx.str
    obtain rfl := by_.int
    split at e
    · rename_i hz
      obtain ⟨c, e1, e2⟩ := Option.map_eq_some_iff.mp e
      cases e2
      exact ix_str va sl pins s σ H _ _ v u Q I rx ry ⟨_, _, c, rfl, rfl, SZ_le hz, e1, p.str⟩ hs
    · cases e
  · obtain ⟨a, vs, rfl, ra, hk⟩ := bx.tup
    obtain rfl := by_.int
    obtain ⟨w, e1, rw_⟩ := at_of ra e
    exact ix_tup va sl pins s σ H _ _ v u Q I rx ry ⟨_, _, _, w, rfl, rfl, SqT.rd hk, e1, p.sh rw_⟩ hs
  · obtain ⟨a, vs, rfl, ra, hk⟩ := bx.lst
    obtain rfl := by_.int
    obtain ⟨w, e1, rw_⟩ := at_of ra e
    exact ix_list va sl pins s σ H _ _ v u Q I rx ry ⟨_, _, _, w, rfl, rfl, SqL.rd hk, e1, p.sh rw_⟩ hs
theorem cut_of {G : Hp} {vs : List V} {xs : List MV} (r : RepAll G vs xs) (lo hi : Option Int) : RepAll G (cutV vs lo hi) (cutM xs lo hi) := by
  unfold cutV cutM
  rw [r.length]
  exact (r.drop _).take _
def rSlc : V → Option Int → Option Int → Hp → VK → Prop := fun x lo hi H Q => ∃ O xm r, Dom O H ∧ Bor O H x xm ∧ slcSem xm lo hi = some r ∧ Post O H Q r
theorem sl_any : SlR X rSlc := by
  intro pins s σ H x v vl vu lo hi sl Q I rx hs pl pu ⟨O, xm, r, d, bx, e, p⟩
  cases xm <;> simp only [slcSem] at e <;> cases e
  · obtain ⟨a, vs, rfl, ra, hk⟩ := bx.tup
    refine sl_tupA pins s σ H _ v vl vu lo hi sl Q I rx hs pl pu ⟨a, vs, rfl, SqT.rd hk, fun w => ?_, fun w q hq => p.tup d (cut_of ra lo hi) hq⟩
    have e1 : cutV vs lo hi = vs := by
      unfold cutV
      rw [w.1, w.2, List.drop_zero, Nat.sub_zero, List.take_length]
    have c := cut_of ra lo hi
    rw [e1] at c
    refine p.sh ?_
    rcases bx with z | ⟨_, _, _, z, _⟩
    · cases z with
      | tup z1 z2 =>
        refine .tup z1 ?_
        have ez : ∀ {ws : List V}, Rd (Vw H O) a (.tup ws) → ws = vs := fun {ws} z => by
          have z' := Rd.up Vw_le z
          rcases z' with z' | ⟨o, z'⟩ <;> rcases hk with k | ⟨o', k⟩ <;> rw [k] at z' <;> cases z' <;> rfl
        rw [ez z1]
        exact c
    · cases z
  · obtain ⟨a, vs, rfl, ra, hk⟩ := bx.lst
    exact sl_list pins s σ H _ v vl vu lo hi sl Q I rx hs pl pu ⟨a, vs, rfl, SqL.rd hk, fun q hq => p.lst d (cut_of ra lo hi) hq⟩

/-! ### built-in calls -/
/-- argument lists -/
inductive BorAll (O : Addr → Bool) (H : Hp) : List V → List MV → Prop where
  | nil : BorAll O H [] []
  | cons {v : V} {vs : List V} {x : MV} {xs : List MV} : Bor O H v x → BorAll O H vs xs → BorAll O H (v :: vs) (x :: xs)
theorem BorAll.one {O : Addr → Bool} {H : Hp} {vs : List V} {x : MV} (h : BorAll O H vs [x]) : ∃ v, vs = [v] ∧ Bor O H v x := by
  cases h with
  | cons a b => cases b; exact ⟨_, rfl, a⟩
theorem BorAll.two {O : Addr → Bool} {H : Hp} {vs : List V} {x y : MV} (h : BorAll O H vs [x, y]) : ∃ v w, vs = [v, w] ∧ Bor O H v x ∧ Bor O H w y := by
  cases h with
  | cons a b =>
    cases b with
    | cons c d => cases d; exact ⟨_, _, rfl, a, c⟩
theorem BorAll.up {O : Addr → Bool} {H H' : Hp} (s : Same H H') : ∀ {vs : List V} {xs : List MV}, BorAll O H vs xs → BorAll O H' vs xs
  | _, _, .nil => .nil
  | _, _, .cons a b => .cons (a.up s) (BorAll.up s b)
theorem BorAll.rep {O : Addr → Bool} {H : Hp} : ∀ {vs : List V} {xs : List MV}, BorAll O H vs xs → RepAll H vs xs
  | _, _, .nil => .nil
  | _, _, .cons a b => .cons a.rep (BorAll.rep b)

def rBi (b : BI) : List V → Hp → VK → Prop := fun vs H Q => ∃ O xs r, Dom O H ∧ BorAll O H vs xs ∧ biSem b xs = some r ∧ Post O H Q r

theorem max_of {ns : List Int} {m k : Int} (e : maxI ns = some k) (h1 : m ∈ ns) (h2 : ∀ y ∈ ns, y ≤ m) : m = k := by
  cases ns with
  | nil => cases e
  | cons x r =>
    have key : ∀ (r : List Int) (x : Int), (r.foldl (fun a b => if a < b then b else a) x) ∈ x :: r ∧ ∀ y ∈ x :: r, y ≤ r.foldl (fun a b => if a < b then b else a) x := by
      intro r
      induction r with
      | nil => intro x; exact ⟨List.mem_cons_self, fun y hy => by rw [List.mem_singleton] at hy; rw [hy]; exact Int.le_refl _⟩
      | cons z r ih =>
        intro x
        rw [List.foldl_cons]
        obtain ⟨i1, i2⟩ := ih (if x < z then z else x)
        refine ⟨?_, fun y hy => ?_⟩
        · rcases List.mem_cons.mp i1 with w | w
          · rw [w]
            split
            · exact List.mem_cons_of_mem _ List.mem_cons_self
            · exact List.mem_cons_self
          · exact List.mem_cons_of_mem _ (List.mem_cons_of_mem _ w)
        · have i3 := i2 _ List.mem_cons_self
          rcases List.mem_cons.mp hy with w | w
          · rw [w]
            refine Int.le_trans ?_ i3
            split <;> omega
          · rcases List.mem_cons.mp w with w | w
            · rw [w]
              refine Int.le_trans ?_ i3
              split <;> omega
            · exact i2 y (List.mem_cons_of_mem _ w)
    obtain ⟨k1, k2⟩ := key r x
    cases e
    exact Int.le_antisymm (k2 m h1) (h2 _ k1)
theorem min_of {ns : List Int} {m k : Int} (e : minI ns = some k) (h1 : m ∈ ns) (h2 : ∀ y ∈ ns, m ≤ y) : m = k := by
  cases ns with
  | nil => cases e
  | cons x r =>
    have key : ∀ (r : List Int) (x : Int), (r.foldl (fun a b => if b < a then b else a) x) ∈ x :: r ∧ ∀ y ∈ x :: r, r.foldl (fun a b => if b < a then b else a) x ≤ y := by
      intro r
      induction r with
      | nil => intro x; exact ⟨List.mem_cons_self, fun y hy => by rw [List.mem_singleton] at hy; rw [hy]; exact Int.le_refl _⟩
      | cons z r ih =>
        intro x
        rw [List.foldl_cons]
        obtain ⟨i1, i2⟩ := ih (if z < x then z else x)
        refine ⟨?_, fun y hy => ?_⟩
        · rcases List.mem_cons.mp i1 with w | w
          · rw [w]
            split
            · exact List.mem_cons_of_mem _ List.mem_cons_self
            · exact List.mem_cons_self
          · exact List.mem_cons_of_mem _ (List.mem_cons_of_mem _ w)
        · have i3 := i2 _ List.mem_cons_self
          rcases List.mem_cons.mp hy with w | w
          · rw [w]
            refine Int.le_trans i3 ?_
            split <;> omega
          · rcases List.mem_cons.mp w with w | w
            · rw [w]
              refine Int.le_trans i3 ?_
              split <;> omega
            · exact i2 y (List.mem_cons_of_mem _ w)
    obtain ⟨k1, k2⟩ := key r x
    cases e
    exact Int.le_antisymm (h2 _ k1) (k2 m h1)

theorem bi_len : CallR X (.builtin "len") (rBi .len) := by
  intro pins s σ H vs us Q I r ⟨O, xs, res, d, b, e, p⟩
  unfold biSem at e
  split at e
  all_goals first | contradiction | skip
  · cases e
    obtain ⟨v, rfl, b1⟩ := b.one
    obtain ⟨a, ws, rfl, ra, hk⟩ := b1.tup
    refine call_len_seq pins s σ H _ us Q I r ⟨a, ws, rfl, .inr (SqT.rd hk), ?_⟩
    rw [ra.length]
    exact p.int
  · cases e
    obtain ⟨v, rfl, b1⟩ := b.one
    obtain ⟨a, ws, rfl, ra, hk⟩ := b1.lst
    refine call_len_seq pins s σ H _ us Q I r ⟨a, ws, rfl, .inl (SqL.rd hk), ?_⟩
    rw [ra.length]
    exact p.int
  · split at e
    · rename_i hz
      cases e
      obtain ⟨v, rfl, b1⟩ := b.one
      obtain rfl := b1.str
      exact call_len_str pins s σ H _ us Q I r ⟨_, rfl, SZ_le hz, p.int⟩
    · cases e
theorem bi_repr (hg : X.A.guards = some []) (hu : X.A.units + 200 < cLine) : CallR X (.builtin "repr") (rBi .repr) := by
  intro pins s σ H vs us Q I r ⟨O, xs, res, d, b, e, p⟩
  have go : ∀ (x : MV) (v : V) (a : Addr), Bor O H v x → v = .ref a → reprM x = some res → Vals [v] us → wpAny (model X.prog X.w) X.A (call (.builtin "repr") us) (EP X pins σ Q) X.xe s := by
    intro x v a bx hv e r
    unfold reprM at e
    split at e
    · rename_i h
      obtain ⟨h1, h2, h3, h4⟩ := h
      cases e
      obtain ⟨u, rfl, ru⟩ := vals1 r
      obtain ⟨as, hr⟩ := Dp.reads I _ v u bx.rep.dp ru
      subst hv
      have ru' : u = Value.ref a := ru
      subst ru'
      refine repr_of_reads' hr h1 (fun q => by rw [h2] at q; cases q) hg (by omega) (fun _ _ q => q) (fun h' u tk hk => ?_) (Nat.le_trans (SZ_le h3) (Nat.le_refl _))
      exact ⟨.str _, H, I.kept hk, ⟨u, rfl⟩, p.str⟩
    · cases e
  unfold biSem at e
  split at e
  all_goals first | contradiction | skip
  · obtain ⟨v, rfl, b1⟩ := b.one
    obtain ⟨a, ws, hv, ra, hk⟩ := b1.tup
    exact go _ v a b1 hv e r
  · obtain ⟨v, rfl, b1⟩ := b.one
    obtain ⟨a, ws, hv, ra, hk⟩ := b1.lst
    exact go _ v a b1 hv e r
theorem bi_abs : CallR X (.builtin "abs") (rBi .abs) := by
  intro pins s σ H vs us Q I r ⟨O, xs, res, d, b, e, p⟩
  unfold biSem at e
  split at e
  all_goals first | contradiction | skip
  cases e
  obtain ⟨v, rfl, b1⟩ := b.one
  obtain rfl := b1.int
  exact call_abs pins s σ H _ us Q I r ⟨_, rfl, p.int⟩
theorem bi_int : CallR X (.type "int") (rBi .int) := by
  intro pins s σ H vs us Q I r ⟨O, xs, res, d, b, e, p⟩
  unfold biSem at e
  split at e
  all_goals first | contradiction | skip
  · cases e
    obtain ⟨v, rfl, b1⟩ := b.one
    obtain rfl := b1.int
    exact call_int1 pins s σ H _ us Q I r (.inl ⟨_, rfl, p.int⟩)
  · cases e
    obtain ⟨v, rfl, b1⟩ := b.one
    obtain rfl := b1.bl
    exact call_int1 pins s σ H _ us Q I r (.inr ⟨_, rfl, p.int⟩)
theorem bi_bool : CallR X (.type "bool") (rBi .bool) := by
  intro pins s σ H vs us Q I r ⟨O, xs, res, d, b, e, p⟩
  unfold biSem at e
  split at e
  all_goals first | contradiction | skip
  · cases e
    obtain ⟨v, rfl, b1⟩ := b.one
    obtain rfl := b1.int
    exact call_bool1 pins s σ H _ us Q I r (.inl ⟨_, rfl, p.bl⟩)
  · cases e
    obtain ⟨v, rfl, b1⟩ := b.one
    obtain rfl := b1.bl
    exact call_bool1 pins s σ H _ us Q I r (.inr ⟨_, rfl, p.bl⟩)
theorem bi_tuple : CallR X (.type "tuple") (rBi .tuple) := by
  intro pins s σ H vs us Q I r ⟨O, xs, res, d, b, e, p⟩
  unfold biSem at e
  split at e
  all_goals first | contradiction | skip
  · cases e
    obtain ⟨v, rfl, b1⟩ := b.one
    obtain ⟨a, ws, rfl, ra, hk⟩ := b1.tup
    refine call_tuple_of pins s σ H _ us Q I r ⟨a, ws, rfl, .inr ⟨SqT.rd hk, p.sh ?_⟩⟩
    rcases b1 with z | ⟨_, _, _, z, _⟩
    · exact z
    · cases z
  · cases e
    obtain ⟨v, rfl, b1⟩ := b.one
    obtain ⟨a, ws, rfl, ra, hk⟩ := b1.lst
    exact call_tuple_of pins s σ H _ us Q I r ⟨a, ws, rfl, .inl ⟨SqL.rd hk, fun q hq => p.tup d ra hq⟩⟩
theorem bi_list : CallR X (.type "list") (rBi .list) := by
  intro pins s σ H vs us Q I r ⟨O, xs, res, d, b, e, p⟩
  unfold biSem at e
  split at e
  all_goals first | contradiction | skip
  · cases e
    obtain ⟨v, rfl, b1⟩ := b.one
    obtain ⟨a, ws, rfl, ra, hk⟩ := b1.tup
    exact call_list_of pins s σ H _ us Q I r ⟨a, ws, rfl, .inr (SqT.rd hk), fun q hq => p.lst d ra hq⟩
  · cases e
    obtain ⟨v, rfl, b1⟩ := b.one
    obtain ⟨a, ws, rfl, ra, hk⟩ := b1.lst
    exact call_list_of pins s σ H _ us Q I r ⟨a, ws, rfl, .inl (SqL.rd hk), fun q hq => p.lst d ra hq⟩
theorem bi_sum (hc : X.calm = true) : CallR X (.builtin "sum") (rBi .sum) := by
  intro pins s σ H vs us Q I r ⟨O, xs, res, d, b, e, p⟩
  unfold biSem at e
  split at e
  all_goals first | contradiction | skip
  obtain ⟨ns, e1, e⟩ := Option.bind_eq_some_iff.mp e
  cases e
  obtain ⟨v, rfl, b1⟩ := b.one
  obtain ⟨a, ws, rfl, ra, hk⟩ := b1.lst
  obtain rfl := ra.ints e1
  exact cr_sum hc pins s σ H _ us Q I r ⟨a, ns, rfl, SqL.rd hk, p.int⟩
theorem maxI_pos {ns : List Int} {k : Int} (h : maxI ns = some k) : 0 < ns.length := by
  cases ns with
  | nil => cases h
  | cons _ _ => exact Nat.succ_pos _
theorem minI_pos {ns : List Int} {k : Int} (h : minI ns = some k) : 0 < ns.length := by
  cases ns with
  | nil => cases h
  | cons _ _ => exact Nat.succ_pos _
theorem bi_max (hc : X.calm = true) : CallR X (.builtin "max") (rBi .max) := by
  intro pins s σ H vs us Q I r ⟨O, xs, res, d, b, e, p⟩
  unfold biSem at e
  split at e
  all_goals first | contradiction | skip
  · obtain ⟨ns, e1, e⟩ := Option.bind_eq_some_iff.mp e
    obtain ⟨k, e2, e⟩ := Option.bind_eq_some_iff.mp e
    cases e
    obtain ⟨v, rfl, b1⟩ := b.one
    obtain ⟨a, ws, rfl, ra, hk⟩ := b1.lst
    obtain rfl := ra.ints e1
    refine cr_max hc pins s σ H _ us Q I r ⟨a, ns, rfl, SqL.rd hk, maxI_pos e2, fun m h1 h2 => ?_⟩
    rw [max_of e2 h1 h2]
    exact p.int
  · cases e
    obtain ⟨v, w, rfl, b1, b2⟩ := b.two
    obtain rfl := b1.int
    obtain rfl := b2.int
    exact call_max2 hc pins s σ H _ us Q I r ⟨_, _, rfl, p.int⟩
theorem bi_min (hc : X.calm = true) : CallR X (.builtin "min") (rBi .min) := by
  intro pins s σ H vs us Q I r ⟨O, xs, res, d, b, e, p⟩
  unfold biSem at e
  split at e
  all_goals first | contradiction | skip
  · obtain ⟨ns, e1, e⟩ := Option.bind_eq_some_iff.mp e
    obtain ⟨k, e2, e⟩ := Option.bind_eq_some_iff.mp e
    cases e
    obtain ⟨v, rfl, b1⟩ := b.one
    obtain ⟨a, ws, rfl, ra, hk⟩ := b1.lst
    obtain rfl := ra.ints e1
    refine cr_min hc pins s σ H _ us Q I r ⟨a, ns, rfl, SqL.rd hk, minI_pos e2, fun m h1 h2 => ?_⟩
    rw [min_of e2 h1 h2]
    exact p.int
  · cases e
    obtain ⟨v, w, rfl, b1, b2⟩ := b.two
    obtain rfl := b1.int
    obtain rfl := b2.int
    exact call_min2 hc pins s σ H _ us Q I r ⟨_, _, rfl, p.int⟩
theorem bi_gcd : CallR X (.builtin "math.gcd") (rBi .gcd) := by
  intro pins s σ H vs us Q I r ⟨O, xs, res, d, b, e, p⟩
  unfold biSem at e
  split at e
  all_goals first | contradiction | skip
  cases e
  obtain ⟨v, w, rfl, b1, b2⟩ := b.two
  obtain rfl := b1.int
  obtain rfl := b2.int
  exact cr_gcd pins s σ H _ us Q I r ⟨_, _, rfl, p.int⟩

/-! ### isinstance -/
def tyName : Ty → String
  | .int => "int"
  | .bool => "bool"
  | .str => "str"
  | .tuple => "tuple"
  | .list => "list"
/-- the type of a value -/
def tyOf : MV → String
  | .non => "NoneType"
  | .bl _ => "bool"
  | .int _ => "int"
  | .str _ => "str"
  | .tup _ => "tuple"
  | .lst _ => "list"
theorem tyx_of {K : PySem.W.Frag} {H : Hp} {v : V} {x : MV} (r : Rep H v x) : TyX K H v (.type (tyOf x)) := by
  cases r with
  | non => exact .base .non
  | bl b => exact .base (.bl b)
  | int i => exact .base (.int i)
  | str z => exact .base (.str z)
  | tup h _ =>
    rcases h with h | ⟨o, h⟩
    · exact .base (.tup h)
    · exact .fTuple h
  | lst h _ =>
    rcases h with h | ⟨o, h⟩
    · exact .base (.lst h)
    · exact .base (.frz h)
inductive K6 where
  | non | bl | int | str | tup | lst
def k6 : MV → K6
  | .non => .non
  | .bl _ => .bl
  | .int _ => .int
  | .str _ => .str
  | .tup _ => .tup
  | .lst _ => .lst
def name6 : K6 → String
  | .non => "NoneType"
  | .bl => "bool"
  | .int => "int"
  | .str => "str"
  | .tup => "tuple"
  | .lst => "list"
def is6 : K6 → Ty → Bool
  | .bl, .bool => true
  | .bl, .int => true
  | .int, .int => true
  | .str, .str => true
  | .tup, .tuple => true
  | .lst, .list => true
  | _, _ => false
theorem kit6 (k : K6) (t : Ty) : kitB (name6 k) (tyName t) = some (is6 k t) := by
  cases k <;> cases t <;> decide +kernel
theorem kit_one (x : MV) (t : Ty) : kitB (tyOf x) (tyName t) = some (tyIs x t) := by
  have e1 : tyOf x = name6 (k6 x) := by cases x <;> rfl
  have e2 : tyIs x t = is6 (k6 x) t := by cases x <;> cases t <;> rfl
  rw [e1, e2]
  exact kit6 _ _
theorem kit_all {K : PySem.W.Frag} (x : MV) : ∀ ts : List Ty, PySem.W.kitAny K (.type (tyOf x)) (ts.map fun t => .type (tyName t)) = some (ts.any (tyIs x))
  | [] => kitAny_nil
  | t :: ts => by
    rw [List.map_cons, List.any_cons]
    refine kitAny_cons (kit_ty (kit_one x t)) (fun e => ?_) (fun e => ?_)
    · rw [e, Bool.false_or]; exact kit_all x ts
    · rw [e, Bool.true_or]
theorem clsv_all : ∀ ts : List Ty, Paired ClsV (ts.map fun t => V.ty (tyName t)) (ts.map fun t => Value.type (tyName t))
  | [] => .nil
  | t :: ts => .cons (.ty _) (clsv_all ts)

end
end Mn

set_option Elab.async false
set_option linter.all false
set_option maxRecDepth 100000
set_option maxHeartbeats 1000000
/-! Mn4: a frame's names; what an expression's reading is; its parts. -/
namespace Mn
open PySem L2

structure Sim (H0 : Hp) (O0 : Addr → Bool) (σm : MS) (O : Addr → Bool) (σ : L2.St) (H : Hp) : Prop where
  len : σm.length = σ.length
  dom : Dom O H
  same : Same H0 H
  sub : ∀ p, O0 p = true → O p = true
  new : ∀ p, O p = true → O0 p = true ∨ H0 p = none
  slot : ∀ (i : Nat) (x : MV) (own : Bool), σm[i]? = some (some (x, own)) → ∃ v, σ[i]? = some (some v) ∧ ResOk O H H (x, if own then .bo else .sh) v
  own : ∀ (i : Nat) (x : MV) (p : Addr), σm[i]? = some (some (x, true)) → σ[i]? = some (some (.ref p)) → O0 p = false
  dist : ∀ (i j : Nat) (x y : MV) (p : Addr), σm[i]? = some (some (x, true)) → σm[j]? = some (some (y, true)) → σ[i]? = some (some (.ref p)) → σ[j]? = some (some (.ref p)) → i = j

section
variable {H0 H H' : Hp} {O0 O : Addr → Bool} {σm : MS} {σ : L2.St}

theorem ResOk.both {r : MV × Tg} {v : V} {H1 H2 : Hp} (s : Same H1 H2) (h : ResOk O H1 H1 r v) (n : r.2 ≠ .fr) : ResOk O H2 H2 r v := by
  obtain ⟨x, t⟩ := r
  cases t with
  | sh => exact Rep.up (Vw_up s) h
  | fr => exact absurd rfl n
  | bo => exact ResOk.up s (r := (x, .bo)) h

theorem Sim.up (S : Sim H0 O0 σm O σ H) (s : Same H H') : Sim H0 O0 σm O σ H' where
  len := S.len
  dom := S.dom.up s
  same := S.same.trans s
  sub := S.sub
  new := S.new
  slot := fun i x own e => by
    obtain ⟨v, e1, r⟩ := S.slot i x own e
    exact ⟨v, e1, r.both s (by cases own <;> exact fun z => by cases z)⟩
  own := S.own
  dist := S.dist

theorem wipe_get (σ : MS) (i : Nat) (r : MV × Bool) : ∀ vs : List Nat, (wipeM σ vs)[i]? = some (some r) → σ[i]? = some (some r) ∧ i ∉ vs
  | [], h => ⟨h, by simp⟩
  | v :: vs, h => by
    unfold wipeM at h
    by_cases hi : v = i
    · subst hi
      by_cases hv : v < (wipeM σ vs).length
      · rw [List.getElem?_set_self hv] at h; cases h
      · rw [List.getElem?_eq_none (by simpa using hv)] at h; cases h
    · rw [List.getElem?_set_ne hi] at h
      obtain ⟨h1, h2⟩ := wipe_get σ i r vs h
      exact ⟨h1, by simp only [List.mem_cons, not_or]; exact ⟨fun e => hi e.symm, h2⟩⟩
theorem wipeM_length (σ : MS) : ∀ vs : List Nat, (wipeM σ vs).length = σ.length
  | [] => rfl
  | v :: vs => by unfold wipeM; rw [List.length_set, wipeM_length σ vs]
theorem wipe_keep {σ : L2.St} {i : Nat} {x : V} : ∀ {vs : List Nat}, σ[i]? = some (some x) → i ∉ vs → (wipe σ vs)[i]? = some (some x)
  | [], h, _ => h
  | v :: vs, h, n => by
    unfold wipe
    rw [List.getElem?_set_ne (fun e => n (by rw [e]; exact List.mem_cons_self))]
    exact wipe_keep h (fun m => n (List.mem_cons_of_mem _ m))

/-- names forgotten -/
theorem Sim.wipe (S : Sim H0 O0 σm O σ H) (vs : List Nat) : Sim H0 O0 (wipeM σm vs) O (L2.wipe σ vs) H where
  len := by rw [wipeM_length, wipe_length]; exact S.len
  dom := S.dom
  same := S.same
  sub := S.sub
  new := S.new
  slot := fun i x own e => by
    obtain ⟨e1, n⟩ := wipe_get _ _ _ _ e
    obtain ⟨v, e2, r⟩ := S.slot i x own e1
    exact ⟨v, wipe_keep e2 n, r⟩
  own := fun i x p e1 e2 => S.own i x p (wipe_get _ _ _ _ e1).1 (wipe_some e2).1
  dist := fun i j x y p e1 e2 e3 e4 => S.dist i j x y p (wipe_get _ _ _ _ e1).1 (wipe_get _ _ _ _ e2).1 (wipe_some e3).1 (wipe_some e4).1

/-- a value that is seen is stored -/
theorem Sim.put (S : Sim H0 O0 σm O σ H) {i : Nat} {x : MV} {v : V} (r : Rep (Vw H O) v x) : Sim H0 O0 (setM σm i x false) O (σ.set i (some v)) H where
  len := by unfold setM; rw [List.length_set, List.length_set]; exact S.len
  dom := S.dom
  same := S.same
  sub := S.sub
  new := S.new
  slot := fun j y own e => by
    unfold setM at e
    by_cases hj : i = j
    · subst hj
      by_cases hl : i < σm.length
      · rw [List.getElem?_set_self hl] at e
        cases e
        exact ⟨v, List.getElem?_set_self (by rw [← S.len]; exact hl), r⟩
      · rw [List.getElem?_eq_none (by rw [List.length_set]; omega)] at e; cases e
    · rw [List.getElem?_set_ne hj] at e
      obtain ⟨w, e1, q⟩ := S.slot j y own e
      exact ⟨w, by rw [List.getElem?_set_ne hj]; exact e1, q⟩
  own := fun j y p e1 e2 => by
    unfold setM at e1
    by_cases hj : i = j
    · subst hj
      by_cases hl : i < σm.length
      · rw [List.getElem?_set_self hl] at e1; cases e1
      · rw [List.getElem?_eq_none (by rw [List.length_set]; omega)] at e1; cases e1
    · rw [List.getElem?_set_ne hj] at e1 e2
      exact S.own j y p e1 e2
  dist := fun j k y z p e1 e2 e3 e4 => by
    unfold setM at e1 e2
    have ne : ∀ l w, (σm.set i (some (x, false)))[l]? = some (some (w, true)) → i ≠ l := fun l w e hl => by
      subst hl
      by_cases hl : i < σm.length
      · rw [List.getElem?_set_self hl] at e; cases e
      · rw [List.getElem?_eq_none (by rw [List.length_set]; omega)] at e; cases e
    have n1 := ne j y e1
    have n2 := ne k z e2
    rw [List.getElem?_set_ne n1] at e1 e3
    rw [List.getElem?_set_ne n2] at e2 e4
    exact S.dist j k y z p e1 e2 e3 e4

/-- a new list hidden -/
theorem Sim.hide (S : Sim H0 O0 σm O σ H) {D : Addr} {vs : List V} (n : H D = none) (s : Same H H') (h : H' D = some (.lst vs)) : Sim H0 O0 σm (add O D) σ H' where
  len := S.len
  dom := fun p e => by
    rcases of_add e with e | e
    · obtain ⟨ws, q⟩ := S.dom p e
      exact ⟨ws, s _ _ q⟩
    · rw [e]; exact ⟨vs, h⟩
  same := S.same.trans s
  sub := fun p e => add_of (S.sub p e)
  new := fun p e => by
    rcases of_add e with e | e
    · exact S.new p e
    · rw [e]; exact .inr (S.same.free n)
  slot := fun i x own e => by
    obtain ⟨v, e1, r⟩ := S.slot i x own e
    refine ⟨v, e1, ?_⟩
    cases own with
    | false => exact Rep.up (Vw_new s n) r
    | true =>
      obtain ⟨p, ws, l, a, b, c, d, q⟩ := r
      exact ⟨p, ws, l, a, b, add_of c, s _ _ d, q.up (Vw_new s n)⟩
  own := S.own
  dist := S.dist

/-- the hidden list at D changes -/
theorem Vw_set {H : Hp} {O : Addr → Bool} {D : Addr} {o : HO} (h : O D = true) : Vw (upd H D o) O = Vw H O := by
  funext b
  unfold Vw
  by_cases e : b = D
  · subst e; rw [h]; rfl
  · rw [upd_ne e]
theorem Sim.grow (S : Sim H0 O0 σm O σ H) {D : Addr} {ws : List V} (hD : O D = true) (hn : ∀ (i : Nat) (x : MV), σm[i]? = some (some (x, true)) → σ[i]? ≠ some (some (V.ref D))) (h0 : H0 D = none) : Sim H0 O0 σm O σ (upd H D (.lst ws)) where
  len := S.len
  dom := fun p e => by
    by_cases q : p = D
    · rw [q]; exact ⟨ws, upd_same⟩
    · obtain ⟨vs, z⟩ := S.dom p e
      exact ⟨vs, by rw [upd_ne q]; exact z⟩
  same := fun b o e => by
    rw [upd_ne (fun z => by rw [z, h0] at e; cases e)]
    exact S.same b o e
  sub := S.sub
  new := S.new
  slot := fun i x own e => by
    obtain ⟨v, e1, r⟩ := S.slot i x own e
    refine ⟨v, e1, ?_⟩
    cases own with
    | false => show Rep _ _ _; rw [Vw_set hD]; exact r
    | true =>
      obtain ⟨p, vs, l, a, b, c, d, q⟩ := r
      have ne : p ≠ D := fun z => by
        subst b
        rw [z] at e1
        exact hn i x e e1
      exact ⟨p, vs, l, a, b, c, by rw [upd_ne ne]; exact d, by rw [Vw_set hD]; exact q⟩
  own := S.own
  dist := S.dist

theorem Sim.get (S : Sim H0 O0 σm O σ H) {i : Nat} {r : MV × Tg} (e : getM σm i = some r) : ∃ v, σ[i]? = some (some v) ∧ ResOk O H H r v := by
  unfold getM at e
  split at e
  · rename_i x own h
    cases e
    exact S.slot i x own h
  · cases e
end

/-! ### readings -/
def tE (Φ : Fns) (e : CE) : TE := fun σ H Q => ∃ H0 O0 σm O r, Sim H0 O0 σm O σ H ∧ ev Φ e σm = some r ∧ Post O H Q r
def tT (Φ : Fns) (e : CE) : TT := fun σ H Q => ∃ H0 O0 σm O b, Sim H0 O0 σm O σ H ∧ ((ev Φ e σm).bind fun x => truth x.1) = some b ∧ ∀ H', Same H H' → Q b H'
/-- an argument list's values -/
inductive ResAll (O : Addr → Bool) (H H' : Hp) : List (MV × Tg) → List V → Prop where
  | nil : ResAll O H H' [] []
  | cons {r : MV × Tg} {rs : List (MV × Tg)} {v : V} {vs : List V} : ResOk O H H' r v → ResAll O H H' rs vs → ResAll O H H' (r :: rs) (v :: vs)
def tA (Φ : Fns) (es : List CE) : TA := fun σ H Q => ∃ H0 O0 σm O rs, Sim H0 O0 σm O σ H ∧ evs Φ es σm = some rs ∧ ∀ vs H', Same H H' → ResAll O H H' rs vs → Q vs H'

theorem tE_of {Φ : Fns} {e : CE} {σ : L2.St} {H H0 : Hp} {O0 O : Addr → Bool} {σm : MS} {Q : VK} {r : MV × Tg} (S : Sim H0 O0 σm O σ H) (h : ev Φ e σm = some r) (p : Post O H Q r) : tE Φ e σ H Q := ⟨H0, O0, σm, O, r, S, h, p⟩

theorem ResAll.bor {O : Addr → Bool} {H H' : Hp} : ∀ {rs : List (MV × Tg)} {vs : List V}, ResAll O H H' rs vs → BorAll O H' vs (rs.map (·.1))
  | _, _, .nil => .nil
  | _, _, .cons a b => .cons a.bor (ResAll.bor b)
theorem ResAll.keep {O : Addr → Bool} {H H' : Hp} : ∀ {rs : List (MV × Tg)} {vs : List V} {xs : List MV}, ResAll O H H' rs vs → rs.mapM Mn.keep = some xs → RepAll (Vw H' O) vs xs
  | _, _, xs, .nil, e => by
    rw [List.mapM_nil] at e
    cases e
    exact .nil
  | _, _, xs, .cons (r := r) (rs := rs) a b, e => by
    rw [List.mapM_cons] at e
    obtain ⟨y, e1, e⟩ := Option.bind_eq_some_iff.mp e
    obtain ⟨ys, e2, e⟩ := Option.bind_eq_some_iff.mp e
    cases e
    exact .cons (a.keep e1) (ResAll.keep b e2)
theorem ResAll.length {O : Addr → Bool} {H H' : Hp} : ∀ {rs : List (MV × Tg)} {vs : List V}, ResAll O H H' rs vs → vs.length = rs.length
  | _, _, .nil => rfl
  | _, _, .cons _ b => by rw [List.length_cons, List.length_cons, ResAll.length b]
/-- no owned list among them: all are seen -/
theorem ResAll.vis {O : Addr → Bool} {H H' : Hp} : ∀ {rs : List (MV × Tg)} {vs : List V}, ResAll O H H' rs vs → (rs.all fun x => decide (x.2 ≠ .bo)) = true → RepAll (Vw H' O) vs (rs.map (·.1))
  | _, _, .nil, _ => .nil
  | _, _, .cons (r := (x, t)) a b, h => by
    rw [List.all_cons, Bool.and_eq_true] at h
    refine .cons ?_ (ResAll.vis b h.2)
    cases t with
    | sh => exact a
    | fr => exact a.1
    | bo => exact absurd rfl (of_decide_eq_true h.1)

/-! ### targets -/
def tG (t : TGT) : TG := fun v σ H Q => ∃ H0 O0 σm O x σm', Sim H0 O0 σm O σ H ∧ Rep (Vw H O) v x ∧ putT σm t x = some σm' ∧
  ∀ σ', Sim H0 O0 σm' O σ' H → (∀ vs : List Nat, (∀ i ∈ tgSlots t, i ∈ vs) → wipe σ' vs = wipe σ vs) → Q σ' H

theorem wipe_eq_of {σ : L2.St} {i : Nat} {v : Option V} : ∀ {vs : List Nat}, i ∈ vs → wipe (σ.set i v) vs = wipe σ vs
  | w :: vs, h => by
    by_cases hi : i ∈ vs
    · unfold wipe
      rw [wipe_eq_of hi]
    · have e : i = w := by
        rcases List.mem_cons.mp h with e | e
        · exact e
        · exact absurd e hi
      subst e
      unfold wipe
      have key : ∀ (us : List Nat) (τ : L2.St), i ∉ us → wipe (τ.set i v) us = (wipe τ us).set i v := by
        intro us
        induction us with
        | nil => intro τ _; rfl
        | cons u us ih =>
          intro τ hn
          unfold wipe
          rw [ih τ (fun m => hn (List.mem_cons_of_mem _ m))]
          exact List.set_comm _ _ (fun z => hn (by rw [z]; exact List.mem_cons_self))
      rw [key vs σ hi, List.set_set]

theorem pg_nm {X : Cx} {i : Nat} {x : Str} {pos : Pos} (hN : X.N.Nodup) (hi : X.N[i]? = some x) (hx : Loc X.env.scope x) (hf : X.fn x = true ∨ X.env.scope.names.lookup x = some .local) : PG X (.Name x pos) (tG (.nm i)) := by
  refine ⟨fun pins s σ H v u Q I r h => ?_⟩
  obtain ⟨H0, O0, σm, O, y, σm', S, rp, e, k⟩ := h
  cases e
  exact (pg_name hN hi hx hf).run pins s σ H v u Q I r (k _ (S.put rp) fun vs hv => wipe_eq_of (hv i (List.mem_singleton.mpr rfl)))

/-- several names, one after another -/
def tGs (is : List Nat) : TGs := fun vs σ H Q => ∃ H0 O0 σm O xs σm', Sim H0 O0 σm O σ H ∧ RepAll (Vw H O) vs xs ∧ putAll σm is xs = some σm' ∧
  ∀ σ', Sim H0 O0 σm' O σ' H → (∀ ws : List Nat, (∀ i ∈ is, i ∈ ws) → wipe σ' ws = wipe σ ws) → Q σ' H
theorem pgs_no {X : Cx} : PGs X [] (tGs []) := by
  refine ⟨fun pins s σ H vs us Q I r h => ?_⟩
  obtain ⟨H0, O0, σm, O, xs, σm', S, rp, e, k⟩ := h
  cases rp with
  | nil =>
    cases e
    exact pgs_nil.run pins s σ H [] us Q I r ⟨rfl, k σ S fun _ _ => rfl⟩
  | cons _ _ => unfold putAll at e; cases e
theorem pgs_nm {X : Cx} {i : Nat} {is : List Nat} {x : Str} {pos : Pos} {es : List Expr} (hN : X.N.Nodup) (hi : X.N[i]? = some x) (hx : Loc X.env.scope x) (hf : X.fn x = true ∨ X.env.scope.names.lookup x = some .local) (h2 : PGs X es (tGs is)) :
    PGs X (.Name x pos :: es) (tGs (i :: is)) := by
  refine ⟨fun pins s σ H vs us Q I r h => ?_⟩
  obtain ⟨H0, O0, σm, O, xs, σm', S, rp, e, k⟩ := h
  cases rp with
  | nil => unfold putAll at e; cases e
  | cons r1 r2 =>
    unfold putAll at e
    refine (pgs_cons (pg_name hN hi hx hf) h2).run pins s σ H _ us Q I r ⟨_, _, rfl, ?_⟩
    refine ⟨H0, O0, _, O, _, σm', S.put r1, r2, e, fun σ' S' w => k σ' S' fun ws hw => ?_⟩
    rw [w ws fun j hj => hw j (List.mem_cons_of_mem _ hj)]
    exact wipe_eq_of (hw i List.mem_cons_self)
theorem pg_tp {X : Cx} {is : List Nat} {es : List Expr} {k : Nat} {pos : Pos} (hc : X.calm = true) (h : PGs X es (tGs is)) (hn : (assignEach es X.env).length = is.length) (hst : (assignEach es X.env).findIdx? (·.1) = none) :
    PG X (.Tuple es k pos) (tG (.tp is)) := by
  refine ⟨fun pins s σ H v u Q I r hw => ?_⟩
  obtain ⟨H0, O0, σm, O, y, σm', S, rp, e, q⟩ := hw
  cases y with
  | tup xs =>
    have e' : putAll σm is xs = some σm' := e
    cases rp with
    | tup r1 r2 =>
      have hl : xs.length = is.length := by
        have key : ∀ (is : List Nat) (xs : List MV) (τ τ' : MS), putAll τ is xs = some τ' → xs.length = is.length := by
          intro is
          induction is with
          | nil => intro xs τ τ' e; cases xs with
            | nil => rfl
            | cons _ _ => unfold putAll at e; cases e
          | cons i is ih => intro xs τ τ' e; cases xs with
            | nil => unfold putAll at e; cases e
            | cons x xs => unfold putAll at e; rw [List.length_cons, List.length_cons, ih xs _ _ e]
        exact key is xs σm σm' e'
      refine (pg_tup hc h hn hst).run pins s σ H _ u Q I r ⟨_, _, rfl, SqT.rd (Rd.up Vw_le r1), by rw [r2.length, hl], ?_⟩
      exact ⟨H0, O0, σm, O, xs, σm', S, r2, e', q⟩
  | _ => unfold putT at e; cases e

/-! ### what is walked -/
/-- what must stand for a walk to go on -/
def stay (tg : Tg) (O : Addr → Bool) (H H2 : Hp) : Prop := ∀ b o, H b = some o → (tg = .bo ∨ O b = false) → H2 b = some o
/-- an iterator that gives vs -/
def ItR (tg : Tg) (O : Addr → Bool) (H : Hp) (vs : List V) (J : It) : Prop := ∀ H2, stay tg O H H2 → ∀ i, (vs.length ≤ i → J.stop i H2) ∧ (i < vs.length → J.go i H2 ∧ ∀ x H3, J.yld i H2 x H3 → H3 = H2 ∧ vs[i]? = some x)
def tI (Φ : Fns) (c : CI) : TI := fun σ H R => ∃ H0 O0 σm O r, Sim H0 O0 σm O σ H ∧ evI Φ c σm = some r ∧ ∀ J H' vs, Same H H' → RepAll (Vw H' O) vs r.1 → ItR r.2 O H' vs J → R J H'

theorem stay.rd {tg : Tg} {O : Addr → Bool} {H H2 : Hp} {a : Addr} {u : HO} (s : stay tg O H H2) (h : Rd H a u) (n : tg = .bo ∨ O a = false) : Rd H2 a u := by
  rcases h with h | ⟨o, h⟩
  · exact .inl (s _ _ h n)
  · exact .inr ⟨o, s _ _ h n⟩
theorem Rd.lst_inj {H : Hp} {a : Addr} {xs ys : List V} (h : Rd H a (.lst xs)) (h' : Rd H a (.lst ys)) : xs = ys := by
  rcases h with h | ⟨o, h⟩ <;> rcases h' with h' | ⟨o', h'⟩ <;> rw [h] at h' <;> cases h' <;> rfl
theorem Rd.tup_inj {H : Hp} {a : Addr} {xs ys : List V} (h : Rd H a (.tup xs)) (h' : Rd H a (.tup ys)) : xs = ys := by
  rcases h with h | ⟨o, h⟩ <;> rcases h' with h' | ⟨o', h'⟩ <;> rw [h] at h' <;> cases h' <;> rfl

theorem itr_list {K : PySem.W.Frag} {tg : Tg} {O : Addr → Bool} {H : Hp} {a : Addr} {vs : List V} (h : Rd H a (.lst vs)) (n : tg = .bo ∨ O a = false) : ItR tg O H vs (Itl K a) := fun H2 s i =>
  have r : SqL K H2 a vs := .inl (s.rd h n)
  ⟨fun hi => ⟨vs, r, hi⟩, fun hi => ⟨⟨vs, vs[i], r, List.getElem?_eq_getElem hi⟩, fun x H3 y => ⟨y.1, y.2 vs r⟩⟩⟩
theorem itr_tup {K : PySem.W.Frag} {tg : Tg} {O : Addr → Bool} {H : Hp} {a : Addr} {vs : List V} (h : Rd H a (.tup vs)) (n : tg = .bo ∨ O a = false) : ItR tg O H vs (Itt K a) := fun H2 s i =>
  have r : SqT K H2 a vs := .inl (s.rd h n)
  ⟨fun hi => ⟨vs, r, hi⟩, fun hi => ⟨⟨vs, vs[i], r, List.getElem?_eq_getElem hi⟩, fun x H3 y => ⟨y.1, y.2 vs r⟩⟩⟩
def rngV (lo : Int) : Nat → List V
  | 0 => []
  | n + 1 => .int lo :: rngV (lo + 1) n
theorem rngV_get : ∀ (n : Nat) (lo : Int) (i : Nat), i < n → (rngV lo n)[i]? = some (.int (lo + i))
  | n + 1, lo, 0, _ => by
    show some (V.int lo) = some (V.int (lo + ((0 : Nat) : Int)))
    rw [Int.natCast_zero, Int.add_zero]
  | n + 1, lo, i + 1, h => by
    show (rngV (lo + 1) n)[i]? = _
    rw [rngV_get n (lo + 1) i (Nat.lt_of_succ_lt_succ h)]
    congr 2
    omega
theorem rngV_length : ∀ (n : Nat) (lo : Int), (rngV lo n).length = n
  | 0, _ => rfl
  | n + 1, lo => by show (rngV (lo + 1) n).length + 1 = n + 1; rw [rngV_length n]
theorem rng_rep {G : Hp} : ∀ (n : Nat) (lo : Int), RepAll G (rngV lo n) (rngM lo n)
  | 0, _ => .nil
  | n + 1, lo => .cons (.int lo) (rng_rep n (lo + 1))
theorem itr_rng {tg : Tg} {O : Addr → Bool} {H : Hp} {lo : Int} {n : Nat} : ItR tg O H (rngV lo n) (Itr lo n) := fun H2 s i => by
  rw [rngV_length]
  refine ⟨fun hi => hi, fun hi => ⟨hi, fun x H3 y => ⟨y.1, ?_⟩⟩⟩
  rw [rngV_get n lo i hi, y.2]

theorem Bor.seen {O : Addr → Bool} {H : Hp} {x : MV} {t : Tg} {v : V} {a : Addr} {H1 : Hp} {l : List MV} (h : ResOk O H1 H (x, t) v) (e : v = .ref a) (es : seqOf x = some l) : t = .bo ∨ O a = false := by
  have vis : ∀ {y : MV}, Rep (Vw H O) v y → seqOf y = some l → O a = false := fun {y} r ey => by
    cases r with
    | tup z _ => cases e; rcases z with z | ⟨o, z⟩ <;> exact (Vw_some z).1
    | lst z _ => cases e; rcases z with z | ⟨o, z⟩ <;> exact (Vw_some z).1
    | _ => cases ey
  cases t with
  | sh => exact .inr (vis h es)
  | fr => exact .inr (vis h.1 es)
  | bo => exact .inl rfl

section
variable {X : Cx} {tg : Expr} {Φ : Fns}
theorem pi_seq {e : Expr} {c : CE} (h : PE X e (tE Φ c)) : PI X tg e (tI Φ (.seq c)) := by
  refine ⟨fun pins s σ H R I ⟨H0, O0, σm, O, r, S, ev', k⟩ => ?_⟩
  unfold evI at ev'
  obtain ⟨⟨x, t⟩, e1, ev'⟩ := Option.bind_eq_some_iff.mp ev'
  obtain ⟨l, e2, ev'⟩ := Option.bind_eq_some_iff.mp ev'
  cases ev'
  cases x with
  | lst m =>
    refine (pi_list h).run pins s σ H R I (tE_of S e1 fun v H1 s1 q => ?_)
    obtain ⟨a, vs, ea, ra, hk⟩ := q.bor.lst
    cases e2
    exact ⟨a, ea, ⟨vs, SqL.rd hk⟩, k _ H1 vs s1 ra (itr_list hk (Bor.seen q ea rfl))⟩
  | tup m =>
    refine (pi_tup h).run pins s σ H R I (tE_of S e1 fun v H1 s1 q => ?_)
    obtain ⟨a, vs, ea, ra, hk⟩ := q.bor.tup
    cases e2
    exact ⟨a, ea, ⟨vs, SqT.rd hk⟩, k _ H1 vs s1 ra (itr_tup hk (Bor.seen q ea rfl))⟩
  | _ => cases e2
theorem rngOk_of {i : Int} (h : rngOk i = true) : -(2 ^ 62) ≤ i ∧ i < 2 ^ 62 := by
  unfold rngOk at h
  rw [Bool.and_eq_true] at h
  have h1 := of_decide_eq_true h.1
  have h2 := of_decide_eq_true h.2
  unfold RNG at h1 h2
  exact ⟨h1, h2⟩
theorem itr_rlist {K : PySem.W.Frag} {tg : Tg} {O : Addr → Bool} {H : Hp} {a : Addr} {vs : List V} (h : Rd H a (.lst vs)) (n : tg = .bo ∨ O a = false) : ItR tg O H vs.reverse (Itv K a vs.length) := fun H2 s i =>
  have r : SqL K H2 a vs := .inl (s.rd h n)
  ⟨fun hi => by rw [List.length_reverse] at hi; exact hi, fun hi => by
    rw [List.length_reverse] at hi
    have e : vs.reverse[i]? = vs[vs.length - 1 - i]? := List.getElem?_reverse hi
    refine ⟨⟨hi, vs, vs[vs.length - 1 - i], r, List.getElem?_eq_getElem (by omega)⟩, fun x H3 y => ⟨y.1, ?_⟩⟩
    rw [e]; exact y.2 vs r⟩
theorem itr_rtup {K : PySem.W.Frag} {tg : Tg} {O : Addr → Bool} {H : Hp} {a : Addr} {vs : List V} (h : Rd H a (.tup vs)) (n : tg = .bo ∨ O a = false) : ItR tg O H vs.reverse (RT.ItvT K a vs.length) := fun H2 s i =>
  have r : SqT K H2 a vs := .inl (s.rd h n)
  ⟨fun hi => by rw [List.length_reverse] at hi; exact hi, fun hi => by
    rw [List.length_reverse] at hi
    have e : vs.reverse[i]? = vs[vs.length - 1 - i]? := List.getElem?_reverse hi
    refine ⟨⟨hi, vs, vs[vs.length - 1 - i], r, List.getElem?_eq_getElem (by omega)⟩, fun x H3 y => ⟨y.1, ?_⟩⟩
    rw [e]; exact y.2 vs r⟩
theorem RepAll.rev {G : Hp} {vs : List V} {xs : List MV} (h : RepAll G vs xs) : RepAll G vs.reverse xs.reverse := by
  have snoc : ∀ {vs : List V} {xs : List MV} {v : V} {x : MV}, RepAll G vs xs → Rep G v x → RepAll G (vs ++ [v]) (xs ++ [x]) := by
    intro vs
    induction vs with
    | nil => intro xs v x h r; cases h; exact .cons r .nil
    | cons w ws ih => intro xs v x h r; cases h with | cons a b => exact .cons a (ih b r)
  induction vs generalizing xs with
  | nil => cases h; exact .nil
  | cons w ws ih => cases h with | cons a b => rw [List.reverse_cons, List.reverse_cons]; exact snoc (ih b) a
theorem pi_rev {e : Expr} {c : CE} {p pos : Pos} (hg : Gl X "reversed") (hm : X.mg "reversed" = none) (he : PE X e (tE Φ c)) (hs : starEach [e] X.env = (false, eval e X.env) :: starEach [] X.env) : PI X tg (.Call (.Name "reversed" p) [e] [] pos) (tI Φ (.rev c)) := by
  refine ⟨fun pins s σ H R I ⟨H0, O0, σm, O, r, S, ev', k⟩ => ?_⟩
  unfold evI at ev'
  obtain ⟨⟨x, t⟩, e1, ev'⟩ := Option.bind_eq_some_iff.mp ev'
  obtain ⟨l, e2, ev'⟩ := Option.bind_eq_some_iff.mp ev'
  cases ev'
  refine (RT.pi_revA hg hm he hs).run pins s σ H R I (tE_of S e1 fun v H1 s1 q => ?_)
  cases x with
  | lst m =>
    obtain ⟨a, vs, ea, ra, hk⟩ := q.bor.lst
    cases e2
    exact ⟨a, vs, ea, .inl ⟨SqL.rd hk, k _ H1 vs.reverse s1 ra.rev (itr_rlist hk (Bor.seen q ea rfl))⟩⟩
  | tup m =>
    obtain ⟨a, vs, ea, ra, hk⟩ := q.bor.tup
    cases e2
    exact ⟨a, vs, ea, .inr ⟨SqT.rd hk, k _ H1 vs.reverse s1 ra.rev (itr_rtup hk (Bor.seen q ea rfl))⟩⟩
  | _ => cases e2
theorem pi_rng1 {a : Expr} {c : CE} {p pos : Pos} (hg : Gl X "range") (hm : X.mg "range" = none) (ha : PA X [a] (tA Φ [c])) (hs : starEach [a] X.env = [(false, eval a X.env)]) : PI X tg (.Call (.Name "range" p) [a] [] pos) (tI Φ (.rng1 c)) := by
  refine ⟨fun pins s σ H R I ⟨H0, O0, σm, O, r, S, ev', k⟩ => ?_⟩
  unfold evI at ev'
  obtain ⟨⟨x, t⟩, e1, ev'⟩ := Option.bind_eq_some_iff.mp ev'
  cases x with
  | int n =>
    simp only at ev'
    split at ev'
    · rename_i hn
      cases ev'
      refine (pi_range1 hg hm ha hs).run pins s σ H R I ⟨H0, O0, σm, O, [(.int n, t)], S, by unfold evs; rw [e1]; rfl, fun vs H1 s1 q => ?_⟩
      cases q with
      | cons q1 q2 =>
        cases q2
        obtain rfl := q1.bor.int
        obtain ⟨b1, b2⟩ := rngOk_of hn
        exact ⟨n, rfl, b1, b2, k _ H1 _ s1 (rng_rep n.toNat 0) itr_rng⟩
    · cases ev'
  | _ => cases ev'
theorem pi_rng2 {a b : Expr} {c d : CE} {p pos : Pos} (hg : Gl X "range") (hm : X.mg "range" = none) (ha : PA X [a, b] (tA Φ [c, d])) (hs : starEach [a, b] X.env = [(false, eval a X.env), (false, eval b X.env)]) (hs2 : starEach [b] X.env = [(false, eval b X.env)]) :
    PI X tg (.Call (.Name "range" p) [a, b] [] pos) (tI Φ (.rng2 c d)) := by
  refine ⟨fun pins s σ H R I ⟨H0, O0, σm, O, r, S, ev', k⟩ => ?_⟩
  unfold evI at ev'
  obtain ⟨⟨x, t⟩, e1, ev'⟩ := Option.bind_eq_some_iff.mp ev'
  obtain ⟨⟨y, u⟩, e2, ev'⟩ := Option.bind_eq_some_iff.mp ev'
  have key : ∃ m n, x = .int m ∧ y = .int n ∧ (rngOk m && rngOk n) = true ∧ r = (rngM m (n - m).toNat, .sh) := by
    cases x <;> cases y <;> simp only at ev' <;> first | cases ev' | skip
    split at ev'
    · cases ev'; exact ⟨_, _, rfl, rfl, by assumption, rfl⟩
    · cases ev'
  obtain ⟨m, n, rfl, rfl, hn, rfl⟩ := key
  rw [Bool.and_eq_true] at hn
  refine (pi_range2 hg hm ha hs hs2).run pins s σ H R I ⟨H0, O0, σm, O, [(.int m, t), (.int n, u)], S, by unfold evs evs evs; rw [e1, e2]; rfl, fun vs H1 s1 q => ?_⟩
  cases q with
  | cons q1 q2 =>
    cases q2 with
    | cons q2 q3 =>
      cases q3
      obtain rfl := q1.bor.int
      obtain rfl := q2.bor.int
      obtain ⟨b1, b2⟩ := rngOk_of hn.1
      obtain ⟨b3, b4⟩ := rngOk_of hn.2
      exact ⟨m, n, rfl, ⟨b1, b2, b3, b4⟩, k _ H1 _ s1 (rng_rep (n - m).toNat m) itr_rng⟩
end
end Mn

set_option Elab.async false
set_option linter.all false
set_option maxRecDepth 100000
set_option maxHeartbeats 2000000
/-! Mn5: a def's call; comprehensions; the check of expressions, and that it is right. -/
namespace Mn
open PySem L2

/-! ### calls of defs: a promise for a caller within which no repr runs -/
structure FnG (P : Program) (w : World) (K : PySem.W.Frag) (mg : Str → Option Value) (base : Heap) (k : Nat) (f : Addr) (fd : FuncData) (ps : List Str) (sp : Sp) : Prop where
  len : ∀ vs H Q E, sp vs H Q E → vs.length = ps.length
  go : ∀ (A : Around) (outer : List Env) (s : Shared) (H : Hp) (args : Args) (us : List Value) (vs : List V) (Q : VK) (E : XK),
    Room k A → A.guards = some [] → Env0 P w K mg base A outer s H → BindsTo s fd args (ps.zip us) → Vals vs us → sp vs H Q E →
    codeAny (model P w) A (.call (.ref f) args) (CR CX0 outer P w H s Q E) s

def tagOf (b : Bool) : Tg := if b then .fr else .sh
/-- what a def promises -/
def spM (φ : List MV → Option (MV × Bool)) : Sp := fun vs H Q _ => ∃ O xs r, Dom O H ∧ RepAll (Vw H O) vs xs ∧ φ xs = some r ∧ Post O H Q (r.1, tagOf r.2)

structure FnAt (X : Cx) (φ : List MV → Option (MV × Bool)) (x : Str) : Prop where
  ex : ∃ (a : Addr) (fd : FuncData) (ps : List Str) (k : Nat), X.mg x = some (.ref a) ∧ PySem.W.keepIn X.K (.ref a) = true ∧ Binds X.K fd ps [] ∧ Room k X.A ∧ FnG X.prog X.w X.K X.mg X.base k a fd ps (spM φ)

section
variable {X : Cx}
theorem call_run {φ : List MV → Option (MV × Bool)} {a : Addr} {fd : FuncData} {ps : List Str} {k : Nat} (hb : Binds X.K fd ps []) (hr : Room k X.A) (hg : X.A.guards = some []) (F : FnG X.prog X.w X.K X.mg X.base k a fd ps (spM φ))
    {pins : List (Addr × Obj)} {σ : L2.St} {H : Hp} {s : Shared} {Q : VK} {us : List Value} {vs : List V} (I : Inv X pins σ H s) (r : Vals vs us) (h : spM φ vs H Q E0) : wpAny (model X.prog X.w) X.A (PySem.call (.ref a) us) (EP X pins σ Q) X.xe s := by
  have hl : us.length = ps.length := r.length.symm.trans (F.len _ _ _ _ h)
  have hB : BindsTo s fd ⟨us, []⟩ (ps.zip us) := by
    have z := hb s us I.kIn (by rw [List.append_nil]; exact hl)
    rw [List.append_nil] at z
    exact z
  refine wpAny_call (codeAny_mono (F.go X.A X.stack s H _ us vs Q E0 hr hg I.env0 hB r h) fun res s' hq => ?_)
  cases res with
  | error e => exact False.elim hq
  | ok fl => cases fl with
    | ret u => exact I.after hq
    | next => exact False.elim hq
    | brk => exact False.elim hq
    | cont => exact False.elim hq

theorem noLst_res {O : Addr → Bool} {H H' : Hp} {x : MV} {b : Bool} {v : V} (d0 : Dom O H) (sH : Same H H') (n : freeOf (x, b) = true) (h : ResOk (fun _ => false) H H' (x, tagOf b) v) : ResOk O H H' (x, tagOf b) v := by
  have d := d0.up sH
  have plain : x.noLst = true → ResOk O H H' (x, tagOf b) v := fun n1 => by
    have r : Rep H' v x := h.bor.rep
    clear n
    cases b with
    | false => exact r.hid d n1
    | true =>
      refine ⟨r.hid d n1, fun l e => ?_⟩
      rw [e] at n1
      unfold MV.noLst at n1
      cases n1
  cases x with
  | lst l =>
    cases b with
    | false => exact plain n
    | true =>
      obtain ⟨p, vs, e, hp, hq, r⟩ := h.2 l rfl
      subst e
      have r' : RepAll H' vs l := r.up Vw_le
      have dp : Dom (add O p) H' := fun q hq' => by
        rcases of_add hq' with z | z
        · exact d q z
        · rw [z]; exact ⟨vs, hq⟩
      refine ⟨.lst (.inl (Vw_of (d0.new hp) hq)) (r'.hid d n), fun m em => ?_⟩
      cases em
      exact ⟨p, vs, rfl, hp, hq, r'.hid dp n⟩
  | _ => exact plain (by cases b <;> exact n)
theorem dom_no {H : Hp} : Dom (fun _ => false) H := fun p h => by cases h
theorem same_no {H : Hp} : Same H (Vw H fun _ => false) := fun b o h => Vw_of rfl h

theorem evs_length {Φ : Fns} {σ : MS} : ∀ {es : List CE} {rs : List (MV × Tg)}, evs Φ es σ = some rs → rs.length = es.length
  | [], rs, h => by unfold evs at h; cases h; rfl
  | e :: es, rs, h => by
    unfold evs at h
    obtain ⟨x, e1, h⟩ := Option.bind_eq_some_iff.mp h
    obtain ⟨xs, e2, h⟩ := Option.bind_eq_some_iff.mp h
    cases h
    rw [List.length_cons, List.length_cons, evs_length e2]

/-- what the promise asks, from the arguments' values -/
theorem sp_of {Φ : Fns} {f : Nat} {cs : List CE} {H0 H H1 : Hp} {O0 O : Addr → Bool} {σm : MS} {σ : L2.St} {r : MV × Tg} {rs : List (MV × Tg)} {vs : List V} {Q : VK} (S : Sim H0 O0 σm O σ H) (e1 : evs Φ cs σm = some rs) (e : ev Φ (.call f cs) σm = some r) (p : Post O H Q r)
    (s1 : Same H H1) (q : ResAll O H H1 rs vs) : spM (Φ f) vs H1 Q E0 := by
  unfold ev at e
  rw [e1] at e
  simp only [Option.bind_some] at e
  obtain ⟨⟨x, b⟩, e2, e⟩ := Option.bind_eq_some_iff.mp e
  split at e
  · rename_i hc
    cases e
    by_cases hv : (rs.all fun x => decide (x.2 ≠ .bo)) = true
    · exact ⟨O, _, (x, b), (S.up s1).dom, q.vis hv, e2, fun v H' s' h => p v H' (s1.trans s') (ResOk.weak s1 h)⟩
    · have n : freeOf (x, b) = true := by
        rw [Bool.or_eq_true] at hc
        rcases hc with hc | hc
        · exact absurd hc hv
        · exact hc
      refine ⟨fun _ => false, _, (x, b), dom_no, q.bor.rep.up same_no, e2, fun v H' s' h => p v H' (s1.trans s') (ResOk.weak s1 ?_)⟩
      exact noLst_res (S.up s1).dom s' n h
  · cases e

theorem pe_fn {Φ : Fns} {f : Nat} {x : Str} {p pos : Pos} {a : Expr} {as : List Expr} {c : CE} {cs : List CE} (F : FnAt X (Φ f) x) (hg : X.A.guards = some []) (hgl : Gl X x) (hd : (x == ("__debug__" : Str)) = false) (ha : PA X (a :: as) (tA Φ (c :: cs)))
    (hs : starEach (a :: as) X.env = (false, eval a X.env) :: starEach as X.env) (hpl : (backTo pos (starEach as X.env)).any (·.1) = false) : PE X (.Call (.Name x p) (a :: as) [] pos) (tE Φ (.call f (c :: cs))) := by
  obtain ⟨ad, fd, ps, k, hm, hk, hb, hr, G⟩ := F.ex
  refine ⟨fun pins s σ H Q I ⟨H0, O0, σm, O, r, S, e, q⟩ => ?_⟩
  refine wpAny_Call_Name_kw (ld_glob I hgl hm ?_ hd)
  have e' := e
  unfold ev at e'
  obtain ⟨rs, e1, _⟩ := Option.bind_eq_some_iff.mp e'
  have go := ha.run pos pins s σ H (fun vs H1 => spM (Φ f) vs H1 Q E0) I ⟨H0, O0, σm, O, rs, S, e1, fun vs H1 s1 ra => sp_of S e1 e q s1 ra⟩
  refine PySem.W.callWith_K (h₀ := X.base) I.ok.mod.kin hk (thn go fun us s1 ⟨vs, H1, I1, rv, h1⟩ => ⟨I1.kIn, ?_⟩) hs hpl
  exact call_run hb hr hg G I1 rv h1
theorem pe_fn0 {Φ : Fns} {f : Nat} {x : Str} {p pos : Pos} (F : FnAt X (Φ f) x) (hg : X.A.guards = some []) (hgl : Gl X x) (hd : (x == ("__debug__" : Str)) = false) : PE X (.Call (.Name x p) [] [] pos) (tE Φ (.call f [])) := by
  obtain ⟨ad, fd, ps, k, hm, hk, hb, hr, G⟩ := F.ex
  refine ⟨fun pins s σ H Q I ⟨H0, O0, σm, O, r, S, e, q⟩ => ?_⟩
  refine wpAny_Call_Name_kw (ld_glob I hgl hm ?_ hd)
  exact PySem.W.callWith_K0 I.kIn hk (call_run (us := []) hb hr hg G I .nil (sp_of S (rs := []) rfl e q (Same.refl H) .nil))

/-! ### argument lists -/
theorem ResAll.weak {O : Addr → Bool} {H0 H H1 : Hp} (s : Same H0 H) : ∀ {rs : List (MV × Tg)} {vs : List V}, ResAll O H H1 rs vs → ResAll O H0 H1 rs vs
  | _, _, .nil => .nil
  | _, _, .cons a b => .cons (ResOk.weak s a) (ResAll.weak s b)
theorem pa_no {Φ : Fns} : PA X [] (tA Φ []) := ⟨fun pos pins s σ H Q I ⟨H0, O0, σm, O, rs, S, e, k⟩ => by
  cases e
  exact pa_nil.run pos pins s σ H Q I (k [] H (Same.refl H) .nil)⟩
theorem pa_more {Φ : Fns} {a : Expr} {as : List Expr} {c : CE} {cs : List CE} (ha : PE X a (tE Φ c)) (hr : PA X as (tA Φ cs)) (hs : starEach (a :: as) X.env = (false, eval a X.env) :: starEach as X.env) : PA X (a :: as) (tA Φ (c :: cs)) := by
  refine ⟨fun pos pins s σ H Q I ⟨H0, O0, σm, O, rs, S, e, k⟩ => ?_⟩
  unfold evs at e
  obtain ⟨x, e1, e⟩ := Option.bind_eq_some_iff.mp e
  obtain ⟨xs, e2, e⟩ := Option.bind_eq_some_iff.mp e
  cases e
  refine (pa_cons ha hr hs).run pos pins s σ H Q I (tE_of S e1 fun v H1 s1 q1 => ?_)
  exact ⟨H0, O0, σm, O, xs, S.up s1, e2, fun vs H2 s2 q2 => k (v :: vs) H2 (s1.trans s2) (.cons (q1.up s2) (q2.weak s1))⟩

/-! ### a comprehension -/
def tTs (Φ : Fns) (cs : List CE) : TT := fun σ H Q => ∃ H0 O0 σm O b, Sim H0 O0 σm O σ H ∧ evT Φ cs σm = some b ∧ ∀ H', Same H H' → Q b H'

theorem wipe_put {σ : L2.St} {v : Nat} : ∀ {vs : List Nat}, v ∈ vs → (wipe σ vs).set v none = wipe σ vs
  | w :: vs, h => by
    unfold wipe
    by_cases e : v = w
    · rw [e, List.set_set]
    · have m : v ∈ vs := by
        rcases List.mem_cons.mp h with z | z
        · exact absurd z e
        · exact z
      rw [List.set_comm _ _ (fun z => e z.symm), wipe_put m]
theorem wipe_idem (σ : L2.St) (ws : List Nat) : ∀ vs : List Nat, (∀ v ∈ vs, v ∈ ws) → wipe (wipe σ ws) vs = wipe σ ws
  | [], _ => rfl
  | v :: vs, h => by
    show (wipe (wipe σ ws) vs).set v none = wipe σ ws
    rw [wipe_idem σ ws vs fun u hu => h u (List.mem_cons_of_mem _ hu)]
    exact wipe_put (h v List.mem_cons_self)

theorem lc_of {Φ : Fns} {elt : CE} {tg : TGT} {it : CI} {ifs : List CE} {σ : L2.St} {H : Hp} {Q : VK} (h : tE Φ (.comp elt tg it ifs) σ H Q) :
    tLc (tI Φ it) (tG tg) (tTs Φ ifs) (tE Φ elt) (tgSlots tg) σ H Q := by
  obtain ⟨H0, O0, σm, O, r, S, e, post⟩ := h
  unfold ev at e
  obtain ⟨items, e1, e⟩ := Option.bind_eq_some_iff.mp e
  obtain ⟨l, e2, e⟩ := Option.bind_eq_some_iff.mp e
  split at e
  case isFalse => cases e
  rename_i hz
  cases e
  refine ⟨H0, O0, σm, O, items, S, e1, fun J H1 vs s1 ra itr D hD => ?_⟩
  have hlen : vs.length = items.1.length := ra.length
  generalize hf : (fun x => (putT (wipeM σm (tgSlots tg)) tg x).bind fun σ' => (evT Φ ifs σ').bind fun t =>
        if t = true then (ev Φ elt σ').bind fun y => (keep y).bind fun v => some [v] else some []) = f at e2
  refine ⟨fun i m H2 => m = vs.length - i ∧ i ≤ vs.length ∧ Same H1 H2 ∧ ∃ accV accM rest, H2 D = some (.lst accV) ∧ RepAll (Vw H2 (add O D)) accV accM ∧ turns f (items.1.drop i) = some rest ∧ accM ++ rest = l, ⟨vs.length, ?_⟩, ?_⟩
  · exact ⟨rfl, Nat.zero_le _, same_upd hD, [], [], l, upd_same, .nil, e2, rfl⟩
  rintro i m H2 ⟨rfl, hi, s2, accV, accM, rest, hD2, rac, ht, hl⟩
  have hst : stay items.2 O H1 H2 := fun b o e _ => s2 b o e
  have S2 : Sim H0 O0 σm (add O D) σ H2 := (S.up s1).hide hD s2 hD2
  by_cases hlt : i < vs.length
  · obtain ⟨_, hgo⟩ := itr H2 hst i
    obtain ⟨go, hy⟩ := hgo hlt
    have hlt' : i < items.1.length := by rw [← hlen]; exact hlt
    have hdrop : items.1.drop i = items.1[i] :: items.1.drop (i + 1) := List.drop_eq_getElem_cons hlt'
    rw [hdrop] at ht
    unfold turns at ht
    obtain ⟨ys, e3, ht⟩ := Option.bind_eq_some_iff.mp ht
    obtain ⟨rest', e4, ht⟩ := Option.bind_eq_some_iff.mp ht
    cases ht
    have e3' := e3
    rw [← hf] at e3
    obtain ⟨σ', e5, e3⟩ := Option.bind_eq_some_iff.mp e3
    obtain ⟨b, e6, e3⟩ := Option.bind_eq_some_iff.mp e3
    refine .inr ⟨go, fun H' => i + 1 ≤ vs.length ∧ Same H1 H' ∧ ∃ accV accM rest, H' D = some (.lst accV) ∧ RepAll (Vw H' (add O D)) accV accM ∧ turns f (items.1.drop (i + 1)) = some rest ∧ accM ++ rest = l,
      fun H' q => ⟨vs.length - (i + 1), by omega, rfl, q.1, q.2⟩, fun x H3 hx => ?_⟩
    obtain ⟨e3H, hxv⟩ := hy x H3 hx
    subst e3H
    obtain ⟨xm, hxm, rx⟩ := ra.getV i hxv
    have exm : items.1[i] = xm := by
      rw [List.getElem?_eq_getElem hlt'] at hxm
      exact Option.some.inj hxm
    rw [exm] at e5
    refine ⟨H0, O0, wipeM σm (tgSlots tg), add O D, xm, σ', S2.wipe _, rx.up (Vw_new s2 hD), e5, fun σ2 S3 w => ⟨?_, ?_⟩⟩
    · rw [w _ fun j hj => hj, wipe_idem σ _ _ fun j hj => hj]
    refine ⟨H0, O0, σ', add O D, b, S3, e6, fun H4 s4 => ?_⟩
    have sH4 : Same H1 H4 := s2.trans s4
    cases b with
    | true =>
      rw [if_pos rfl] at e3
      obtain ⟨y, e7, e3⟩ := Option.bind_eq_some_iff.mp e3
      obtain ⟨v, e8, e3⟩ := Option.bind_eq_some_iff.mp e3
      cases e3
      refine iteT ?_
      refine tE_of (S3.up s4) e7 fun yv H5 s5 q5 => ?_
      have ek := q5.keep e8
      have hD5 : H5 D = some (.lst accV) := s5 _ _ (s4 _ _ hD2)
      have hll : accV.length < sizeLine := by
        have z1 := rac.length
        have z2 := congrArg List.length hl
        rw [List.length_append, List.length_append, List.length_singleton] at z2
        have z3 := SZ_le hz
        omega
      refine ⟨accV, hD5, hll, hlt, fun b o e => ?_, accV ++ [yv], accM ++ [v], rest', upd_same, ?_, e4, ?_⟩
      · rw [upd_ne (fun z => by rw [z, hD] at e; cases e)]
        exact s5 _ _ (sH4 _ _ e)
      · rw [Vw_set add_self]
        exact (rac.up (Vw_up (s4.trans s5))).append (.cons ek .nil)
      · rw [List.append_assoc]; exact hl
    | false =>
      rw [if_neg Bool.false_ne_true] at e3
      cases e3
      refine iteF ?_
      exact ⟨hlt, sH4, accV, accM, rest', s4 _ _ hD2, rac.up (Vw_up s4), e4, by rw [List.nil_append] at hl; exact hl⟩
  · have e : i = vs.length := by omega
    subst e
    refine .inl ⟨(itr H2 hst _).1 (Nat.le_refl _), ?_⟩
    have hd : items.1.drop vs.length = [] := List.drop_eq_nil_of_le (by omega)
    rw [hd] at ht
    cases ht
    rw [List.append_nil] at hl
    subst hl
    have nO : O D = false := S.dom.new (s1.free hD)
    refine post (.ref D) H2 (s1.trans s2) ⟨.lst (.inl (Vw_of nO hD2)) (rac.up (Vw_less fun b hb => add_of hb)), fun l' e => ?_⟩
    cases e
    exact ⟨D, accV, rfl, s1.free hD, hD2, rac⟩
end
end Mn

set_option Elab.async false
set_option linter.all false
set_option maxRecDepth 100000
set_option maxHeartbeats 4000000
/-! Mn6: the check of expressions over the text, and that it is right. -/
namespace Mn
open PySem L2

structure MC where
  fns : List Str
  bis : List Str
  imp : List (Str × BI)
structure SC where
  sc : Scope
  inner : Option Scope

def locB (k : SC) (x : Str) : Bool := match k.sc.names.lookup x with
  | some .local => true
  | some .cell => (match k.inner with | none => true | some s => s.names.lookup x == some .cell)
  | _ => false
def visB (sc : Scope) (x : Str) : Bool := match sc.names.lookup x with
  | some .local => true
  | some .cell => true
  | some .free => true
  | _ => false
def glB (sc : Scope) (x : Str) : Bool := match sc.names.lookup x with
  | some .globalImplicit => true
  | _ => false
def plainName (x : Str) : Bool := !(x == ("__debug__" : Str)) && !(x == ("__classdict__" : Str)) && !(decide (x = ("__name__" : Str)))
def constB : Const → MV → Bool
  | .none, .non => true
  | .bool a, .bl b => a == b
  | .int a, .int b => a == b
  | .str a, .str b => decide (a = b)
  | _, _ => false
def opB : Operator → BOp → Bool
  | .Add, .add => true
  | .Sub, .sub => true
  | .Mult, .mul => true
  | .FloorDiv, .fdiv => true
  | .Mod, .mod => true
  | .Pow, .pow => true
  | _, _ => false
def cmpB : CmpOp → COp → Bool
  | .Lt, .lt => true
  | .LtE, .le => true
  | .Gt, .gt => true
  | .GtE, .ge => true
  | .Eq, .eq => true
  | .NotEq, .ne => true
  | .Is, .is => true
  | .IsNot, .isnt => true
  | .In, .inn => true
  | .NotIn, .nin => true
  | _, _ => false
def notStar : Expr → Bool
  | .Starred .. => false
  | _ => true
def notSet : Expr → Bool
  | .Set .. => false
  | _ => true
def notSlice : Expr → Bool
  | .Slice .. => false
  | _ => true
def chkL (f : Expr → CE → Bool) : List Expr → List CE → Bool
  | [], [] => true
  | e :: es, c :: cs => notStar e && f e c && chkL f es cs
  | _, _ => false
def chkO (f : Expr → CE → Bool) : Option Expr → Option CE → Bool
  | none, none => true
  | some e, some c => f e c
  | _, _ => false
/-- the built-ins that are called by a name of the module's -/
def biStr : BI → String
  | .len => "len"
  | .abs => "abs"
  | .int => "int"
  | .bool => "bool"
  | .tuple => "tuple"
  | .list => "list"
  | .sum => "sum"
  | .max => "max"
  | .min => "min"
  | .repr => "repr"
  | _ => ""
def biOk : BI → Bool
  | .len | .abs | .int | .bool | .tuple | .list | .sum | .max | .min | .repr => true
  | _ => false
def tyB (C : MC) (k : SC) : Expr → Ty → Bool
  | .Name x _, t => decide (x = Str.ofString (tyName t)) && glB k.sc x && C.bis.contains x
  | _, _ => false
def tysB (C : MC) (k : SC) : List Expr → List Ty → Bool
  | [], [] => true
  | e :: es, t :: ts => tyB C k e t && tysB C k es ts
  | _, _ => false
def slotB (k : SC) (N : List Str) (x : Str) (i : Nat) : Bool := decide (N[i]? = some x) && locB k x
def namesB (k : SC) (N : List Str) : List Expr → List Nat → Bool
  | [], [] => true
  | .Name x _ :: es, i :: is => slotB k N x i && namesB k N es is
  | _, _ => false
def tgB (k : SC) (N : List Str) : Expr → TGT → Bool
  | .Name x _, .nm i => slotB k N x i
  | .Tuple es _ _, .tp is => namesB k N es is
  | _, _ => false
def ownOf : Expr → TGT → List (Str × Nat)
  | .Name x _, .nm i => [(x, i)]
  | .Tuple es _ _, .tp is => (es.map fun | .Name x _ => x | _ => Str.empty).zip is
  | _, _ => []
def chkI (f : Expr → CE → Bool) (C : MC) (k : SC) : Expr → CI → Bool
  | .Call (.Name x _) [a] [] _, .rng1 c => decide (x = ("range" : Str)) && glB k.sc "range" && C.bis.contains "range" && notStar a && f a c
  | .Call (.Name x _) [a, b] [] _, .rng2 c d => decide (x = ("range" : Str)) && glB k.sc "range" && C.bis.contains "range" && notStar a && notStar b && f a c && f b d
  | .Call (.Name x _) [a] [] _, .rev c => decide (x = ("reversed" : Str)) && glB k.sc "reversed" && C.bis.contains "reversed" && notStar a && f a c
  | e, .seq c => notSet e && f e c
  | _, _ => false

def chkE : Nat → MC → List Str → SC → Expr → CE → Bool
  | 0, _, _, _, _, _ => false
  | n + 1, C, N, k, e, ce => match e, ce with
    | .BoolOp _ [a] _, c => chkE n C N k a c
    | .BoolOp .And (a :: b :: r) p, .and c d => chkE n C N k a c && chkE n C N k (.BoolOp .And (b :: r) p) d
    | .BoolOp .Or (a :: b :: r) p, .or c d => chkE n C N k a c && chkE n C N k (.BoolOp .Or (b :: r) p) d
    | .Constant c _ _, .lit v => constB c v
    | .Name x _, .var i => decide (N[i]? = some x) && visB k.sc x && plainName x
    | .BinOp a op b _, .bin o c d => opB op o && chkE n C N k a c && chkE n C N k b d
    | .UnaryOp .USub a _, .neg c => chkE n C N k a c
    | .UnaryOp .Not a _, .not c => chkE n C N k a c
    | .Compare a [op] [b] _, .cmp o c d => cmpB op o && notSet b && chkE n C N k a c && chkE n C N k b d
    | .IfExp t a b _, .ite c d e => chkE n C N k t c && chkE n C N k a d && chkE n C N k b e
    | .Call (.Name x _) as [] _, .call i cs => decide (C.fns[i]? = some x) && glB k.sc x && plainName x && chkL (chkE n C N k) as cs
    | .Call (.Name x _) (a :: as) [] _, .bi .gcd (c :: cs) => decide ((x, BI.gcd) ∈ C.imp) && glB k.sc x && plainName x && chkL (chkE n C N k) (a :: as) (c :: cs)
    | .Call (.Name x _) (a :: as) [] _, .bi b (c :: cs) => decide (x = Str.ofString (biStr b)) && biOk b && C.bis.contains x && glB k.sc x && plainName x && chkL (chkE n C N k) (a :: as) (c :: cs)
    | .Call (.Name x _) [a, .Tuple es _ _] [] _, .isi c ts => decide (x = ("isinstance" : Str)) && C.bis.contains x && glB k.sc x && plainName x && notStar a && chkE n C N k a c && tysB C k es ts && decide (ts.length ≤ 100)
    | .Call (.Name x _) [a, t] [] _, .isi c [ty] => decide (x = ("isinstance" : Str)) && C.bis.contains x && glB k.sc x && plainName x && notStar a && chkE n C N k a c && tyB C k t ty
    | .Tuple es _ _, .tup cs => chkL (chkE n C N k) es cs
    | .List es _, .lst cs => chkL (chkE n C N k) es cs
    | .Subscript a (.Slice lo hi none _) _, .slc c l h => chkE n C N k a c && chkO (chkE n C N k) lo l && chkO (chkE n C N k) hi h
    | .Subscript a i _, .idx c d => notSlice i && chkE n C N k a c && chkE n C N k i d
    | .ListComp elt [⟨tg, it, ifs, 0⟩] scope _, .comp c ctg cit cifs =>
        let k' : SC := ⟨relS scope k.sc, some scope⟩
        chkI (chkE n C N k) C k it cit && notSet it && blkC N k.sc scope (ownOf tg ctg) && decide ((ownOf tg ctg).map (·.2) = tgSlots ctg) && tgB k' N tg ctg &&
          (match ifs, cifs with
            | [], [] => true
            | [t], [ct] => chkE n C N k' t ct
            | _, _ => false) && chkE n C N k' elt c
    | _, _ => false

structure Good (X : Cx) (C : MC) (Φ : Fns) (N : List Str) (k : SC) : Prop where
  hN : X.N = N
  nd : X.N.Nodup
  sc : X.env.scope = k.sc
  fn : ∀ x, locB k x = true → X.fn x = true ∨ X.env.scope.names.lookup x = some .local
  calm : X.calm = true
  un : X.A.units + 200 < cLine
  gd : X.A.guards = some []
  bis : ∀ x, C.bis.contains x = true → X.mg x = none
  imp : ∀ x, (x, BI.gcd) ∈ C.imp → X.mg x = some (.builtin "math.gcd")
  fns : ∀ (i : Nat) x, C.fns[i]? = some x → FnAt X (Φ i) x

section
variable {X : Cx} {C : MC} {Φ : Fns} {N : List Str} {k : SC}

theorem Good.gl (G : Good X C Φ N k) {x : Str} (h : glB k.sc x = true) : Gl X x := by
  unfold glB at h
  show X.env.scope.names.lookup x = _
  rw [G.sc]
  split at h
  · assumption
  · cases h
theorem Good.vis (G : Good X C Φ N k) {x : Str} (h : visB k.sc x = true) : Vis X.env.scope x := by
  unfold visB at h
  rw [G.sc]
  split at h
  · exact .inl (by assumption)
  · exact .inr (.inl (by assumption))
  · exact .inr (.inr (by assumption))
  · cases h
theorem Good.loc (G : Good X C Φ N k) {x : Str} (h : locB k x = true) : Loc X.env.scope x := by
  unfold locB at h
  rw [G.sc]
  split at h
  · exact .inl (by assumption)
  · exact .inr (by assumption)
  · cases h
theorem plain1 {x : Str} (h : plainName x = true) : (x == ("__debug__" : Str)) = false ∧ (x == ("__classdict__" : Str)) = false ∧ x ≠ ("__name__" : Str) := by
  unfold plainName at h
  rw [Bool.and_eq_true, Bool.and_eq_true] at h
  obtain ⟨⟨h1, h2⟩, h3⟩ := h
  refine ⟨by simpa using h1, by simpa using h2, ?_⟩
  intro e
  rw [decide_eq_true e] at h3
  cases h3

theorem star_cons {e : Expr} {es : List Expr} {env : Env} (h : notStar e = true) : starEach (e :: es) env = (false, eval e env) :: starEach es env := by
  cases e <;> first | rfl | cases h
theorem star_any {f : Expr → CE → Bool} {pos : Pos} {env : Env} : ∀ {es : List Expr} {cs : List CE}, chkL f es cs = true → (backTo pos (starEach es env)).any (·.1) = false
  | [], _, _ => rfl
  | e :: es, [], h => by unfold chkL at h; cases h
  | e :: es, c :: cs, h => by
    unfold chkL at h
    rw [Bool.and_eq_true, Bool.and_eq_true] at h
    rw [star_cons h.1.1]
    show ((backTo pos (starEach es env)).any (·.1)) = false
    exact star_any h.2
theorem mark_no {op : CmpOp} {b : Expr} (h : notSet b = true) : behindInMarks op b = false := by
  cases b <;> first | rfl | cases h
theorem fold_no {e : Expr} {env : Env} (h : notSet e = true) : ∀ x, foldedSetIterable e env x = pure x := by
  intro x
  cases e <;> first | rfl | cases h

theorem bin_ok {op : Operator} {o : BOp} (h : opB op o = true) : OpR X (binaryOp op) (rBin o) := by
  unfold opB at h
  split at h
  · exact bin_add
  · exact bin_sub
  · exact bin_mul
  · exact bin_fdiv
  · exact bin_mod
  · exact bin_pow
  · cases h
theorem cmp_ok {op : CmpOp} {o : COp} (hu : X.A.units + 200 < cLine) (h : cmpB op o = true) : OpR X (compareOp op) (rCmp o) := by
  unfold cmpB at h
  split at h
  · exact cmp_lt (by omega)
  · exact cmp_le
  · exact cmp_gt
  · exact cmp_ge
  · exact cmp_eq (by omega)
  · exact cmp_ne (by omega)
  · exact cmp_is
  · exact cmp_isnt
  · exact cmp_in
  · exact cmp_nin
  · cases h

/-! ### expressions from their parts -/
theorem m_const {c : Const} {v : MV} {i : Nat} {pos : Pos} (h : constB c v = true) : PE X (.Constant c i pos) (tE Φ (.lit v)) := by
  refine ⟨fun pins s σ H Q I ⟨H0, O0, σm, O, r, S, e, p⟩ => ?_⟩
  unfold ev at e
  cases e
  unfold constB at h
  split at h
  · exact pe_non.run pins s σ H Q I (p.sh .non)
  · rw [beq_iff_eq] at h; subst h; exact pe_bl.run pins s σ H Q I p.bl
  · rw [beq_iff_eq] at h; subst h; exact pe_int.run pins s σ H Q I p.int
  · have h := of_decide_eq_true h; subst h; exact pe_str.run pins s σ H Q I p.str
  · cases h
theorem m_var {x : Str} {i : Nat} {pos : Pos} (hN : X.N[i]? = some x) (hv : Vis X.env.scope x) (hd : (x == ("__debug__" : Str)) = false) (hcd : (x == ("__classdict__" : Str)) = false) : PE X (.Name x pos) (tE Φ (.var i)) := by
  refine ⟨fun pins s σ H Q I ⟨H0, O0, σm, O, r, S, e, p⟩ => ?_⟩
  unfold ev at e
  obtain ⟨v, e1, q⟩ := S.get e
  exact (pe_var hN hv hd hcd).run pins s σ H Q I ⟨v, e1, p v H (Same.refl H) q⟩
section
variable {a b c : Expr} {ca cb cc : CE} {pos : Pos}
theorem m_bin {op : Operator} {o : BOp} (h : opB op o = true) (ha : PE X a (tE Φ ca)) (hb : PE X b (tE Φ cb)) : PE X (.BinOp a op b pos) (tE Φ (.bin o ca cb)) := by
  refine ⟨fun pins s σ H Q I ⟨H0, O0, σm, O, r, S, e, p⟩ => ?_⟩
  unfold ev at e
  obtain ⟨x, e1, e⟩ := Option.bind_eq_some_iff.mp e
  obtain ⟨y, e2, e⟩ := Option.bind_eq_some_iff.mp e
  refine (pe_op (bin_ok h) ha hb).run pins s σ H Q I (tE_of S e1 fun v H1 s1 q1 => tE_of (S.up s1) e2 fun w H2 s2 q2 => ?_)
  exact ⟨O, x.1, y.1, r, (S.up (s1.trans s2)).dom, q1.bor.up s2, q2.bor, e, fun z H3 s3 q3 => p z H3 (s1.trans (s2.trans s3)) (q3.weak (s1.trans s2))⟩
theorem cmp_post {o : COp} {H0 H : Hp} {O0 O : Addr → Bool} {σm : MS} {σ : L2.St} {r : MV × Tg} {Q : VK} (S : Sim H0 O0 σm O σ H) (e : ev Φ (.cmp o ca cb) σm = some r) (p : Post O H Q r) : tOp (rCmp o) (tE Φ ca) (tE Φ cb) σ H Q := by
  unfold ev at e
  obtain ⟨x, e1, e⟩ := Option.bind_eq_some_iff.mp e
  obtain ⟨y, e2, e⟩ := Option.bind_eq_some_iff.mp e
  obtain ⟨t, e3, e⟩ := Option.bind_eq_some_iff.mp e
  cases e
  refine tE_of S e1 fun v H1 s1 q1 => tE_of (S.up s1) e2 fun w H2 s2 q2 => ?_
  exact ⟨O, x.1, y.1, t, q1.bor.up s2, q2.bor, e3, p _ H2 (s1.trans s2) (.bl t)⟩
theorem m_cmp {op : CmpOp} {o : COp} (hu : X.A.units + 200 < cLine) (h : cmpB op o = true) (hs : notSet b = true) (ha : PE X a (tE Φ ca)) (hb : PE X b (tE Φ cb)) : PE X (.Compare a [op] [b] pos) (tE Φ (.cmp o ca cb)) :=
  ⟨fun pins s σ H Q I ⟨H0, O0, σm, O, r, S, e, p⟩ => (pe_cmpR (cmp_ok hu h) ha hb (mark_no hs)).run pins s σ H Q I (cmp_post S e p)⟩
theorem t_cmp {op : CmpOp} {o : COp} (hu : X.A.units + 200 < cLine) (h : cmpB op o = true) (hs : notSet b = true) (ha : PE X a (tE Φ ca)) (hb : PE X b (tE Φ cb)) : PT X (.Compare a [op] [b] pos) (tT Φ (.cmp o ca cb)) := by
  refine ⟨fun pins s σ H Q I ⟨H0, O0, σm, O, r, S, e, p⟩ => (pt_cmpR (cmp_ok hu h) ha hb (mark_no hs)).run pins s σ H Q I ?_⟩
  obtain ⟨x, e1, e2⟩ := Option.bind_eq_some_iff.mp e
  refine cmp_post S e1 fun v H1 s1 q1 => ?_
  have hx : ∃ t, x = (.bl t, .sh) := by
    unfold ev at e1
    obtain ⟨y, f1, e1⟩ := Option.bind_eq_some_iff.mp e1
    obtain ⟨z, f2, e1⟩ := Option.bind_eq_some_iff.mp e1
    obtain ⟨t, f3, e1⟩ := Option.bind_eq_some_iff.mp e1
    cases e1
    exact ⟨t, rfl⟩
  obtain ⟨t, rfl⟩ := hx
  obtain rfl := q1.bor.bl
  cases e2
  exact ⟨_, rfl, p H1 s1⟩
theorem m_neg (ha : PE X a (tE Φ ca)) : PE X (.UnaryOp .USub a pos) (tE Φ (.neg ca)) := by
  refine ⟨fun pins s σ H Q I ⟨H0, O0, σm, O, r, S, e, p⟩ => ?_⟩
  unfold ev at e
  obtain ⟨⟨x, t⟩, e1, e⟩ := Option.bind_eq_some_iff.mp e
  cases x with
  | int i =>
    cases e
    refine (pe_un un_neg ha).run pins s σ H Q I (tE_of S e1 fun v H1 s1 q1 => ?_)
    obtain rfl := q1.bor.int
    exact ⟨i, rfl, p _ H1 s1 (.int _)⟩
  | _ => cases e
theorem m_not (ha : PE X a (tE Φ ca)) : PE X (.UnaryOp .Not a pos) (tE Φ (.not ca)) := by
  refine ⟨fun pins s σ H Q I ⟨H0, O0, σm, O, r, S, e, p⟩ => ?_⟩
  unfold ev at e
  obtain ⟨x, e1, e⟩ := Option.bind_eq_some_iff.mp e
  obtain ⟨tb, e2, e⟩ := Option.bind_eq_some_iff.mp e
  cases e
  exact (pe_notT ha).run pins s σ H Q I (tE_of S e1 fun v H1 s1 q1 => ⟨tb, tru_of q1.bor e2, p _ H1 s1 (.bl _)⟩)
theorem t_not (ha : PT X a (tT Φ ca)) : PT X (.UnaryOp .Not a pos) (tT Φ (.not ca)) := by
  refine ⟨fun pins s σ H Q I ⟨H0, O0, σm, O, r, S, e, p⟩ => ?_⟩
  obtain ⟨y, e1, e2⟩ := Option.bind_eq_some_iff.mp e
  unfold ev at e1
  obtain ⟨x, f1, e1⟩ := Option.bind_eq_some_iff.mp e1
  obtain ⟨t, f2, e1⟩ := Option.bind_eq_some_iff.mp e1
  cases e1
  cases e2
  exact (pt_not ha).run pins s σ H Q I ⟨H0, O0, σm, O, t, S, by rw [f1]; exact f2, p⟩
theorem t_plain (ha : PE X a (tE Φ ca)) (he : ∀ whole, isTrue a X.env whole = (do let v ← whole; standAt a.pos; holding [v] (truthy v))) : PT X a (tT Φ ca) := by
  refine ⟨fun pins s σ H Q I ⟨H0, O0, σm, O, b, S, e, p⟩ => ?_⟩
  obtain ⟨y, e1, e2⟩ := Option.bind_eq_some_iff.mp e
  exact (pt_truth ha he).run pins s σ H Q I (tE_of S e1 fun v H1 s1 q1 => ⟨b, tru_of q1.bor e2, p H1 s1⟩)
theorem m_and {r : List Expr} (ha : PE X a (tE Φ ca)) (hb : PE X (.BoolOp .And (b :: r) pos) (tE Φ cb)) : PE X (.BoolOp .And (a :: b :: r) pos) (tE Φ (.and ca cb)) := by
  refine ⟨fun pins s σ H Q I ⟨H0, O0, σm, O, res, S, e, p⟩ => ?_⟩
  unfold ev at e
  obtain ⟨x, e1, e⟩ := Option.bind_eq_some_iff.mp e
  obtain ⟨t, e2, e⟩ := Option.bind_eq_some_iff.mp e
  refine (pe_andT ha hb).run pins s σ H Q I (tE_of S e1 fun v H1 s1 q1 => ⟨t, tru_of q1.bor e2, ?_⟩)
  cases t with
  | true => exact iteT (tE_of (S.up s1) e fun w H2 s2 q2 => p w H2 (s1.trans s2) (q2.weak s1))
  | false => cases e; exact iteF (p v H1 s1 q1)
theorem m_or {r : List Expr} (ha : PE X a (tE Φ ca)) (hb : PE X (.BoolOp .Or (b :: r) pos) (tE Φ cb)) : PE X (.BoolOp .Or (a :: b :: r) pos) (tE Φ (.or ca cb)) := by
  refine ⟨fun pins s σ H Q I ⟨H0, O0, σm, O, res, S, e, p⟩ => ?_⟩
  unfold ev at e
  obtain ⟨x, e1, e⟩ := Option.bind_eq_some_iff.mp e
  obtain ⟨t, e2, e⟩ := Option.bind_eq_some_iff.mp e
  refine (pe_orT ha hb).run pins s σ H Q I (tE_of S e1 fun v H1 s1 q1 => ⟨t, tru_of q1.bor e2, ?_⟩)
  cases t with
  | false => exact iteF (tE_of (S.up s1) e fun w H2 s2 q2 => p w H2 (s1.trans s2) (q2.weak s1))
  | true => cases e; exact iteT (p v H1 s1 q1)
theorem t_and {r : List Expr} (ha : PT X a (tT Φ ca)) (hb : PW X (.BoolOp .And (b :: r) pos) (tT Φ cb)) : PW X (.BoolOp .And (a :: b :: r) pos) (tT Φ (.and ca cb)) := by
  refine ⟨fun wh pins s σ H Q I ⟨H0, O0, σm, O, res, S, e, p⟩ => ?_⟩
  obtain ⟨y, e0, e3⟩ := Option.bind_eq_some_iff.mp e
  unfold ev at e0
  obtain ⟨x, e1, e0⟩ := Option.bind_eq_some_iff.mp e0
  obtain ⟨t, e2, e0⟩ := Option.bind_eq_some_iff.mp e0
  refine (pw_and ha hb).run wh pins s σ H Q I ⟨H0, O0, σm, O, t, S, by rw [e1]; exact e2, fun H1 s1 => ?_⟩
  cases t with
  | true => exact iteT ⟨H0, O0, σm, O, res, S.up s1, by rw [show ev Φ cb σm = some y from e0]; exact e3, fun H2 s2 => p H2 (s1.trans s2)⟩
  | false =>
    cases e0
    rw [e2] at e3
    cases e3
    exact iteF (p H1 s1)
theorem t_or {r : List Expr} (ha : PT X a (tT Φ ca)) (hb : PW X (.BoolOp .Or (b :: r) pos) (tT Φ cb)) : PW X (.BoolOp .Or (a :: b :: r) pos) (tT Φ (.or ca cb)) := by
  refine ⟨fun wh pins s σ H Q I ⟨H0, O0, σm, O, res, S, e, p⟩ => ?_⟩
  obtain ⟨y, e0, e3⟩ := Option.bind_eq_some_iff.mp e
  unfold ev at e0
  obtain ⟨x, e1, e0⟩ := Option.bind_eq_some_iff.mp e0
  obtain ⟨t, e2, e0⟩ := Option.bind_eq_some_iff.mp e0
  refine (pw_or ha hb).run wh pins s σ H Q I ⟨H0, O0, σm, O, t, S, by rw [e1]; exact e2, fun H1 s1 => ?_⟩
  cases t with
  | false => exact iteF ⟨H0, O0, σm, O, res, S.up s1, by rw [show ev Φ cb σm = some y from e0]; exact e3, fun H2 s2 => p H2 (s1.trans s2)⟩
  | true =>
    cases e0
    rw [e2] at e3
    cases e3
    exact iteT (p H1 s1)
theorem m_ite (hc : PT X c (tT Φ cc)) (ha : PE X a (tE Φ ca)) (hb : PE X b (tE Φ cb)) : PE X (.IfExp c a b pos) (tE Φ (.ite cc ca cb)) := by
  refine ⟨fun pins s σ H Q I ⟨H0, O0, σm, O, res, S, e, p⟩ => ?_⟩
  unfold ev at e
  obtain ⟨x, e1, e⟩ := Option.bind_eq_some_iff.mp e
  obtain ⟨t, e2, e⟩ := Option.bind_eq_some_iff.mp e
  refine (pe_ifExp hc ha hb).run pins s σ H Q I ⟨H0, O0, σm, O, t, S, by rw [e1]; exact e2, fun H1 s1 => ?_⟩
  cases t with
  | true => exact iteT (tE_of (S.up s1) e fun w H2 s2 q2 => p w H2 (s1.trans s2) (q2.weak s1))
  | false => exact iteF (tE_of (S.up s1) e fun w H2 s2 q2 => p w H2 (s1.trans s2) (q2.weak s1))
theorem t_ite (hc : PT X c (tT Φ cc)) (ha : PT X a (tT Φ ca)) (hb : PT X b (tT Φ cb)) : PT X (.IfExp c a b pos) (tT Φ (.ite cc ca cb)) := by
  refine ⟨fun pins s σ H Q I ⟨H0, O0, σm, O, res, S, e, p⟩ => ?_⟩
  obtain ⟨y, e0, e3⟩ := Option.bind_eq_some_iff.mp e
  unfold ev at e0
  obtain ⟨x, e1, e0⟩ := Option.bind_eq_some_iff.mp e0
  obtain ⟨t, e2, e0⟩ := Option.bind_eq_some_iff.mp e0
  refine PyProof.Rows.isTrue_IfExp (thn (hc.run pins s σ H (fun d H1 => d = t ∧ Same H H1) I ⟨H0, O0, σm, O, t, S, by rw [e1]; exact e2, fun H1 s1 => ⟨rfl, s1⟩⟩) fun d s1 hz => ?_)
  obtain ⟨H1, I1, rfl, sH⟩ := hz
  cases d with
  | true => exact iteT (ha.run pins s1 σ H1 Q I1 ⟨H0, O0, σm, O, res, S.up sH, by rw [show ev Φ ca σm = some y from e0]; exact e3, fun H2 s2 => p H2 (sH.trans s2)⟩)
  | false => exact iteF (hb.run pins s1 σ H1 Q I1 ⟨H0, O0, σm, O, res, S.up sH, by rw [show ev Φ cb σm = some y from e0]; exact e3, fun H2 s2 => p H2 (sH.trans s2)⟩)
theorem m_idx (hs : notSlice b = true) (ha : PE X a (tE Φ ca)) (hb : PE X b (tE Φ cb)) : PE X (.Subscript a b pos) (tE Φ (.idx ca cb)) := by
  have pl : PlainIx b := by
    intro o i
    cases b <;> first | rfl | cases hs
  refine ⟨fun pins s σ H Q I ⟨H0, O0, σm, O, r, S, e, p⟩ => ?_⟩
  unfold ev at e
  obtain ⟨x, e1, e⟩ := Option.bind_eq_some_iff.mp e
  obtain ⟨y, e2, e⟩ := Option.bind_eq_some_iff.mp e
  obtain ⟨v, e3, e⟩ := Option.bind_eq_some_iff.mp e
  cases e
  refine (pe_ix ix_any ha hb pl).run pins s σ H Q I (tE_of S e1 fun v H1 s1 q1 => tE_of (S.up s1) e2 fun w H2 s2 q2 => ?_)
  exact ⟨O, x.1, y.1, _, (S.up (s1.trans s2)).dom, q1.bor.up s2, q2.bor, e3, fun z H3 s3 q3 => p z H3 (s1.trans (s2.trans s3)) (q3.weak (s1.trans s2))⟩
end
def tO (Φ : Fns) (c : Option CE) : TO := fun σ H Q => ∃ H0 O0 σm O r, Sim H0 O0 σm O σ H ∧ evO Φ c σm = some r ∧ ∀ H', Same H H' → Q r H'
theorem po_ok {f : Expr → CE → Bool} {o : Option Expr} {c : Option CE} (h : chkO f o c = true) (hf : ∀ e ce, f e ce = true → PE X e (tE Φ ce)) : PO X o (tO Φ c) := by
  unfold chkO at h
  split at h
  · refine ⟨fun pins s σ H Q I ⟨H0, O0, σm, O, r, S, e, p⟩ => ?_⟩
    cases e
    exact po_none.run pins s σ H Q I (p H (Same.refl H))
  · refine ⟨fun pins s σ H Q I ⟨H0, O0, σm, O, r, S, e, p⟩ => ?_⟩
    unfold evO at e
    obtain ⟨⟨x, t⟩, e1, e⟩ := Option.bind_eq_some_iff.mp e
    cases x with
    | int i =>
      cases e
      refine (po_some (hf _ _ h)).run pins s σ H Q I (tE_of S e1 fun v H1 s1 q1 => ?_)
      obtain rfl := q1.bor.int
      exact ⟨i, rfl, p H1 s1⟩
    | _ => cases e
  · cases h
theorem m_slc {a : Expr} {ca : CE} {lo hi : Option Expr} {l h : Option CE} {pos p2 : Pos} (ha : PE X a (tE Φ ca)) (hl : PO X lo (tO Φ l)) (hh : PO X hi (tO Φ h)) : PE X (.Subscript a (.Slice lo hi none p2) pos) (tE Φ (.slc ca l h)) := by
  refine ⟨fun pins s σ H Q I ⟨H0, O0, σm, O, r, S, e, p⟩ => ?_⟩
  unfold ev at e
  obtain ⟨x, e1, e⟩ := Option.bind_eq_some_iff.mp e
  obtain ⟨lo', e2, e⟩ := Option.bind_eq_some_iff.mp e
  obtain ⟨hi', e3, e⟩ := Option.bind_eq_some_iff.mp e
  refine (pe_slice sl_any ha hl hh).run pins s σ H Q I (tE_of S e1 fun v H1 s1 q1 => ⟨H0, O0, σm, O, lo', S.up s1, e2, fun H2 s2 => ⟨H0, O0, σm, O, hi', S.up (s1.trans s2), e3, fun H3 s3 => ?_⟩⟩)
  exact ⟨O, x.1, r, (S.up (s1.trans (s2.trans s3))).dom, q1.bor.up (s2.trans s3), e, fun z H4 s4 q4 => p z H4 (s1.trans (s2.trans (s3.trans s4))) (q4.weak (s1.trans (s2.trans s3)))⟩
theorem m_tup {es : List Expr} {cs : List CE} {i : Nat} {pos : Pos} (h : PA X es (tA Φ cs)) : PE X (.Tuple es i pos) (tE Φ (.tup cs)) := by
  refine ⟨fun pins s σ H Q I ⟨H0, O0, σm, O, r, S, e, p⟩ => ?_⟩
  unfold ev at e
  obtain ⟨xs, e1, e⟩ := Option.bind_eq_some_iff.mp e
  obtain ⟨vs, e2, e⟩ := Option.bind_eq_some_iff.mp e
  split at e
  · rename_i hz
    cases e
    refine (pe_tup h).run pins s σ H Q I ⟨H0, O0, σm, O, xs, S, e1, fun ws H1 s1 q => ?_⟩
    have ra := q.keep e2
    refine ⟨by rw [ra.length]; exact SZ_le hz, fun p' hp => ?_⟩
    exact (show Post O H1 Q (.tup vs, .sh) from fun z H2 s2 q2 => p z H2 (s1.trans s2) q2).tup (S.up s1).dom ra hp
  · cases e
theorem m_lst {es : List Expr} {cs : List CE} {pos : Pos} (h : PA X es (tA Φ cs)) : PE X (.List es pos) (tE Φ (.lst cs)) := by
  refine ⟨fun pins s σ H Q I ⟨H0, O0, σm, O, r, S, e, p⟩ => ?_⟩
  unfold ev at e
  obtain ⟨xs, e1, e⟩ := Option.bind_eq_some_iff.mp e
  obtain ⟨vs, e2, e⟩ := Option.bind_eq_some_iff.mp e
  split at e
  · rename_i hz
    cases e
    refine (pe_lst h).run pins s σ H Q I ⟨H0, O0, σm, O, xs, S, e1, fun ws H1 s1 q => ?_⟩
    have ra := q.keep e2
    refine ⟨by rw [ra.length]; exact SZ_le hz, fun p' hp => ?_⟩
    exact (show Post O H1 Q (.lst vs, .fr) from fun z H2 s2 q2 => p z H2 (s1.trans s2) (ResOk.weak s1 q2)).lst (S.up s1).dom ra hp
  · cases e

/-- a built-in called -/
theorem bi_of {b : BI} {cs : List CE} {H0 H : Hp} {O0 O : Addr → Bool} {σm : MS} {σ : L2.St} {r : MV × Tg} {Q : VK} (S : Sim H0 O0 σm O σ H) (e : ev Φ (.bi b cs) σm = some r) (p : Post O H Q r) : tCB (rBi b) (tA Φ cs) σ H Q := by
  unfold ev at e
  obtain ⟨xs, e1, e⟩ := Option.bind_eq_some_iff.mp e
  exact ⟨H0, O0, σm, O, xs, S, e1, fun vs H1 s1 q => ⟨O, _, r, (S.up s1).dom, q.bor, e, fun z H2 s2 q2 => p z H2 (s1.trans s2) (q2.weak s1)⟩⟩
def biVal : BI → Value
  | .len => .builtin "len"
  | .abs => .builtin "abs"
  | .int => .type "int"
  | .bool => .type "bool"
  | .tuple => .type "tuple"
  | .list => .type "list"
  | .sum => .builtin "sum"
  | .max => .builtin "max"
  | .min => .builtin "min"
  | .repr => .builtin "repr"
  | _ => .none
theorem boot_bi {b : BI} (h : biOk b = true) : bootBuiltins (Str.ofString (biStr b)) = some (biVal b) := by
  cases b <;> first | (cases h; done) | (unfold biStr biVal; decide +kernel)
theorem m_bi {b : BI} {x : Str} {p pos : Pos} {a : Expr} {as : List Expr} {cs : List CE} (hb : biOk b = true) (hx : x = Str.ofString (biStr b)) (hc : X.calm = true) (hgd : X.A.guards = some []) (hu : X.A.units + 200 < cLine) (hg : Gl X x) (hm : X.mg x = none) (ha : PA X (a :: as) (tA Φ cs))
    (hn : x ≠ ("__name__" : Str)) (hd : (x == ("__debug__" : Str)) = false) (hs : starEach (a :: as) X.env = (false, eval a X.env) :: starEach as X.env) (hpl : (backTo pos (starEach as X.env)).any (·.1) = false) :
    PE X (.Call (.Name x p) (a :: as) [] pos) (tE Φ (.bi b cs)) := by
  have hv := boot_bi hb
  rw [← hx] at hv
  refine ⟨fun pins s σ H Q I ⟨H0, O0, σm, O, r, S, e, q⟩ => ?_⟩
  cases b with
  | len => exact (pe_callB bi_len hg hm hv ha hn hd hs hpl).run pins s σ H Q I (bi_of S e q)
  | abs => exact (pe_callB bi_abs hg hm hv ha hn hd hs hpl).run pins s σ H Q I (bi_of S e q)
  | int => exact (pe_callTy bi_int hg hm hv ha hn hd hs hpl).run pins s σ H Q I (bi_of S e q)
  | bool => exact (pe_callTy bi_bool hg hm hv ha hn hd hs hpl).run pins s σ H Q I (bi_of S e q)
  | tuple => exact (pe_callTy bi_tuple hg hm hv ha hn hd hs hpl).run pins s σ H Q I (bi_of S e q)
  | list => exact (pe_callTy bi_list hg hm hv ha hn hd hs hpl).run pins s σ H Q I (bi_of S e q)
  | sum => exact (pe_callB (bi_sum hc) hg hm hv ha hn hd hs hpl).run pins s σ H Q I (bi_of S e q)
  | max => exact (pe_callB (bi_max hc) hg hm hv ha hn hd hs hpl).run pins s σ H Q I (bi_of S e q)
  | min => exact (pe_callB (bi_min hc) hg hm hv ha hn hd hs hpl).run pins s σ H Q I (bi_of S e q)
  | repr => exact (pe_callB (bi_repr hgd hu) hg hm hv ha hn hd hs hpl).run pins s σ H Q I (bi_of S e q)
  | _ => cases hb
theorem m_gcd {x : Str} {p pos : Pos} {a : Expr} {as : List Expr} {cs : List CE} (hg : Gl X x) (hm : X.mg x = some (.builtin "math.gcd")) (ha : PA X (a :: as) (tA Φ cs)) (hd : (x == ("__debug__" : Str)) = false)
    (hs : starEach (a :: as) X.env = (false, eval a X.env) :: starEach as X.env) (hpl : (backTo pos (starEach as X.env)).any (·.1) = false) : PE X (.Call (.Name x p) (a :: as) [] pos) (tE Φ (.bi .gcd cs)) :=
  ⟨fun pins s σ H Q I ⟨H0, O0, σm, O, r, S, e, q⟩ => (pe_callBfun bi_gcd hg hm ha hd hs hpl).run pins s σ H Q I (bi_of S e q)⟩
end
end Mn

set_option Elab.async false
set_option linter.all false
set_option maxRecDepth 100000
set_option maxHeartbeats 4000000
/-! Mn7: every expression that passes the check computes what the value language says. -/
namespace Mn
open PySem L2

section
variable {X : Cx} {C : MC} {Φ : Fns} {N : List Str} {k : SC}

theorem Good.blk (G : Good X C Φ N k) (s : Shared) (H : Hp) (scope : Scope) (cl : List (Str × Addr)) (D : Addr) (fp : List Addr) : Good (X.blk s H scope (compEnvC scope cl D X.env) fp) C Φ N ⟨relS scope k.sc, some scope⟩ where
  hN := G.hN
  nd := G.nd
  sc := by
    show relS scope X.env.scope = relS scope k.sc
    rw [G.sc]
  fn := fun x h => by
    unfold locB at h
    simp only at h
    split at h
    · rename_i e
      refine .inr ?_
      show (relS scope X.env.scope).names.lookup x = _
      rw [G.sc]
      exact e
    · exact .inl h
    · cases h
  calm := G.calm
  un := G.un
  gd := G.gd
  bis := G.bis
  imp := G.imp
  fns := fun i x h => ⟨(G.fns i x h).ex⟩

theorem ty_boot (t : Ty) : bootBuiltins (Str.ofString (tyName t)) = some (.type (tyName t)) := by
  cases t <;> (unfold tyName; decide +kernel)
theorem ty_plain (t : Ty) : Str.ofString (tyName t) ≠ ("__name__" : Str) ∧ (Str.ofString (tyName t) == ("__debug__" : Str)) = false := by
  cases t <;> (unfold tyName; decide +kernel)
theorem pe_ty (G : Good X C Φ N k) {e : Expr} {t : Ty} (h : tyB C k e t = true) : PE X e (tC (.ty (tyName t))) := by
  unfold tyB at h
  split at h
  · rw [Bool.and_eq_true, Bool.and_eq_true] at h
    have hx := of_decide_eq_true h.1.1
    have hg := G.gl h.1.2
    have hm := G.bis _ h.2
    subst hx
    exact pe_bltn hg hm (ty_boot _) rfl (ty_plain _).1 (ty_plain _).2
  · cases h
theorem ty_star {e : Expr} {t : Ty} (h : tyB C k e t = true) : notStar e = true := by
  unfold tyB at h
  split at h
  · rfl
  · cases h
theorem ty_set {e : Expr} {t : Ty} {f : Expr → CE → Bool} : True := trivial
def tTys : List Ty → TA
  | [] => tNil
  | t :: ts => tCons (tC (.ty (tyName t))) (tTys ts)
theorem pa_tys (G : Good X C Φ N k) : ∀ {es : List Expr} {ts : List Ty}, tysB C k es ts = true → PA X es (tTys ts)
  | [], [], _ => pa_nil
  | e :: es, t :: ts, h => by
    unfold tysB at h
    rw [Bool.and_eq_true] at h
    exact pa_cons (pe_ty G h.1) (pa_tys G h.2) (star_cons (ty_star h.1))
  | [], t :: ts, h => by unfold tysB at h; cases h
  | e :: es, [], h => by unfold tysB at h; cases h
theorem tys_run {σ : L2.St} {H : Hp} {Q : List V → Hp → Prop} : ∀ {ts : List Ty}, Q (ts.map fun t => V.ty (tyName t)) H → tTys ts σ H Q
  | [], q => q
  | t :: ts, q => tys_run (ts := ts) (Q := fun xs H2 => Q (V.ty (tyName t) :: xs) H2) q
theorem tys_len {es : List Expr} {ts : List Ty} (h : tysB C k es ts = true) : True := trivial

theorem boot_isi : bootBuiltins (Str.ofString "isinstance") = some (.builtin "isinstance") := by decide +kernel
theorem m_isi1 (G : Good X C Φ N k) {x : Str} {p pos : Pos} {a t : Expr} {c : CE} {ty : Ty} (hx : x = Str.ofString "isinstance") (hm : X.mg x = none) (hg : Gl X x) (hp : plainName x = true) (hs : notStar a = true) (ha : PE X a (tE Φ c)) (ht : tyB C k t ty = true) :
    PE X (.Call (.Name x p) [a, t] [] pos) (tE Φ (.isi c [ty])) := by
  obtain ⟨h1, h2, h3⟩ := plain1 hp
  have hv := boot_isi
  rw [← hx] at hv
  have st := ty_star ht
  refine ⟨fun pins s σ H Q I ⟨H0, O0, σm, O, r, S, e, q⟩ => ?_⟩
  unfold ev at e
  obtain ⟨y, e1, e⟩ := Option.bind_eq_some_iff.mp e
  cases e
  refine (pe_callB call_isi hg hm hv (pa_cons ha (pa_cons (pe_ty G ht) pa_nil (star_cons st)) (star_cons hs)) h3 h1 (star_cons hs) (by rw [star_cons st]; rfl)).run pins s σ H Q I ?_
  refine tE_of S e1 fun v H1 s1 q1 => ?_
  refine ⟨v, .ty (tyName ty), .type (tyOf y.1), .type (tyName ty), tyIs y.1 ty, rfl, .ty _, tyx_of q1.bor.rep, kit_ty (kit_one y.1 ty), ?_⟩
  refine q _ H1 s1 ?_
  rw [List.any_cons, List.any_nil, Bool.or_false]
  exact .bl _
theorem m_isi (G : Good X C Φ N k) {x : Str} {p pos p2 : Pos} {a : Expr} {es : List Expr} {i : Nat} {c : CE} {ts : List Ty} (hx : x = Str.ofString "isinstance") (hm : X.mg x = none) (hg : Gl X x) (hp : plainName x = true) (hs : notStar a = true) (ha : PE X a (tE Φ c)) (ht : tysB C k es ts = true)
    (hl : ts.length ≤ 100) : PE X (.Call (.Name x p) [a, .Tuple es i p2] [] pos) (tE Φ (.isi c ts)) := by
  obtain ⟨h1, h2, h3⟩ := plain1 hp
  have hv := boot_isi
  rw [← hx] at hv
  refine ⟨fun pins s σ H Q I ⟨H0, O0, σm, O, r, S, e, q⟩ => ?_⟩
  unfold ev at e
  obtain ⟨y, e1, e⟩ := Option.bind_eq_some_iff.mp e
  cases e
  refine (pe_callB call_isiT hg hm hv (pa_cons ha (pa_cons (pe_tup (pa_tys G ht)) pa_nil rfl) (star_cons hs)) h3 h1 (star_cons hs) rfl).run pins s σ H Q I ?_
  refine tE_of S e1 fun v H1 s1 q1 => ?_
  refine tys_run ⟨by rw [List.length_map]; exact SZ_le (Nat.le_trans hl (by unfold SZ; decide)), fun t ht => ?_⟩
  refine ⟨v, t, _, .type (tyOf y.1), _, ts.any (tyIs y.1), rfl, upd_same, clsv_all ts, tyx_of (q1.bor.rep.up (same_upd ht)), kit_all y.1 ts, ?_⟩
  exact q _ _ (s1.trans (same_upd ht)) (.bl _)

theorem pa_ok {f : Expr → CE → Bool} (hf : ∀ e c, f e c = true → PE X e (tE Φ c)) : ∀ {es : List Expr} {cs : List CE}, chkL f es cs = true → PA X es (tA Φ cs)
  | [], [], _ => pa_no
  | e :: es, c :: cs, h => by
    unfold chkL at h
    rw [Bool.and_eq_true, Bool.and_eq_true] at h
    exact pa_more (hf e c h.1.2) (pa_ok hf h.2) (star_cons h.1.1)
  | [], c :: cs, h => by unfold chkL at h; cases h
  | e :: es, [], h => by unfold chkL at h; cases h

theorem slot_ok (G : Good X C Φ N k) {x : Str} {i : Nat} (h : slotB k N x i = true) : X.N[i]? = some x ∧ Loc X.env.scope x ∧ (X.fn x = true ∨ X.env.scope.names.lookup x = some .local) := by
  unfold slotB at h
  rw [Bool.and_eq_true] at h
  exact ⟨by rw [G.hN]; exact of_decide_eq_true h.1, G.loc h.2, G.fn x h.2⟩
theorem pgs_ok (G : Good X C Φ N k) : ∀ {es : List Expr} {is : List Nat}, namesB k N es is = true → PGs X es (tGs is) ∧ (assignEach es X.env).length = is.length ∧ (assignEach es X.env).findIdx? (·.1) = none
  | [], [], _ => ⟨pgs_no, rfl, rfl⟩
  | e :: es, i :: is, h => by
    cases e with
    | Name x p =>
      unfold namesB at h
      rw [Bool.and_eq_true] at h
      obtain ⟨h1, h2, h3⟩ := slot_ok G h.1
      obtain ⟨q1, q2, q3⟩ := pgs_ok G h.2
      refine ⟨pgs_nm G.nd h1 h2 h3 q1, ?_, ?_⟩
      · show (assignEach es X.env).length + 1 = is.length + 1
        rw [q2]
      · show List.findIdx? (·.1) ((false, assign (.Name x p) X.env) :: assignEach es X.env) = none
        rw [List.findIdx?_cons, q3]
        rfl
    | _ => unfold namesB at h; cases h
  | [], i :: is, h => by unfold namesB at h; cases h
  | e :: es, [], h => by unfold namesB at h; cases e <;> cases h
theorem pg_ok (G : Good X C Φ N k) {e : Expr} {t : TGT} (h : tgB k N e t = true) : PG X e (tG t) := by
  unfold tgB at h
  split at h
  · obtain ⟨h1, h2, h3⟩ := slot_ok G h
    exact pg_nm G.nd h1 h2 h3
  · obtain ⟨q1, q2, q3⟩ := pgs_ok G h
    exact pg_tp G.calm q1 q2 q3
  · cases h

theorem pi_ok (G : Good X C Φ N k) {f : Expr → CE → Bool} (hf : ∀ e c, f e c = true → PE X e (tE Φ c)) {e : Expr} {c : CI} (h : chkI f C k e c = true) (tg : Expr) : PI X tg e (tI Φ c) := by
  unfold chkI at h
  split at h
  · simp only [Bool.and_eq_true] at h
    obtain ⟨⟨⟨⟨h1, h2⟩, h3⟩, h4⟩, h5⟩ := h
    have hx := of_decide_eq_true h1
    subst hx
    exact pi_rng1 (G.gl h2) (G.bis _ h3) (pa_more (hf _ _ h5) pa_no (star_cons h4)) (by rw [star_cons h4]; rfl)
  · simp only [Bool.and_eq_true] at h
    obtain ⟨⟨⟨⟨⟨⟨h1, h2⟩, h3⟩, h4⟩, h5⟩, h6⟩, h7⟩ := h
    have hx := of_decide_eq_true h1
    subst hx
    exact pi_rng2 (G.gl h2) (G.bis _ h3) (pa_more (hf _ _ h6) (pa_more (hf _ _ h7) pa_no (star_cons h5)) (star_cons h4)) (by rw [star_cons h4, star_cons h5]; rfl) (by rw [star_cons h5]; rfl)
  · simp only [Bool.and_eq_true] at h
    obtain ⟨⟨⟨⟨h1, h2⟩, h3⟩, h4⟩, h5⟩ := h
    have hx := of_decide_eq_true h1
    subst hx
    exact pi_rev (G.gl h2) (G.bis _ h3) (hf _ _ h5) (star_cons h4)
  · rw [Bool.and_eq_true] at h
    exact pi_seq (hf _ _ h.2)
  · cases h

theorem isTrue_call {f : Expr} {as : List Expr} {ks : List Keyword} {pos : Pos} {env : Env} : ∀ whole, isTrue (.Call f as ks pos) env whole = (do let v ← whole; standAt (Expr.Call f as ks pos).pos; holding [v] (truthy v)) := fun _ => rfl

/-- a clause's tests -/
theorem pts_ok {ifs : List Expr} {cs : List CE} {f : Expr → CE → Bool} (hf : ∀ e c, f e c = true → PT X e (tT Φ c)) (h : (match ifs, cs with
            | [], [] => true
            | [t], [ct] => f t ct
            | _, _ => false) = true) : PTs X ifs (tTs Φ cs) := by
  split at h
  · refine ⟨fun pins s σ H Q I ⟨H0, O0, σm, O, b, S, e, p⟩ => ?_⟩
    cases e
    exact pts_nil.run pins s σ H Q I (p H (Same.refl H))
  · rename_i t ct
    refine ⟨fun pins s σ H Q I ⟨H0, O0, σm, O, b, S, e, p⟩ => ?_⟩
    unfold evT at e
    obtain ⟨x, e1, e⟩ := Option.bind_eq_some_iff.mp e
    obtain ⟨tb, e2, e⟩ := Option.bind_eq_some_iff.mp e
    have ef : tb = b := by
      cases tb with
      | true => unfold evT at e; exact Option.some.inj e
      | false => exact Option.some.inj e
    subst ef
    exact (pts_one (hf _ _ h)).run pins s σ H Q I ⟨H0, O0, σm, O, tb, S, by rw [e1]; exact e2, p⟩
  · cases h

theorem fin3 {e : Expr} {ce : CE} (z : PE X e (tE Φ ce)) (he : ∀ whole, isTrue e X.env whole = (do let v ← whole; standAt e.pos; holding [v] (truthy v))) (hn : ∀ op vs p, e ≠ .BoolOp op vs p) :
    PE X e (tE Φ ce) ∧ PT X e (tT Φ ce) ∧ (∀ op vs p, e = .BoolOp op vs p → PW X e (tT Φ ce)) := ⟨z, t_plain z he, fun op vs p h => absurd h (hn op vs p)⟩

theorem chk_all : ∀ (n : Nat) (X : Cx) (C : MC) (Φ : Fns) (N : List Str) (k : SC) (e : Expr) (ce : CE), Good X C Φ N k → chkE n C N k e ce = true →
    PE X e (tE Φ ce) ∧ PT X e (tT Φ ce) ∧ (∀ op vs p, e = .BoolOp op vs p → PW X e (tT Φ ce)) := by
  intro n
  induction n with
  | zero => intro X C Φ N k e ce G h; unfold chkE at h; cases h
  | succ n ih =>
    intro X C Φ N k e ce G h
    have pe : ∀ e c, chkE n C N k e c = true → PE X e (tE Φ c) := fun e c h => (ih X C Φ N k e c G h).1
    have pt : ∀ e c, chkE n C N k e c = true → PT X e (tT Φ c) := fun e c h => (ih X C Φ N k e c G h).2.1
    unfold chkE at h
    split at h
    · rename_i op a p
      have z := ih X C Φ N k a ce G h
      cases op with
      | And => exact ⟨pe_one z.1, (pw_and1 z.2.1).pt, fun _ _ _ _ => pw_and1 z.2.1⟩
      | Or => exact ⟨pe_one z.1, (pw_or1 z.2.1).pt, fun _ _ _ _ => pw_or1 z.2.1⟩
    · rw [Bool.and_eq_true] at h
      have z := ih X C Φ N k _ _ G h.2
      have w := t_and (pt _ _ h.1) (z.2.2 _ _ _ rfl)
      exact ⟨m_and (pe _ _ h.1) z.1, w.pt, fun _ _ _ _ => w⟩
    · rw [Bool.and_eq_true] at h
      have z := ih X C Φ N k _ _ G h.2
      have w := t_or (pt _ _ h.1) (z.2.2 _ _ _ rfl)
      exact ⟨m_or (pe _ _ h.1) z.1, w.pt, fun _ _ _ _ => w⟩
    · exact fin3 (m_const (X := X) (Φ := Φ) h) (fun _ => rfl) (fun _ _ _ e => nomatch e)
    · rw [Bool.and_eq_true, Bool.and_eq_true] at h
      obtain ⟨h1, h2, h3⟩ := plain1 h.2
      exact fin3 (m_var (X := X) (Φ := Φ) (by rw [G.hN]; exact of_decide_eq_true h.1.1) (G.vis h.1.2) h1 h2) (fun _ => rfl) (fun _ _ _ e => nomatch e)
    · rw [Bool.and_eq_true, Bool.and_eq_true] at h
      exact fin3 (m_bin h.1.1 (pe _ _ h.1.2) (pe _ _ h.2)) (fun _ => rfl) (fun _ _ _ e => nomatch e)
    · exact fin3 (m_neg (pe _ _ h)) (fun _ => rfl) (fun _ _ _ e => nomatch e)
    · exact ⟨m_not (pe _ _ h), t_not (pt _ _ h), fun _ _ _ e => nomatch e⟩
    · simp only [Bool.and_eq_true] at h
      obtain ⟨⟨⟨h1, h2⟩, h3⟩, h4⟩ := h
      exact ⟨m_cmp G.un h1 h2 (pe _ _ h3) (pe _ _ h4), t_cmp G.un h1 h2 (pe _ _ h3) (pe _ _ h4), fun _ _ _ e => nomatch e⟩
    · simp only [Bool.and_eq_true] at h
      obtain ⟨⟨h1, h2⟩, h3⟩ := h
      exact ⟨m_ite (pt _ _ h1) (pe _ _ h2) (pe _ _ h3), t_ite (pt _ _ h1) (pt _ _ h2) (pt _ _ h3), fun _ _ _ e => nomatch e⟩
    · simp only [Bool.and_eq_true] at h
      obtain ⟨⟨⟨h1, h2⟩, h3⟩, h4⟩ := h
      obtain ⟨p1, p2, p3⟩ := plain1 h3
      have F := G.fns _ _ (of_decide_eq_true h1)
      rename_i x p as pos i cs
      have z : PE X (.Call (.Name x p) as [] pos) (tE Φ (.call i cs)) := by
        cases as with
        | nil =>
          cases cs with
          | nil => exact pe_fn0 F G.gd (G.gl h2) p1
          | cons _ _ => unfold chkL at h4; cases h4
        | cons a as =>
          cases cs with
          | nil => unfold chkL at h4; cases h4
          | cons c cs =>
            have hh := h4
            unfold chkL at hh
            rw [Bool.and_eq_true, Bool.and_eq_true] at hh
            exact pe_fn F G.gd (G.gl h2) p1 (pa_ok pe h4) (star_cons hh.1.1) (star_any hh.2)
      exact ⟨z, t_plain z fun _ => rfl, fun _ _ _ e => nomatch e⟩
    · simp only [Bool.and_eq_true] at h
      obtain ⟨⟨⟨h1, h2⟩, h3⟩, h4⟩ := h
      obtain ⟨p1, p2, p3⟩ := plain1 h3
      have hh := h4
      unfold chkL at hh
      rw [Bool.and_eq_true, Bool.and_eq_true] at hh
      exact fin3 (m_gcd (G.gl h2) (G.imp _ (of_decide_eq_true h1)) (pa_ok pe h4) p1 (star_cons hh.1.1) (star_any hh.2)) (fun _ => rfl) (fun _ _ _ e => nomatch e)
    · simp only [Bool.and_eq_true] at h
      obtain ⟨⟨⟨⟨⟨h1, h2⟩, h3⟩, h4⟩, h5⟩, h6⟩ := h
      obtain ⟨p1, p2, p3⟩ := plain1 h5
      have hh := h6
      unfold chkL at hh
      rw [Bool.and_eq_true, Bool.and_eq_true] at hh
      exact fin3 (m_bi h2 (of_decide_eq_true h1) G.calm G.gd G.un (G.gl h4) (G.bis _ h3) (pa_ok pe h6) p3 p1 (star_cons hh.1.1) (star_any hh.2)) (fun _ => rfl) (fun _ _ _ e => nomatch e)
    · simp only [Bool.and_eq_true] at h
      obtain ⟨⟨⟨⟨⟨⟨⟨h1, h2⟩, h3⟩, h4⟩, h5⟩, h6⟩, h7⟩, h8⟩ := h
      exact fin3 (m_isi G (of_decide_eq_true h1) (G.bis _ h2) (G.gl h3) h4 h5 (pe _ _ h6) h7 (of_decide_eq_true h8)) (fun _ => rfl) (fun _ _ _ e => nomatch e)
    · simp only [Bool.and_eq_true] at h
      obtain ⟨⟨⟨⟨⟨⟨h1, h2⟩, h3⟩, h4⟩, h5⟩, h6⟩, h7⟩ := h
      exact fin3 (m_isi1 G (of_decide_eq_true h1) (G.bis _ h2) (G.gl h3) h4 h5 (pe _ _ h6) h7) (fun _ => rfl) (fun _ _ _ e => nomatch e)
    · exact fin3 (m_tup (pa_ok pe h)) (fun _ => rfl) (fun _ _ _ e => nomatch e)
    · exact fin3 (m_lst (pa_ok pe h)) (fun _ => rfl) (fun _ _ _ e => nomatch e)
    · simp only [Bool.and_eq_true] at h
      obtain ⟨⟨h1, h2⟩, h3⟩ := h
      exact fin3 (m_slc (pe _ _ h1) (po_ok h2 pe) (po_ok h3 pe)) (fun _ => rfl) (fun _ _ _ e => nomatch e)
    · simp only [Bool.and_eq_true] at h
      obtain ⟨⟨h1, h2⟩, h3⟩ := h
      exact fin3 (m_idx h1 (pe _ _ h2) (pe _ _ h3)) (fun _ => rfl) (fun _ _ _ e => nomatch e)
    · rename_i elt tg it ifs scope pos c ctg cit cifs
      simp only [Bool.and_eq_true] at h
      obtain ⟨⟨⟨⟨⟨⟨h1, h2⟩, h3⟩, h4⟩, h5⟩, h6⟩, h7⟩ := h
      have ho := of_decide_eq_true h4
      have z : PE X (.ListComp elt [⟨tg, it, ifs, 0⟩] scope pos) (tE Φ (.comp c ctg cit cifs)) := by
        have w := pe_lc (X := X) (elt := elt) (tg := tg) (iter := it) (ifs := ifs) (scope := scope) (own := ownOf tg ctg) (pos := pos) (wi := tI Φ cit) (g := tG ctg) (tt := tTs Φ cifs) (te := tE Φ c) G.calm G.nd (pi_ok G pe h1 tg) (by rw [G.hN, G.sc]; exact blkOk_by h3)
          (fun s H D cl fp => pg_ok (G.blk s H scope cl D fp) h5)
          (fun s H D cl fp => pts_ok (fun e c h => (ih _ C Φ N _ e c (G.blk s H scope cl D fp) h).2.1) h6)
          (fun s H D cl fp => (ih _ C Φ N _ elt c (G.blk s H scope cl D fp) h7).1) (fold_no h2)
        refine ⟨fun pins s σ H Q I q => w.run pins s σ H Q I ?_⟩
        rw [ho]
        exact lc_of q
      exact fin3 z (fun _ => rfl) (fun _ _ _ e => nomatch e)
    · cases h
theorem chk_pe {n : Nat} {e : Expr} {ce : CE} (G : Good X C Φ N k) (h : chkE n C N k e ce = true) : PE X e (tE Φ ce) := (chk_all n X C Φ N k e ce G h).1
theorem chk_pt {n : Nat} {e : Expr} {ce : CE} (G : Good X C Φ N k) (h : chkE n C N k e ce = true) : PT X e (tT Φ ce) := (chk_all n X C Φ N k e ce G h).2.1
end
end Mn

set_option Elab.async false
set_option linter.all false
set_option maxRecDepth 100000
set_option maxHeartbeats 4000000
/-! Mn8: what statements do to a frame; their readings. -/
namespace Mn
open PySem L2
open PySem.MeetsSeq PySem.MeetsSeq2 PySem.MeetsSeq3
open PySem.AutoSeq1 (wpAny_loadPart')

theorem list_ext_tup (l : Addr) (xs : Array Value) (n : Nat) (b : Addr) (ys : Array Value) (n2 : Nat) (dd : Option Addr) (sl : Array (Option Value)) (h0 : ¬(!xs.isEmpty && Builtin.List.listTooLong (xs.size + ys.size)) = true) (h1 : xs.size ≤ sizeLine) (h2 : xs.size + ys.size ≤ sizeLine + 1) :
    Meets (Builtin.«list.extend» ⟨[.ref l, .ref b], []⟩) (fun _ R s => s.heap.get? l = some { cls := .type "list", dict := none, data := .seq xs n, slots := #[] } ∧ s.heap.get? b = some { cls := .type "tuple", dict := dd, data := .seq ys n2, slots := sl } ∧
      R (.ok (.ret Value.none)) { s with heap := s.heap.update l (Obj.mapSeq fun x => x ++ ys), toks := s.toks }) :=
  .of_wp fun prog w A R s h => by
    obtain ⟨hp, g, d, tk, os⟩ := s
    obtain ⟨hl, hb, h⟩ := h
    have f1 := AutoSeq1.idx_int
    have f2 := AutoSeq1.sub_tuple_tuple
    have f3 := AutoSeq1.sub_list_list
    have f4 := AutoSeq1.sub_tuple_list
    have f5 := AutoSeq1.sub_list_tuple
    have z : (xs ++ ys).size ≤ sizeLine + 1 := by rw [Array.size_append]; exact h2
    wp_walk using (wpAny_updateSeq hl rfl (hz := h1) (_hz' := z)), wpAny_loadPart' hl, wpAny_loadPart' hb
    exact ⟨_, rfl, h⟩

section
variable {X : Cx}
/-- xs.extend(ys), ys a list or a tuple -/
def rExtA : V → List V → Hp → VK → Prop := fun x vs H Q => ∃ l b xs zs, x = .ref l ∧ vs = [.ref b] ∧ H l = some (.lst xs) ∧ (Rd H b (.lst zs) ∨ Rd H b (.tup zs)) ∧ xs.length + zs.length ≤ sizeLine ∧ Q .non (upd H l (.lst (xs ++ zs)))
theorem mt_extA : MtM X "list.extend" rExtA := by
  intro pins s σ H x vs v us Q I rx rv ⟨l, b, xs, zs, e1, e2, hH, hB, hz, q⟩
  subst e1
  subst e2
  cases rx
  obtain ⟨u, rfl, ru⟩ := rv.one
  cases ru
  obtain ⟨z, its, n, r, hl, e⟩ := I.lstM hH
  have fin : ∀ (its2 : List Value), Vals zs its2 → EP X pins σ Q .none { s with heap := s.heap.update l (Obj.mapSeq fun x => x ++ its2.toArray), toks := s.toks } := fun its2 r2 => by
    refine ⟨.non, _, I.lset (its' := its ++ its2) hH e (by simp) (r.append r2) ?_, rfl, q⟩
    rw [List.length_append]
    exact hz
  have sz : ∀ (its2 : List Value), Vals zs its2 → its.toArray.size + its2.toArray.size ≤ sizeLine := fun its2 r2 => by
    rw [List.size_toArray, List.size_toArray, ← hl, ← r2.length]
    exact hz
  rcases hB with hB | hB
  · obtain ⟨z2, its2, n2, r2, hl2, eb⟩ := Inv.rdL I hB
    have s2 := sz its2 r2
    have lg : ¬ (!its.toArray.isEmpty && Builtin.List.listTooLong (its.toArray.size + its2.toArray.size)) = true := by rw [notLongL s2, Bool.and_false]; exact Bool.false_ne_true
    exact call_meets F.slot_list_extend ⟨_, e, rfl⟩ F.entry_list_extend (F.args_list_extend_2 _ _)
      (AutoSeq1.list_extend_list_list_0 l its.toArray n b its2.toArray n2 lg (by omega) (by omega)) ⟨e, eb, fin its2 r2⟩
  · obtain ⟨its2, r2, p, _⟩ := I.tuple (SqT.rd hB)
    obtain ⟨⟨cls, dd, data, sl⟩, ho, hc, n2, hd⟩ := p
    simp only at hc hd
    subst hc hd
    have s2 := sz its2 r2
    have lg : ¬ (!its.toArray.isEmpty && Builtin.List.listTooLong (its.toArray.size + its2.toArray.size)) = true := by rw [notLongL s2, Bool.and_false]; exact Bool.false_ne_true
    exact call_meets F.slot_list_extend ⟨_, e, rfl⟩ F.entry_list_extend (F.args_list_extend_2 _ _)
      (list_ext_tup l its.toArray n b its2.toArray n2 dd sl lg (by omega) (by omega)) ⟨e, ho, fin its2 r2⟩
end

section
variable {H0 H H' : Hp} {O0 O : Addr → Bool} {σm : MS} {σ : L2.St}

theorem Sim.lt (S : Sim H0 O0 σm O σ H) {i : Nat} {r : MV × Bool} (e : σm[i]? = some (some r)) : i < σm.length := (List.getElem?_eq_some_iff.mp e).1
/-- a name's list, owned -/
theorem Sim.owned (S : Sim H0 O0 σm O σ H) {i : Nat} {l : List MV} (e : ownL σm i = some l) : σm[i]? = some (some (.lst l, true)) ∧ ∃ p vs, σ[i]? = some (some (.ref p)) ∧ O p = true ∧ O0 p = false ∧ H0 p = none ∧ H p = some (.lst vs) ∧ RepAll (Vw H O) vs l := by
  unfold ownL at e
  split at e
  · rename_i m h
    cases e
    obtain ⟨v, e1, p, vs, l', a, b, c, d, r⟩ := S.slot i _ _ h
    cases a
    subst b
    have o0 := S.own i _ p h e1
    refine ⟨h, p, vs, e1, c, o0, ?_, d, r⟩
    rcases S.new p c with z | z
    · rw [z] at o0; cases o0
    · exact z
  · cases e

/-- the owned list at i changes -/
theorem Sim.mut (S : Sim H0 O0 σm O σ H) {i : Nat} {l l' : List MV} {p : Addr} {vs' : List V} (e : σm[i]? = some (some (.lst l, true))) (ep : σ[i]? = some (some (.ref p))) (hO : O p = true) (h0 : H0 p = none) (r : RepAll (Vw H O) vs' l') :
    Sim H0 O0 (setM σm i (.lst l') true) O σ (upd H p (.lst vs')) where
  len := by unfold setM; rw [List.length_set]; exact S.len
  dom := fun q h => by
    by_cases z : q = p
    · rw [z]; exact ⟨vs', upd_same⟩
    · obtain ⟨ws, w⟩ := S.dom q h
      exact ⟨ws, by rw [upd_ne z]; exact w⟩
  same := fun b o h => by
    rw [upd_ne (fun z => by rw [z, h0] at h; cases h)]
    exact S.same b o h
  sub := S.sub
  new := S.new
  slot := fun j y own h => by
    unfold setM at h
    by_cases hj : i = j
    · subst hj
      rw [List.getElem?_set_self (S.lt e)] at h
      cases h
      refine ⟨.ref p, ep, p, vs', l', rfl, rfl, hO, upd_same, ?_⟩
      rw [Vw_set hO]
      exact r
    · rw [List.getElem?_set_ne hj] at h
      obtain ⟨v, e1, q⟩ := S.slot j y own h
      refine ⟨v, e1, ?_⟩
      cases own with
      | false => show Rep _ _ _; rw [Vw_set hO]; exact q
      | true =>
        obtain ⟨p2, ws, m, a, b, c, d, q⟩ := q
        subst b
        have ne : p2 ≠ p := fun z => by
          subst z
          exact hj (S.dist i j _ _ p2 e h ep e1)
        exact ⟨p2, ws, m, a, rfl, c, by rw [upd_ne ne]; exact d, by rw [Vw_set hO]; exact q⟩
  own := fun j y q h e1 => by
    unfold setM at h
    by_cases hj : i = j
    · subst hj
      exact S.own i _ q e e1
    · rw [List.getElem?_set_ne hj] at h
      exact S.own j y q h e1
  dist := fun j k y z q h1 h2 e1 e2 => by
    have back : ∀ m w, (setM σm i (.lst l') true)[m]? = some (some (w, true)) → ∃ u, σm[m]? = some (some (u, true)) := fun m w h => by
      unfold setM at h
      by_cases hm : i = m
      · subst hm; exact ⟨_, e⟩
      · rw [List.getElem?_set_ne hm] at h; exact ⟨_, h⟩
    obtain ⟨u1, g1⟩ := back j y h1
    obtain ⟨u2, g2⟩ := back k z h2
    exact S.dist j k u1 u2 q g1 g2 e1 e2
theorem mut_view {p : Addr} {o : HO} (hO : O p = true) : Same (Vw H O) (Vw (upd H p o) O) := by
  rw [Vw_set hO]
  exact Same.refl _

/-- a new list is stored: the name owns it -/
theorem Sim.putOwn (S : Sim H0 O0 σm O σ H) {i : Nat} {l : List MV} {p : Addr} {vs : List V} (s : Same H H') (n : H p = none) (h : H' p = some (.lst vs)) (r : RepAll (Vw H' (add O p)) vs l) :
    Sim H0 O0 (setM σm i (.lst l) true) (add O p) (σ.set i (some (.ref p))) H' := by
  have S' := S.hide n s h
  have nO : O p = false := S.dom.new n
  have n0 : O0 p = false := by
    cases e : O0 p with
    | false => rfl
    | true => rw [S.sub p e] at nO; cases nO
  have other : ∀ (j : Nat) (y : MV), σm[j]? = some (some (y, true)) → σ[j]? ≠ some (some (V.ref p)) := fun j y e1 e2 => by
    obtain ⟨v, e3, q, ws, m, a, b, c, d⟩ := S.slot j y true e1
    rw [e3] at e2
    cases e2
    cases b
    rw [c] at nO; cases nO
  refine ⟨by unfold setM; rw [List.length_set, List.length_set]; exact S.len, S'.dom, S'.same, S'.sub, S'.new, fun j y own e => ?_, fun j y q e1 e2 => ?_, fun j k y z q e1 e2 e3 e4 => ?_⟩
  · unfold setM at e
    by_cases hj : i = j
    · subst hj
      by_cases hl : i < σm.length
      · rw [List.getElem?_set_self hl] at e
        cases e
        exact ⟨.ref p, List.getElem?_set_self (by rw [← S.len]; exact hl), p, vs, l, rfl, rfl, add_self, h, r⟩
      · rw [List.getElem?_eq_none (by rw [List.length_set]; omega)] at e; cases e
    · rw [List.getElem?_set_ne hj] at e
      obtain ⟨v, e1, q⟩ := S'.slot j y own e
      exact ⟨v, by rw [List.getElem?_set_ne hj]; exact e1, q⟩
  · unfold setM at e1
    by_cases hj : i = j
    · subst hj
      by_cases hl : i < σ.length
      · rw [List.getElem?_set_self hl] at e2
        cases e2
        exact n0
      · rw [List.getElem?_eq_none (by rw [List.length_set]; omega)] at e2; cases e2
    · rw [List.getElem?_set_ne hj] at e1 e2
      exact S.own j y q e1 e2
  · unfold setM at e1 e2
    by_cases hj : i = j
    · by_cases hk : i = k
      · rw [← hj, hk]
      · exfalso
        subst hj
        rw [List.getElem?_set_ne hk] at e2 e4
        by_cases hl : i < σ.length
        · rw [List.getElem?_set_self hl] at e3
          cases e3
          exact other k z e2 e4
        · rw [List.getElem?_eq_none (by rw [List.length_set]; omega)] at e3; cases e3
    · rw [List.getElem?_set_ne hj] at e1 e3
      by_cases hk : i = k
      · exfalso
        subst hk
        by_cases hl : i < σ.length
        · rw [List.getElem?_set_self hl] at e4
          cases e4
          exact other j y e1 e3
        · rw [List.getElem?_eq_none (by rw [List.length_set]; omega)] at e4; cases e4
      · rw [List.getElem?_set_ne hk] at e2 e4
        exact S.dist j k y z q e1 e2 e3 e4

/-- an owned list is given up -/
theorem Sim.drop (S : Sim H0 O0 σm O σ H) {i : Nat} {x : MV} {own : Bool} (e : σm[i]? = some (some (x, own))) : ∃ O', Sim H0 O0 (setM σm i x false) O' σ H ∧ Same (Vw H O) (Vw H O') := by
  have hset : ∀ (j : Nat) (y : MV) (b : Bool), i ≠ j → (setM σm i x false)[j]? = some (some (y, b)) → σm[j]? = some (some (y, b)) := fun j y b hj h => by
    unfold setM at h
    rw [List.getElem?_set_ne hj] at h
    exact h
  have hself : ∀ (y : MV) (b : Bool), (setM σm i x false)[i]? = some (some (y, b)) → y = x ∧ b = false := fun y b h => by
    unfold setM at h
    rw [List.getElem?_set_self (S.lt e)] at h
    cases h
    exact ⟨rfl, rfl⟩
  cases own with
  | false =>
    refine ⟨O, ?_, Same.refl _⟩
    have : setM σm i x false = σm := by
      unfold setM
      obtain ⟨hl, e'⟩ := List.getElem?_eq_some_iff.mp e
      rw [← e', List.set_getElem_self]
    rw [this]
    exact S
  | true =>
    obtain ⟨v, e1, p, vs, l, a, b, c, d, r⟩ := S.slot i x true e
    subst a
    subst b
    have o0 := S.own i _ p e e1
    have less : ∀ q, (O q && !decide (q = p)) = true → O q = true := fun q h => by rw [Bool.and_eq_true] at h; exact h.1
    have vw : Same (Vw H O) (Vw H fun q => O q && !decide (q = p)) := Vw_less less
    refine ⟨fun q => O q && !decide (q = p), ⟨by unfold setM; rw [List.length_set]; exact S.len, fun q h => S.dom q (less q h), S.same, fun q h => ?_, fun q h => S.new q (less q h), fun j y b h => ?_, fun j y q h e2 => ?_, fun j k y z q h1 h2 e2 e3 => ?_⟩, vw⟩
    · rw [Bool.and_eq_true]
      refine ⟨S.sub q h, ?_⟩
      have : q ≠ p := fun z => by rw [z, o0] at h; cases h
      simp [this]
    · by_cases hj : i = j
      · subst hj
        obtain ⟨rfl, rfl⟩ := hself y b h
        refine ⟨_, e1, .lst (.inl (Vw_of (by simp) d)) (r.up vw)⟩
      · obtain ⟨w, e2, q⟩ := S.slot j y b (hset j y b hj h)
        refine ⟨w, e2, ?_⟩
        cases b with
        | false => exact Rep.up vw q
        | true =>
          obtain ⟨p2, ws, m, a, b, c2, d2, r2⟩ := q
          subst b
          have ne : p2 ≠ p := fun z => by
            subst z
            exact hj (S.dist i j _ _ p2 e (hset j y true hj h) e1 e2)
          exact ⟨p2, ws, m, a, rfl, by simp [c2, ne], d2, r2.up vw⟩
    · by_cases hj : i = j
      · subst hj; cases (hself y true h).2
      · exact S.own j y q (hset j y true hj h) e2
    · by_cases hj : i = j
      · subst hj; cases (hself y true h1).2
      · by_cases hk : i = k
        · subst hk; cases (hself z true h2).2
        · exact S.dist j k y z q (hset j y true hj h1) (hset k z true hk h2) e2 e3
end

/-! ### readings of statements -/
/-- what is wanted behind a statement, by its way -/
def FinS (H0 : Hp) (O0 : Addr → Bool) (D : Ends) (O : Addr → Bool) (H : Hp) : Flow → Prop
  | .nx σm' => ∀ σ' H' O', Sim H0 O0 σm' O' σ' H' → Same (Vw H O) (Vw H' O') → D.nx σ' H'
  | .bk σm' => ∀ σ' H' O', Sim H0 O0 σm' O' σ' H' → Same (Vw H O) (Vw H' O') → D.bk σ' H'
  | .ct σm' => ∀ σ' H' O', Sim H0 O0 σm' O' σ' H' → Same (Vw H O) (Vw H' O') → D.ct σ' H'
  | .ret v own => ∀ w H', Same H0 H' → ResOk O0 H0 H' (v, tagOf own) w → D.rt w H'
def tS (Φ : Fns) (L : Nat) (c : CS) : TS := fun D σ H => ∃ H0 O0 σm O fl, Sim H0 O0 σm O σ H ∧ ex Φ L c σm = some fl ∧ FinS H0 O0 D O H fl
def tSs (Φ : Fns) (L : Nat) (cs : List CS) : TS := fun D σ H => ∃ H0 O0 σm O fl, Sim H0 O0 σm O σ H ∧ exs Φ L cs σm = some fl ∧ FinS H0 O0 D O H fl

theorem FinS.up {H0 : Hp} {O0 : Addr → Bool} {D : Ends} {O O' : Addr → Bool} {H H' : Hp} (s : Same (Vw H O) (Vw H' O')) : ∀ {fl : Flow}, FinS H0 O0 D O H fl → FinS H0 O0 D O' H' fl
  | .nx _, f => fun σ' H2 O2 S w => f σ' H2 O2 S (s.trans w)
  | .bk _, f => fun σ' H2 O2 S w => f σ' H2 O2 S (s.trans w)
  | .ct _, f => fun σ' H2 O2 S w => f σ' H2 O2 S (s.trans w)
  | .ret _ _, f => f

section
variable {X : Cx} {Φ : Fns} {L : Nat}
theorem ss_no : PSs X [] (tSs Φ L []) := ⟨fun pins s σ H D I ⟨H0, O0, σm, O, fl, S, e, f⟩ => by
  cases e
  exact pss_nil.run pins s σ H D I (f σ H O S (Same.refl _))⟩
theorem ss_more {st : Stmt} {sts : List Stmt} {c : CS} {cs : List CS} (h1 : PS X st (tS Φ L c)) (h2 : PSs X sts (tSs Φ L cs)) : PSs X (st :: sts) (tSs Φ L (c :: cs)) := by
  refine ⟨fun pins s σ H D I ⟨H0, O0, σm, O, fl, S, e, f⟩ => ?_⟩
  unfold exs at e
  obtain ⟨f1, e1, e⟩ := Option.bind_eq_some_iff.mp e
  refine (pss_cons h1 h2).run pins s σ H D I ⟨H0, O0, σm, O, f1, S, e1, ?_⟩
  cases f1 with
  | nx σm1 => exact fun σ1 H1 O1 S1 w => ⟨H0, O0, σm1, O1, fl, S1, e, f.up w⟩
  | ret v own => cases e; exact f
  | bk σm1 => cases e; exact f
  | ct σm1 => cases e; exact f
theorem ss_drop {sts : List Stmt} {i : Nat} {cs : List CS} (h : PSs X sts (tSs Φ L cs)) : PSs X sts (tSs Φ L (.drop i :: cs)) := by
  refine ⟨fun pins s σ H D I ⟨H0, O0, σm, O, fl, S, e, f⟩ => ?_⟩
  unfold exs at e
  obtain ⟨f1, e1, e⟩ := Option.bind_eq_some_iff.mp e
  unfold ex at e1
  split at e1
  · rename_i x own hx
    cases e1
    obtain ⟨O', S', w⟩ := S.drop hx
    exact h.run pins s σ H D I ⟨H0, O0, _, O', fl, S', e, f.up w⟩
  · cases e1

theorem m_asg {i : Nat} {x : Str} {e : Expr} {c : CE} {px pos : Pos} (hN : X.N.Nodup) (hi : X.N[i]? = some x) (hx : Loc X.env.scope x) (hf : X.fn x = true ∨ X.env.scope.names.lookup x = some .local)
    (h : PS X (.Assign [.Name x px] e pos) (tAsg (tE Φ c) (gName i))) : PS X (.Assign [.Name x px] e pos) (tS Φ L (.asg i c)) := by
  refine ⟨fun pins s σ H D I ⟨H0, O0, σm, O, fl, S, ev', f⟩ => ?_⟩
  unfold ex at ev'
  obtain ⟨⟨v, t⟩, e1, ev'⟩ := Option.bind_eq_some_iff.mp ev'
  obtain ⟨σm', e2, ev'⟩ := Option.bind_eq_some_iff.mp ev'
  cases ev'
  refine h.run pins s σ H D I (tE_of S e1 fun w H1 s1 q => ?_)
  cases t with
  | sh => cases e2; exact f _ H1 O ((S.up s1).put q) (Vw_up s1)
  | bo => cases e2
  | fr =>
    cases e2
    cases v with
    | lst l =>
      obtain ⟨p, vs, rfl, n, hp, r⟩ := q.2 l rfl
      exact f _ H1 (add O p) (S.putOwn s1 n hp r) (Vw_new s1 n)
    | _ => exact f _ H1 O ((S.up s1).put q.1) (Vw_up s1)
theorem m_expr {e : Expr} {c : CE} {pos : Pos} (he : PE X e (tE Φ c)) (hs : swapsWith e none pos.line X.env = pure false) : PS X (.Expr e pos) (tS Φ L (.expr c)) := by
  refine ⟨fun pins s σ H D I ⟨H0, O0, σm, O, fl, S, ev', f⟩ => ?_⟩
  unfold ex at ev'
  obtain ⟨r, e1, ev'⟩ := Option.bind_eq_some_iff.mp ev'
  cases ev'
  exact (ps_expr he hs).run pins s σ H D I (tE_of S e1 fun w H1 s1 q => f _ H1 O (S.up s1) (Vw_up s1))
theorem ret_res {H0 H H1 : Hp} {O0 O : Addr → Bool} {σm : MS} {σ : L2.St} {r : MV × Tg} {w : V} {D : Ends} (S : Sim H0 O0 σm O σ H) (s1 : Same H H1) (q : ResOk O H H1 r w) (ho : r.2 = .bo → ∀ p, w = .ref p → O0 p = false) (f : FinS H0 O0 D O H (retM r)) : D.rt w H1 := by
  obtain ⟨v, t⟩ := r
  have less : ∀ p, O0 p = true → O p = true := S.sub
  cases t with
  | sh => exact f w H1 (S.same.trans s1) (Rep.up (Vw_less less) q)
  | fr =>
    refine f w H1 (S.same.trans s1) ⟨q.1.up (Vw_less less), fun l e => ?_⟩
    obtain ⟨p, vs, a, b, c, d⟩ := q.2 l e
    refine ⟨p, vs, a, S.same.free b, c, d.up (Vw_less fun b hb => ?_)⟩
    rcases of_add hb with z | z
    · exact add_of (less b z)
    · rw [z]; exact add_self
  | bo =>
    obtain ⟨p, vs, l, a, b, c, d, e⟩ := q
    subst a
    subst b
    have o0 := ho rfl p rfl
    have n0 : H0 p = none := by
      rcases S.new p c with z | z
      · rw [z] at o0; cases o0
      · exact z
    refine f (.ref p) H1 (S.same.trans s1) ⟨.lst (.inl (Vw_of o0 d)) (e.up (Vw_less less)), fun m em => ?_⟩
    cases em
    refine ⟨p, vs, rfl, n0, d, e.up (Vw_less fun b hb => ?_)⟩
    rcases of_add hb with z | z
    · exact less b z
    · rw [z]; exact c
theorem m_ret {e : Expr} {c : CE} {pos : Pos} (he : PE X e (tE Φ c)) (hv : ∀ i, c = .var i → ∃ x px, e = .Name x px ∧ X.N[i]? = some x ∧ Vis X.env.scope x ∧ (x == ("__debug__" : Str)) = false ∧ (x == ("__classdict__" : Str)) = false) : PS X (.Return (some e) pos) (tS Φ L (.ret c)) := by
  refine ⟨fun pins s σ H D I ⟨H0, O0, σm, O, fl, S, ev', f⟩ => ?_⟩
  unfold ex at ev'
  obtain ⟨r, e1, ev'⟩ := Option.bind_eq_some_iff.mp ev'
  split at ev'
  · cases ev'
  · rename_i hr
    cases ev'
    by_cases hb : r.2 = .bo
    · have hc : isVar c = true := by
        cases z : isVar c with
        | true => rfl
        | false => exact absurd ⟨hb, z⟩ hr
      cases c with
      | var i =>
        obtain ⟨x, px, rfl, h1, h2, h3, h4⟩ := hv i rfl
        unfold ev at e1
        obtain ⟨v, g1, g2⟩ := S.get e1
        refine (ps_ret (pe_var h1 h2 h3 h4)).run pins s σ H D I ⟨v, g1, ret_res S (Same.refl H) g2 (fun _ p hp => ?_) f⟩
        unfold getM at e1
        split at e1
        · rename_i y own hy
          cases e1
          cases own with
          | true => exact S.own i y p hy (by rw [g1, hp])
          | false => cases hb
        · cases e1
      | _ => cases hc
    · exact (ps_ret he).run pins s σ H D I (tE_of S e1 fun w H1 s1 q => ret_res S s1 q (fun z => absurd z hb) f)
theorem m_retN {pos : Pos} : PS X (.Return none pos) (tS Φ L .retN) := by
  refine ⟨fun pins s σ H D I ⟨H0, O0, σm, O, fl, S, ev', f⟩ => ?_⟩
  cases ev'
  exact ps_retN.run pins s σ H D I (f .non H S.same .non)
theorem m_if {t : Expr} {a b : List Stmt} {c : CE} {ca cb : List CS} {pos : Pos} (ht : PT X t (tT Φ c)) (ha : PSs X a (tSs Φ L ca)) (hb : PSs X b (tSs Φ L cb)) : PS X (.If t a b pos) (tS Φ L (.ite c ca cb)) := by
  refine ⟨fun pins s σ H D I ⟨H0, O0, σm, O, fl, S, ev', f⟩ => ?_⟩
  unfold ex at ev'
  obtain ⟨x, e1, ev'⟩ := Option.bind_eq_some_iff.mp ev'
  obtain ⟨tb, e2, ev'⟩ := Option.bind_eq_some_iff.mp ev'
  refine (ps_if ht ha hb).run pins s σ H D I ⟨H0, O0, σm, O, tb, S, by rw [e1]; exact e2, fun H1 s1 => ?_⟩
  cases tb with
  | true => exact iteT ⟨H0, O0, σm, O, fl, S.up s1, ev', f.up (Vw_up s1)⟩
  | false => exact iteF ⟨H0, O0, σm, O, fl, S.up s1, ev', f.up (Vw_up s1)⟩
theorem m_brk {pos : Pos} : PS X (.Break pos) (tS Φ L .brk) := by
  refine ⟨fun pins s σ H D I ⟨H0, O0, σm, O, fl, S, ev', f⟩ => ?_⟩
  cases ev'
  exact ps_break.run pins s σ H D I (f σ H O S (Same.refl _))
theorem m_cnt {pos : Pos} : PS X (.Continue pos) (tS Φ L .cnt) := by
  refine ⟨fun pins s σ H D I ⟨H0, O0, σm, O, fl, S, ev', f⟩ => ?_⟩
  cases ev'
  exact ps_continue.run pins s σ H D I (f σ H O S (Same.refl _))
theorem m_pass {pos : Pos} : PS X (.Pass pos) (tS Φ L .pass) := by
  refine ⟨fun pins s σ H D I ⟨H0, O0, σm, O, fl, S, ev', f⟩ => ?_⟩
  cases ev'
  exact ps_pass.run pins s σ H D I (f σ H O S (Same.refl _))

theorem m_for {tg it : Expr} {body : List Stmt} {g : TGT} {c : CI} {cb : List CS} {pos : Pos} (hx : X.xe = fun _ _ => False) (hc : X.calm = true) (hi : PI X tg it (tI Φ c)) (hg : PG X tg (tG g)) (hb : PSs X body (tSs Φ L cb)) (hs : ∀ x, foldedSetIterable it X.env x = pure x) :
    PS X (.For tg it body [] pos) (tS Φ L (.forS g c cb)) := by
  refine ⟨fun pins s σ H D I ⟨H0, O0, σm, O, fl, S, ev', f⟩ => ?_⟩
  unfold ex at ev'
  obtain ⟨items, e1, ev'⟩ := Option.bind_eq_some_iff.mp ev'
  split at ev'
  · cases ev'
  rename_i hbo
  generalize hgf : (fun x σ' => (putT σ' g x).bind fun σ2 => exs Φ L cb σ2) = gf at ev'
  refine (ps_for (by rw [hx]; exact PySem.PassesOwn.never) hc hi hg hb hs).run pins s σ H D I ⟨H0, O0, σm, O, items, S, e1, fun J H1 vs s1 ra itr => ?_⟩
  have hlen : vs.length = items.1.length := ra.length
  refine ⟨fun i m σ2 H2 => m = vs.length - i ∧ i ≤ vs.length ∧ ∃ σm' O', Sim H0 O0 σm' O' σ2 H2 ∧ Same (Vw H1 O) (Vw H2 O') ∧ goFor gf (items.1.drop i) σm' = some fl, ⟨vs.length, rfl, Nat.zero_le _, σm, O, S.up s1, Same.refl _, ev'⟩, ?_⟩
  rintro i m σ2 H2 ⟨rfl, hi', σm', O', S', sv, hgo⟩
  have hst : stay items.2 O H1 H2 := fun b o e n => by
    rcases n with n | n
    · exact absurd n hbo
    · exact Vw_le _ _ (sv _ _ (Vw_of n e))
  have F2 : FinS H0 O0 D O' H2 fl := f.up ((Vw_up s1).trans sv)
  by_cases hlt : i < vs.length
  · obtain ⟨_, hgoi⟩ := itr H2 hst i
    obtain ⟨go, hy⟩ := hgoi hlt
    have hlt' : i < items.1.length := by rw [← hlen]; exact hlt
    rw [List.drop_eq_getElem_cons hlt'] at hgo
    unfold goFor at hgo
    obtain ⟨f1, g1, hgo⟩ := Option.bind_eq_some_iff.mp hgo
    have g1' := g1
    rw [← hgf] at g1
    obtain ⟨σ3, g2, g1⟩ := Option.bind_eq_some_iff.mp g1
    refine .inr ⟨go, fun σ4 H4 => i + 1 ≤ vs.length ∧ ∃ σm4 O4, Sim H0 O0 σm4 O4 σ4 H4 ∧ Same (Vw H1 O) (Vw H4 O4) ∧ goFor gf (items.1.drop (i + 1)) σm4 = some fl, fun σ4 H4 q => ⟨vs.length - (i + 1), by omega, rfl, q.1, q.2⟩, fun x H3 hx3 => ?_⟩
    obtain ⟨e3, hxv⟩ := hy x H3 hx3
    subst e3
    obtain ⟨xm, hxm, rx⟩ := ra.getV i hxv
    have exm : items.1[i] = xm := by
      rw [List.getElem?_eq_getElem hlt'] at hxm
      exact Option.some.inj hxm
    rw [exm] at g2
    refine ⟨H0, O0, σm', O', xm, σ3, S', rx.up sv, g2, fun σ4 S4 _ => ⟨H0, O0, σ3, O', f1, S4, g1, ?_⟩⟩
    cases f1 with
    | nx σ5 => exact fun σ6 H6 O6 S6 w => ⟨hlt, σ5, O6, S6, sv.trans w, hgo⟩
    | ct σ5 => exact fun σ6 H6 O6 S6 w => ⟨hlt, σ5, O6, S6, sv.trans w, hgo⟩
    | bk σ5 => cases hgo; exact F2
    | ret v own => cases hgo; exact F2
  · have e : i = vs.length := by omega
    subst e
    rw [List.drop_eq_nil_of_le (by omega)] at hgo
    cases hgo
    exact .inl ⟨(itr H2 hst _).1 (Nat.le_refl _), F2 σ2 H2 O' S' (Same.refl _)⟩
theorem m_whl {t : Expr} {body : List Stmt} {c : CE} {cb : List CS} {pos : Pos} (hx : X.xe = fun _ _ => False) (ht : PT X t (tT Φ c)) (hb : PSs X body (tSs Φ L cb)) : PS X (.While t body [] pos) (tS Φ L (.whl c cb)) := by
  refine ⟨fun pins s σ H D I ⟨H0, O0, σm, O, fl, S, ev', f⟩ => ?_⟩
  unfold ex at ev'
  generalize hgc : (fun σ' => (ev Φ c σ').bind fun x => truth x.1) = gc at ev'
  generalize hgf : (fun σ' => exs Φ L cb σ') = gf at ev'
  refine (ps_while (by rw [hx]; exact PySem.PassesOwn.never) ht hb).run pins s σ H D I ?_
  refine ⟨fun m σ2 H2 => ∃ σm' O', Sim H0 O0 σm' O' σ2 H2 ∧ Same (Vw H O) (Vw H2 O') ∧ goWhl gc gf m σm' = some fl, ⟨L, σm, O, S, Same.refl _, ev'⟩, ?_⟩
  rintro m σ2 H2 ⟨σm', O', S', sv, hgo⟩
  cases m with
  | zero => unfold goWhl at hgo; cases hgo
  | succ m =>
    unfold goWhl at hgo
    obtain ⟨tb, e1, hgo⟩ := Option.bind_eq_some_iff.mp hgo
    have e1' := e1
    rw [← hgc] at e1
    refine ⟨H0, O0, σm', O', tb, S', e1, fun H3 s3 => ?_⟩
    have F3 : FinS H0 O0 D O' H3 fl := f.up (sv.trans (Vw_up s3))
    cases tb with
    | false => cases hgo; exact iteF (F3 σ2 H3 O' (S'.up s3) (Same.refl _))
    | true =>
      obtain ⟨f1, g1, hgo⟩ := Option.bind_eq_some_iff.mp hgo
      rw [← hgf] at g1
      refine iteT ⟨fun σ4 H4 => ∃ σm4 O4, Sim H0 O0 σm4 O4 σ4 H4 ∧ Same (Vw H O) (Vw H4 O4) ∧ goWhl gc gf m σm4 = some fl, fun σ4 H4 q => ⟨m, Nat.lt_succ_self m, q⟩, ⟨H0, O0, σm', O', f1, S'.up s3, g1, ?_⟩⟩
      cases f1 with
      | nx σ5 => exact fun σ6 H6 O6 S6 w => ⟨σ5, O6, S6, (sv.trans (Vw_up s3)).trans w, hgo⟩
      | ct σ5 => exact fun σ6 H6 O6 S6 w => ⟨σ5, O6, S6, (sv.trans (Vw_up s3)).trans w, hgo⟩
      | bk σ5 => cases hgo; exact F3
      | ret v own => cases hgo; exact F3
end
end Mn

set_option Elab.async false
set_option linter.all false
set_option maxRecDepth 100000
set_option maxHeartbeats 4000000
/-! Mn9: statements that change a list; the check of statements, and that it is right. -/
namespace Mn
open PySem L2

section
variable {X : Cx} {Φ : Fns} {L : Nat}

theorem swaps_sub {e : Expr} {o i : Expr} {p : Pos} {l : Nat} {env : Env} : swapsWith e (some (.Subscript o i p)) l env = pure false := by
  cases e <;> rfl
theorem asg_sub {o k : Expr} {p : Pos} {env : Env} {v : Value} (h : notSlice k = true) : assign (.Subscript o k p) env v = (do
      let ov ← holding [v] (eval o env)
      let iv ← holding [v, ov] (eval k env)
      standAt p
      holding [v, ov, iv] (setItem ov iv v)
      release [v, ov, iv] []) := by
  cases k <;> first | rfl | cases h
theorem m_set {x : Str} {i : Nat} {k e : Expr} {ck ce : CE} {p1 p2 pos : Pos} (hN : X.N[i]? = some x) (hv : Vis X.env.scope x) (hd : (x == ("__debug__" : Str)) = false) (hcd : (x == ("__classdict__" : Str)) = false) (hsl : notSlice k = true) (hk : PE X k (tE Φ ck)) (he : PE X e (tE Φ ce)) :
    PS X (.Assign [.Subscript (.Name x p1) k p2] e pos) (tS Φ L (.set i ck ce)) := by
  refine ⟨fun pins s σ H D I ⟨H0, O0, σm, O, fl, S, ev', f⟩ => ?_⟩
  unfold ex at ev'
  obtain ⟨r, e1, ev'⟩ := Option.bind_eq_some_iff.mp ev'
  obtain ⟨v, e2, ev'⟩ := Option.bind_eq_some_iff.mp ev'
  obtain ⟨⟨y, t⟩, e3, ev'⟩ := Option.bind_eq_some_iff.mp ev'
  cases y with
  | int n =>
    obtain ⟨l, e4, ev'⟩ := Option.bind_eq_some_iff.mp ev'
    obtain ⟨j, e5, ev'⟩ := Option.bind_eq_some_iff.mp ev'
    cases ev'
    refine (ps_asg he (pg_sub (pe_var hN hv hd hcd) hk set_list (fun v => asg_sub hsl)) (@swaps_sub e (.Name x p1) k p2 pos.line X.env) (by rfl)).run pins s σ H D I (tE_of S e1 fun w H1 s1 q1 => ?_)
    obtain ⟨em, p, vs, g1, g2, g3, g4, g5, g6⟩ := S.owned e4
    refine ⟨.ref p, g1, tE_of (S.up s1) e3 fun iv H2 s2 q2 => ?_⟩
    obtain rfl := q2.bor.int
    have S2 := S.up (s1.trans s2)
    have rl : RepAll (Vw H2 O) vs l := g6.up (Vw_up (s1.trans s2))
    refine ⟨p, vs, n, j, rfl, rfl, s2 _ _ (s1 _ _ g5), by rw [rl.length]; exact e5, ?_⟩
    have kw := (q1.keep e2).up (Vw_up s2)
    exact f σ _ O (S2.mut em g1 g2 g4 (rl.set kw j)) ((Vw_up (s1.trans s2)).trans (mut_view g2))
  | _ => cases ev'

theorem m_aug {x : Str} {i : Nat} {op : Operator} {o : BOp} {e : Expr} {ce : CE} {px pos : Pos} (hn : X.N.Nodup) (hN : X.N[i]? = some x) (hx : Loc X.env.scope x) (hf : X.fn x = true ∨ X.env.scope.names.lookup x = some .local) (hop : opB op o = true) (he : PE X e (tE Φ ce)) :
    PS X (.AugAssign (.Name x px) op e pos) (tS Φ L (.aug i o ce)) := by
  refine ⟨fun pins s σ H D I ⟨H0, O0, σm, O, fl, S, ev', f⟩ => ?_⟩
  unfold ex at ev'
  obtain ⟨⟨y, ty⟩, e1, ev'⟩ := Option.bind_eq_some_iff.mp ev'
  obtain ⟨⟨z, tz⟩, e2, ev'⟩ := Option.bind_eq_some_iff.mp ev'
  have key : ∃ a b c, y = .int a ∧ z = .int b ∧ fl = .nx (setM σm i (.int c) false) ∧ ((o = .add ∧ c = a + b) ∨ (o = .sub ∧ c = a - b)) := by
    cases y <;> cases z <;> simp only at ev' <;> first | cases ev' | skip
    cases o <;> simp only at ev' <;> cases ev'
    · exact ⟨_, _, _, rfl, rfl, rfl, .inl ⟨rfl, rfl⟩⟩
    · exact ⟨_, _, _, rfl, rfl, rfl, .inr ⟨rfl, rfl⟩⟩
  obtain ⟨a, b, c, rfl, rfl, rfl, hc⟩ := key
  obtain ⟨v, g1, g2⟩ := S.get e1
  obtain rfl := g2.bor.int
  rcases hc with ⟨rfl, rfl⟩ | ⟨rfl, rfl⟩
  · have ho : op = .Add := by cases op <;> first | rfl | cases hop
    subst ho
    refine (ps_aug hn hN hx he ip_add hf).run pins s σ H D I ⟨_, g1, tE_of S e2 fun w H1 s1 q1 => ?_⟩
    obtain rfl := q1.bor.int
    exact ⟨a, b, rfl, rfl, f _ H1 O ((S.up s1).put (.int _)) (Vw_up s1)⟩
  · have ho : op = .Sub := by cases op <;> first | rfl | cases hop
    subst ho
    refine (ps_aug hn hN hx he ip_sub hf).run pins s σ H D I ⟨_, g1, tE_of S e2 fun w H1 s1 q1 => ?_⟩
    obtain rfl := q1.bor.int
    exact ⟨a, b, rfl, rfl, f _ H1 O ((S.up s1).put (.int _)) (Vw_up s1)⟩

theorem few_one {e : Expr} {cpos : Pos} {env : Env} (h : notStar e = true) : ((backTo cpos (starEach [e] env)).all (fun x => !x.1) && (backToKw cpos (keywordEach [] env)).all (fun x => x.1.isSome)
      && decide ([e].length + ([] : List Keyword).length + (if ([] : List Keyword).isEmpty then 0 else 1) < 30)) = true := by
  rw [star_cons h]
  rfl

theorem m_app {x : Str} {i : Nat} {e : Expr} {ce : CE} {px apos cpos pos : Pos} (hN : X.N[i]? = some x) (hv : Vis X.env.scope x) (hd : (x == ("__debug__" : Str)) = false) (hcd : (x == ("__classdict__" : Str)) = false) (he : PE X e (tE Φ ce)) (hs : notStar e = true) (hl : (apos.endLine == cpos.line) = true) :
    PS X (.Expr (.Call (.Attribute (.Name x px) ("append" : Str) apos) [e] [] cpos) pos) (tS Φ L (.app i ce)) := by
  refine ⟨fun pins s σ H D I ⟨H0, O0, σm, O, fl, S, ev', f⟩ => ?_⟩
  unfold ex at ev'
  obtain ⟨r, e1, ev'⟩ := Option.bind_eq_some_iff.mp ev'
  obtain ⟨v, e2, ev'⟩ := Option.bind_eq_some_iff.mp ev'
  obtain ⟨l, e3, ev'⟩ := Option.bind_eq_some_iff.mp ev'
  split at ev'
  · rename_i hz
    cases ev'
    obtain ⟨em, p, vs, g1, g2, g3, g4, g5, g6⟩ := S.owned e3
    refine (ps_expr (pe_bm PySem.F.plainAttrs_list PySem.F.slot_list_append PySem.F.type_list_append mt_append (pe_var hN hv hd hcd) (pa_cons he pa_nil (star_cons hs)) (by rfl) (few_one hs) hl (star_cons hs) (by rfl)) (by rfl)).run pins s σ H D I ?_
    refine ⟨.ref p, g1, .inl ⟨rfl, vs, SqL.of g5⟩, tE_of S e1 fun w H1 s1 q1 => ?_⟩
    have rl : RepAll (Vw H1 O) vs l := g6.up (Vw_up s1)
    refine ⟨p, vs, w, rfl, rfl, s1 _ _ g5, by rw [rl.length]; exact Nat.lt_of_lt_of_le hz (SZ_le (Nat.le_refl _)), ?_⟩
    exact f σ _ O ((S.up s1).mut em g1 g2 g4 (rl.append (.cons (q1.keep e2) .nil))) ((Vw_up s1).trans (mut_view g2))
  · cases ev'
theorem m_ext {x : Str} {i : Nat} {e : Expr} {ce : CE} {px apos cpos pos : Pos} (hN : X.N[i]? = some x) (hv : Vis X.env.scope x) (hd : (x == ("__debug__" : Str)) = false) (hcd : (x == ("__classdict__" : Str)) = false) (he : PE X e (tE Φ ce)) (hs : notStar e = true) (hl : (apos.endLine == cpos.line) = true) :
    PS X (.Expr (.Call (.Attribute (.Name x px) ("extend" : Str) apos) [e] [] cpos) pos) (tS Φ L (.ext i ce)) := by
  refine ⟨fun pins s σ H D I ⟨H0, O0, σm, O, fl, S, ev', f⟩ => ?_⟩
  unfold ex at ev'
  obtain ⟨r, e1, ev'⟩ := Option.bind_eq_some_iff.mp ev'
  obtain ⟨m, e2, ev'⟩ := Option.bind_eq_some_iff.mp ev'
  obtain ⟨l, e3, ev'⟩ := Option.bind_eq_some_iff.mp ev'
  split at ev'
  · rename_i hz
    cases ev'
    obtain ⟨em, p, vs, g1, g2, g3, g4, g5, g6⟩ := S.owned e3
    refine (ps_expr (pe_bm PySem.F.plainAttrs_list PySem.F.slot_list_extend PySem.F.type_list_extend mt_extA (pe_var hN hv hd hcd) (pa_cons he pa_nil (star_cons hs)) (by rfl) (few_one hs) hl (star_cons hs) (by rfl)) (by rfl)).run pins s σ H D I ?_
    refine ⟨.ref p, g1, .inl ⟨rfl, vs, SqL.of g5⟩, tE_of S e1 fun w H1 s1 q1 => ?_⟩
    have rl : RepAll (Vw H1 O) vs l := g6.up (Vw_up s1)
    obtain ⟨b, ws, rfl, rb, hk⟩ := q1.bor.items e2
    refine ⟨p, b, vs, ws, rfl, rfl, s1 _ _ g5, ?_, by rw [rl.length, rb.length]; exact SZ_le hz, ?_⟩
    · rcases hk with ⟨_, h⟩ | ⟨_, h⟩
      · exact .inl h
      · exact .inr h
    · exact f σ _ O ((S.up s1).mut em g1 g2 g4 (rl.append rb)) ((Vw_up s1).trans (mut_view g2))
  · cases ev'

/-- the value of x.pop(..): an item, and the list without it -/
theorem pop_at {l : List MV} {n : Option Int} {y : MV} {l' : List MV} (h : popSem l n = some (y, l')) {G : Hp} {vs : List V} (r : RepAll G vs l) :
    (n = none ∧ ∃ w, vs[vs.length - 1]? = some w ∧ Rep G w y ∧ RepAll G vs.dropLast l') ∨ ∃ (i : Int) (k : Nat) (w : V), n = some i ∧ ixN vs.length i = some k ∧ vs[k]? = some w ∧ Rep G w y ∧ RepAll G (vs.eraseIdx k) l' := by
  cases n with
  | none =>
    have h' : (match l[l.length - 1]? with | some y => some (y, l.dropLast) | none => none) = some (y, l') := h
    cases hz : l[l.length - 1]? with
    | none => rw [hz] at h'; cases h'
    | some z =>
      rw [hz] at h'
      cases h'
      obtain ⟨w, e, q⟩ := r.get _ hz
      exact .inl ⟨rfl, w, by rw [r.length]; exact e, q, r.dropLast⟩
  | some i =>
    have h' : ((ixN l.length i).bind fun k => match l[k]? with | some y => some (y, l.eraseIdx k) | none => none) = some (y, l') := h
    obtain ⟨k, e1, h'⟩ := Option.bind_eq_some_iff.mp h'
    cases hz : l[k]? with
    | none => rw [hz] at h'; cases h'
    | some z =>
      rw [hz] at h'
      cases h'
      obtain ⟨w, e, q⟩ := r.get _ hz
      exact .inr ⟨i, k, w, rfl, by rw [r.length]; exact e1, e, q, r.eraseIdx k⟩
theorem pop_run {x : Str} {i : Nat} {px apos cpos : Pos} {args : List Expr} {ck : Option CE} {H0 H : Hp} {O0 O : Addr → Bool} {σm : MS} {σ : L2.St} {n : Option Int} {l l' : List MV} {y : MV} {Q : VK} (S : Sim H0 O0 σm O σ H) (hN : X.N[i]? = some x) (hv : Vis X.env.scope x) (hd : (x == ("__debug__" : Str)) = false) (hcd : (x == ("__classdict__" : Str)) = false)
    (hl : (apos.endLine == cpos.line) = true) (hk : (args = [] ∧ ck = none) ∨ ∃ e ce, args = [e] ∧ ck = some ce ∧ PE X e (tE Φ ce) ∧ notStar e = true) (e1 : evO Φ ck σm = some n) (e2 : ownL σm i = some l) (e3 : popSem l n = some (y, l'))
    (q : ∀ w H' , Sim H0 O0 (setM σm i (.lst l') true) O σ H' → Same (Vw H O) (Vw H' O) → Rep (Vw H' O) w y → Q w H') :
    ∀ pins s, Inv X pins σ H s → wpAny (model X.prog X.w) X.A (eval (.Call (.Attribute (.Name x px) ("pop" : Str) apos) args [] cpos) X.env) (EP X pins σ Q) X.xe s := by
  intro pins s I
  obtain ⟨em, p, vs, g1, g2, g3, g4, g5, g6⟩ := S.owned e2
  rcases hk with ⟨rfl, rfl⟩ | ⟨e, ce, rfl, rfl, he, hs⟩
  · cases e1
    refine (pe_bm0 PySem.F.plainAttrs_list PySem.F.slot_list_pop PySem.F.type_list_pop mt_pop (pe_var hN hv hd hcd) (by rfl) hl).run pins s σ H Q I ⟨.ref p, g1, .inl ⟨rfl, vs, SqL.of g5⟩, ?_⟩
    rcases pop_at e3 g6 with ⟨_, w, h1, h2, h3⟩ | ⟨i', _, _, h, _⟩
    · refine ⟨p, vs, w, rfl, rfl, g5, h1, q w _ (S.mut em g1 g2 g4 h3) (mut_view g2) ?_⟩
      rw [Vw_set g2]
      exact h2
    · cases h
  · unfold evO at e1
    obtain ⟨⟨z, t⟩, f1, e1⟩ := Option.bind_eq_some_iff.mp e1
    cases z with
    | int m =>
      cases e1
      refine (pe_bm PySem.F.plainAttrs_list PySem.F.slot_list_pop PySem.F.type_list_pop mt_popAt (pe_var hN hv hd hcd) (pa_cons he pa_nil (star_cons hs)) (by rfl) (few_one hs) hl (star_cons hs) (by rfl)).run pins s σ H Q I ⟨.ref p, g1, .inl ⟨rfl, vs, SqL.of g5⟩, ?_⟩
      refine tE_of S f1 fun iv H1 s1 q1 => ?_
      obtain rfl := q1.bor.int
      rcases pop_at e3 g6 with ⟨h, _⟩ | ⟨i', k, w, h, h1, h2, h3, h4⟩
      · cases h
      · cases h
        obtain ⟨b1, b2, b3, b4⟩ := ixN_seq h1
        have g5' := s1 _ _ g5
        obtain ⟨zz, _⟩ := I.lstM g5
        have zl : (sizeLine : Int) < 2 ^ 63 := by decide
        refine ⟨p, vs, m, k, w, rfl, rfl, g5', by omega, by omega, b1, h2, q w _ ((S.up s1).mut em g1 g2 g4 (h4.up (Vw_up s1))) ((Vw_up s1).trans (mut_view g2)) ?_⟩
        rw [Vw_set g2]
        exact h3.up (Vw_up s1)
    | _ => cases e1
theorem m_pop {x : Str} {i : Nat} {px apos cpos pos : Pos} {args : List Expr} {ck : Option CE} (hN : X.N[i]? = some x) (hv : Vis X.env.scope x) (hd : (x == ("__debug__" : Str)) = false) (hcd : (x == ("__classdict__" : Str)) = false)
    (hl : (apos.endLine == cpos.line) = true) (hk : (args = [] ∧ ck = none) ∨ ∃ e ce, args = [e] ∧ ck = some ce ∧ PE X e (tE Φ ce) ∧ notStar e = true) : PS X (.Expr (.Call (.Attribute (.Name x px) ("pop" : Str) apos) args [] cpos) pos) (tS Φ L (.pop none i ck)) := by
  refine ⟨fun pins s σ H D I ⟨H0, O0, σm, O, fl, S, ev', f⟩ => ?_⟩
  unfold ex at ev'
  obtain ⟨n, e1, ev'⟩ := Option.bind_eq_some_iff.mp ev'
  obtain ⟨l, e2, ev'⟩ := Option.bind_eq_some_iff.mp ev'
  obtain ⟨⟨y, l'⟩, e3, ev'⟩ := Option.bind_eq_some_iff.mp ev'
  cases ev'
  have P : PE X (.Call (.Attribute (.Name x px) ("pop" : Str) apos) args [] cpos) (fun σ' H' Q => σ' = σ ∧ H' = H ∧ ∀ w H', Sim H0 O0 (setM σm i (.lst l') true) O σ H' → Same (Vw H O) (Vw H' O) → Rep (Vw H' O) w y → Q w H') :=
    ⟨fun pins2 s2 σ' H' Q I2 h => by
      obtain ⟨rfl, rfl, h⟩ := h
      exact pop_run S hN hv hd hcd hl hk e1 e2 e3 h pins2 s2 I2⟩
  exact (ps_expr P (by rfl)).run pins s σ H D I ⟨rfl, rfl, fun w H' S' v _ => f σ H' O S' v⟩
theorem m_popA {x z : Str} {i j : Nat} {px pz apos cpos pos : Pos} {args : List Expr} {ck : Option CE} (hnd : X.N.Nodup) (hN : X.N[i]? = some x) (hv : Vis X.env.scope x) (hd : (x == ("__debug__" : Str)) = false) (hcd : (x == ("__classdict__" : Str)) = false)
    (hl : (apos.endLine == cpos.line) = true) (hk : (args = [] ∧ ck = none) ∨ ∃ e ce, args = [e] ∧ ck = some ce ∧ PE X e (tE Φ ce) ∧ notStar e = true) (hj : X.N[j]? = some z) (hz : Loc X.env.scope z) (hf : X.fn z = true ∨ X.env.scope.names.lookup z = some .local) :
    PS X (.Assign [.Name z pz] (.Call (.Attribute (.Name x px) ("pop" : Str) apos) args [] cpos) pos) (tS Φ L (.pop (some j) i ck)) := by
  refine ⟨fun pins s σ H D I ⟨H0, O0, σm, O, fl, S, ev', f⟩ => ?_⟩
  unfold ex at ev'
  obtain ⟨n, e1, ev'⟩ := Option.bind_eq_some_iff.mp ev'
  obtain ⟨l, e2, ev'⟩ := Option.bind_eq_some_iff.mp ev'
  obtain ⟨⟨y, l'⟩, e3, ev'⟩ := Option.bind_eq_some_iff.mp ev'
  simp only at ev'
  split at ev'
  · cases ev'
  cases ev'
  have P : PE X (.Call (.Attribute (.Name x px) ("pop" : Str) apos) args [] cpos) (fun σ' H' Q => σ' = σ ∧ H' = H ∧ ∀ w H', Sim H0 O0 (setM σm i (.lst l') true) O σ H' → Same (Vw H O) (Vw H' O) → Rep (Vw H' O) w y → Q w H') :=
    ⟨fun pins2 s2 σ' H' Q I2 h => by
      obtain ⟨rfl, rfl, h⟩ := h
      exact pop_run S hN hv hd hcd hl hk e1 e2 e3 h pins2 s2 I2⟩
  exact (ps_set hnd hj hz P (by rfl) hf).run pins s σ H D I ⟨rfl, rfl, fun w H' S' v r => f _ H' O (S'.put r) v⟩
end

/-! ### the check of statements -/
def notComp : Expr → Bool
  | .ListComp .. => false
  | .SetComp .. => false
  | .DictComp .. => false
  | _ => true
theorem swaps_no {e : Expr} {t : Option Expr} {l : Nat} {env : Env} (h : notComp e = true) : swapsWith e t l env = pure false := by
  cases e <;> first | rfl | cases h
/-- does name = [..] exchange its stores -/
def swapB (k : SC) (x : Str) (px pos : Pos) (scope : Scope) : Bool := (match k.sc.names.lookup x with | some .local => true | _ => false) && (px.line == pos.line) && !(scope.names.any fun (n, k) => n == x && (k == .local || k == .cell))
def nameOk (k : SC) (N : List Str) (x : Str) (i : Nat) : Bool := decide (N[i]? = some x) && visB k.sc x && plainName x
def chkPop (f : Expr → CE → Bool) : List Expr → Option CE → Bool
  | [], none => true
  | [e], some c => notStar e && f e c
  | _, _ => false
def chkBlk (f : Stmt → CS → Bool) : List CS → List Stmt → Bool
  | .drop _ :: cs, ss => chkBlk f cs ss
  | c :: cs, s :: ss => f s c && chkBlk f cs ss
  | [], [] => true
  | _, _ => false
def retB (k : SC) (N : List Str) : Expr → CE → Bool
  | .Name x _, .var i => nameOk k N x i
  | _, .var _ => false
  | _, _ => true
def notComp2 : Expr → Bool
  | .SetComp .. => false
  | .DictComp .. => false
  | _ => true
def chkS : Nat → MC → List Str → SC → Stmt → CS → Bool
  | 0, _, _, _, _, _ => false
  | n + 1, C, N, k, s, c => match s, c with
    | .Assign [.Name z _] (.Call (.Attribute (.Name x _) a apos) args [] cpos) _, .pop (some j) i ck => decide (a = ("pop" : Str)) && nameOk k N x i && slotB k N z j && (apos.endLine == cpos.line) && chkPop (chkE n C N k) args ck
    | .Assign [.Name x _] e _, .asg i ce => slotB k N x i && chkE n C N k e ce && notComp2 e
    | .Assign [.Subscript (.Name x _) i _] e _, .set j ck ce => nameOk k N x j && notSlice i && chkE n C N k i ck && chkE n C N k e ce
    | .AugAssign (.Name x _) op e _, .aug i o ce => slotB k N x i && opB op o && chkE n C N k e ce
    | .Expr (.Call (.Attribute (.Name x _) a apos) [e] [] cpos) _, .app i ce => decide (a = ("append" : Str)) && nameOk k N x i && (apos.endLine == cpos.line) && notStar e && chkE n C N k e ce
    | .Expr (.Call (.Attribute (.Name x _) a apos) [e] [] cpos) _, .ext i ce => decide (a = ("extend" : Str)) && nameOk k N x i && (apos.endLine == cpos.line) && notStar e && chkE n C N k e ce
    | .Expr (.Call (.Attribute (.Name x _) a apos) args [] cpos) _, .pop none i ck => decide (a = ("pop" : Str)) && nameOk k N x i && (apos.endLine == cpos.line) && chkPop (chkE n C N k) args ck
    | .Expr e _, .expr ce => notComp e && chkE n C N k e ce
    | .Return (some e) _, .ret ce => chkE n C N k e ce && retB k N e ce
    | .Return none _, .retN => true
    | .If t a b _, .ite ct ca cb => chkE n C N k t ct && chkBlk (chkS n C N k) ca a && chkBlk (chkS n C N k) cb b
    | .For tg it body [] _, .forS ctg cit cb => chkI (chkE n C N k) C k it cit && notSet it && tgB k N tg ctg && chkBlk (chkS n C N k) cb body
    | .While t body [] _, .whl ct cb => chkE n C N k t ct && chkBlk (chkS n C N k) cb body
    | .Break _, .brk => true
    | .Continue _, .cnt => true
    | .Pass _, .pass => true
    | _, _ => false

section
variable {X : Cx} {C : MC} {Φ : Fns} {L : Nat} {N : List Str} {k : SC}

theorem sw_not {elt : Expr} {gs : List Comprehension} {scope : Scope} {pos py : Pos} {y : Str} {l : Nat} {env : Env} (hk : env.scope.kind = .function) (e : env.scope = k.sc) (h : swapB k y py pos scope = false) :
    swapsWith (.ListComp elt gs scope pos) (some (.Name y py)) l env = pure false := by
  have hb : env.blockKind = .function := by unfold Env.blockKind; rw [hk]; rfl
  have ky : env.kindOf y = k.sc.names.lookup y := by unfold Env.kindOf; rw [e]
  unfold swapsWith
  simp only [hb, ky, Expr.pos]
  unfold swapB at h
  cases z : k.sc.names.lookup y with
  | none => rfl
  | some q =>
    rw [z] at h
    cases q <;> first | rfl | skip
    simp only [Bool.true_and] at h
    show pure _ = pure false
    congr 1
theorem lc_set {n : Nat} (G : Good X C Φ N k) (kd : X.env.scope.kind = .function) {elt : Expr} {gs : List Comprehension} {scope : Scope} {pos spos py : Pos} {ce : CE} {y : Str} {i : Nat} (h : chkE n C N k (.ListComp elt gs scope pos) ce = true)
    (hy : X.N[i]? = some y) (hl : Loc X.env.scope y) (hf : X.fn y = true ∨ X.env.scope.names.lookup y = some .local) : PS X (.Assign [.Name y py] (.ListComp elt gs scope pos) spos) (tAsg (tE Φ ce) (gName i)) := by
  cases hsw : swapB k y py pos scope with
  | false => exact ps_set G.nd hy hl (chk_pe G h) (sw_not kd G.sc hsw) hf
  | true =>
    cases n with
    | zero => unfold chkE at h; cases h
    | succ n =>
      unfold chkE at h
      split at h
      all_goals first | contradiction | skip
      rename_i tg it ifs _ _ c ctg cit cifs heq
      cases heq
      simp only [Bool.and_eq_true] at h
      obtain ⟨⟨⟨⟨⟨⟨h1, h2⟩, h3⟩, h4⟩, h5⟩, h6⟩, h7⟩ := h
      have ho := of_decide_eq_true h4
      unfold swapB at hsw
      simp only [Bool.and_eq_true] at hsw
      obtain ⟨⟨w1, w2⟩, w3⟩ := hsw
      have hloc : X.env.scope.names.lookup y = some .local := by
        rw [G.sc]
        split at w1
        · assumption
        · cases w1
      have w3' : (scope.names.any fun (n, k) => n == y && (k == .local || k == .cell)) = false := by simpa using w3
      have w := ps_setLc (X := X) (i := i) (y := y) (py := py) (spos := spos) (elt := elt) (tg := tg) (iter := it) (ifs := ifs) (scope := scope) (own := ownOf tg ctg) (pos := pos) (wi := tI Φ cit) (g := tG ctg) (tt := tTs Φ cifs) (te := tE Φ c) G.calm G.nd hy hloc
        (sw_true kd hloc w2 w3') (pi_ok G (fun e c h => chk_pe G h) h1 tg) (by rw [G.hN, G.sc]; exact blkOk_by h3)
          (fun s H D cl fp => pg_ok (G.blk s H scope cl D fp) h5)
          (fun s H D cl fp => pts_ok (fun e c h => chk_pt (G.blk s H scope cl D fp) h) h6)
          (fun s H D cl fp => chk_pe (G.blk s H scope cl D fp) h7) (fold_no h2)
      refine ⟨fun pins s σ H D I q => w.run pins s σ H D I ?_⟩
      rw [ho]
      exact lc_of q

theorem name_ok (G : Good X C Φ N k) {x : Str} {i : Nat} (h : nameOk k N x i = true) : X.N[i]? = some x ∧ Vis X.env.scope x ∧ (x == ("__debug__" : Str)) = false ∧ (x == ("__classdict__" : Str)) = false := by
  unfold nameOk at h
  simp only [Bool.and_eq_true] at h
  obtain ⟨⟨h1, h2⟩, h3⟩ := h
  obtain ⟨p1, p2, _⟩ := plain1 h3
  exact ⟨by rw [G.hN]; exact of_decide_eq_true h1, G.vis h2, p1, p2⟩
theorem pop_ok {f : Expr → CE → Bool} (hf : ∀ e c, f e c = true → PE X e (tE Φ c)) {args : List Expr} {ck : Option CE} (h : chkPop f args ck = true) : (args = [] ∧ ck = none) ∨ ∃ e ce, args = [e] ∧ ck = some ce ∧ PE X e (tE Φ ce) ∧ notStar e = true := by
  unfold chkPop at h
  split at h
  · exact .inl ⟨rfl, rfl⟩
  · rw [Bool.and_eq_true] at h
    exact .inr ⟨_, _, rfl, rfl, hf _ _ h.2, h.1⟩
  · cases h
theorem blk_ok {f : Stmt → CS → Bool} (hf : ∀ s c, f s c = true → PS X s (tS Φ L c)) : ∀ {cs : List CS} {ss : List Stmt}, chkBlk f cs ss = true → PSs X ss (tSs Φ L cs)
  | [], [], _ => ss_no
  | [], s :: ss, h => by unfold chkBlk at h; cases h
  | c :: cs, ss, h => by
    unfold chkBlk at h
    split at h
    · rename_i heq
      cases heq
      exact ss_drop (blk_ok hf h)
    · rename_i _ heq
      cases heq
      rw [Bool.and_eq_true] at h
      exact ss_more (hf _ _ h.1) (blk_ok hf h.2)
    · rename_i heq; cases heq
    · cases h
theorem asg_ok (G : Good X C Φ N k) (kd : X.env.scope.kind = .function) {n : Nat} {x : Str} {px pos : Pos} {e : Expr} {i : Nat} {ce : CE} (h : (slotB k N x i && chkE n C N k e ce && notComp2 e) = true) : PS X (.Assign [.Name x px] e pos) (tS Φ L (.asg i ce)) := by
  simp only [Bool.and_eq_true] at h
  obtain ⟨⟨h1, h2⟩, h3⟩ := h
  obtain ⟨s1, s2, s3⟩ := slot_ok G h1
  refine m_asg G.nd s1 s2 s3 ?_
  by_cases hc : notComp e = true
  · exact ps_set G.nd s1 s2 (chk_pe G h2) (swaps_no hc) s3
  · cases e <;> first | exact absurd rfl hc | (cases h3; done) | skip
    exact lc_set G kd h2 s1 s2 s3
theorem chk_st (G : Good X C Φ N k) (kd : X.env.scope.kind = .function) (nox : X.xe = fun _ _ => False) : ∀ (n : Nat) (s : Stmt) (c : CS), chkS n C N k s c = true → PS X s (tS Φ L c) := by
  intro n
  induction n with
  | zero => intro s c h; unfold chkS at h; cases h
  | succ n ih =>
    intro s c h
    have pe : ∀ e c, chkE n C N k e c = true → PE X e (tE Φ c) := fun e c h => chk_pe G h
    unfold chkS at h
    split at h
    · simp only [Bool.and_eq_true] at h
      obtain ⟨⟨⟨⟨h1, h2⟩, h3⟩, h4⟩, h5⟩ := h
      have ha := of_decide_eq_true h1
      subst ha
      obtain ⟨n1, n2, n3, n4⟩ := name_ok G h2
      obtain ⟨s1, s2, s3⟩ := slot_ok G h3
      exact m_popA G.nd n1 n2 n3 n4 h4 (pop_ok pe h5) s1 s2 s3
    · exact asg_ok G kd h
    · simp only [Bool.and_eq_true] at h
      obtain ⟨⟨⟨h1, h2⟩, h3⟩, h4⟩ := h
      obtain ⟨n1, n2, n3, n4⟩ := name_ok G h1
      exact m_set n1 n2 n3 n4 h2 (pe _ _ h3) (pe _ _ h4)
    · simp only [Bool.and_eq_true] at h
      obtain ⟨⟨h1, h2⟩, h3⟩ := h
      obtain ⟨s1, s2, s3⟩ := slot_ok G h1
      exact m_aug G.nd s1 s2 s3 h2 (pe _ _ h3)
    · simp only [Bool.and_eq_true] at h
      obtain ⟨⟨⟨⟨h1, h2⟩, h3⟩, h4⟩, h5⟩ := h
      have ha := of_decide_eq_true h1
      subst ha
      obtain ⟨n1, n2, n3, n4⟩ := name_ok G h2
      exact m_app n1 n2 n3 n4 (pe _ _ h5) h4 h3
    · simp only [Bool.and_eq_true] at h
      obtain ⟨⟨⟨⟨h1, h2⟩, h3⟩, h4⟩, h5⟩ := h
      have ha := of_decide_eq_true h1
      subst ha
      obtain ⟨n1, n2, n3, n4⟩ := name_ok G h2
      exact m_ext n1 n2 n3 n4 (pe _ _ h5) h4 h3
    · simp only [Bool.and_eq_true] at h
      obtain ⟨⟨⟨h1, h2⟩, h3⟩, h4⟩ := h
      have ha := of_decide_eq_true h1
      subst ha
      obtain ⟨n1, n2, n3, n4⟩ := name_ok G h2
      exact m_pop n1 n2 n3 n4 h3 (pop_ok pe h4)
    · simp only [Bool.and_eq_true] at h
      exact m_expr (pe _ _ h.2) (swaps_no h.1)
    · simp only [Bool.and_eq_true] at h
      refine m_ret (pe _ _ h.1) (fun i hi => ?_)
      have hr := h.2
      subst hi
      unfold retB at hr
      split at hr
      · rename_i heq
        cases heq
        obtain ⟨n1, n2, n3, n4⟩ := name_ok G hr
        exact ⟨_, _, rfl, n1, n2, n3, n4⟩
      · cases hr
      · rename_i hx _
        exact absurd rfl (hx i)
    · exact m_retN
    · simp only [Bool.and_eq_true] at h
      obtain ⟨⟨h1, h2⟩, h3⟩ := h
      exact m_if (chk_pt G h1) (blk_ok (ih) h2) (blk_ok ih h3)
    · simp only [Bool.and_eq_true] at h
      obtain ⟨⟨⟨h1, h2⟩, h3⟩, h4⟩ := h
      exact m_for nox G.calm (pi_ok G pe h1 _) (pg_ok G h3) (blk_ok ih h4) (fold_no h2)
    · simp only [Bool.and_eq_true] at h
      exact m_whl nox (chk_pt G h.1) (blk_ok ih h.2)
    · exact m_brk
    · exact m_cnt
    · exact m_pass
    · cases h
end
end Mn

set_option Elab.async false
set_option linter.all false
set_option maxRecDepth 100000
set_option maxHeartbeats 4000000
/-! Mn10: the defs of a text keep their promises at every depth of calls; the law's end. -/
namespace Mn
open PySem L2 PySem.W PyProof.Rows

/-- a def of the text: its statement, names, parameters, what it says in the value language -/
structure FT where
  name : Str
  st : Stmt
  N : List Str
  ps : List Str
  d : FD

def scopeB (N P : List Str) (sc : Scope) : Bool :=
  (match sc.kind with | .function => true | _ => false) && !sc.isCoroutine && !sc.isGenerator && decide N.Nodup && decide (N.take P.length = P) &&
    (P.all fun x => match sc.names.lookup x with | some .local => true | some .cell => true | _ => false) && (sc.names.all fun y => match y.2 with | .free => false | _ => true)
theorem scope_of {N P : List Str} {sc : Scope} (h : scopeB N P sc = true) : FnScope N P sc := by
  unfold scopeB at h
  simp only [Bool.and_eq_true, List.all_eq_true] at h
  obtain ⟨⟨⟨⟨⟨⟨h1, h2⟩, h3⟩, h4⟩, h5⟩, h6⟩, h7⟩ := h
  refine ⟨?_, by simpa using h2, by simpa using h3, of_decide_eq_true h4, of_decide_eq_true h5, fun x hx => ?_, fun y hy e => ?_⟩
  · split at h1
    · assumption
    · cases h1
  · have z := h6 x hx
    split at z
    · exact .inl (by assumption)
    · exact .inr (by assumption)
    · cases z
  · have z := h7 y hy
    rw [e] at z
    cases z
def textB (C : MC) (t : FT) : Bool := scopeB t.N t.ps (defScope t.st) && decide (t.d.np = t.ps.length) && decide (t.d.nn = t.N.length) && chkBlk (chkS 200 C t.N ⟨defScope t.st, none⟩) t.d.body (defBody t.st)

/-- the def stands in the module's namespace -/
structure Stands (K : PySem.W.Frag) (mg : Str → Option Value) (t : FT) : Prop where
  ex : ∃ (f : Addr) (fd : FuncData), mg t.name = some (.ref f) ∧ Fun K t.name t.name t.st f fd ∧ Binds K fd t.ps []
structure Modu (K : PySem.W.Frag) (mg : Str → Option Value) (C : MC) (T : List FT) : Prop where
  names : C.fns = T.map (·.name)
  text : ∀ t ∈ T, textB C t = true
  all : ∀ t ∈ T, Stands K mg t
  bis : ∀ x, C.bis.contains x = true → mg x = none
  imp : ∀ x, (x, BI.gcd) ∈ C.imp → mg x = some (.builtin "math.gcd")

section
variable {P : Program} {w : World} {K : PySem.W.Frag} {mg : Str → Option Value} {base : Heap}

/-- a def by its body, for a caller within which no repr runs -/
theorem FnG.of {k : Nat} {x qual : Str} {st : Stmt} {f : Addr} {fd : FuncData} {N ps : List Str} {sp : Sp} (F : Fun K x qual st f fd) (S : FnScope N ps (defScope st)) (len : ∀ vs H Q E, sp vs H Q E → vs.length = ps.length)
    (hb : ∀ (cdv : Value) (A : Around) (outer : List Env) (s : Shared) (H : Hp) (vs : List V) (Q : VK) (E : XK), Room k (A.deeper (envOfC qual (defScope st) s.heap.objs.size f cdv)) → A.guards = some [] → sp vs H Q E →
      ∃ t, PSs (cxOf CX0 P w K mg base N qual (defScope st) f cdv A outer s H E).nox (defBody st) t ∧ t { nx := fun _ H' => Q .non H', rt := Q } (L2.start N vs) H) : FnG P w K mg base (k + 1) f fd ps sp := by
  obtain ⟨oc, od, kV, doc, pm, an, cdv, ct, osl, e, lk, hcd⟩ := F.ex
  subst e
  refine ⟨len, ?_⟩
  intro A outer s H args us vs Q E room gd e0 bind rv hsp
  have hlen := len _ _ _ _ hsp
  have kin : K.In s.heap := e0.mod.kin.keeps fun b o q => (e0.bs b o q).1
  have lim : s.heap.NoLimit := e0.mod.nolimit.keeps fun b o q => (e0.bs b o q).1
  have kinds : ∀ y ∈ ps.zip us, (defScope st).names.lookup y.1 = some .local ∨
      ((defScope st).names.lookup y.1 = some .cell ∧ ((cellsFrom (s.heap.objs.size + 1) (defScope st).names []).lookup y.1).isSome = true) := by
    intro ⟨n, v⟩ hy
    rcases S.par n (List.of_mem_zip hy).1 with z | z
    · exact .inl z
    · exact .inr ⟨z, PySem.W.cellsFrom_some _ _ _ (.inl z)⟩
  refine codeAny_call_function room.depth (kin _ _ lk) rfl S.co S.gen rfl
    (PySem.W.codeRec_of kin hcd) (bind _ _ _ _ ?_)
  refine wpAny_newFunctionEnv_cells S.kind kinds fun env he s1 inc => ?_
  subst he
  refine ⟨lim.keeps inc.toInCall.keep, codeAny_func ?_⟩
  obtain ⟨t, ht, hq⟩ := hb cdv A outer s H vs Q E (room.deeper _) gd hsp
  have I := inv_start (CX := CX0) (P := P) (w := w) (mg := mg) (base := base) (E := E) S room.hd e0 hlen rv inc
  have out : ∀ {σ' : L2.St} {H' : Hp} {v : V} {u : Value} {s' : Shared}, Inv (cxOf CX0 P w K mg base N qual (defScope st) f cdv A outer s H E) [] σ' H' s' → RelV v u → Q v H' → L2.CE outer P w H s Q u s' :=
    fun {σ' H' v u s'} J r q => ⟨v, H', J.os, J.bare, J.base, J.hok, r, q⟩
  refine wpAny_mono (ht.nox.run [] s1 (L2.start N vs) H _ I hq) ?_ fun _ _ z => z
  intro fl s' hs
  cases fl with
  | ret u => obtain ⟨v, σ', H', J, r, q⟩ := hs; exact out J r q
  | next => obtain ⟨σ', H', J, q⟩ := hs; exact out (v := V.non) (u := Value.none) J rfl q
  | brk => obtain ⟨_, _, _, q⟩ := hs; exact False.elim q
  | cont => obtain ⟨_, _, _, q⟩ := hs; exact False.elim q

/-- a frame at its start -/
theorem start_sim {N : List Str} {vs : List V} {xs : List MV} {H : Hp} {O : Addr → Bool} {nn : Nat} (d : Dom O H) (r : RepAll (Vw H O) vs xs) (hn : nn = N.length) (hl : xs.length ≤ N.length) : Sim H O (startM nn xs) O (L2.start N vs) H := by
  have hv := r.length
  have none_own : ∀ (i : Nat) (x : MV), (startM nn xs)[i]? ≠ some (some (x, true)) := fun i x h => by
    unfold startM at h
    by_cases hi : i < (xs.map fun v => some (v, false)).length
    · rw [List.getElem?_append_left hi, List.getElem?_map] at h
      cases z : xs[i]? with
      | none => rw [z] at h; cases h
      | some y => rw [z] at h; cases h
    · rw [List.getElem?_append_right (by omega), List.getElem?_replicate] at h
      split at h <;> cases h
  refine ⟨?_, d, Same.refl _, fun _ h => h, fun _ h => .inl h, fun i x own h => ?_, fun i x p h _ => absurd h (none_own i x), fun i j x y p h _ _ _ => absurd h (none_own i x)⟩
  · unfold startM L2.start
    rw [List.length_append, List.length_append, List.length_map, List.length_map, List.length_replicate, List.length_replicate, hv, hn]
  · unfold startM at h
    by_cases hi : i < xs.length
    · rw [List.getElem?_append_left (by rw [List.length_map]; exact hi), List.getElem?_map] at h
      cases z : xs[i]? with
      | none => rw [z] at h; cases h
      | some y =>
        rw [z] at h
        cases h
        obtain ⟨v, e, q⟩ := r.get i z
        refine ⟨v, ?_, q⟩
        unfold L2.start
        rw [List.getElem?_append_left (by rw [List.length_map, hv]; exact hi), List.getElem?_map, e]
        rfl
    · rw [List.getElem?_append_right (by rw [List.length_map]; omega), List.getElem?_replicate] at h
      split at h <;> cases h

theorem all_fns {C : MC} {T : List FT} (M : Modu K mg C T) (L : Nat) : ∀ (n i : Nat) (t : FT), T[i]? = some t → ∀ (f : Addr) (fd : FuncData), Fun K t.name t.name t.st f fd → FnG P w K mg base n f fd t.ps (spM (run (T.map (·.d)) L n i)) := by
  intro n
  induction n with
  | zero =>
    intro i t _ f fd _
    have no : ∀ vs H Q E, ¬ spM (run (T.map (·.d)) L 0 i) vs H Q E := fun vs H Q E h => by
      obtain ⟨O, xs, r, _, _, e, _⟩ := h
      unfold run at e
      cases e
    exact ⟨fun vs H Q E h => absurd h (no vs H Q E), fun A outer s H args us vs Q E _ _ _ _ _ h => absurd h (no vs H Q E)⟩
  | succ n ih =>
    intro i t ht f fd F
    have htm : t ∈ T := List.mem_of_getElem? ht
    have hB := M.text t htm
    unfold textB at hB
    simp only [Bool.and_eq_true] at hB
    obtain ⟨⟨⟨b1, b2⟩, b3⟩, b4⟩ := hB
    have S := scope_of b1
    have np := of_decide_eq_true b2
    have nn := of_decide_eq_true b3
    have hT : (T.map (·.d))[i]? = some t.d := by rw [List.getElem?_map, ht]; rfl
    have open_ : ∀ xs r, run (T.map (·.d)) L (n + 1) i xs = some r → xs.length = t.ps.length ∧ ∃ fl, exs (run (T.map (·.d)) L n) L t.d.body (startM t.d.nn xs) = some fl ∧ resOf fl = some r := fun xs r e => by
      unfold run at e
      rw [hT] at e
      simp only at e
      split at e
      · rename_i hl
        obtain ⟨fl, e1, e2⟩ := Option.bind_eq_some_iff.mp e
        exact ⟨by rw [hl, np], fl, e1, e2⟩
      · cases e
    refine FnG.of F S (fun vs H Q E h => ?_) (fun cdv A outer s H vs Q E hr hg h => ?_)
    · obtain ⟨O, xs, r, _, ra, e, _⟩ := h
      rw [ra.length]
      exact (open_ xs r e).1
    · obtain ⟨O, xs, r, d, ra, e, post⟩ := h
      obtain ⟨hl, fl, e1, e2⟩ := open_ xs r e
      have G : Good (cxOf CX0 P w K mg base t.N t.name (defScope t.st) f cdv A outer s H E).nox C (run (T.map (·.d)) L n) t.N ⟨defScope t.st, none⟩ := {
        hN := rfl
        nd := S.nd
        sc := rfl
        fn := fun _ _ => .inl rfl
        calm := rfl
        un := by have z := hr.un; show (A.deeper _).units + 200 < cLine; omega
        gd := hg
        bis := M.bis
        imp := M.imp
        fns := fun j x hx => by
          rw [M.names, List.getElem?_map] at hx
          cases z : T[j]? with
          | none => rw [z] at hx; cases hx
          | some u =>
            rw [z] at hx
            cases hx
            obtain ⟨g, gd, m1, m2, m3⟩ := (M.all u (List.mem_of_getElem? z)).ex
            exact ⟨g, gd, u.ps, n, m1, m2.kp, m3, hr, ih j u z g gd m2⟩ }
      refine ⟨tSs (run (T.map (·.d)) L n) L t.d.body, blk_ok (fun st c h => chk_st G S.kind rfl 200 st c h) b4, ?_⟩
      have hNl : xs.length ≤ t.N.length := by
        rw [hl]
        have := congrArg List.length S.pre
        rw [List.length_take] at this
        omega
      refine ⟨H, O, startM t.d.nn xs, O, fl, start_sim d ra nn hNl, e1, ?_⟩
      cases fl with
      | nx σ' =>
        cases e2
        exact fun σ'' H' O' S' _ => post .non H' S'.same .non
      | ret v own =>
        cases e2
        exact fun u H' s' q => post u H' s' q
      | bk _ => cases e2
      | ct _ => cases e2

/-- the module's own part holds no list -/
def noLists (K : PySem.W.Frag) : Bool := K.all fun p => match p.2.cls with | .type n => !(n == "list") | _ => true

theorem lookup_mem {α : Type} : ∀ {l : List (Addr × α)} {a : Addr} {o : α}, l.lookup a = some o → (a, o) ∈ l
  | (b, u) :: r, a, o, h => by
    rw [List.lookup_cons] at h
    cases hb : a == b with
    | true =>
      rw [hb] at h
      cases h
      have e : a = b := by simpa using hb
      subst e
      exact List.mem_cons_self
    | false =>
      rw [hb] at h
      exact List.mem_cons_of_mem _ (lookup_mem h)

theorem ints_rep {G : Hp} : ∀ ns : List Int, RepAll G (ns.map V.int) (ns.map MV.int)
  | [] => .nil
  | n :: r => .cons (.int n) (ints_rep r)

theorem law_run {mb : Str → Option Value} {k : Nat} {fa a : Addr} {fd : FuncData} {x : Str} {φ : List MV → Option (MV × Bool)} {s₁ : Shared} {vs : List Value} {ns : List Int} {own : Bool}
    (KX : K.In s₁.heap) (hns : s₁.heap.Ns mainGlobals mg) (hb : s₁.heap.Ns builtinsNs mb) (hbb : ∀ x : Str, x ≠ "__name__" → mb x = bootBuiltins x) (hlim : s₁.heap.NoLimit) (hg : s₁.gens = #[])
    (ha : s₁.heap.get? a = some { cls := .type "list", data := .seq vs.toArray }) (hi : IntsAre vs ns) (hl : ns.length ≤ sizeLine) (hr : Room k callerA) (nl : noLists K = true)
    (F : ∀ base : Heap, K.In base → base.Ns mainGlobals mg → FnG P w K mg base k fa fd [x] (spM φ)) (hbind : BindsTo s₁ fd ⟨[.ref a], []⟩ [(x, .ref a)])
    (hφ : φ [.lst (ns.map MV.int)] = some (.bl true, own)) :
    codeAny (model P w) callerA (.call (.ref fa) ⟨[.ref a], []⟩) (fun r s' => r = .ok (.ret (.bool true)) ∧ OldK s₁.heap s'.heap ∧ s'.os = s₁.os ∧ AllBare s'.gens) s₁ := by
  have rv : Vals (ns.map V.int) vs := vals_ints hi
  have hk : K.lookup a = none := by
    cases z : K.lookup a with
    | none => rfl
    | some o =>
      have e := KX a o z
      rw [ha] at e
      cases e
      have w := List.all_eq_true.mp nl _ (lookup_mem z)
      simp at w
  -- the abstract heap: the script alone, locked
  let H : Hp := fun b => if b = a then some (.frz { cls := .type "list", data := .seq vs.toArray } (.lst (ns.map V.int))) else none
  have Ha : H a = some (.frz { cls := .type "list", data := .seq vs.toArray } (.lst (ns.map V.int))) := if_pos rfl
  have Hn : ∀ b, b ≠ a → H b = none := fun b h => if_neg h
  have ok : HOk P w H s₁.heap := fun b u e => by
    by_cases hb : b = a
    · subst hb
      rw [Ha] at e
      cases e
      exact ⟨ha, by rw [List.length_map]; exact hl, vs, _, rv, ha⟩
    · rw [Hn b hb] at e; cases e
  have seen : ∀ {b : Addr} {o : Obj}, s₁.heap.get? b = some o → H b = none → (hidT s₁.heap H).get? b = some o := fun e n => hidT_get e n
  have notA : ∀ {b : Addr} {o : Obj}, b ≠ a → s₁.heap.get? b = some o → (hidT s₁.heap H).get? b = some o := fun h e => seen e (Hn _ h)
  have space : ∀ {b : Addr} {m : Str → Option Value}, s₁.heap.Ns b m → (hidT s₁.heap H).Ns b m := by
    intro b m ⟨o, es, ep, e, d, r⟩
    refine ⟨o, es, ep, notA ?_ e, d, r⟩
    intro z
    subst z
    rw [ha] at e
    cases e
    have d' : Data.seq vs.toArray _ = Data.dict es ep := d
    cases d'
  have hK : K.In (hidT s₁.heap H) := fun b o e => notA (fun z => by rw [z, hk] at e; cases e) (KX b o e)
  obtain ⟨mc, l1, l2⟩ := hlim
  have hM : Mod K mg (hidT s₁.heap H) := ⟨hK, space hns, ⟨mb, space hb, hbb⟩, mc, space l1, l2⟩
  have e0 : Env0 P w K mg (hidT s₁.heap H) callerA [] s₁ H :=
    ⟨rfl, hM, fun b o e => of_hidT e, Nat.le_of_eq (hidT_size _ _), trivial, (fun b hb => by cases hb), ok, AllBare.of_eq hg⟩
  have rep : RepAll (Vw H fun _ => false) [V.ref a] [.lst (ns.map MV.int)] := by
    refine .cons (.lst (.inr ⟨_, same_no _ _ Ha⟩) ?_) .nil
    exact ints_rep ns
  have sp : spM φ [V.ref a] H (fun v _ => v = .bl true) E0 := ⟨fun _ => false, _, _, dom_no, rep, hφ, fun v H' s' q => q.bor.bl⟩
  refine codeAny_mono ((F _ hK (space hns)).go callerA [] s₁ H _ [.ref a] [.ref a] _ E0 hr rfl e0 hbind (.cons rfl .nil) sp) ?_
  intro r s' h
  cases r with
  | error e => exact False.elim h
  | ok fl =>
    cases fl with
    | next => exact False.elim h
    | brk => exact False.elim h
    | cont => exact False.elim h
    | ret u =>
      obtain ⟨v, H', os, bare, un, ok', r', q⟩ := h
      cases (show v = .bl true from q)
      cases (show u = Value.bool true from r')
      refine ⟨rfl, OldK.of_keep fun b o e => ?_, os, bare⟩
      by_cases hb : b = a
      · subst hb
        obtain ⟨e2, _⟩ := ok' b _ (un.frzs b _ _ Ha)
        rw [ha] at e
        cases e
        exact e2
      · exact un.keep b o e (Hn b hb) (fun z => by cases z) (fun z => by cases z)
end

theorem caller_room {k : Nat} (h : k ≤ 230) : Room k callerA := by
  refine ⟨rfl, ?_, ?_⟩
  · show 1 + claimMargin + 3 * k + 5 < recursionLimit
    unfold claimMargin recursionLimit
    omega
  · show 4 + 16 * k + 200 < cLine
    unfold cLine
    omega

/-- THE END: the law's def gives True in the value language at every script -/
theorem walk {l : PySem.W.OpenLaw} {q : Program} {loose : List Str} {XP : (Str → Option Value) → Heap → Prop} {YP : World → Heap → Prop} {d : DefRec} {K : Params → PySem.W.Frag} {C : MC} {T : List FT} {i L n : Nat} {t : FT}
    (hn : l.most = some 63) (hdf : d.params.defaults = []) (hlev : n ≤ 230) (ht : T[i]? = some t) (hname : t.name = d.name) (hps : t.ps = [("script" : Str)])
    (hY : ∀ (w : World) (h : Heap), YP w h → (K w.params).In h)
    (hM : ∀ (w : World) (mg : Str → Option Value) (h : Heap), (K w.params).In h → h.Ns mainGlobals mg → Modu (K w.params) mg C T ∧ noLists (K w.params) = true)
    (hlaw : ∀ ns : List Int, ns.length ≤ 63 → ∃ own, run (T.map (·.d)) L n i [.lst (ns.map MV.int)] = some (.bl true, own)) :
    PySem.W.WalkO q loose XP YP l.row.toRowW d [] (fun f vs => PySem.call f vs) := by
  refine Att.attach_call hn hdf fun w s₀ s₁ mg mb fa o pm cd doc a vs ns G Y ho hd hcd hmg hobj hints hlen hg => ?_
  have KX := hY w _ Y
  obtain ⟨M, nl⟩ := hM w mg _ KX G.T.g
  obtain ⟨f, fd, m1, m2, m3⟩ := (M.all t (List.mem_of_getElem? ht)).ex
  have ef : f = fa := by
    rw [hname, hmg] at m1
    cases m1
    rfl
  subst ef
  obtain ⟨own, hφ⟩ := hlaw ns hlen
  have hbind : BindsTo s₁ fd ⟨[.ref a], []⟩ [(("script" : Str), .ref a)] := by
    have z := m3 s₁ [.ref a] KX (by rw [hps]; rfl)
    rw [hps] at z
    exact z
  refine law_run (φ := run (T.map (·.d)) L n i) KX G.T.g G.T.b G.T.builtins G.T.nolimit hg hobj hints (Nat.le_trans hlen (by rw [sizeLine_eq]; decide)) (caller_room hlev) nl (fun base hb hns => ?_) hbind hφ
  obtain ⟨M2, _⟩ := hM w mg base hb hns
  have z := all_fns (P := l.prog) (w := w) (base := base) M2 L n i t ht f fd m2
  rw [hps] at z
  exact z

/-! ### the facts of a text, one def at a time -/
theorem stands_mk {K : PySem.W.Frag} {mg : Str → Option Value} {h : Heap} {x : Str} {st : Stmt} {N ps : List Str} {d : FD} {f : Addr} {oc kV dc pm cd ct : Value} {od an : Option Addr} {sl : Array (Option Value)} (X : K.In h) (G : h.Ns mainGlobals mg)
    (a : PySem.W.nsIn K mainGlobals x = some (some (.ref f))) (l : K.lookup f = some ⟨oc, od, .func (PySem.W.fnOf x x (defArgs st) (defBody st) (defScope st) .none kV dc pm an cd ct), sl⟩)
    (c : PySem.W.codeIn K cd x = true) (k : PySem.W.keepIn K (.ref f) = true)
    (b : ∀ (kV doc pm : Value) (an : Option Addr) (cdv ct : Value) (us : List Value), us.length = ps.length → bindArgs (PySem.W.fnOf x x (defArgs st) (defBody st) (defScope st) .none kV doc pm an cdv ct) ⟨us, []⟩ = pure (ps.zip us)) : Stands K mg ⟨x, st, N, ps, d⟩ := by
  have F := fun_mk (st := st) l c k
  exact ⟨f, _, PySem.W.mg_of X G a, F, F.binds b⟩
theorem bis_mk {K : PySem.W.Frag} {mg : Str → Option Value} {h : Heap} (X : K.In h) (G : h.Ns mainGlobals mg) {l : List Str} (z : ∀ x ∈ l, PySem.W.nsIn K mainGlobals x = some none) : ∀ x, l.contains x = true → mg x = none :=
  fun x hx => PySem.W.mg_none_of X G (z x (List.contains_iff_mem.mp hx))
theorem forall_nil {α : Type} {p : α → Prop} : ∀ x ∈ ([] : List α), p x := fun x h => by cases h
theorem forall_cons {α : Type} {p : α → Prop} {a : α} {l : List α} (h : p a) (t : ∀ x ∈ l, p x) : ∀ x ∈ a :: l, p x := fun x hx => by
  rcases List.mem_cons.mp hx with e | e
  · rw [e]; exact h
  · exact t x e
end Mn

set_option Elab.async false
set_option linter.all false
set_option maxRecDepth 100000
namespace K01
open PySem Mn
def top (i : Nat) : Stmt := PySem.Challenge.pw_heldnear_k01_small_systems.main.body.getD i (.Pass ⟨0, 0, 0, 0⟩)
def b_ratio : List CS := [
  .asg 2 (.bi .gcd [.var 0, .var 1]),
  .ite (.cmp .lt (.var 1) (.lit (.int 0))) [.asg 2 (.neg (.var 2))] [],
  .ret (.tup [.bin .fdiv (.var 0) (.var 2), .bin .fdiv (.var 1) (.var 2)])]
def t_ratio : FT := ⟨"ratio", top 2, ["top", "bottom", "common"], ["top", "bottom"], ⟨2, 3, b_ratio⟩⟩
def b__without : List CS := [
  .ret (.comp (.bin .add (.slc (.var 2) none (some (.var 1))) (.slc (.var 2) (some (.bin .add (.var 1) (.lit (.int 1)))) none)) (.nm 2) (.seq (.slc (.var 0) (some (.lit (.int 1))) none)) [])]
def t__without : FT := ⟨"_without", top 4, ["rows", "column", "row"], ["rows", "column"], ⟨2, 3, b__without⟩⟩
def b_determinant : List CS := [
  .ite (.cmp .eq (.bi .len [.var 0]) (.lit (.int 1))) [.ret (.idx (.idx (.var 0) (.lit (.int 0))) (.lit (.int 0)))] [],
  .ite (.cmp .eq (.bi .len [.var 0]) (.lit (.int 2))) [.ret (.bin .sub (.bin .mul (.idx (.idx (.var 0) (.lit (.int 0))) (.lit (.int 0))) (.idx (.idx (.var 0) (.lit (.int 1))) (.lit (.int 1)))) (.bin .mul (.idx (.idx (.var 0) (.lit (.int 0))) (.lit (.int 1))) (.idx (.idx (.var 0) (.lit (.int 1))) (.lit (.int 0)))))] [],
  .asg 1 (.lit (.int 0)),
  .asg 2 (.lit (.int 1)),
  .forS (.nm 3) (.rng1 (.bi .len [.var 0])) [.ite (.cmp .ne (.idx (.idx (.var 0) (.lit (.int 0))) (.var 3)) (.lit (.int 0))) [.asg 1 (.bin .add (.var 1) (.bin .mul (.bin .mul (.var 2) (.idx (.idx (.var 0) (.lit (.int 0))) (.var 3))) (.call 2 [.call 1 [.var 0, .var 3]])))] [], .asg 2 (.neg (.var 2))],
  .ret (.var 1)]
def t_determinant : FT := ⟨"determinant", top 5, ["rows", "total", "sign", "column"], ["rows"], ⟨1, 4, b_determinant⟩⟩
def b__pivot : List CS := [
  .forS (.nm 2) (.rng2 (.var 1) (.bi .len [.var 0])) [.ite (.cmp .ne (.idx (.idx (.var 0) (.var 2)) (.var 1)) (.lit (.int 0))) [.ret (.var 2)] []],
  .ret (.lit .non)]
def t__pivot : FT := ⟨"_pivot", top 6, ["table", "column", "at"], ["table", "column"], ⟨2, 3, b__pivot⟩⟩
def b__cleared : List CS := [
  .asg 2 (.idx (.var 0) (.var 1)),
  .asg 3 (.lst []),
  .forS (.nm 4) (.rng1 (.bi .len [.var 0])) [.asg 5 (.idx (.var 0) (.var 4)), .ite (.or (.cmp .eq (.var 4) (.var 1)) (.cmp .eq (.idx (.var 5) (.var 1)) (.lit (.int 0)))) [.app 3 (.var 5)] [.app 3 (.comp (.bin .sub (.bin .mul (.idx (.var 2) (.var 1)) (.idx (.var 5) (.var 6))) (.bin .mul (.idx (.var 5) (.var 1)) (.idx (.var 2) (.var 6)))) (.nm 6) (.rng1 (.bi .len [.var 5])) [])]],
  .ret (.var 3)]
def t__cleared : FT := ⟨"_cleared", top 7, ["table", "column", "lead", "cleared", "at", "row", "k"], ["table", "column"], ⟨2, 7, b__cleared⟩⟩
def b_solved : List CS := [
  .asg 2 (.bi .len [.var 0]),
  .asg 3 (.comp (.bin .add (.comp (.idx (.var 4) (.var 5)) (.nm 4) (.seq (.var 0)) []) (.lst [.idx (.var 1) (.var 5)])) (.nm 5) (.rng1 (.bi .len [.var 1])) []),
  .forS (.nm 4) (.rng1 (.var 2)) [.asg 5 (.call 3 [.var 3, .var 4]), .ite (.cmp .is (.var 5) (.lit .non)) [.ret (.lit .non)] [], .asg 6 (.idx (.var 3) (.var 5)), .set 3 (.var 5) (.idx (.var 3) (.var 4)), .set 3 (.var 4) (.var 6), .drop 3, .asg 3 (.call 4 [.var 3, .var 4])],
  .forS (.nm 5) (.rng2 (.var 2) (.bi .len [.var 3])) [.ite (.cmp .ne (.idx (.idx (.var 3) (.var 5)) (.var 2)) (.lit (.int 0))) [.ret (.lit .non)] []],
  .ret (.bi .tuple [.comp (.call 0 [.idx (.idx (.var 3) (.var 5)) (.var 2), .idx (.idx (.var 3) (.var 5)) (.var 5)]) (.nm 5) (.rng1 (.var 2)) []])]
def t_solved : FT := ⟨"solved", top 8, ["columns", "target", "many", "table", "column", "at", "row"], ["columns", "target"], ⟨2, 7, b_solved⟩⟩
def b__law_whole : List CS := [
  .ret (.and (.isi (.var 0) [.int]) (.not (.isi (.var 0) [.bool])))]
def t__law_whole : FT := ⟨"_law_whole", top 10, ["value"], ["value"], ⟨1, 1, b__law_whole⟩⟩
def b__law_cell : List CS := [
  .ite (.cmp .lt (.var 1) (.bi .len [.var 0])) [.ret (.idx (.var 0) (.var 1))] [],
  .asg 2 (.lit (.int 17)),
  .forS (.nm 3) (.seq (.var 0)) [.asg 2 (.bin .mod (.bi .int [.bin .add (.bin .mul (.var 2) (.lit (.int 31))) (.bin .mod (.bi .int [.var 3]) (.lit (.int 1000003)))]) (.lit (.int 1000003)))],
  .ret (.bin .mod (.bi .int [.bin .mul (.bin .mul (.bin .add (.var 2) (.lit (.int 7))) (.bin .add (.var 1) (.lit (.int 3)))) (.lit (.int 69621))]) (.lit (.int 2147483647)))]
def t__law_cell : FT := ⟨"_law_cell", top 11, ["script", "k", "seed", "cell"], ["script", "k"], ⟨2, 4, b__law_cell⟩⟩
def b__law_digits : List CS := [
  .asg 2 (.lst []),
  .asg 3 (.bi .int [.var 0]),
  .ite (.cmp .ge (.var 3) (.bin .pow (.lit (.int 10)) (.lit (.int 18)))) [.asg 3 (.bin .sub (.var 3) (.bin .pow (.lit (.int 10)) (.lit (.int 18)))), .forS (.nm 6) (.seq (.var 1)) [.app 2 (.bin .mod (.bi .int [.var 3]) (.var 6)), .asg 3 (.bin .fdiv (.bi .int [.var 3]) (.var 6))], .ret (.var 2)] [],
  .asg 4 (.bin .mod (.bi .int [.var 3]) (.lit (.int 2147483629))),
  .forS (.nm 5) (.rng1 (.bi .len [.var 1])) [.asg 4 (.bin .mod (.bi .int [.bin .add (.bin .add (.bin .mul (.var 4) (.lit (.int 48271))) (.bin .mul (.lit (.int 974711)) (.var 5))) (.lit (.int 12345))]) (.lit (.int 2147483647))), .asg 7 (.bin .mod (.bi .int [.bin .mul (.var 4) (.bin .add (.bin .fdiv (.var 4) (.lit (.int 65537))) (.lit (.int 3)))]) (.lit (.int 2147483629))), .app 2 (.bin .mod (.bin .fdiv (.var 7) (.lit (.int 19))) (.idx (.var 1) (.var 5)))],
  .ret (.var 2)]
def t__law_digits : FT := ⟨"_law_digits", top 12, ["cell", "sizes", "row", "rest", "seed", "k", "size", "twice"], ["cell", "sizes"], ⟨2, 8, b__law_digits⟩⟩
def b__law_common : List CS := [
  .asg 2 (.bi .abs [.var 0]),
  .asg 3 (.bi .abs [.var 1]),
  .whl (.cmp .ne (.var 3) (.lit (.int 0))) [.asg 4 (.bin .mod (.bi .int [.var 2]) (.var 3)), .asg 2 (.var 3), .asg 3 (.var 4)],
  .ret (.var 2)]
def t__law_common : FT := ⟨"_law_common", top 13, ["one", "two", "first", "other", "rest"], ["one", "two"], ⟨2, 5, b__law_common⟩⟩
def b__law_same : List CS := [
  .ite (.isi (.var 1) [.list, .tuple]) [.ite (.or (.not (.isi (.var 0) [.tuple])) (.cmp .ne (.bi .len [.var 0]) (.bi .len [.var 1]))) [.ret (.lit (.bl false))] [], .forS (.nm 2) (.rng1 (.bi .len [.var 1])) [.ite (.not (.call 10 [.idx (.var 0) (.var 2), .idx (.var 1) (.var 2)])) [.ret (.lit (.bl false))] []], .ret (.lit (.bl true))] [],
  .ite (.cmp .is (.var 1) (.lit .non)) [.ret (.cmp .is (.var 0) (.lit .non))] [],
  .ite (.cmp .is (.var 1) (.lit (.bl true))) [.ret (.cmp .is (.var 0) (.lit (.bl true)))] [],
  .ite (.cmp .is (.var 1) (.lit (.bl false))) [.ret (.cmp .is (.var 0) (.lit (.bl false)))] [],
  .ite (.isi (.var 1) [.str]) [.ret (.and (.isi (.var 0) [.str]) (.cmp .eq (.var 0) (.var 1)))] [],
  .ret (.and (.call 6 [.var 0]) (.cmp .eq (.var 0) (.var 1)))]
def t__law_same : FT := ⟨"_law_same", top 14, ["value", "due", "k"], ["value", "due"], ⟨2, 3, b__law_same⟩⟩
def b__law_det : List CS := [
  .ite (.cmp .eq (.bi .len [.var 0]) (.lit (.int 0))) [.ret (.lit (.int 1))] [],
  .asg 1 (.lit (.int 0)),
  .forS (.nm 2) (.rng1 (.bi .len [.var 0])) [.ite (.cmp .ne (.idx (.idx (.var 0) (.lit (.int 0))) (.var 2)) (.lit (.int 0))) [.asg 3 (.comp (.bin .add (.slc (.var 4) none (some (.var 2))) (.slc (.var 4) (some (.bin .add (.var 2) (.lit (.int 1)))) none)) (.nm 4) (.seq (.slc (.var 0) (some (.lit (.int 1))) none)) []), .drop 3, .asg 1 (.bin .add (.var 1) (.bin .mul (.bin .mul (.bin .sub (.lit (.int 1)) (.bin .mul (.lit (.int 2)) (.bin .mod (.var 2) (.lit (.int 2))))) (.idx (.idx (.var 0) (.lit (.int 0))) (.var 2))) (.call 11 [.var 3])))] []],
  .ret (.var 1)]
def t__law_det : FT := ⟨"_law_det", top 15, ["rows", "total", "at", "smaller", "line"], ["rows"], ⟨1, 5, b__law_det⟩⟩
def b__law_subsets : List CS := [
  .asg 2 (.lst [.lst []]),
  .forS (.nm 3) (.rng1 (.var 0)) [.asg 2 (.bin .add (.var 2) (.comp (.bin .add (.var 4) (.lst [.var 3])) (.nm 4) (.seq (.var 2)) []))],
  .ret (.comp (.var 4) (.nm 4) (.seq (.var 2)) [.cmp .eq (.bi .len [.var 4]) (.var 1)])]
def t__law_subsets : FT := ⟨"_law_subsets", top 16, ["limit", "many", "told", "at", "one"], ["limit", "many"], ⟨2, 5, b__law_subsets⟩⟩
def b__law_fit : List CS := [
  .asg 2 (.bi .len [.var 0]),
  .forS (.nm 3) (.seq (.call 12 [.bi .len [.var 1], .var 2])) [.asg 4 (.lst []), .forS (.nm 5) (.seq (.var 0)) [.app 4 (.comp (.idx (.var 5) (.var 13)) (.nm 13) (.seq (.var 3)) [])], .asg 6 (.call 11 [.var 4]), .ite (.cmp .ne (.var 6) (.lit (.int 0))) [.asg 7 (.comp (.idx (.var 1) (.var 13)) (.nm 13) (.seq (.var 3)) []), .asg 8 (.lst [.bi .abs [.var 6]]), .forS (.nm 9) (.rng1 (.var 2)) [.drop 7, .asg 11 (.call 11 [.bin .add (.bin .add (.slc (.var 4) none (some (.var 9))) (.lst [.var 7])) (.slc (.var 4) (some (.bin .add (.var 9) (.lit (.int 1)))) none)]), .ite (.cmp .lt (.var 6) (.lit (.int 0))) [.asg 11 (.bin .sub (.lit (.int 0)) (.var 11))] [], .app 8 (.var 11)], .forS (.nm 10) (.rng1 (.bi .len [.var 1])) [.asg 12 (.lit (.int 0)), .forS (.nm 9) (.rng1 (.var 2)) [.asg 12 (.bin .add (.var 12) (.bin .mul (.idx (.var 8) (.bin .add (.var 9) (.lit (.int 1)))) (.idx (.idx (.var 0) (.var 9)) (.var 10))))], .ite (.cmp .ne (.var 12) (.bin .mul (.idx (.var 8) (.lit (.int 0))) (.idx (.var 1) (.var 10)))) [.ret (.lst [])] []], .ret (.var 8)] []],
  .ret (.lst [])]
def t__law_fit : FT := ⟨"_law_fit", top 17, ["columns", "target", "many", "places", "base", "column", "bottom", "goal", "told", "k", "j", "top", "total", "at"], ["columns", "target"], ⟨2, 14, b__law_fit⟩⟩
def b__law_due : List CS := [
  .asg 2 (.call 13 [.var 0, .var 1]),
  .ite (.cmp .eq (.bi .len [.var 2]) (.lit (.int 0))) [.ret (.lit .non)] [],
  .asg 3 (.lst []),
  .forS (.nm 4) (.seq (.slc (.var 2) (some (.lit (.int 1))) none)) [.asg 5 (.call 9 [.var 4, .idx (.var 2) (.lit (.int 0))]), .app 3 (.tup [.bin .fdiv (.var 4) (.var 5), .bin .fdiv (.idx (.var 2) (.lit (.int 0))) (.var 5)])],
  .ret (.var 3)]
def t__law_due : FT := ⟨"_law_due", top 18, ["columns", "target", "told", "fractions", "top", "common"], ["columns", "target"], ⟨2, 6, b__law_due⟩⟩
def b__law_entries : List CS := [
  .asg 2 (.call 8 [.var 0, .bin .add (.lst [.lit (.int 9)]) (.bin .mul (.lst [.bin .pow (.lit (.int 10)) (.lit (.int 9))]) (.var 1))]),
  .asg 3 (.lst []),
  .forS (.nm 4) (.rng1 (.var 1)) [.asg 5 (.bi .int [.idx (.var 2) (.bin .add (.lit (.int 1)) (.var 4))]), .asg 6 (.bin .sub (.bin .mod (.var 5) (.lit (.int 7))) (.lit (.int 3))), .ite (.cmp .eq (.idx (.var 2) (.lit (.int 0))) (.lit (.int 1))) [.asg 6 (.bin .sub (.bin .mod (.var 5) (.lit (.int 3))) (.lit (.int 1)))] [], .ite (.cmp .eq (.idx (.var 2) (.lit (.int 0))) (.lit (.int 2))) [.asg 6 (.bin .sub (.bin .mod (.var 5) (.lit (.int 19))) (.lit (.int 9)))] [], .ite (.cmp .eq (.idx (.var 2) (.lit (.int 0))) (.lit (.int 3))) [.asg 6 (.bin .sub (.var 5) (.bin .mul (.lit (.int 5)) (.bin .pow (.lit (.int 10)) (.lit (.int 8)))))] [], .ite (.cmp .eq (.idx (.var 2) (.lit (.int 0))) (.lit (.int 4))) [.asg 6 (.bin .add (.bin .mul (.bin .sub (.var 5) (.bin .mul (.lit (.int 5)) (.bin .pow (.lit (.int 10)) (.lit (.int 8))))) (.bin .pow (.lit (.int 10)) (.lit (.int 20)))) (.var 5))] [], .ite (.cmp .eq (.idx (.var 2) (.lit (.int 0))) (.lit (.int 5))) [.asg 6 (.bin .mul (.bin .mod (.var 5) (.lit (.int 5))) (.bin .sub (.bin .mod (.bin .fdiv (.var 5) (.lit (.int 7))) (.lit (.int 3))) (.lit (.int 1))))] [], .app 3 (.var 6)],
  .ret (.var 3)]
def t__law_entries : FT := ⟨"_law_entries", top 19, ["cell", "many", "digits", "told", "k", "drawn", "item"], ["cell", "many"], ⟨2, 7, b__law_entries⟩⟩
def b__law_vectors : List CS := [
  .asg 3 (.call 15 [.var 0, .bin .mul (.var 1) (.var 2)]),
  .ret (.comp (.slc (.var 3) (some (.bin .mul (.var 2) (.var 4))) (some (.bin .add (.bin .mul (.var 2) (.var 4)) (.var 2)))) (.nm 4) (.rng1 (.var 1)) [])]
def t__law_vectors : FT := ⟨"_law_vectors", top 20, ["cell", "many", "length", "items", "k"], ["cell", "many", "length"], ⟨3, 5, b__law_vectors⟩⟩
def b__law_sum : List CS := [
  .asg 4 (.comp (.lit (.int 0)) (.nm 6) (.rng1 (.var 2)) []),
  .forS (.nm 5) (.rng1 (.bi .len [.var 0])) [.ite (.cmp .ne (.var 5) (.var 3)) [.asg 4 (.comp (.bin .add (.idx (.var 4) (.var 7)) (.bin .mul (.idx (.var 1) (.var 5)) (.idx (.idx (.var 0) (.var 5)) (.var 7)))) (.nm 7) (.rng1 (.var 2)) [])] []],
  .ret (.var 4)]
def t__law_sum : FT := ⟨"_law_sum", top 21, ["vectors", "weights", "length", "spot", "told", "at", "k", "j"], ["vectors", "weights", "length", "spot"], ⟨4, 8, b__law_sum⟩⟩
def b__law_scattered : List CS := [
  .asg 4 (.comp (.var 6) (.nm 6) (.rng1 (.var 3)) []),
  .asg 5 (.lst []),
  .forS (.nm 6) (.rng1 (.var 2)) [.pop (some 7) 4 (some (.bin .mod (.bi .int [.idx (.var 1) (.var 6)]) (.bi .len [.var 4]))), .app 5 (.comp (.bin .mul (.idx (.var 0) (.var 6)) (.bi .int [.cmp .eq (.var 8) (.var 7)])) (.nm 8) (.rng1 (.var 3)) [])],
  .ret (.var 5)]
def t__law_scattered : FT := ⟨"_law_scattered", top 22, ["numbers", "picks", "many", "length", "rest", "told", "k", "at", "j"], ["numbers", "picks", "many", "length"], ⟨4, 9, b__law_scattered⟩⟩
def b__law_drawn_table : List CS := [
  .asg 2 (.call 8 [.var 0, .bin .add (.bin .add (.lst [.lit (.int 4), .lit (.int 9), .lit (.int 4), .lit (.int 3), .lit (.int 2)]) (.bin .mul (.lst [.lit (.int 7)]) (.lit (.int 4)))) (.bin .mul (.lst [.lit (.int 4)]) (.lit (.int 4)))]),
  .asg 3 (.bin .add (.lit (.int 1)) (.idx (.var 2) (.lit (.int 0)))),
  .asg 4 (.comp (.bin .sub (.idx (.var 2) (.bin .add (.lit (.int 5)) (.var 9))) (.lit (.int 3))) (.nm 9) (.rng1 (.lit (.int 4))) []),
  .asg 5 (.slc (.var 2) (some (.lit (.int 9))) (some (.lit (.int 13)))),
  .asg 6 (.call 16 [.var 1, .var 3, .var 3]),
  .asg 7 (.bin .mod (.bi .int [.idx (.var 2) (.lit (.int 2))]) (.var 3)),
  .ite (.cmp .eq (.idx (.var 2) (.lit (.int 1))) (.lit (.int 2))) [.drop 4, .set 6 (.var 7) (.call 17 [.var 6, .var 4, .var 3, .var 7])] [],
  .ite (.and (.cmp .eq (.idx (.var 2) (.lit (.int 1))) (.lit (.int 3))) (.cmp .gt (.var 3) (.lit (.int 1)))) [.asg 8 (.bin .mod (.bi .int [.bin .add (.bin .add (.var 7) (.lit (.int 1))) (.bin .mod (.bi .int [.idx (.var 2) (.lit (.int 3))]) (.bin .sub (.var 3) (.lit (.int 1))))]) (.var 3)), .set 6 (.var 7) (.comp (.bin .mul (.bin .sub (.lit (.int 1)) (.bin .mul (.lit (.int 2)) (.idx (.var 2) (.lit (.int 4))))) (.var 10)) (.nm 10) (.seq (.idx (.var 6) (.var 8))) [])] [],
  .ite (.or (.cmp .eq (.idx (.var 2) (.lit (.int 1))) (.lit (.int 4))) (.cmp .eq (.idx (.var 2) (.lit (.int 1))) (.lit (.int 5)))) [.drop 5, .asg 6 (.call 18 [.comp (.bin .add (.idx (.var 4) (.var 9)) (.bin .mul (.lit (.int 4)) (.bi .int [.cmp .eq (.idx (.var 4) (.var 9)) (.lit (.int 0))]))) (.nm 9) (.rng1 (.lit (.int 4))) [], .var 5, .var 3, .var 3])] [],
  .ite (.cmp .eq (.idx (.var 2) (.lit (.int 1))) (.lit (.int 6))) [.forS (.nm 9) (.rng1 (.var 3)) [.set 6 (.var 9) (.comp (.bin .mul (.idx (.idx (.var 6) (.var 9)) (.var 11)) (.bi .int [.cmp .ge (.var 11) (.var 9)])) (.nm 11) (.rng1 (.var 3)) [])]] [],
  .ite (.cmp .eq (.idx (.var 2) (.lit (.int 1))) (.lit (.int 7))) [.set 6 (.var 7) (.comp (.lit (.int 0)) (.nm 9) (.rng1 (.var 3)) [])] [],
  .ret (.var 6)]
def t__law_drawn_table : FT := ⟨"_law_drawn_table", top 23, ["cell", "one_cell", "shape", "many", "weights", "picks", "table", "spot", "other", "k", "item", "j"], ["cell", "one_cell"], ⟨2, 12, b__law_drawn_table⟩⟩
def b__law_drawn_system : List CS := [
  .asg 3 (.call 8 [.var 0, .bin .add (.bin .add (.bin .add (.lst [.lit (.int 4), .lit (.int 7), .lit (.int 4), .lit (.int 3), .lit (.int 2)]) (.bin .mul (.lst [.lit (.int 7)]) (.lit (.int 4)))) (.bin .mul (.lst [.lit (.int 6)]) (.lit (.int 4)))) (.bin .mul (.lst [.lit (.int 4)]) (.lit (.int 4)))]),
  .asg 4 (.bin .add (.lit (.int 1)) (.idx (.var 3) (.lit (.int 0)))),
  .asg 5 (.idx (.lst [.lit (.int 2), .lit (.int 0), .lit (.int 1), .lit (.int 2), .lit (.int 3), .lit (.int 4), .lit (.int 3)]) (.idx (.var 3) (.lit (.int 1)))),
  .ite (.and (.cmp .ne (.var 2) (.lit (.int 3))) (.and (.cmp .ne (.var 2) (.lit (.int 6))) (.cmp .ne (.var 2) (.lit (.int 0))))) [.asg 5 (.bi .min [.var 5, .var 4])] [],
  .asg 6 (.comp (.bin .sub (.idx (.var 3) (.bin .add (.lit (.int 5)) (.var 13))) (.lit (.int 3))) (.nm 13) (.rng1 (.lit (.int 4))) []),
  .asg 7 (.comp (.idx (.lst [.lit (.int 1), .lit (.int 2), .lit (.int 3), .lit (.int 6), .lit (.int 5), .neg (.lit (.int 2))]) (.idx (.var 3) (.bin .add (.lit (.int 9)) (.var 13)))) (.nm 13) (.rng1 (.lit (.int 4))) []),
  .asg 8 (.call 16 [.var 1, .bin .add (.var 5) (.lit (.int 1)), .var 4]),
  .asg 9 (.slc (.var 8) none (some (.var 5))),
  .asg 10 (.bin .mod (.bi .int [.idx (.var 3) (.lit (.int 2))]) (.bi .max [.var 5, .lit (.int 1)])),
  .ite (.cmp .eq (.var 2) (.lit (.int 0))) [.drop 9, .ret (.lst [.var 9, .idx (.var 8) (.var 5)])] [],
  .ite (.cmp .eq (.var 2) (.lit (.int 5))) [.drop 7, .ret (.lst [.call 18 [.var 7, .slc (.var 3) (some (.lit (.int 13))) (some (.lit (.int 17))), .var 5, .var 4], .comp (.bin .mul (.var 15) (.idx (.var 3) (.lit (.int 4)))) (.nm 15) (.seq (.idx (.var 8) (.var 5))) []])] [],
  .ite (.cmp .eq (.var 2) (.lit (.int 7))) [.drop 9, .ret (.lst [.var 9, .comp (.lit (.int 0)) (.nm 13) (.rng1 (.var 4)) []])] [],
  .ite (.and (.cmp .eq (.var 2) (.lit (.int 3))) (.cmp .gt (.var 5) (.lit (.int 0)))) [.drop 6, .set 9 (.var 10) (.call 17 [.var 9, .var 6, .var 4, .var 10])] [],
  .ite (.and (.cmp .eq (.var 2) (.lit (.int 6))) (.cmp .gt (.var 5) (.lit (.int 1)))) [.asg 12 (.bin .mod (.bi .int [.bin .add (.bin .add (.var 10) (.lit (.int 1))) (.bin .mod (.bi .int [.idx (.var 3) (.lit (.int 3))]) (.bin .sub (.var 5) (.lit (.int 1))))]) (.var 5)), .set 9 (.var 10) (.comp (.bin .mul (.bin .sub (.lit (.int 1)) (.bin .mul (.lit (.int 2)) (.idx (.var 3) (.lit (.int 4))))) (.var 15)) (.nm 15) (.seq (.idx (.var 9) (.var 12))) [])] [],
  .drop 6,
  .asg 11 (.call 17 [.var 9, .var 6, .var 4, .neg (.lit (.int 1))]),
  .ite (.cmp .eq (.var 2) (.lit (.int 2))) [.forS (.nm 13) (.rng1 (.var 5)) [.set 9 (.var 13) (.comp (.bin .mul (.idx (.var 7) (.var 13)) (.var 15)) (.nm 15) (.seq (.idx (.var 9) (.var 13))) [])]] [],
  .ite (.cmp .eq (.var 2) (.lit (.int 4))) [.asg 14 (.bin .mod (.bi .int [.idx (.var 3) (.lit (.int 3))]) (.var 4)), .set 11 (.var 14) (.bin .sub (.bin .add (.idx (.var 11) (.var 14)) (.lit (.int 1))) (.bin .mul (.lit (.int 2)) (.idx (.var 3) (.lit (.int 4)))))] [],
  .drop 9,
  .drop 11,
  .ret (.lst [.var 9, .var 11])]
def t__law_drawn_system : FT := ⟨"_law_drawn_system", top 24, ["cell", "one_cell", "kind", "shape", "length", "many", "weights", "factors", "drawn", "columns", "spot", "target", "other", "k", "at", "item"], ["cell", "one_cell", "kind"], ⟨3, 16, b__law_drawn_system⟩⟩
def b__law_passed : List CS := [
  .ite (.cmp .eq (.var 1) (.lit (.int 1))) [.ret (.comp (.bi .list [.var 2]) (.nm 2) (.seq (.var 0)) [])] [],
  .ret (.bi .tuple [.comp (.bi .tuple [.var 2]) (.nm 2) (.seq (.var 0)) []])]
def t__law_passed : FT := ⟨"_law_passed", top 25, ["vectors", "listed", "vector"], ["vectors", "listed"], ⟨2, 3, b__law_passed⟩⟩
def b__law_stays : List CS := [
  .ret (.call 10 [.bi .tuple [.comp (.bi .tuple [.var 2]) (.nm 2) (.seq (.var 0)) []], .var 1])]
def t__law_stays : FT := ⟨"_law_stays", top 26, ["passed", "vectors", "vector"], ["passed", "vectors"], ⟨2, 3, b__law_stays⟩⟩
def b__law_table_right : List CS := [
  .asg 2 (.call 21 [.var 0, .var 1]),
  .drop 2,
  .ite (.not (.call 10 [.call 2 [.var 2], .call 11 [.var 0]])) [.ret (.lit (.bl false))] [],
  .drop 2,
  .ret (.call 22 [.var 2, .var 0])]
def t__law_table_right : FT := ⟨"_law_table_right", top 27, ["table", "listed", "passed"], ["table", "listed"], ⟨2, 3, b__law_table_right⟩⟩
def b__law_system_right : List CS := [
  .asg 3 (.call 14 [.var 0, .var 1]),
  .asg 4 (.call 21 [.var 0, .var 2]),
  .asg 5 (.bi .tuple [.var 1]),
  .ite (.cmp .eq (.var 2) (.lit (.int 1))) [.asg 5 (.bi .list [.var 1])] [],
  .drop 4,
  .drop 5,
  .drop 3,
  .ite (.not (.call 10 [.call 5 [.var 4, .var 5], .var 3])) [.ret (.lit (.bl false))] [],
  .drop 4,
  .ret (.and (.call 22 [.var 4, .var 0]) (.call 10 [.bi .tuple [.var 5], .var 1]))]
def t__law_system_right : FT := ⟨"_law_system_right", top 28, ["columns", "target", "listed", "due", "passed", "goal"], ["columns", "target", "listed"], ⟨3, 6, b__law_system_right⟩⟩
def b_law : List CS := [
  .asg 1 (.call 8 [.call 7 [.var 0, .lit (.int 0)], .lst [.lit (.int 2), .lit (.int 3), .lit (.int 8), .lit (.int 8), .lit (.int 8), .lit (.int 2), .lit (.int 2), .lit (.int 2), .lit (.int 2), .lit (.int 2), .lit (.int 2), .lit (.int 2), .lit (.int 2)]]),
  .asg 2 (.lst [.bin .add (.lit (.int 1)) (.idx (.var 1) (.lit (.int 0))), .idx (.lst [.lit (.int 3), .lit (.int 4), .lit (.int 6)]) (.idx (.var 1) (.lit (.int 1))), .idx (.var 1) (.lit (.int 2)), .idx (.var 1) (.lit (.int 3)), .idx (.var 1) (.lit (.int 4))]),
  .forS (.nm 3) (.rng1 (.lit (.int 3))) [.asg 5 (.call 19 [.call 7 [.var 0, .bin .add (.lit (.int 1)) (.bin .mul (.lit (.int 2)) (.var 3))], .call 7 [.var 0, .bin .add (.lit (.int 2)) (.bin .mul (.lit (.int 2)) (.var 3))]]), .drop 5, .ite (.not (.call 23 [.var 5, .idx (.var 1) (.bin .add (.lit (.int 5)) (.var 3))])) [.ret (.lit (.bl false))] []],
  .forS (.nm 3) (.rng1 (.lit (.int 5))) [.asg 6 (.call 20 [.call 7 [.var 0, .bin .add (.lit (.int 7)) (.bin .mul (.lit (.int 2)) (.var 3))], .call 7 [.var 0, .bin .add (.lit (.int 8)) (.bin .mul (.lit (.int 2)) (.var 3))], .idx (.var 2) (.var 3)]), .ite (.not (.call 24 [.idx (.var 6) (.lit (.int 0)), .idx (.var 6) (.lit (.int 1)), .idx (.var 1) (.bin .add (.lit (.int 8)) (.var 3))])) [.ret (.lit (.bl false))] []],
  .asg 4 (.call 20 [.call 7 [.var 0, .lit (.int 7)], .call 7 [.var 0, .lit (.int 8)], .idx (.var 2) (.lit (.int 0))]),
  .ret (.call 24 [.idx (.var 4) (.lit (.int 0)), .idx (.var 4) (.lit (.int 1)), .bin .sub (.lit (.int 1)) (.idx (.var 1) (.lit (.int 8)))])]
def t_law : FT := ⟨"law", top 29, ["script", "kinds", "chosen", "k", "first", "table", "drawn"], ["script"], ⟨1, 7, b_law⟩⟩
def T : List FT := [t_ratio, t__without, t_determinant, t__pivot, t__cleared, t_solved, t__law_whole, t__law_cell, t__law_digits, t__law_common, t__law_same, t__law_det, t__law_subsets, t__law_fit, t__law_due, t__law_entries, t__law_vectors, t__law_sum, t__law_scattered, t__law_drawn_table, t__law_drawn_system, t__law_passed, t__law_stays, t__law_table_right, t__law_system_right, t_law]
def C : MC := ⟨["ratio", "_without", "determinant", "_pivot", "_cleared", "solved", "_law_whole", "_law_cell", "_law_digits", "_law_common", "_law_same", "_law_det", "_law_subsets", "_law_fit", "_law_due", "_law_entries", "_law_vectors", "_law_sum", "_law_scattered", "_law_drawn_table", "_law_drawn_system", "_law_passed", "_law_stays", "_law_table_right", "_law_system_right", "law"], ["range", "len", "tuple", "int", "abs", "isinstance", "str", "list", "min", "max", "bool"], [("gcd", .gcd)]⟩
abbrev F_ratio : Nat := 0
abbrev F_without : Nat := 1
abbrev F_determinant : Nat := 2
abbrev F_pivot : Nat := 3
abbrev F_cleared : Nat := 4
abbrev F_solved : Nat := 5
abbrev F_law_whole : Nat := 6
abbrev F_law_cell : Nat := 7
abbrev F_law_digits : Nat := 8
abbrev F_law_common : Nat := 9
abbrev F_law_same : Nat := 10
abbrev F_law_det : Nat := 11
abbrev F_law_subsets : Nat := 12
abbrev F_law_fit : Nat := 13
abbrev F_law_due : Nat := 14
abbrev F_law_entries : Nat := 15
abbrev F_law_vectors : Nat := 16
abbrev F_law_sum : Nat := 17
abbrev F_law_scattered : Nat := 18
abbrev F_law_drawn_table : Nat := 19
abbrev F_law_drawn_system : Nat := 20
abbrev F_law_passed : Nat := 21
abbrev F_law_stays : Nat := 22
abbrev F_law_table_right : Nat := 23
abbrev F_law_system_right : Nat := 24
abbrev F_law : Nat := 25
theorem text_ok : ∀ t ∈ T, textB C t = true := by
  have h : (T.all (textB C)) = true := by decide +kernel
  exact List.all_eq_true.mp h
end K01

set_option Elab.async false
set_option linter.all false
set_option maxRecDepth 100000
set_option exponentiation.threshold 10000
/-! Mn11: stepping through a body of the value language with simp. -/
namespace Mn.S
open PySem

/-- bind, told by a lemma alone -/
def bd {α β : Type} (o : Option α) (f : α → Option β) : Option β := o.bind f
theorem bd_in {α β : Type} {o o' : Option α} {f : α → Option β} (h : o = o') : bd o f = bd o' f := by rw [h]
theorem bd_eq {α β : Type} {o : Option α} {f : α → Option β} : o.bind f = bd o f := rfl
@[simp] theorem bd_some {α β : Type} {a : α} {f : α → Option β} : bd (some a) f = f a := Eq.trans rfl (Eq.refl (f a))

/-- the value is there, and it is so -/
def OB {α : Type} (o : Option α) (P : α → Prop) : Prop := ∃ a, o = some a ∧ P a
theorem OB_in {α : Type} {o o' : Option α} {P : α → Prop} (h : o = o') : OB o P ↔ OB o' P := by rw [h]
@[simp] theorem OB_some {α : Type} {a : α} {P : α → Prop} : OB (some a) P ↔ P a := ⟨fun ⟨_, h, p⟩ => by cases h; exact p, fun p => ⟨a, rfl, p⟩⟩
@[simp] theorem OB_bd {α β : Type} {o : Option α} {f : α → Option β} {P : β → Prop} : OB (bd o f) P ↔ OB o (fun a => OB (f a) P) := by
  cases o with
  | none => exact ⟨fun ⟨_, h, _⟩ => (by cases h), fun ⟨_, h, _⟩ => (by cases h)⟩
  | some a => rw [OB_some]; rfl
theorem OB_bind {α β : Type} {o : Option α} {f : α → Option β} {P : β → Prop} : OB (o.bind f) P ↔ OB o (fun a => OB (f a) P) := by
  cases o with
  | none => exact ⟨fun ⟨_, h, _⟩ => (by cases h), fun ⟨_, h, _⟩ => (by cases h)⟩
  | some a => rw [OB_some]; rfl

/-- one of two, by a test that stands open -/
def IF (c : Bool) (A B : Prop) : Prop := (c = true → A) ∧ (c = false → B)
theorem IF_in {c c' : Bool} {A B : Prop} (h : c = c') : IF c A B ↔ IF c' A B := by rw [h]
@[simp] theorem IF_t {A B : Prop} : IF true A B ↔ A := ⟨fun h => h.1 rfl, fun a => ⟨fun _ => a, fun h => (by cases h)⟩⟩
@[simp] theorem IF_f {A B : Prop} : IF false A B ↔ B := ⟨fun h => h.2 rfl, fun a => ⟨fun h => (by cases h), fun _ => a⟩⟩
theorem IF.by {c : Bool} {A B : Prop} (h : c = true → A) (k : c = false → B) : IF c A B := ⟨h, k⟩
theorem IF.dec {p : Prop} [Decidable p] {A B : Prop} (h : p → A) (k : ¬ p → B) : IF (decide p) A B := ⟨fun e => h (of_decide_eq_true e), fun e => k (of_decide_eq_false e)⟩
theorem IF.nec {p : Prop} [Decidable p] {A B : Prop} (h : p → B) (k : ¬ p → A) : IF (!decide p) A B := by
  by_cases e : p
  · simp only [e, decide_true, Bool.not_true, IF_f]; exact h e
  · simp only [e, decide_false, Bool.not_false, IF_t]; exact k e

def W (Φ : Fns) (L : Nat) (ss : List CS) (σ : MS) (Q : Flow → Prop) : Prop := OB (exs Φ L ss σ) Q

variable {Φ : Fns} {L : Nat} {r : List CS} {σ : MS} {Q : Flow → Prop}

@[simp] theorem W_nil : W Φ L [] σ Q ↔ Q (.nx σ) := by simp only [W, exs, OB_some]

theorem W_cons (s : CS) : W Φ L (s :: r) σ Q ↔ OB (ex Φ L s σ) (fun fl => match fl with
    | .nx σ' => W Φ L r σ' Q
    | fl => Q fl) := by
  unfold W
  rw [exs]
  rw [OB_bind]
  refine ⟨fun ⟨fl, e, h⟩ => ⟨fl, e, ?_⟩, fun ⟨fl, e, h⟩ => ⟨fl, e, ?_⟩⟩
  · cases fl with
    | nx σ' => exact h
    | ret v o => exact (OB_some (a := Flow.ret v o) (P := Q)).mp h
    | bk σ' => exact (OB_some (a := Flow.bk σ') (P := Q)).mp h
    | ct σ' => exact (OB_some (a := Flow.ct σ') (P := Q)).mp h
  · cases fl with
    | nx σ' => exact h
    | ret v o => exact (OB_some (a := Flow.ret v o) (P := Q)).mpr h
    | bk σ' => exact (OB_some (a := Flow.bk σ') (P := Q)).mpr h
    | ct σ' => exact (OB_some (a := Flow.ct σ') (P := Q)).mpr h

@[simp] theorem W_asg {i e} : W Φ L (.asg i e :: r) σ Q ↔ OB (ev Φ e σ) (fun x => OB (asgM σ i x) (fun σ' => W Φ L r σ' Q)) := by
  rw [W_cons, ex]; simp only [OB_bind, OB_some]
@[simp] theorem W_asgT {is e} : W Φ L (.asgT is e :: r) σ Q ↔ OB (ev Φ e σ) (fun x => OB (keep x) (fun v => OB (putT σ (.tp is) v) (fun σ' => W Φ L r σ' Q))) := by
  rw [W_cons, ex]; simp only [OB_bind, OB_some]
@[simp] theorem W_par {i j a b} : W Φ L (.par i j a b :: r) σ Q ↔ OB (ev Φ a σ) (fun x => OB (ev Φ b σ) (fun y => OB (keep x) (fun v => OB (keep y) (fun w => W Φ L r (setM (setM σ i v false) j w false) Q)))) := by
  rw [W_cons, ex]; simp only [OB_bind, OB_some]
@[simp] theorem W_app {i e} : W Φ L (.app i e :: r) σ Q ↔ OB (ev Φ e σ) (fun x => OB (keep x) (fun v => OB (ownL σ i) (fun l => l.length < SZ ∧ W Φ L r (setM σ i (.lst (l ++ [v])) true) Q))) := by
  rw [W_cons, ex]; simp only [OB_bind]
  have : ∀ (l : List MV) (v : MV), OB (if l.length < SZ then some (Flow.nx (setM σ i (.lst (l ++ [v])) true)) else none) (fun fl => match fl with | .nx σ' => W Φ L r σ' Q | fl => Q fl) ↔ (l.length < SZ ∧ W Φ L r (setM σ i (.lst (l ++ [v])) true) Q) := by
    intro l v
    by_cases h : l.length < SZ
    · simp only [h, if_true, OB_some, true_and]
    · simp only [h, if_false, false_and, iff_false]; exact fun ⟨_, k, _⟩ => (by cases k)
  simp only [this]
@[simp] theorem W_ext {i e} : W Φ L (.ext i e :: r) σ Q ↔ OB (ev Φ e σ) (fun x => OB (seqOf x.1) (fun m => OB (ownL σ i) (fun l => l.length + m.length ≤ SZ ∧ W Φ L r (setM σ i (.lst (l ++ m)) true) Q))) := by
  rw [W_cons, ex]; simp only [OB_bind]
  have : ∀ (l : List MV) (v : List MV), OB (if l.length + v.length ≤ SZ then some (Flow.nx (setM σ i (.lst (l ++ v)) true)) else none) (fun fl => match fl with | .nx σ' => W Φ L r σ' Q | fl => Q fl) ↔ (l.length + v.length ≤ SZ ∧ W Φ L r (setM σ i (.lst (l ++ v)) true) Q) := by
    intro l v
    by_cases h : l.length + v.length ≤ SZ
    · simp only [h, if_true, OB_some, true_and]
    · simp only [h, if_false, false_and, iff_false]; exact fun ⟨_, k, _⟩ => (by cases k)
  simp only [this]

/-- x[n] = v -/
def setSem (l : List MV) (n : MV) (v : MV) : Option (List MV) := match n with
  | .int n => (L2.ixN l.length n).bind fun j => some (l.set j v)
  | _ => none
@[simp] theorem W_set {i k e} : W Φ L (.set i k e :: r) σ Q ↔ OB (ev Φ e σ) (fun x => OB (keep x) (fun v => OB (ev Φ k σ) (fun y => OB (ownL σ i) (fun l => OB (setSem l y.1 v) (fun l' => W Φ L r (setM σ i (.lst l') true) Q))))) := by
  rw [W_cons, ex]; simp only [OB_bind]
  refine ⟨?_, ?_⟩
  · rintro ⟨x, hx, v, hv, y, hy, h⟩
    refine ⟨x, hx, v, hv, y, hy, ?_⟩
    obtain ⟨y1, yt⟩ := y
    cases y1 with
    | int n =>
      obtain ⟨f, hf, q⟩ := h
      dsimp only at hf
      cases ho : ownL σ i with
      | none => rw [ho] at hf; cases hf
      | some l =>
        refine ⟨l, rfl, ?_⟩
        rw [ho] at hf
        simp only [setSem]
        cases hj : L2.ixN l.length n with
        | none => rw [Option.bind_some, hj] at hf; cases hf
        | some j =>
          rw [Option.bind_some, hj] at hf
          cases hf
          exact ⟨_, rfl, q⟩
    | _ => obtain ⟨f, hf, q⟩ := h; cases hf
  · rintro ⟨x, hx, v, hv, y, hy, l, hl, l', hl', h⟩
    refine ⟨x, hx, v, hv, y, hy, ?_⟩
    obtain ⟨y1, yt⟩ := y
    cases y1 with
    | int n =>
      dsimp only [setSem] at hl' ⊢
      rw [hl, Option.bind_some]
      cases hj : L2.ixN l.length n with
      | none => rw [hj] at hl'; cases hl'
      | some j => rw [hj] at hl'; cases hl'; exact ⟨_, rfl, h⟩
    | _ => cases hl'
def augSem (op : BOp) : MV → MV → Option MV
  | .int m, .int n => match op with
    | .add => some (.int (m + n))
    | .sub => some (.int (m - n))
    | _ => none
  | _, _ => none
@[simp] theorem W_aug {i op e} : W Φ L (.aug i op e :: r) σ Q ↔ OB (getM σ i) (fun x => OB (ev Φ e σ) (fun y => OB (augSem op x.1 y.1) (fun z => W Φ L r (setM σ i z false) Q))) := by
  rw [W_cons, ex]; simp only [OB_bind]
  have : ∀ x y : MV × Tg, OB ((match x.1, y.1 with
      | .int m, .int n => (match op with
          | .add => some (m + n)
          | .sub => some (m - n)
          | _ => none).bind fun z => some (.nx (setM σ i (.int z) false))
      | _, _ => none : Option Flow)) (fun fl => match fl with | .nx σ' => W Φ L r σ' Q | fl => Q fl) ↔ OB (augSem op x.1 y.1) (fun z => W Φ L r (setM σ i z false) Q) := by
    rintro ⟨x, t⟩ ⟨y, u⟩
    have no : ∀ P : Flow → Prop, OB (none : Option Flow) P ↔ False := fun P => ⟨fun ⟨_, h, _⟩ => (by cases h), False.elim⟩
    have no' : ∀ P : MV → Prop, OB (none : Option MV) P ↔ False := fun P => ⟨fun ⟨_, h, _⟩ => (by cases h), False.elim⟩
    cases x <;> cases y <;> cases op <;> simp only [augSem, Option.bind_some, Option.bind_none, OB_some, no, no']
  exact ⟨fun ⟨x, hx, y, hy, h⟩ => ⟨x, hx, y, hy, (this x y).mp h⟩, fun ⟨x, hx, y, hy, h⟩ => ⟨x, hx, y, hy, (this x y).mpr h⟩⟩
@[simp] theorem W_pop {i k} : W Φ L (.pop none i k :: r) σ Q ↔ OB (evO Φ k σ) (fun n => OB (ownL σ i) (fun l => OB (popSem l n) (fun y => W Φ L r (setM σ i (.lst y.2) true) Q))) := by
  rw [W_cons, ex]; simp only [OB_bind, OB_some]
theorem W_popTo {i j k} (h : j ≠ i) : W Φ L (.pop (some j) i k :: r) σ Q ↔ OB (evO Φ k σ) (fun n => OB (ownL σ i) (fun l => OB (popSem l n) (fun y => W Φ L r (setM (setM σ i (.lst y.2) true) j y.1 false) Q))) := by
  rw [W_cons, ex]; simp only [OB_bind, OB_some, h, if_false]
@[simp] theorem W_expr {e} : W Φ L (.expr e :: r) σ Q ↔ OB (ev Φ e σ) (fun _ => W Φ L r σ Q) := by
  rw [W_cons, ex]; simp only [OB_bind, OB_some]
theorem W_ret' {e} : W Φ L (.ret e :: r) σ Q ↔ OB (ev Φ e σ) (fun x => (¬ (x.2 = .bo ∧ isVar e = false)) ∧ Q (retM x)) := by
  rw [W_cons, ex]; simp only [OB_bind]
  have : ∀ x : MV × Tg, OB (if x.2 = .bo ∧ isVar e = false then none else some (retM x)) (fun fl => match fl with | .nx σ' => W Φ L r σ' Q | fl => Q fl) ↔ ((¬ (x.2 = .bo ∧ isVar e = false)) ∧ Q (retM x)) := by
    rintro ⟨x, t⟩
    by_cases h : t = .bo ∧ isVar e = false
    · simp only [h, and_self, if_true, not_true, false_and, iff_false]; exact fun ⟨_, k, _⟩ => (by cases k)
    · rw [if_neg h, OB_some]
      simp only [h, not_false_eq_true, true_and]
      cases t <;> rfl
  simp only [this]
/-- what a return gives -/
def retS (b : Bool) : MV × Tg → Option Flow
  | (v, .sh) => some (.ret v false)
  | (v, .fr) => some (.ret v true)
  | (v, .bo) => if b then some (.ret v true) else none
@[simp] theorem retS_sh {b v} : retS b (v, .sh) = some (.ret v false) := rfl
@[simp] theorem retS_fr {b v} : retS b (v, .fr) = some (.ret v true) := rfl
@[simp] theorem retS_bo {v} : retS true (v, .bo) = some (.ret v true) := rfl
@[simp] theorem W_ret {e} : W Φ L (.ret e :: r) σ Q ↔ OB (ev Φ e σ) (fun x => OB (retS (isVar e) x) Q) := by
  rw [W_ret']
  have : ∀ x : MV × Tg, ((¬ (x.2 = .bo ∧ isVar e = false)) ∧ Q (retM x)) ↔ OB (retS (isVar e) x) Q := by
    rintro ⟨x, t⟩
    cases t
    · simp [retS, retM]
    · simp [retS, retM]
    · cases h : isVar e
      · simp [retS, retM]; exact fun ⟨_, k, _⟩ => (by cases k)
      · simp [retS, retM]
  simp only [this]
@[simp] theorem W_retN : W Φ L (.retN :: r) σ Q ↔ Q (.ret .non false) := by
  rw [W_cons, ex]; simp only [OB_some]
@[simp] theorem W_brk : W Φ L (.brk :: r) σ Q ↔ Q (.bk σ) := by rw [W_cons, ex]; simp only [OB_some]
@[simp] theorem W_cnt : W Φ L (.cnt :: r) σ Q ↔ Q (.ct σ) := by rw [W_cons, ex]; simp only [OB_some]
@[simp] theorem W_pass : W Φ L (.pass :: r) σ Q ↔ W Φ L r σ Q := by rw [W_cons, ex]; simp only [OB_some]
/-- the name gives up what it owns -/
def dropM (σ : MS) (i : Nat) : Option MS := match σ[i]? with
  | some (some (v, _)) => some (setM σ i v false)
  | _ => none
@[simp] theorem W_drop {i} : W Φ L (.drop i :: r) σ Q ↔ OB (dropM σ i) (fun σ' => W Φ L r σ' Q) := by
  rw [W_cons, ex, dropM]
  have no : ∀ P : Flow → Prop, OB (none : Option Flow) P ↔ False := fun P => ⟨fun ⟨_, h, _⟩ => (by cases h), False.elim⟩
  have no' : ∀ P : MS → Prop, OB (none : Option MS) P ↔ False := fun P => ⟨fun ⟨_, h, _⟩ => (by cases h), False.elim⟩
  cases h : σ[i]? with
  | none => simp only [no, no']
  | some y => cases y with
    | none => simp only [no, no']
    | some z => simp only [OB_some]

theorem exs_append (a b : List CS) : ∀ σ, exs Φ L (a ++ b) σ = (exs Φ L a σ).bind fun
      | .nx σ' => exs Φ L b σ'
      | .ret v own => some (.ret v own)
      | .bk σ' => some (.bk σ')
      | .ct σ' => some (.ct σ') := by
  induction a with
  | nil => intro σ; simp only [List.nil_append, exs, Option.bind_some]
  | cons s a ih =>
    intro σ
    simp only [List.cons_append, exs]
    cases h : ex Φ L s σ with
    | none => rfl
    | some fl => cases fl <;> simp only [Option.bind_some, ih]

theorem W_append (a : List CS) : W Φ L (a ++ r) σ Q ↔ W Φ L a σ (fun fl => match fl with
    | .nx σ' => W Φ L r σ' Q
    | fl => Q fl) := by
  unfold W
  rw [exs_append, OB_bind]
  refine ⟨fun ⟨fl, e, h⟩ => ⟨fl, e, ?_⟩, fun ⟨fl, e, h⟩ => ⟨fl, e, ?_⟩⟩
  · cases fl with
    | nx σ' => exact h
    | ret v o => exact (OB_some (a := Flow.ret v o) (P := Q)).mp h
    | bk σ' => exact (OB_some (a := Flow.bk σ') (P := Q)).mp h
    | ct σ' => exact (OB_some (a := Flow.ct σ') (P := Q)).mp h
  · cases fl with
    | nx σ' => exact h
    | ret v o => exact (OB_some (a := Flow.ret v o) (P := Q)).mpr h
    | bk σ' => exact (OB_some (a := Flow.bk σ') (P := Q)).mpr h
    | ct σ' => exact (OB_some (a := Flow.ct σ') (P := Q)).mpr h

@[simp] theorem W_ite {c a b} : W Φ L (.ite c a b :: r) σ Q ↔ OB (ev Φ c σ) (fun x => OB (truth x.1) (fun t => IF t (W Φ L (a ++ r) σ Q) (W Φ L (b ++ r) σ Q))) := by
  rw [W_cons, ex]; simp only [OB_bind]
  have : ∀ t : Bool, OB (if t = true then exs Φ L a σ else exs Φ L b σ) (fun fl => match fl with | .nx σ' => W Φ L r σ' Q | fl => Q fl) ↔ IF t (W Φ L (a ++ r) σ Q) (W Φ L (b ++ r) σ Q) := by
    intro t
    cases t
    · simp only [Bool.false_eq_true, if_false, IF_f, W_append]; rfl
    · simp only [if_true, IF_t, W_append]; rfl
  simp only [this]

theorem W.mono {Q' : Flow → Prop} {ss : List CS} (h : W Φ L ss σ Q) (i : ∀ fl, Q fl → Q' fl) : W Φ L ss σ Q' := let ⟨a, e, q⟩ := h; ⟨a, e, i a q⟩

/-- a part first: what holds behind it is all that the rest needs -/
theorem W.cut {a : List CS} {I : MS → Prop} (h : W Φ L a σ (fun fl => match fl with | .nx σ' => I σ' | fl => Q fl)) (k : ∀ σ', I σ' → W Φ L r σ' Q) : W Φ L (a ++ r) σ Q := by
  rw [W_append]
  refine h.mono fun fl q => ?_
  cases fl with
  | nx σ' => exact k σ' q
  | _ => exact q

/-- one statement first -/
theorem W.step {s : CS} {I : MS → Prop} (h : W Φ L [s] σ (fun fl => match fl with | .nx σ' => I σ' | fl => Q fl)) (k : ∀ σ', I σ' → W Φ L r σ' Q) : W Φ L (s :: r) σ Q := W.cut (a := [s]) h k

/-! for and while -/
theorem goFor_inv {f : MV → MS → Option Flow} {Q : Flow → Prop} (xs : List MV) (I : Nat → MS → Prop) (J : MS → Prop)
    (step : ∀ k x σ, xs[k]? = some x → I k σ → OB (f x σ) (fun fl => match fl with | .nx σ' => I (k + 1) σ' | .ct σ' => I (k + 1) σ' | .bk σ' => J σ' | .ret v o => Q (.ret v o)))
    (done : ∀ σ, I xs.length σ → Q (.nx σ)) (brk : ∀ σ, J σ → Q (.nx σ)) : ∀ (r : List MV) (k : Nat) (σ : MS), xs.drop k = r → k ≤ xs.length → I k σ → OB (goFor f r σ) Q := by
  intro r
  induction r with
  | nil =>
    intro k σ hk hl hI
    have : k = xs.length := by have := List.drop_eq_nil_iff.mp hk; omega
    subst this
    exact ⟨_, rfl, done σ hI⟩
  | cons x r ih =>
    intro k σ hk hl hI
    have hlt : k < xs.length := by
      rcases Nat.lt_or_ge k xs.length with h | h
      · exact h
      · rw [List.drop_eq_nil_of_le h] at hk; cases hk
    have hx : xs[k]? = some x := by
      rw [List.drop_eq_getElem_cons hlt] at hk
      cases hk
      exact List.getElem?_eq_getElem hlt
    have hr : xs.drop (k + 1) = r := by
      rw [List.drop_eq_getElem_cons hlt] at hk
      exact (List.cons.inj hk).2
    obtain ⟨fl, e, q⟩ := step k x σ hx hI
    rw [goFor, e, Option.bind_some]
    cases fl with
    | nx σ' => exact ih (k + 1) σ' hr hlt q
    | ct σ' => exact ih (k + 1) σ' hr hlt q
    | bk σ' => exact ⟨_, rfl, brk σ' q⟩
    | ret v o => exact ⟨_, rfl, q⟩

/-- what an iteration walks: not a list that a name owns -/
def itS : List MV × Tg → Option (List MV)
  | (l, .bo) => none
  | (l, _) => some l
@[simp] theorem itS_sh {l} : itS (l, .sh) = some l := rfl
@[simp] theorem itS_fr {l} : itS (l, .fr) = some l := rfl

theorem W.forS {tg : TGT} {it : CI} {body : List CS} (xs : List MV) (I : Nat → MS → Prop) (J : MS → Prop) (hi : bd (evI Φ it σ) itS = some xs) (h0 : I 0 σ)
    (step : ∀ k x σ, xs[k]? = some x → I k σ → OB (putT σ tg x) (fun σ2 => W Φ L body σ2 (fun fl => match fl with | .nx σ' => I (k + 1) σ' | .ct σ' => I (k + 1) σ' | .bk σ' => J σ' | .ret v o => Q (.ret v o))))
    (done : ∀ σ, I xs.length σ → W Φ L r σ Q) (brk : ∀ σ, J σ → W Φ L r σ Q) : W Φ L (.forS tg it body :: r) σ Q := by
  obtain ⟨⟨l, t⟩, ht⟩ : ∃ y, evI Φ it σ = some y := by
    cases h : evI Φ it σ with
    | none => rw [h] at hi; cases hi
    | some y => exact ⟨y, rfl⟩
  rw [ht, bd_some] at hi
  have hb : l = xs ∧ t ≠ .bo := by cases t <;> cases hi <;> exact ⟨rfl, by decide⟩
  obtain ⟨rfl, hb⟩ := hb
  rw [W_cons, ex]
  rw [ht, Option.bind_some]
  rw [if_neg hb]
  refine goFor_inv (Q := fun fl => match fl with | .nx σ' => W Φ L r σ' Q | fl => Q fl) l I J ?_ done brk l 0 σ rfl (Nat.zero_le _) h0
  intro k x σ hx hI
  have := step k x σ hx hI
  rw [OB_bind]
  exact this

/-- without break -/
theorem W.for {tg : TGT} {it : CI} {body : List CS} (xs : List MV) (I : Nat → MS → Prop) (hi : bd (evI Φ it σ) itS = some xs) (h0 : I 0 σ)
    (step : ∀ k x σ, xs[k]? = some x → I k σ → OB (putT σ tg x) (fun σ2 => W Φ L body σ2 (fun fl => match fl with | .nx σ' => I (k + 1) σ' | .ct σ' => I (k + 1) σ' | .bk _ => False | .ret v o => Q (.ret v o))))
    (done : ∀ σ, I xs.length σ → W Φ L r σ Q) : W Φ L (.forS tg it body :: r) σ Q := W.forS xs I (fun _ => False) hi h0 step done (fun _ h => h.elim)

theorem goWhl_inv {c : MS → Option Bool} {f : MS → Option Flow} {Q : Flow → Prop} (I : Nat → MS → Prop) (J : MS → Prop)
    (step : ∀ m σ, I m σ → OB (c σ) (fun t => IF t (OB (f σ) (fun fl => match fl with | .nx σ' => ∃ m', m' < m ∧ I m' σ' | .ct σ' => ∃ m', m' < m ∧ I m' σ' | .bk σ' => J σ' | .ret v o => Q (.ret v o))) (J σ)))
    (brk : ∀ σ, J σ → Q (.nx σ)) : ∀ (n m : Nat) (σ : MS), m < n → I m σ → OB (goWhl c f n σ) Q := by
  intro n
  induction n with
  | zero => intro m σ h; cases h
  | succ n ih =>
    intro m σ hm hI
    obtain ⟨t, e, q⟩ := step m σ hI
    rw [goWhl, e, Option.bind_some]
    cases t with
    | false => rw [if_neg (by decide), OB_some]; exact brk σ (IF_f.mp q)
    | true =>
      rw [if_pos rfl]
      obtain ⟨fl, e2, q2⟩ := IF_t.mp q
      rw [e2, Option.bind_some]
      cases fl with
      | nx σ' => obtain ⟨m', h', hI'⟩ := q2; exact ih m' σ' (by omega) hI'
      | ct σ' => obtain ⟨m', h', hI'⟩ := q2; exact ih m' σ' (by omega) hI'
      | bk σ' => exact ⟨_, rfl, brk σ' q2⟩
      | ret v o => exact ⟨_, rfl, q2⟩

theorem W.whl {c : CE} {body : List CS} (I : Nat → MS → Prop) (J : MS → Prop) (m : Nat) (hm : m < L) (h0 : I m σ)
    (step : ∀ m σ, I m σ → OB (ev Φ c σ) (fun x => OB (truth x.1) (fun t => IF t (W Φ L body σ (fun fl => match fl with | .nx σ' => ∃ m', m' < m ∧ I m' σ' | .ct σ' => ∃ m', m' < m ∧ I m' σ' | .bk σ' => J σ' | .ret v o => Q (.ret v o))) (J σ))))
    (done : ∀ σ, J σ → W Φ L r σ Q) : W Φ L (.whl c body :: r) σ Q := by
  rw [W_cons, ex]
  refine goWhl_inv (Q := fun fl => match fl with | .nx σ' => W Φ L r σ' Q | fl => Q fl) I J ?_ done L m σ hm h0
  intro m σ hI
  rw [OB_bind]
  exact step m σ hI

/-! calls -/
theorem run_of {T : List FD} {k f : Nat} {args : List MV} {d : FD} {P : MV × Bool → Prop} (h : T[f]? = some d) (hl : args.length = d.np)
    (w : W (run T L k) L d.body (startM d.nn args) (fun fl => OB (resOf fl) P)) : OB (run T L (k + 1) f args) P := by
  rw [run, h]
  dsimp only
  rw [if_pos hl, OB_bind]
  exact w
theorem run_eq {T : List FD} {k f : Nat} {args : List MV} {d : FD} {v : MV × Bool} (h : T[f]? = some d) (hl : args.length = d.np)
    (w : W (run T L k) L d.body (startM d.nn args) (fun fl => resOf fl = some v)) : run T L (k + 1) f args = some v := by
  obtain ⟨a, e, q⟩ := run_of (P := fun a => a = v) h hl (w.mono fun fl q => by rw [q, OB_some])
  rw [e, q]
theorem run_ex {T : List FD} {k f : Nat} {args : List MV} {d : FD} {P : MV × Bool → Prop} (h : T[f]? = some d) (hl : args.length = d.np)
    (w : W (run T L k) L d.body (startM d.nn args) (fun fl => OB (resOf fl) P)) : ∃ v, run T L (k + 1) f args = some v ∧ P v := run_of h hl w

@[simp] theorem resOf_ret {v o} : resOf (.ret v o) = some (v, o) := rfl
@[simp] theorem resOf_nx {σ} : resOf (.nx σ) = some (.non, false) := rfl

/-! names -/
@[simp] theorem getM_z {v : MV} {o : Bool} {t : MS} : getM (some (v, o) :: t) 0 = some (v, if o then .bo else .sh) := rfl
@[simp] theorem getM_s {x} {t : MS} {i : Nat} : getM (x :: t) (i + 1) = getM t i := rfl
@[simp] theorem setM_z {x} {t : MS} {v o} : setM (x :: t) 0 v o = some (v, o) :: t := rfl
@[simp] theorem setM_s {x} {t : MS} {i v o} : setM (x :: t) (i + 1) v o = x :: setM t i v o := rfl
@[simp] theorem ownL_z {l : List MV} {t : MS} : ownL (some (.lst l, true) :: t) 0 = some l := rfl
@[simp] theorem ownL_s {x} {t : MS} {i} : ownL (x :: t) (i + 1) = ownL t i := rfl
def consM (x : Option (MV × Bool)) : Option MS → Option MS
  | some t => some (x :: t)
  | none => none
@[simp] theorem consM_some {x t} : consM x (some t) = some (x :: t) := rfl
@[simp] theorem dropM_z {v : MV} {o : Bool} {t : MS} : dropM (some (v, o) :: t) 0 = some (some (v, false) :: t) := rfl
@[simp] theorem dropM_s {x} {t : MS} {j : Nat} : dropM (x :: t) (j + 1) = consM x (dropM t j) := by
  unfold dropM
  rw [List.getElem?_cons_succ]
  cases h : t[j]? with
  | none => rfl
  | some y => cases y with
    | none => rfl
    | some z => rfl
@[simp] theorem asgM_sh {σ : MS} {i v} : asgM σ i (v, .sh) = some (setM σ i v false) := rfl
@[simp] theorem asgM_fr {σ : MS} {i v} : asgM σ i (v, .fr) = some (setM σ i v (isLst v)) := rfl
@[simp] theorem isLst_lst {l} : isLst (.lst l) = true := rfl
@[simp] theorem isLst_tup {l} : isLst (.tup l) = false := rfl
@[simp] theorem isLst_int {l} : isLst (.int l) = false := rfl
@[simp] theorem keep_sh {v} : keep (v, .sh) = some v := rfl
@[simp] theorem keep_fr {v} : keep (v, .fr) = some v := rfl
@[simp] theorem putT_nm {σ : MS} {i v} : putT σ (.nm i) v = some (setM σ i v false) := rfl
@[simp] theorem tgSlots_nm {i} : tgSlots (.nm i) = [i] := rfl
@[simp] theorem isVar_var {i} : isVar (.var i) = true := rfl

/-! expressions -/
@[simp] theorem ev_lit {v} : ev Φ (.lit v) σ = some (v, .sh) := by rw [ev]
@[simp] theorem ev_var {i} : ev Φ (.var i) σ = getM σ i := by rw [ev]
@[simp] theorem ev_bin {op a b} : ev Φ (.bin op a b) σ = bd (ev Φ a σ) fun x => bd (ev Φ b σ) fun y => binSem op x.1 y.1 := by rw [ev]; rfl
def negS : MV → Option (MV × Tg)
  | .int i => some (.int (-i), .sh)
  | _ => none
@[simp] theorem negS_int {i} : negS (.int i) = some (.int (-i), .sh) := rfl
@[simp] theorem ev_neg {a} : ev Φ (.neg a) σ = bd (ev Φ a σ) fun x => negS x.1 := by rw [ev]; rfl
@[simp] theorem ev_not {a} : ev Φ (.not a) σ = bd (ev Φ a σ) fun x => bd (truth x.1) fun b => some (.bl (!b), .sh) := by rw [ev]; rfl
/-- a choice that stands open -/
def CH {α : Type} (c : Bool) (a b : Option α) : Option α := if c = true then a else b
theorem CH_in {α : Type} {c c' : Bool} {a b : Option α} (h : c = c') : CH c a b = CH c' a b := by rw [h]
@[simp] theorem CH_t {α : Type} {a b : Option α} : CH true a b = a := if_pos rfl
@[simp] theorem CH_f {α : Type} {a b : Option α} : CH false a b = b := if_neg (by decide)
@[simp] theorem ev_and {a b} : ev Φ (.and a b) σ = bd (ev Φ a σ) fun x => bd (truth x.1) fun t => CH t (ev Φ b σ) (some x) := by rw [ev]; rfl
@[simp] theorem ev_or {a b} : ev Φ (.or a b) σ = bd (ev Φ a σ) fun x => bd (truth x.1) fun t => CH t (some x) (ev Φ b σ) := by rw [ev]; rfl
@[simp] theorem ev_cmp {op a b} : ev Φ (.cmp op a b) σ = bd (ev Φ a σ) fun x => bd (ev Φ b σ) fun y => bd (cmpSem op x.1 y.1) fun t => some (.bl t, .sh) := by rw [ev]; rfl
@[simp] theorem ev_ite {c a b} : ev Φ (.ite c a b) σ = bd (ev Φ c σ) fun x => bd (truth x.1) fun t => CH t (ev Φ a σ) (ev Φ b σ) := by rw [ev]; rfl
def callS (xs : List (MV × Tg)) (r : MV × Bool) : Option (MV × Tg) :=
  CH (xs.all (fun x => decide (x.2 ≠ .bo)) || freeOf r) (some (r.1, if r.2 then .fr else .sh)) none
@[simp] theorem ev_call {f args} : ev Φ (.call f args) σ = bd (evs Φ args σ) fun xs => bd (Φ f (xs.map (·.1))) fun r => callS xs r := by rw [ev]; rfl
@[simp] theorem callS_f {xs v o} : callS xs (v, o) = CH (xs.all (fun x => decide (x.2 ≠ .bo)) || freeOf (v, o)) (some (v, if o then .fr else .sh)) none := rfl
@[simp] theorem ev_bi {b args} : ev Φ (.bi b args) σ = bd (evs Φ args σ) fun xs => biSem b (xs.map (·.1)) := by rw [ev]; rfl
@[simp] theorem ev_isi {a ts} : ev Φ (.isi a ts) σ = bd (ev Φ a σ) fun x => some (.bl (ts.any (tyIs x.1)), .sh) := by rw [ev]; rfl
def szS (vs : List MV) (x : MV × Tg) : Option (MV × Tg) := CH (decide (vs.length ≤ SZ)) (some x) none
@[simp] theorem ev_tup {l} : ev Φ (.tup l) σ = bd (evs Φ l σ) fun xs => bd (xs.mapM keep) fun vs => szS vs (.tup vs, .sh) := by rw [ev]; simp only [szS, CH, decide_eq_true_eq]; rfl
@[simp] theorem ev_lst {l} : ev Φ (.lst l) σ = bd (evs Φ l σ) fun xs => bd (xs.mapM keep) fun vs => szS vs (.lst vs, .fr) := by rw [ev]; simp only [szS, CH, decide_eq_true_eq]; rfl
@[simp] theorem szS_ok {vs x} (h : vs.length ≤ 4000000) : szS vs x = some x := by
  unfold szS SZ; rw [decide_eq_true h]; rfl
@[simp] theorem ev_idx {a i} : ev Φ (.idx a i) σ = bd (ev Φ a σ) fun x => bd (ev Φ i σ) fun y => bd (idxSem x.1 y.1) fun v => some (v, .sh) := by rw [ev]; rfl
@[simp] theorem ev_slc {a lo hi} : ev Φ (.slc a lo hi) σ = bd (ev Φ a σ) fun x => bd (evO Φ lo σ) fun l => bd (evO Φ hi σ) fun h => slcSem x.1 l h := by rw [ev]; rfl
@[simp] theorem evs_nil : evs Φ [] σ = some [] := by rw [evs]
@[simp] theorem evs_cons {e l} : evs Φ (e :: l) σ = bd (ev Φ e σ) fun x => bd (evs Φ l σ) fun xs => some (x :: xs) := by rw [evs]; rfl
@[simp] theorem evO_none : evO Φ none σ = some none := by rw [evO]
def intO : MV → Option (Option Int)
  | .int i => some (some i)
  | _ => none
@[simp] theorem intO_int {i} : intO (.int i) = some (some i) := rfl
@[simp] theorem evO_some {e} : evO Φ (some e) σ = bd (ev Φ e σ) fun x => intO x.1 := by rw [evO]; rfl
@[simp] theorem evT_nil : evT Φ [] σ = some true := by rw [evT]
@[simp] theorem evT_cons {e l} : evT Φ (e :: l) σ = bd (ev Φ e σ) fun x => bd (truth x.1) fun t => CH t (evT Φ l σ) (some false) := by rw [evT]; rfl
@[simp] theorem evI_seq {a} : evI Φ (.seq a) σ = bd (ev Φ a σ) fun x => bd (seqOf x.1) fun l => some (l, x.2) := by rw [evI]; rfl
@[simp] theorem evI_rev {a} : evI Φ (.rev a) σ = bd (ev Φ a σ) fun x => bd (seqOf x.1) fun l => some (l.reverse, x.2) := by rw [evI]; rfl
def rg1 : MV → Option (List MV × Tg)
  | .int n => if rngOk n then some (rngM 0 n.toNat, .sh) else none
  | _ => none
@[simp] theorem evI_rng1 {a} : evI Φ (.rng1 a) σ = bd (ev Φ a σ) fun x => rg1 x.1 := by rw [evI]; rfl
def rg2 : MV → MV → Option (List MV × Tg)
  | .int m, .int n => if rngOk m && rngOk n then some (rngM m (n - m).toNat, .sh) else none
  | _, _ => none
@[simp] theorem evI_rng2 {a b} : evI Φ (.rng2 a b) σ = bd (ev Φ a σ) fun x => bd (ev Φ b σ) fun y => rg2 x.1 y.1 := by rw [evI]; rfl
theorem rngOk_b {n : Int} (h : -4611686018427387904 ≤ n) (k : n < 4611686018427387904) : rngOk n = true := by
  unfold rngOk RNG; simp only [Bool.and_eq_true, decide_eq_true_eq]; omega
theorem rg1_ok {n : Int} (h : -4611686018427387904 ≤ n) (k : n < 4611686018427387904) : rg1 (.int n) = some (rngM 0 n.toNat, .sh) := by
  unfold rg1; simp only [rngOk_b h k, if_true]
theorem rngOk_n {n : Nat} (k : n < 4611686018427387904) : rngOk (n : Int) = true := rngOk_b (by omega) (by omega)
@[simp] theorem rg1_nat {n : Nat} (k : rngOk (n : Int) = true) : rg1 (.int n) = some (rngM 0 n, .sh) := by
  unfold rg1; simp only [k, if_true]; rfl
@[simp] theorem rg1_i {n : Int} (k : rngOk n = true) : rg1 (.int n) = some (rngM 0 n.toNat, .sh) := by
  unfold rg1; simp only [k, if_true]
theorem rg2_ok {m n : Int} (h : -4611686018427387904 ≤ n) (k : n < 4611686018427387904) (h' : -4611686018427387904 ≤ m) (k' : m < 4611686018427387904) : rg2 (.int m) (.int n) = some (rngM m (n - m).toNat, .sh) := by
  unfold rg2; simp only [rngOk_b h k, rngOk_b h' k', Bool.and_self, if_true]
theorem rngM_len (n : Nat) : ∀ lo, (rngM lo n).length = n := by
  induction n with
  | zero => intro lo; rfl
  | succ n ih => intro lo; rw [rngM, List.length_cons, ih]
@[simp] theorem rngM_length {n : Nat} {lo} : (rngM lo n).length = n := rngM_len n lo
theorem rngM_get (n : Nat) : ∀ lo k, (rngM lo n)[k]? = if k < n then some (.int (lo + k)) else none := by
  induction n with
  | zero => intro lo k; rfl
  | succ n ih =>
    intro lo k
    rw [rngM]
    cases k with
    | zero => simp
    | succ k =>
      rw [List.getElem?_cons_succ, ih]
      by_cases h : k < n
      · simp only [h, if_true, Nat.add_lt_add_iff_right]
        congr 2
        push_cast
        omega
      · simp only [h, if_false, Nat.add_lt_add_iff_right]
theorem rngM_at {n : Nat} {lo : Int} {k : Nat} {x : MV} (h : (rngM lo n)[k]? = some x) : k < n ∧ x = .int (lo + k) := by
  rw [rngM_get] at h
  split at h
  · cases h; exact ⟨‹_›, rfl⟩
  · cases h

/-! comprehensions -/
theorem turns_map {f : MV → Option (List MV)} {g : MV → MV} : ∀ {l : List MV}, (∀ x ∈ l, f x = some [g x]) → turns f l = some (l.map g) := by
  intro l
  induction l with
  | nil => intro _; rfl
  | cons x r ih =>
    intro h
    rw [turns, h x (List.mem_cons_self), Option.bind_some, ih (fun y hy => h y (List.mem_cons_of_mem _ hy))]
    rfl
theorem turns_all {f : MV → Option (List MV)} {P : MV → Prop} : ∀ {l : List MV}, (∀ x ∈ l, ∃ y, f x = some [y] ∧ P y) → ∃ vs, turns f l = some vs ∧ vs.length = l.length ∧ ∀ y ∈ vs, P y := by
  intro l
  induction l with
  | nil => intro _; exact ⟨[], rfl, rfl, fun _ h => by cases h⟩
  | cons x r ih =>
    intro h
    obtain ⟨y, e, p⟩ := h x (List.mem_cons_self)
    obtain ⟨vs, e2, l2, p2⟩ := ih (fun y hy => h y (List.mem_cons_of_mem _ hy))
    refine ⟨y :: vs, ?_, by rw [List.length_cons, List.length_cons, l2], ?_⟩
    · rw [turns, e, Option.bind_some, e2]; rfl
    · intro z hz
      rcases List.mem_cons.mp hz with rfl | hz
      · exact p
      · exact p2 z hz

/-- one turn of a comprehension -/
def turn1 (Φ : Fns) (elt : CE) (tg : TGT) (ifs : List CE) (σ : MS) (x : MV) : Option (List MV) :=
  bd (putT (wipeM σ (tgSlots tg)) tg x) fun σ' => bd (evT Φ ifs σ') fun t =>
        CH t (bd (ev Φ elt σ') fun y => bd (keep y) fun v => some [v]) (some [])
theorem ev_comp {elt tg it ifs} : ev Φ (.comp elt tg it ifs) σ = (evI Φ it σ).bind fun items => (turns (turn1 Φ elt tg ifs σ) items.1).bind fun vs => szS vs (.lst vs, .fr) := by
  rw [ev]; simp only [CH, szS, decide_eq_true_eq, bd_eq]; rfl
theorem ev_comp_map {elt tg it ifs} {xs : List MV} {t} (g : MV → MV) (h : evI Φ it σ = some (xs, t)) (hl : xs.length ≤ 4000000) (hg : ∀ x ∈ xs, turn1 Φ elt tg ifs σ x = some [g x]) :
    ev Φ (.comp elt tg it ifs) σ = some (.lst (xs.map g), .fr) := by
  rw [ev_comp, h, Option.bind_some, turns_map hg, Option.bind_some, szS_ok (by rw [List.length_map]; exact hl)]

@[simp] theorem wipeM_nil {σ : MS} : wipeM σ [] = σ := rfl
@[simp] theorem wipeM_cons {σ : MS} {v vs} : wipeM σ (v :: vs) = (wipeM σ vs).set v none := rfl

/-! what operators compute -/
@[simp] theorem bin_add {a b : Int} : binSem .add (.int a) (.int b) = some (.int (a + b), .sh) := rfl
@[simp] theorem bin_sub {a b : Int} : binSem .sub (.int a) (.int b) = some (.int (a - b), .sh) := rfl
@[simp] theorem bin_addL {a b : List MV} (h : a.length + b.length ≤ 4000000) : binSem .add (.lst a) (.lst b) = some (.lst (a ++ b), .fr) := by
  rw [binSem, if_pos (by unfold SZ; exact h)]
@[simp] theorem bin_addT {a b : List MV} (h : a.length + b.length ≤ 4000000) : binSem .add (.tup a) (.tup b) = some (.tup (a ++ b), .sh) := by
  rw [binSem, if_pos (by unfold SZ; exact h)]

/-- a number of at most n binary figures -/
class Bd (a : Int) (n : outParam Nat) : Prop where
  le : a.natAbs < 2 ^ n
theorem Bd.of {a : Int} {n : Nat} (h : -(2 : Int) ^ n < a) (k : a < 2 ^ n) : Bd a n := ⟨by
  have : (2 : Int) ^ n = ((2 ^ n : Nat) : Int) := by push_cast; rfl
  rw [this] at h k
  omega⟩
theorem Bd.up {a : Int} {n m : Nat} (h : Bd a n) (k : n ≤ m) : Bd a m := ⟨Nat.lt_of_lt_of_le h.le (Nat.pow_le_pow_right (by decide) k)⟩
instance Bd.mul {a b : Int} {n m : Nat} [ha : Bd a n] [hb : Bd b m] : Bd (a * b) (n + m) := ⟨by
  rw [Int.natAbs_mul, Nat.pow_add]
  exact Nat.mul_lt_mul'' ha.le hb.le⟩
theorem two_pow_le (n m : Nat) : 2 ^ n + 2 ^ m ≤ 2 ^ (max n m + 1) := by
  have a : 2 ^ n ≤ 2 ^ max n m := Nat.pow_le_pow_right (by decide) (Nat.le_max_left _ _)
  have b : 2 ^ m ≤ 2 ^ max n m := Nat.pow_le_pow_right (by decide) (Nat.le_max_right _ _)
  rw [Nat.pow_succ]; omega
instance Bd.add {a b : Int} {n m : Nat} [ha : Bd a n] [hb : Bd b m] : Bd (a + b) (max n m + 1) := ⟨by
  have := Int.natAbs_add_le a b
  have := two_pow_le n m
  have := ha.le; have := hb.le
  omega⟩
instance Bd.neg {a : Int} {n : Nat} [ha : Bd a n] : Bd (-a) n := ⟨by rw [Int.natAbs_neg]; exact ha.le⟩
instance Bd.sub {a b : Int} {n m : Nat} [ha : Bd a n] [hb : Bd b m] : Bd (a - b) (max n m + 1) := by
  rw [Int.sub_eq_add_neg]; exact Bd.add
instance Bd.lit {n : Nat} : Bd (no_index (OfNat.ofNat n : Int)) (Nat.log2 n + 1) := ⟨by
  show n < 2 ^ (Nat.log2 n + 1)
  exact Nat.lt_log2_self⟩
theorem Bd.fdiv {a b : Int} {n : Nat} (ha : Bd a n) : Bd (a.fdiv b) n := by
  refine ⟨?_⟩
  have h := ha.le
  by_cases hb : b = 0
  · subst hb; simp; exact Nat.pos_of_ne_zero (by exact Nat.ne_of_gt (Nat.two_pow_pos n))
  · have : (a.fdiv b).natAbs ≤ a.natAbs := by
      rcases Int.lt_trichotomy b 0 with hb | hb | hb
      · have : a.fdiv b = (-a).fdiv (-b) := (Int.neg_fdiv_neg a b).symm
        rw [this, Int.fdiv_eq_ediv_of_nonneg _ (by omega), ← Int.natAbs_neg a]
        exact Int.natAbs_ediv_le_natAbs _ _
      · contradiction
      · rw [Int.fdiv_eq_ediv_of_nonneg _ (by omega)]
        exact Int.natAbs_ediv_le_natAbs _ _
    omega
@[simp] theorem bin_mul {a b : Int} {n m : Nat} [ha : Bd a n] [hb : Bd b m] (hn : n ≤ 400000) (hm : m ≤ 400000) : binSem .mul (.int a) (.int b) = some (.int (a * b), .sh) := by
  rw [binSem, if_pos]
  unfold BIG
  exact ⟨(ha.up hn).le, (hb.up hm).le⟩
@[simp] theorem bin_mod {a b : Int} (h : 0 < b) : binSem .mod (.int a) (.int b) = some (.int (a % b), .sh) := by
  rw [binSem, if_pos (by omega), Int.fmod_eq_emod_of_nonneg _ (by omega)]
@[simp] theorem bin_div {a b : Int} {m : Nat} [hb : Bd b m] (h : 0 < b) (hm : m ≤ 9000) : binSem .fdiv (.int a) (.int b) = some (.int (a / b), .sh) := by
  rw [binSem, if_pos ⟨by omega, by unfold DIV; exact (hb.up hm).le⟩, Int.fdiv_eq_ediv_of_nonneg _ (by omega)]
theorem bin_fdiv {a b : Int} {m : Nat} [hb : Bd b m] (h : b ≠ 0) (hm : m ≤ 9000) : binSem .fdiv (.int a) (.int b) = some (.int (a.fdiv b), .sh) := by
  rw [binSem, if_pos ⟨h, by unfold DIV; exact (hb.up hm).le⟩]
@[simp] theorem bin_pow {a b : Int} {m : Nat} [ha : Bd a m] (h : 0 ≤ b) (h2 : b ≤ 1000) (hm : m ≤ 10000) : binSem .pow (.int a) (.int b) = some (.int (a ^ b.toNat), .sh) := by
  rw [binSem, if_pos ⟨h, h2, by unfold PWB; exact (ha.up hm).le⟩]
instance Bd.pow {a : Int} {n m : Nat} [ha : Bd a n] : Bd (a ^ m) (n * m + 1) := ⟨by
  rw [Int.natAbs_pow, Nat.pow_succ, Nat.pow_mul]
  have := Nat.pow_le_pow_left (Nat.le_of_lt ha.le) m
  have : 0 < (2 ^ n) ^ m := Nat.pow_pos (Nat.two_pow_pos n)
  omega⟩
theorem Bd.emod {a b : Int} {n : Nat} (h : 0 < b) (hb : Bd b n) : Bd (a % b) n := ⟨by
  have h1 := Int.emod_nonneg a (by omega : b ≠ 0)
  have h2 := Int.emod_lt_of_pos a h
  have := hb.le
  omega⟩

@[simp] theorem cmp_lt {a b : Int} : cmpSem .lt (.int a) (.int b) = some (decide (a < b)) := rfl
@[simp] theorem cmp_le {a b : Int} : cmpSem .le (.int a) (.int b) = some (decide (a ≤ b)) := rfl
@[simp] theorem cmp_gt {a b : Int} : cmpSem .gt (.int a) (.int b) = some (decide (b < a)) := rfl
@[simp] theorem cmp_ge {a b : Int} : cmpSem .ge (.int a) (.int b) = some (decide (b ≤ a)) := rfl
@[simp] theorem cmp_eq {a b : Int} : cmpSem .eq (.int a) (.int b) = some (decide (a = b)) := rfl
@[simp] theorem cmp_ne {a b : Int} : cmpSem .ne (.int a) (.int b) = some (!decide (a = b)) := rfl
@[simp] theorem truth_bl {b} : truth (.bl b) = some b := rfl
@[simp] theorem truth_int {i} : truth (.int i) = some (i != 0) := rfl
@[simp] theorem truth_lst {i} : truth (.lst i) = some (!i.isEmpty) := rfl
@[simp] theorem truth_tup {i} : truth (.tup i) = some (!i.isEmpty) := rfl
@[simp] theorem seqOf_lst {l} : seqOf (.lst l) = some l := rfl
@[simp] theorem seqOf_tup {l} : seqOf (.tup l) = some l := rfl
@[simp] theorem idx_lst {l i} : idxSem (.lst l) (.int i) = atM l i := rfl
@[simp] theorem idx_tup {l i} : idxSem (.tup l) (.int i) = atM l i := rfl
theorem atM_nat {l : List MV} {k : Nat} : atM l (k : Int) = l[k]? := by
  unfold atM L2.atI L2.ixN
  rw [if_pos (by omega)]
  by_cases h : k < l.length
  · rw [if_pos (by omega)]; rfl
  · rw [if_neg (by omega), Option.bind_none, List.getElem?_eq_none (by omega)]
@[simp] theorem atM_of {l : List MV} {i : Int} (h : 0 ≤ i) : atM l i = l[i.toNat]? := by
  obtain ⟨k, rfl⟩ := Int.eq_ofNat_of_zero_le h
  exact atM_nat
theorem atM_in {l : List MV} {i : Int} (h : 0 ≤ i) (k : i < l.length) : ∃ x, atM l i = some x ∧ x ∈ l := by
  rw [atM_of h, List.getElem?_eq_getElem (by omega)]
  exact ⟨_, rfl, List.getElem_mem _⟩
@[simp] theorem bi_lenL {l} : biSem .len [.lst l] = some (.int l.length, .sh) := rfl
@[simp] theorem bi_lenT {l} : biSem .len [.tup l] = some (.int l.length, .sh) := rfl
@[simp] theorem bi_abs {i : Int} : biSem .abs [.int i] = some (.int i.natAbs, .sh) := by
  rw [biSem]; congr 3; split <;> omega
@[simp] theorem bi_int {i} : biSem .int [.int i] = some (.int i, .sh) := rfl
@[simp] theorem bi_intB {b} : biSem .int [.bl b] = some (.int (if b then 1 else 0), .sh) := rfl
@[simp] theorem bi_boolI {i} : biSem .bool [.int i] = some (.bl (i != 0), .sh) := rfl
@[simp] theorem bi_boolB {i} : biSem .bool [.bl i] = some (.bl i, .sh) := rfl
@[simp] theorem bi_tupL {l} : biSem .tuple [.lst l] = some (.tup l, .sh) := rfl
@[simp] theorem bi_tupT {l} : biSem .tuple [.tup l] = some (.tup l, .sh) := rfl
@[simp] theorem bi_lstL {l} : biSem .list [.lst l] = some (.lst l, .fr) := rfl
@[simp] theorem bi_lstT {l} : biSem .list [.tup l] = some (.lst l, .fr) := rfl
@[simp] theorem bi_max {a b} : biSem .max [.int a, .int b] = some (.int (max a b), .sh) := by
  rw [biSem]; congr 3; split <;> omega
@[simp] theorem bi_min {a b} : biSem .min [.int a, .int b] = some (.int (min a b), .sh) := by
  rw [biSem]; congr 3; split <;> omega
@[simp] theorem bi_gcd {a b : Int} : biSem .gcd [.int a, .int b] = some (.int ((Nat.gcd a.natAbs b.natAbs : Nat) : Int), .sh) := rfl
@[simp] theorem ty_non_int  : tyIs .non .int = false := rfl
@[simp] theorem ty_non_bool  : tyIs .non .bool = false := rfl
@[simp] theorem ty_non_str  : tyIs .non .str = false := rfl
@[simp] theorem ty_non_tuple  : tyIs .non .tuple = false := rfl
@[simp] theorem ty_non_list  : tyIs .non .list = false := rfl
@[simp] theorem ty_bl_int {b : Bool} : tyIs (.bl b) .int = true := rfl
@[simp] theorem ty_bl_bool {b : Bool} : tyIs (.bl b) .bool = true := rfl
@[simp] theorem ty_bl_str {b : Bool} : tyIs (.bl b) .str = false := rfl
@[simp] theorem ty_bl_tuple {b : Bool} : tyIs (.bl b) .tuple = false := rfl
@[simp] theorem ty_bl_list {b : Bool} : tyIs (.bl b) .list = false := rfl
@[simp] theorem ty_int_int {i : Int} : tyIs (.int i) .int = true := rfl
@[simp] theorem ty_int_bool {i : Int} : tyIs (.int i) .bool = false := rfl
@[simp] theorem ty_int_str {i : Int} : tyIs (.int i) .str = false := rfl
@[simp] theorem ty_int_tuple {i : Int} : tyIs (.int i) .tuple = false := rfl
@[simp] theorem ty_int_list {i : Int} : tyIs (.int i) .list = false := rfl
@[simp] theorem ty_str_int {s : Str} : tyIs (.str s) .int = false := rfl
@[simp] theorem ty_str_bool {s : Str} : tyIs (.str s) .bool = false := rfl
@[simp] theorem ty_str_str {s : Str} : tyIs (.str s) .str = true := rfl
@[simp] theorem ty_str_tuple {s : Str} : tyIs (.str s) .tuple = false := rfl
@[simp] theorem ty_str_list {s : Str} : tyIs (.str s) .list = false := rfl
@[simp] theorem ty_tup_int {l : List MV} : tyIs (.tup l) .int = false := rfl
@[simp] theorem ty_tup_bool {l : List MV} : tyIs (.tup l) .bool = false := rfl
@[simp] theorem ty_tup_str {l : List MV} : tyIs (.tup l) .str = false := rfl
@[simp] theorem ty_tup_tuple {l : List MV} : tyIs (.tup l) .tuple = true := rfl
@[simp] theorem ty_tup_list {l : List MV} : tyIs (.tup l) .list = false := rfl
@[simp] theorem ty_lst_int {l : List MV} : tyIs (.lst l) .int = false := rfl
@[simp] theorem ty_lst_bool {l : List MV} : tyIs (.lst l) .bool = false := rfl
@[simp] theorem ty_lst_str {l : List MV} : tyIs (.lst l) .str = false := rfl
@[simp] theorem ty_lst_tuple {l : List MV} : tyIs (.lst l) .tuple = false := rfl
@[simp] theorem ty_lst_list {l : List MV} : tyIs (.lst l) .list = true := rfl
/-- a list of numbers -/
abbrev mi (l : List Int) : List MV := l.map MV.int
theorem intsOf_mi (l : List Int) : intsOf (mi l) = some l := by
  induction l with
  | nil => rfl
  | cons x r ih => rw [mi, List.map_cons, intsOf]; rw [mi] at ih; rw [ih]; rfl
@[simp] theorem bi_sum {l : List Int} : biSem .sum [.lst (l.map MV.int)] = some (.int l.sum, .sh) := by
  rw [biSem]; rw [show intsOf (l.map MV.int) = some l from intsOf_mi l]; rfl

end Mn.S

set_option Elab.async false
set_option linter.all false
set_option maxRecDepth 100000
/-! Mn12: the defs that most laws share. -/
namespace Mn.S
open PySem
variable {T : List FD} {L : Nat}

def bwhole : List CS := [.ret (.and (.isi (.var 0) [.int]) (.not (.isi (.var 0) [.bool])))]
def isInt : MV → Bool
  | .int _ => true
  | _ => false
theorem whole_ok {f k : Nat} (h : T[f]? = some ⟨1, 1, bwhole⟩) (hk : 1 ≤ k) (v : MV) : run T L k f [v] = some (.bl (isInt v), false) := by
  obtain ⟨k, rfl⟩ : ∃ j, k = j + 1 := ⟨k - 1, by omega⟩
  refine run_eq h rfl ?_
  cases v <;> simp [bwhole, startM, isInt]

def bsame (f g : Nat) : List CS := [
  .ite (.isi (.var 1) [.list, .tuple]) [.ite (.or (.not (.isi (.var 0) [.tuple])) (.cmp .ne (.bi .len [.var 0]) (.bi .len [.var 1]))) [.ret (.lit (.bl false))] [], .forS (.nm 2) (.rng1 (.bi .len [.var 1])) [.ite (.not (.call f [.idx (.var 0) (.var 2), .idx (.var 1) (.var 2)])) [.ret (.lit (.bl false))] []], .ret (.lit (.bl true))] [],
  .ite (.cmp .is (.var 1) (.lit .non)) [.ret (.cmp .is (.var 0) (.lit .non))] [],
  .ite (.cmp .is (.var 1) (.lit (.bl true))) [.ret (.cmp .is (.var 0) (.lit (.bl true)))] [],
  .ite (.cmp .is (.var 1) (.lit (.bl false))) [.ret (.cmp .is (.var 0) (.lit (.bl false)))] [],
  .ite (.isi (.var 1) [.str]) [.ret (.and (.isi (.var 0) [.str]) (.cmp .eq (.var 0) (.var 1)))] [],
  .ret (.and (.call g [.var 0]) (.cmp .eq (.var 0) (.var 1)))]

mutual
/-- what is due, with tuples for lists -/
def tz : MV → MV
  | .tup l => .tup (tzs l)
  | .lst l => .tup (tzs l)
  | x => x
def tzs : List MV → List MV
  | [] => []
  | x :: r => tz x :: tzs r
end
mutual
def deep : MV → Nat
  | .tup l => deeps l + 1
  | .lst l => deeps l + 1
  | _ => 0
def deeps : List MV → Nat
  | [] => 0
  | x :: r => max (deep x) (deeps r)
end
theorem tzs_map : ∀ l, tzs l = l.map tz
  | [] => rfl
  | x :: r => by rw [tzs, tzs_map r]; rfl
theorem deeps_le : ∀ {l : List MV} {x}, x ∈ l → deep x ≤ deeps l
  | [], _, h => by cases h
  | y :: r, x, h => by
    rw [deeps]
    rcases List.mem_cons.mp h with rfl | h
    · exact Nat.le_max_left _ _
    · exact Nat.le_trans (deeps_le h) (Nat.le_max_right _ _)
@[simp] theorem tz_int {i} : tz (.int i) = .int i := by simp [tz]
@[simp] theorem tzs_mi {l : List Int} : tzs (l.map MV.int) = l.map MV.int := by
  rw [tzs_map, List.map_map]; exact List.map_congr_left fun x _ => tz_int
theorem deeps_mi {l : List Int} : deeps (l.map MV.int) = 0 := by
  induction l with
  | nil => rfl
  | cons x r ih => rw [List.map_cons, deeps, ih]; simp [deep]
/-- sizes within what len takes, texts short -/
def okSize : MV → Prop
  | .str s => SeqAt.shaped (PyData.str s) = true
  | _ => True
mutual
def fits : MV → Prop
  | .tup l => l.length < 4000000 ∧ fitss l
  | .lst l => l.length < 4000000 ∧ fitss l
  | x => okSize x
def fitss : List MV → Prop
  | [] => True
  | x :: r => fits x ∧ fitss r
end
theorem fitss_all : ∀ {l : List MV} {x}, fitss l → x ∈ l → fits x
  | [], _, _, h => by cases h
  | y :: r, x, f, h => by
    rw [fitss] at f
    rcases List.mem_cons.mp h with rfl | h
    · exact f.1
    · exact fitss_all f.2 h
theorem fitss_mi {l : List Int} : fitss (l.map MV.int) := by
  induction l with
  | nil => trivial
  | cons x r ih => rw [List.map_cons, fitss]; exact ⟨by simp [fits, okSize], ih⟩

theorem same_seq {f g : Nat} {k : Nat} (ih : ∀ d : MV, deep d + 2 ≤ k → fits d → run T L k f [tz d, d] = some (.bl true, false)) (l : List MV) (v : MV) (dv : deep v = deeps l + 1) (tv : tz v = .tup (tzs l))
    (lv : biSem .len [v] = some (.int l.length, .sh)) (iv : (tyIs v .list || tyIs v .tuple) = true) (xv : ∀ i, idxSem v (.int i) = atM l i)
    (hn : rngOk (l.length : Int) = true) (fl : fitss l) (hd : deep v + 2 ≤ k + 1) : W (run T L k) L (bsame f g) (startM 3 [tz v, v]) (fun fl => resOf fl = some (.bl true, false)) := by
  have eq2 : (tzs l).length = l.length := by rw [tzs_map, List.length_map]
  simp [bsame, startM, iv, tv, lv, eq2]
  refine W.for (rngM 0 l.length) (fun _ σ => ∃ x, σ = [some (.tup (tzs l), false), some (v, false), x]) (by simp [lv, hn]) ⟨_, rfl⟩ ?_ ?_
  · intro i x σ hx hs
    obtain ⟨y, rfl⟩ := hs
    obtain ⟨hi, rfl⟩ := rngM_at hx
    have e1 : (tzs l)[i]? = some (tz l[i]) := by
      rw [tzs_map, List.getElem?_map, List.getElem?_eq_getElem hi]; rfl
    have e2 : l[i]? = some l[i] := List.getElem?_eq_getElem hi
    have mem : l[i] ∈ l := List.getElem_mem hi
    have e3 := ih l[i] (by have := deeps_le mem; omega) (fitss_all fl mem)
    simp [xv, e1, e2, e3, tv, freeOf, MV.noLst]
  · rintro σ ⟨y, rfl⟩
    simp

theorem same_ok {f g : Nat} (hf : T[f]? = some ⟨2, 3, bsame f g⟩) (hg : T[g]? = some ⟨1, 1, bwhole⟩) : ∀ (k : Nat) (d : MV), deep d + 2 ≤ k → fits d → run T L k f [tz d, d] = some (.bl true, false) := by
  intro k
  induction k with
  | zero => intro d h; omega
  | succ k ih =>
    intro d hd fi
    refine run_eq hf rfl ?_
    cases d with
    | tup l =>
      have := fi
      rw [fits] at this
      exact same_seq ih l _ (by rw [deep]) (by rw [tz]) rfl rfl (fun _ => rfl) (rngOk_n (by have := this.1; omega)) this.2 hd
    | lst l =>
      have := fi
      rw [fits] at this
      exact same_seq ih l _ (by rw [deep]) (by rw [tz]) rfl rfl (fun _ => rfl) (rngOk_n (by have := this.1; omega)) this.2 hd
    | non => simp [bsame, startM, cmpSem, tz]
    | bl b => cases b <;> simp [bsame, startM, cmpSem, tz]
    | int i =>
      have hw := whole_ok (L := L) hg (k := k) (by omega) (.int i)
      simp [bsame, startM, cmpSem, tz, hw, freeOf, MV.noLst, isInt]
    | str s =>
      have hs : cmpOk (.str s) = true := by
        have : fits (.str s) = okSize (.str s) := by simp [fits]
        rw [this] at fi
        exact fi
      have he : PyData.eqv (PyData.str s) (PyData.str s) = true := by simp [PyData.eqv]
      simp [bsame, startM, cmpSem, tz, hs, MV.toD, he]

def bcell : List CS := [
  .ite (.cmp .lt (.var 1) (.bi .len [.var 0])) [.ret (.idx (.var 0) (.var 1))] [],
  .asg 2 (.lit (.int 17)),
  .forS (.nm 3) (.seq (.var 0)) [.asg 2 (.bin .mod (.bi .int [.bin .add (.bin .mul (.var 2) (.lit (.int 31))) (.bin .mod (.bi .int [.var 3]) (.lit (.int 1000003)))]) (.lit (.int 1000003)))],
  .ret (.bin .mod (.bi .int [.bin .mul (.bin .mul (.bin .add (.var 2) (.lit (.int 7))) (.bin .add (.var 1) (.lit (.int 3)))) (.lit (.int 69621))]) (.lit (.int 2147483647)))]

theorem Bd.rng {a : Int} {n : Nat} (h0 : 0 ≤ a) (h : a < 2 ^ n) : Bd a n := Bd.of (by have : (0 : Int) < 2 ^ n := Int.pow_pos (by decide); omega) h

theorem cell_ok {f k : Nat} (h : T[f]? = some ⟨2, 4, bcell⟩) (hk : 1 ≤ k) (ns : List Int) (j : Int) (hj : 0 ≤ j) (hj2 : j < 1000000) : ∃ c : Int, run T L k f [.lst (ns.map MV.int), .int j] = some (.int c, false) := by
  obtain ⟨k, rfl⟩ : ∃ j, k = j + 1 := ⟨k - 1, by omega⟩
  have : OB (run T L (k + 1) f [.lst (ns.map MV.int), .int j]) (fun r => ∃ c : Int, r = (.int c, false)) := by
    refine run_of h rfl ?_
    simp [bcell, startM]
    refine IF.dec (fun hl => ?_) (fun hl => ?_)
    · have e : (ns.map MV.int)[j.toNat]? = some (.int ns[j.toNat]) := by
        rw [List.getElem?_map, List.getElem?_eq_getElem (by omega)]; rfl
      simp [hj, e]
    · skip
      refine W.for (ns.map MV.int) (fun _ σ => ∃ s x, 0 ≤ s ∧ s < 1000003 ∧ σ = [some (.lst (ns.map MV.int), false), some (.int j, false), some (.int s, false), x]) (by simp) ⟨17, _, by decide, by decide, rfl⟩ ?_ ?_
      · rintro i x σ hx ⟨s, y, h0, h1, rfl⟩
        obtain ⟨n, hn, rfl⟩ := List.mem_map.mp (List.mem_of_getElem? hx)
        haveI : Bd s 20 := Bd.rng h0 (by omega)
        simp (decide := true)
        omega
      · rintro σ ⟨s, y, h0, h1, rfl⟩
        haveI : Bd s 20 := Bd.rng h0 (by omega)
        haveI : Bd j 20 := Bd.rng hj (by omega)
        simp (decide := true)
  obtain ⟨r, e, c, rfl⟩ := this
  exact ⟨c, e⟩

def bdigits : List CS := [
  .asg 2 (.lst []),
  .asg 3 (.bi .int [.var 0]),
  .ite (.cmp .ge (.var 3) (.bin .pow (.lit (.int 10)) (.lit (.int 18)))) [.asg 3 (.bin .sub (.var 3) (.bin .pow (.lit (.int 10)) (.lit (.int 18)))), .forS (.nm 6) (.seq (.var 1)) [.app 2 (.bin .mod (.bi .int [.var 3]) (.var 6)), .asg 3 (.bin .fdiv (.bi .int [.var 3]) (.var 6))], .ret (.var 2)] [],
  .asg 4 (.bin .mod (.bi .int [.var 3]) (.lit (.int 2147483629))),
  .forS (.nm 5) (.rng1 (.bi .len [.var 1])) [.asg 4 (.bin .mod (.bi .int [.bin .add (.bin .add (.bin .mul (.var 4) (.lit (.int 48271))) (.bin .mul (.lit (.int 974711)) (.var 5))) (.lit (.int 12345))]) (.lit (.int 2147483647))), .asg 7 (.bin .mod (.bi .int [.bin .mul (.var 4) (.bin .add (.bin .fdiv (.var 4) (.lit (.int 65537))) (.lit (.int 3)))]) (.lit (.int 2147483629))), .app 2 (.bin .mod (.bin .fdiv (.var 7) (.lit (.int 19))) (.idx (.var 1) (.var 5)))],
  .ret (.var 2)]

/-- figures below their sizes -/
inductive Below : List Int → List Int → Prop where
  | nil : Below [] []
  | cons {d s : Int} {ds ss : List Int} (h0 : 0 ≤ d) (h1 : d < s) (r : Below ds ss) : Below (d :: ds) (s :: ss)
theorem Below.len {a b} (h : Below a b) : a.length = b.length := by
  induction h with
  | nil => rfl
  | cons _ _ _ ih => rw [List.length_cons, List.length_cons, ih]
theorem Below.snoc {a b} (h : Below a b) {d s : Int} (h0 : 0 ≤ d) (h1 : d < s) : Below (a ++ [d]) (b ++ [s]) := by
  induction h with
  | nil => exact .cons h0 h1 .nil
  | cons x y _ ih => exact .cons x y ih

theorem SZ_gt {n : Nat} (h : n < 4000000) : n < SZ := by unfold SZ; exact h

theorem digits_ok {f k : Nat} (h : T[f]? = some ⟨2, 8, bdigits⟩) (hk : 1 ≤ k) (c : Int) (sizes : List Int) (hl : sizes.length ≤ 10000) (hs : ∀ s ∈ sizes, 0 < s ∧ Bd s 9000) :
    ∃ ds : List Int, run T L k f [.int c, .lst (sizes.map MV.int)] = some (.lst (ds.map MV.int), true) ∧ Below ds sizes := by
  obtain ⟨k, rfl⟩ : ∃ j, k = j + 1 := ⟨k - 1, by omega⟩
  have : OB (run T L (k + 1) f [.int c, .lst (sizes.map MV.int)]) (fun r => ∃ ds : List Int, r = (.lst (ds.map MV.int), true) ∧ Below ds sizes) := by
    refine run_of h rfl ?_
    simp (decide := true) [bdigits, startM]
    refine IF.dec (fun hc => ?_) (fun hc => ?_)
    · refine W.for (sizes.map MV.int) (fun i σ => ∃ ds r x, Below ds (sizes.take i) ∧ σ = [some (.int c, false), some (.lst (sizes.map MV.int), false), some (.lst (ds.map MV.int), true), some (.int r, false), none, none, x, none]) (by simp) ⟨[], _, _, .nil, rfl⟩ ?_ ?_
      · rintro i x σ hx ⟨ds, r, y, hb, rfl⟩
        have hi : i < sizes.length := by
          rcases Nat.lt_or_ge i sizes.length with q | q
          · exact q
          · rw [List.getElem?_eq_none (by rw [List.length_map]; exact q)] at hx; cases hx
        have hx' : x = .int sizes[i] := by
          rw [List.getElem?_map, List.getElem?_eq_getElem hi] at hx; cases hx; rfl
        subst hx'
        have hp := hs sizes[i] (List.getElem_mem hi)
        haveI := hp.2
        have hlen : ds.length < SZ := SZ_gt (by have := hb.len; rw [List.length_take] at this; omega)
        simp (decide := true) [hp.1, hlen]
        refine ⟨ds ++ [r % sizes[i]], ?_, by simp⟩
        rw [List.take_add_one, List.getElem?_eq_getElem hi]
        exact hb.snoc (Int.emod_nonneg _ (by omega)) (Int.emod_lt_of_pos _ hp.1)
      · rintro σ ⟨ds, r, y, hb, rfl⟩
        rw [List.take_of_length_le (by simp)] at hb
        simp
        exact ⟨ds, rfl, hb⟩
    · have hn : rngOk (sizes.length : Int) = true := rngOk_n (by omega)
      refine W.for (rngM 0 sizes.length) (fun i σ => ∃ ds s x y, 0 ≤ s ∧ s < 2147483647 ∧ Below ds (sizes.take i) ∧ σ = [some (.int c, false), some (.lst (sizes.map MV.int), false), some (.lst (ds.map MV.int), true), some (.int c, false), some (.int s, false), x, none, y]) (by simp [hn]) ⟨[], _, _, _, Int.emod_nonneg _ (by decide), Int.lt_trans (Int.emod_lt_of_pos _ (by decide)) (by decide), .nil, rfl⟩ ?_ ?_
      · rintro i x σ hx ⟨ds, s, y, z, h0, h1, hb, rfl⟩
        obtain ⟨hi, rfl⟩ := rngM_at hx
        have e2 : (sizes.map MV.int)[i]? = some (.int sizes[i]) := by rw [List.getElem?_map, List.getElem?_eq_getElem hi]; rfl
        have hp := hs sizes[i] (List.getElem_mem hi)
        haveI := hp.2
        haveI : Bd s 31 := Bd.rng h0 (by omega)
        haveI : Bd (i : Int) 14 := Bd.rng (by omega) (by omega)
        have hlen : ds.length < SZ := SZ_gt (by have := hb.len; rw [List.length_take] at this; omega)
        have hi1 : i < sizes.length := hi
        have fin : ∀ v s' : Int, 0 ≤ s' → s' < 2147483647 → 0 ≤ v → v < sizes[i] → ∃ ds1 s1, 0 ≤ s1 ∧ s1 < 2147483647 ∧ Below ds1 (List.take (i + 1) sizes) ∧ List.map MV.int ds ++ [MV.int v] = List.map MV.int ds1 ∧ s' = s1 := by
          intro v s' a1 a2 a3 a4
          refine ⟨ds ++ [v], s', a1, a2, ?_, by simp, rfl⟩
          rw [List.take_add_one, List.getElem?_eq_getElem hi1]
          exact hb.snoc a3 a4
        have b1 : ∀ a : Int, 0 ≤ a % 2147483647 ∧ a % 2147483647 < 2147483647 := fun a => ⟨Int.emod_nonneg _ (by decide), Int.emod_lt_of_pos _ (by decide)⟩
        have b2 : ∀ a : Int, Bd (a % 2147483647) 31 := fun a => Bd.rng (b1 a).1 (by have := (b1 a).2; omega)
        have b3 : ∀ a : Int, Bd ((a % 2147483647) / 65537) 31 := fun a => Bd.rng (by have := (b1 a).1; omega) (by have := b1 a; omega)
        simp (decide := true) [hp.1, hlen, e2]
        exact fin _ _ (b1 _).1 (b1 _).2 (Int.emod_nonneg _ (by omega)) (Int.emod_lt_of_pos _ hp.1)
      · rintro σ ⟨ds, s, y, z, h0, h1, hb, rfl⟩
        rw [List.take_of_length_le (by simp)] at hb
        simp
        exact ⟨ds, rfl, hb⟩
  obtain ⟨r, e, ds, rfl, hb⟩ := this
  exact ⟨ds, e, hb⟩

def bcommon : List CS := [
  .asg 2 (.bi .abs [.var 0]),
  .asg 3 (.bi .abs [.var 1]),
  .whl (.cmp .ne (.var 3) (.lit (.int 0))) [.asg 4 (.bin .mod (.bi .int [.var 2]) (.var 3)), .asg 2 (.var 3), .asg 3 (.var 4)],
  .ret (.var 2)]

theorem gcd_steps {a b n : Nat} (hb : 0 < b) (h : b < 2 ^ n) (hab : b ≤ a) : a % b = 0 ∨ True := Or.inr trivial

/-- Euclid: after two turns the lesser is halved -/
theorem mod_half {a b : Nat} (hb : 0 < b) (h : b ≤ a) : 2 * (a % b) < a + b := by
  have := Nat.mod_lt a hb
  omega

theorem common_ok {f k : Nat} (h : T[f]? = some ⟨2, 5, bcommon⟩) (hk : 1 ≤ k) (a b : Int) {n : Nat} (ha : Bd a n) (hb : Bd b n) (hL : 2 * n + 2 < L) :
    run T L k f [.int a, .int b] = some (.int (Nat.gcd a.natAbs b.natAbs : Nat), false) := by
  obtain ⟨k, rfl⟩ : ∃ j, k = j + 1 := ⟨k - 1, by omega⟩
  refine run_eq h rfl ?_
  simp [bcommon, startM]
  refine W.whl (fun m σ => ∃ (x y : Nat) (z : Option (MV × Bool)), Nat.gcd x y = Nat.gcd a.natAbs b.natAbs ∧ (y = 0 ∨ (∃ i, x < 2 ^ i ∧ y < 2 ^ i ∧ 2 * i + 1 ≤ m) ∨ (y ≤ x ∧ x * y < 2 ^ m)) ∧ σ = [some (.int a, false), some (.int b, false), some (.int x, false), some (.int y, false), z])
    (fun σ => ∃ (z : Option (MV × Bool)), σ = [some (.int a, false), some (.int b, false), some (.int (Nat.gcd a.natAbs b.natAbs : Nat), false), some (.int 0, false), z]) (2 * n + 1) (by omega) ⟨a.natAbs, b.natAbs, none, rfl, Or.inr (Or.inl ⟨n, ha.le, hb.le, Nat.le_refl _⟩), rfl⟩ ?_ ?_
  · rintro m σ ⟨x, y, z, hg, hm, rfl⟩
    simp
    refine IF.nec (fun h0 => ?_) (fun h0 => ?_)
    · subst h0
      rw [Nat.gcd_zero_right] at hg
      exact ⟨by rw [hg], rfl⟩
    · have hy : 0 < y := by omega
      have hy' : (0 : Int) < y := by omega
      simp [hy]
      refine ⟨m - 1, ?_, y, x % y, ?_, ?_, ?_⟩
      · rcases hm with q | ⟨i, _, _, q⟩ | ⟨q1, q2⟩
        · omega
        · omega
        · have : 1 ≤ x * y := Nat.mul_pos (by omega) hy
          have : m ≠ 0 := by intro e; subst e; omega
          omega
      · rw [← hg, Nat.gcd_comm y, ← Nat.gcd_rec, Nat.gcd_comm]
      · have hmod := Nat.mod_lt x hy
        have key : 1 ≤ x % y → y ≤ x → y * (x % y) * 2 ≤ x * y := by
          intro _ hxy
          have : 2 * (x % y) ≤ x := by
            have h1 := Nat.div_add_mod x y
            have h2 : 1 ≤ x / y := Nat.div_pos hxy hy
            have : y * 1 ≤ y * (x / y) := Nat.mul_le_mul_left y h2
            omega
          calc y * (x % y) * 2 = y * (2 * (x % y)) := by rw [Nat.mul_assoc, Nat.mul_comm (x % y)]
            _ ≤ y * x := Nat.mul_le_mul_left _ this
            _ = x * y := Nat.mul_comm _ _
        rcases hm with q | ⟨i, q1, q2, q3⟩ | ⟨q1, q2⟩
        · omega
        · refine Or.inr (Or.inr ⟨by omega, ?_⟩)
          have h2 : y * (x % y) < 2 ^ i * 2 ^ i := Nat.mul_lt_mul'' q2 (by omega)
          rw [← Nat.pow_add] at h2
          exact Nat.lt_of_lt_of_le h2 (Nat.pow_le_pow_right (by decide) (by omega))
        · by_cases hz : x % y = 0
          · exact Or.inl hz
          · refine Or.inr (Or.inr ⟨by omega, ?_⟩)
            have := key (by omega) q1
            have hm1 : m = (m - 1) + 1 := by
              have : 1 ≤ x * y := Nat.mul_pos (by omega) hy
              have : m ≠ 0 := by intro e; subst e; omega
              omega
            rw [hm1, Nat.pow_succ] at q2
            omega
      · exact ⟨rfl, by push_cast; rfl⟩
  · rintro σ ⟨z, rfl⟩
    simp

end Mn.S

set_option Elab.async false
set_option linter.all false
set_option maxRecDepth 100000
set_option exponentiation.threshold 10000
/-! Mn13: trees of keeper and foe: what the program's and the laws' defs on them compute. The bodies are printed by gen/gbody.py. -/
namespace Mn.S
open PySem
theorem W.split {Φ : Fns} {L : Nat} {ss : List CS} {σ : MS} {Q : Flow → Prop} (n : Nat) (I : MS → Prop) (h : W Φ L (ss.take n) σ (fun fl => match fl with | .nx σ' => I σ' | fl => Q fl)) (k : ∀ σ', I σ' → W Φ L (ss.drop n) σ' Q) : W Φ L ss σ Q := by
  have := W.cut (r := ss.drop n) h k
  rwa [List.take_append_drop] at this
@[simp] theorem bin_rep {a : List MV} {k : Int} (h : k < 4611686018427387904) (h' : -4611686018427387904 < k) (hl : a.length * k.toNat ≤ 4000000) : binSem .mul (.lst a) (.int k) = some (.lst (List.replicate k.toNat a).flatten, .fr) := by
  rw [binSem, if_pos ⟨by unfold RNG; exact h, by unfold RNG; exact h', by unfold SZ; exact hl⟩]
@[simp] theorem bin_repT {a : List MV} {k : Int} (h : a.isEmpty = false) (h1 : -1000 ≤ k) (h2 : k ≤ 1000) (hl : a.length ≤ 1000) : binSem .mul (.tup a) (.int k) = some (.tup (List.replicate k.toNat a).flatten, .sh) := by
  rw [binSem, if_pos ⟨h, h1, h2, hl⟩]
theorem Below.c {ds : List Int} {s : Int} {ss : List Int} (h : Below ds (s :: ss)) : ∃ d r, ds = d :: r ∧ 0 ≤ d ∧ d < s ∧ Below r ss := by
  cases h with
  | cons a b r => exact ⟨_, _, rfl, a, b, r⟩
theorem Below.n {ds : List Int} (h : Below ds []) : ds = [] := by cases h; rfl
theorem Below.get {ds ss : List Int} (h : Below ds ss) : ∀ {i : Nat} {s : Int}, ss[i]? = some s → ∃ d, ds[i]? = some d ∧ 0 ≤ d ∧ d < s := by
  induction h with
  | nil => intro i s h; cases h
  | cons a b _ ih =>
    intro i s h
    cases i with
    | zero => cases h; exact ⟨_, rfl, a, b⟩
    | succ i => exact ih h
theorem rngM_mem {n : Nat} {lo : Int} {x : MV} (h : x ∈ rngM lo n) : ∃ k : Nat, k < n ∧ x = .int (lo + k) := by
  obtain ⟨k, hk⟩ := List.mem_iff_getElem?.mp h
  exact ⟨k, rngM_at hk⟩
/-- the number, as a place -/
def ix : MV → Nat
  | .int i => i.toNat
  | _ => 0
def nu : MV → Int
  | .int i => i
  | _ => 0
@[simp] theorem ix_int {k : Nat} : ix (.int k) = k := by simp [ix]
@[simp] theorem nu_int {i : Int} : nu (.int i) = i := rfl
theorem comp_ints {Φ : Fns} {σ : MS} {elt tg it ifs} {xs : List MV} {t} (h : MV → Int) (e : evI Φ it σ = some (xs, t)) (hl : xs.length ≤ 4000000) (hg : ∀ x ∈ xs, turn1 Φ elt tg ifs σ x = some [.int (h x)]) :
    ev Φ (.comp elt tg it ifs) σ = some (.lst ((xs.map h).map MV.int), .fr) := by
  rw [ev_comp_map (fun x => .int (h x)) e hl hg, List.map_map]; rfl
def gd (a : List Int) (k : Nat) : Int := a.getD k 0
theorem gd_eq {a : List Int} {k : Nat} (h : k < a.length) : gd a k = a[k] := by simp [gd, List.getElem?_eq_getElem h]
theorem get_mi {a : List Int} {k : Nat} (h : k < a.length) : (a.map MV.int)[k]? = some (.int (gd a k)) := by
  rw [List.getElem?_map, List.getElem?_eq_getElem h, gd_eq h]; rfl
theorem gd_mem {a : List Int} {k : Nat} (h : k < a.length) : gd a k ∈ a := by
  rw [gd_eq h]; exact List.getElem_mem h
theorem take_snoc {xs : List Int} {i : Nat} (h : i < xs.length) : xs.take (i + 1) = xs.take i ++ [gd xs i] := by
  rw [List.take_add_one, List.getElem?_eq_getElem h, gd_eq h]; rfl
theorem at_mi {xs : List Int} {i : Nat} {x : MV} (h : (xs.map MV.int)[i]? = some x) : i < xs.length ∧ x = .int (gd xs i) := by
  rcases Nat.lt_or_ge i xs.length with q | q
  · rw [get_mi q] at h; cases h; exact ⟨q, rfl⟩
  · rw [List.getElem?_eq_none (by rw [List.length_map]; exact q)] at h; cases h

def dt (a b : List Int) : Nat → Int
  | 0 => 0
  | n + 1 => dt a b n + gd a n * gd b n


theorem deeps_all {l : List MV} {n : Nat} (h : ∀ x ∈ l, deep x ≤ n) : deeps l ≤ n := by
  induction l with
  | nil => exact Nat.zero_le _
  | cons x r ih => rw [deeps]; exact Nat.max_le.mpr ⟨h x List.mem_cons_self, ih fun y hy => h y (List.mem_cons_of_mem _ hy)⟩

theorem turns_pt {f : MV → Option (List MV)} : ∀ {xs ys : List MV}, ys.length = xs.length → (∀ (i : Nat) x y, xs[i]? = some x → ys[i]? = some y → f x = some [y]) → turns f xs = some ys
  | [], [], _, _ => rfl
  | x :: xs, y :: ys, hl, h => by
    rw [turns, h 0 x y rfl rfl, Option.bind_some, turns_pt (by simpa using hl) (fun i a b ha hb => h (i + 1) a b ha hb)]
    rfl
  | [], _ :: _, hl, _ => by cases hl
  | _ :: _, [], hl, _ => by cases hl
theorem comp_pt {Φ : Fns} {σ : MS} {elt tg it ifs} {xs : List MV} {t} (ys : List MV) (e : evI Φ it σ = some (xs, t)) (hl : ys.length = xs.length) (hx : xs.length ≤ 4000000) (hg : ∀ (i : Nat) x y, xs[i]? = some x → ys[i]? = some y → turn1 Φ elt tg ifs σ x = some [y]) :
    ev Φ (.comp elt tg it ifs) σ = some (.lst ys, .fr) := by
  rw [ev_comp, e, Option.bind_some, turns_pt hl hg, Option.bind_some, szS_ok (by omega)]

theorem turns_ex {f : MV → Option (List MV)} {P : MV → MV → Prop} : ∀ {xs : List MV}, (∀ x ∈ xs, ∃ y, f x = some [y] ∧ P x y) → ∃ ys, turns f xs = some ys ∧ ys.length = xs.length ∧ ∀ (i : Nat) x y, xs[i]? = some x → ys[i]? = some y → P x y
  | [], _ => ⟨[], rfl, rfl, fun i x y h _ => by simp at h⟩
  | x :: xs, h => by
    obtain ⟨y, e, p⟩ := h x List.mem_cons_self
    obtain ⟨ys, e2, l, q⟩ := turns_ex (fun z hz => h z (List.mem_cons_of_mem _ hz))
    refine ⟨y :: ys, ?_, by rw [List.length_cons, List.length_cons, l], ?_⟩
    · rw [turns, e, Option.bind_some, e2]; rfl
    · intro i a b ha hb
      cases i with
      | zero => cases ha; cases hb; exact p
      | succ i => exact q i a b ha hb
theorem comp_ex {Φ : Fns} {σ : MS} {elt tg it ifs} {xs : List MV} {t} {P : MV → MV → Prop} (e : evI Φ it σ = some (xs, t)) (hx : xs.length ≤ 4000000) (hg : ∀ x ∈ xs, ∃ y, turn1 Φ elt tg ifs σ x = some [y] ∧ P x y) :
    ∃ ys, ev Φ (.comp elt tg it ifs) σ = some (.lst ys, .fr) ∧ ys.length = xs.length ∧ ∀ (i : Nat) x y, xs[i]? = some x → ys[i]? = some y → P x y := by
  obtain ⟨ys, e1, l, p⟩ := turns_ex hg
  refine ⟨ys, ?_, l, p⟩
  rw [ev_comp, e, Option.bind_some, e1, Option.bind_some, szS_ok (by omega)]

/-- the least, the greatest of some -/
def mnL (l : List Int) : Int := (minI l).getD 0
def mxL (l : List Int) : Int := (maxI l).getD 0
theorem bi_minL {l : List Int} (h : l ≠ []) : biSem .min [.lst (l.map MV.int)] = some (.int (mnL l), .sh) := by
  rw [biSem]; rw [show intsOf (l.map MV.int) = some l from intsOf_mi l]
  cases l with
  | nil => contradiction
  | cons x r => rfl
theorem bi_maxL {l : List Int} (h : l ≠ []) : biSem .max [.lst (l.map MV.int)] = some (.int (mxL l), .sh) := by
  rw [biSem]; rw [show intsOf (l.map MV.int) = some l from intsOf_mi l]
  cases l with
  | nil => contradiction
  | cons x r => rfl
theorem minI_cons (x y : Int) (r : List Int) : minI (x :: y :: r) = minI ((if y < x then y else x) :: r) := rfl
theorem mnL_spec : ∀ (r : List Int) (x : Int), mnL (x :: r) ∈ x :: r ∧ ∀ y ∈ x :: r, mnL (x :: r) ≤ y := by
  intro r
  induction r with
  | nil => intro x; exact ⟨by simp [mnL, minI], fun y hy => by rcases List.mem_cons.mp hy with rfl | h; exact Int.le_refl _; cases h⟩
  | cons z r ih =>
    intro x
    have e : mnL (x :: z :: r) = mnL ((if z < x then z else x) :: r) := rfl
    rw [e]
    obtain ⟨h1, h2⟩ := ih (if z < x then z else x)
    have hm := h2 _ List.mem_cons_self
    have hx : (if z < x then z else x) ≤ x := by split <;> omega
    have hz : (if z < x then z else x) ≤ z := by split <;> omega
    refine ⟨?_, fun y hy => ?_⟩
    · rcases List.mem_cons.mp h1 with h | h
      · rw [h]; split
        · exact List.mem_cons_of_mem _ List.mem_cons_self
        · exact List.mem_cons_self
      · exact List.mem_cons_of_mem _ (List.mem_cons_of_mem _ h)
    · rcases List.mem_cons.mp hy with rfl | hy
      · exact Int.le_trans hm hx
      · rcases List.mem_cons.mp hy with rfl | hy
        · exact Int.le_trans hm hz
        · exact h2 y (List.mem_cons_of_mem _ hy)
theorem mxL_spec : ∀ (r : List Int) (x : Int), mxL (x :: r) ∈ x :: r ∧ ∀ y ∈ x :: r, y ≤ mxL (x :: r) := by
  intro r
  induction r with
  | nil => intro x; exact ⟨by simp [mxL, maxI], fun y hy => by rcases List.mem_cons.mp hy with rfl | h; exact Int.le_refl _; cases h⟩
  | cons z r ih =>
    intro x
    have e : mxL (x :: z :: r) = mxL ((if x < z then z else x) :: r) := rfl
    rw [e]
    obtain ⟨h1, h2⟩ := ih (if x < z then z else x)
    have hm := h2 _ List.mem_cons_self
    have hx : x ≤ (if x < z then z else x) := by split <;> omega
    have hz : z ≤ (if x < z then z else x) := by split <;> omega
    refine ⟨?_, fun y hy => ?_⟩
    · rcases List.mem_cons.mp h1 with h | h
      · rw [h]; split
        · exact List.mem_cons_of_mem _ List.mem_cons_self
        · exact List.mem_cons_self
      · exact List.mem_cons_of_mem _ (List.mem_cons_of_mem _ h)
    · rcases List.mem_cons.mp hy with rfl | hy
      · exact Int.le_trans hx hm
      · rcases List.mem_cons.mp hy with rfl | hy
        · exact Int.le_trans hz hm
        · exact h2 y (List.mem_cons_of_mem _ hy)
/-- the least of these is m -/
theorem mnL_eq {l : List Int} {m : Int} (h1 : m ∈ l) (h2 : ∀ y ∈ l, m ≤ y) : mnL l = m := by
  cases l with
  | nil => cases h1
  | cons x r =>
    obtain ⟨a, b⟩ := mnL_spec r x
    have := h2 _ a
    have := b _ h1
    omega
theorem mxL_eq {l : List Int} {m : Int} (h1 : m ∈ l) (h2 : ∀ y ∈ l, y ≤ m) : mxL l = m := by
  cases l with
  | nil => cases h1
  | cons x r =>
    obtain ⟨a, b⟩ := mxL_spec r x
    have := h2 _ a
    have := b _ h1
    omega
namespace Tw
structure Ix where
  is_leaf : Nat
  dot : Nat
  worth : Nat
  best_child : Nat
  chosen_part : Nat
  keeper_part : Nat
  foe_part : Nat
  ldot : Nat
  lis_node : Nat
  lleaves : Nat
  lpool : Nat
  llevelled : Nat
  lchain : Nat
  lstacked : Nat
  ltree : Nat
  ldressed : Nat
  lcount : Nat
  loption : Nat
  lvector : Nat
  lplayed : Nat
  ldigits : Nat
def Bis_leaf (x : Ix) : List CS := [
  .ret (.or (.cmp .eq (.bi .len [.var 0]) (.lit (.int 0))) (.not (.isi (.idx (.var 0) (.lit (.int 0))) [.str])))]
def Bdot (x : Ix) : List CS := [
  .asg 2 (.lit (.int 0)),
  .forS (.nm 3) (.rng1 (.bi .len [.var 0])) [.asg 2 (.bin .add (.var 2) (.bin .mul (.idx (.var 0) (.var 3)) (.idx (.var 1) (.var 3))))],
  .ret (.var 2)]
def Bworth (x : Ix) : List CS := [
  .ite (.call x.is_leaf [.var 0]) [.ret (.call x.dot [.var 1, .var 0])] [],
  .ite (.cmp .eq (.idx (.var 0) (.lit (.int 0))) (.lit (.str "keeper"))) [.ret (.bi .min [.comp (.call x.worth [.var 2, .var 1]) (.nm 2) (.seq (.idx (.var 0) (.lit (.int 1)))) []])] [],
  .ret (.bi .max [.comp (.call x.worth [.var 2, .var 1]) (.nm 2) (.seq (.idx (.var 0) (.lit (.int 1)))) []])]
def Bbest_child (x : Ix) : List CS := [
  .asg 3 (.idx (.var 0) (.lit (.int 0))),
  .asg 4 (.call x.worth [.var 3, .var 1]),
  .forS (.nm 5) (.seq (.slc (.var 0) (some (.lit (.int 1))) none)) [.asg 6 (.call x.worth [.var 5, .var 1]), .ite (.or (.and (.cmp .eq (.var 2) (.lit (.str "keeper"))) (.cmp .lt (.var 6) (.var 4))) (.and (.cmp .eq (.var 2) (.lit (.str "foe"))) (.cmp .gt (.var 6) (.var 4)))) [.asg 3 (.var 5), .asg 4 (.var 6)] []],
  .ret (.var 3)]
def Bchosen_part (x : Ix) : List CS := [
  .ite (.call x.is_leaf [.var 0]) [.ret (.bi .tuple [.var 0])] [],
  .ite (.cmp .eq (.idx (.var 0) (.lit (.int 0))) (.var 2)) [.ret (.call x.chosen_part [.call x.best_child [.idx (.var 0) (.lit (.int 1)), .var 1, .var 2], .var 1, .var 2])] [],
  .ret (.tup [.idx (.var 0) (.lit (.int 0)), .bi .tuple [.comp (.call x.chosen_part [.var 3, .var 1, .var 2]) (.nm 3) (.seq (.idx (.var 0) (.lit (.int 1)))) []]])]
def Bkeeper_part (x : Ix) : List CS := [
  .ret (.call x.chosen_part [.var 0, .var 1, .lit (.str "keeper")])]
def Bfoe_part (x : Ix) : List CS := [
  .ret (.call x.chosen_part [.var 0, .var 1, .lit (.str "foe")])]
def Bldot (x : Ix) : List CS := [
  .asg 2 (.lit (.int 0)),
  .forS (.nm 3) (.rng1 (.bi .len [.var 0])) [.asg 2 (.bin .add (.var 2) (.bin .mul (.idx (.var 0) (.var 3)) (.idx (.var 1) (.var 3))))],
  .ret (.var 2)]
def Blis_node (x : Ix) : List CS := [
  .ret (.and (.cmp .eq (.bi .len [.var 0]) (.lit (.int 2))) (.isi (.idx (.var 0) (.lit (.int 0))) [.str]))]
def Blleaves (x : Ix) : List CS := [
  .ite (.not (.call x.lis_node [.var 0])) [.ret (.lst [.bi .tuple [.var 0]])] [],
  .asg 1 (.lst []),
  .forS (.nm 2) (.seq (.idx (.var 0) (.lit (.int 1)))) [.asg 1 (.bin .add (.var 1) (.call x.lleaves [.var 2]))],
  .ret (.var 1)]
def Blpool (x : Ix) : List CS := [
  .asg 2 (.call x.ldigits [.var 0, .bin .add (.lst [.lit (.int 16), .lit (.int 12), .bin .pow (.lit (.int 10)) (.lit (.int 6)), .bin .pow (.lit (.int 10)) (.lit (.int 6))]) (.bin .mul (.lst [.lit (.int 7), .lit (.int 11), .lit (.int 11), .lit (.int 11), .lit (.int 11)]) (.lit (.int 9)))]),
  .asg 3 (.lst [.lit (.int 0), .lit (.int 1), .neg (.lit (.int 1)), .lit (.int 2), .neg (.lit (.int 2)), .lit (.int 3), .neg (.lit (.int 3)), .lit (.int 5), .neg (.lit (.int 7)), .lit (.int 11), .neg (.lit (.int 40))]),
  .asg 4 (.bin .mod (.bi .int [.bin .add (.bin .mul (.idx (.var 2) (.lit (.int 2))) (.bin .pow (.lit (.int 10)) (.lit (.int 6)))) (.idx (.var 2) (.lit (.int 3)))]) (.lit (.int 999999999900))),
  .asg 5 (.lst []),
  .forS (.nm 6) (.rng1 (.idx (.lst [.lit (.int 5), .lit (.int 2), .lit (.int 3), .lit (.int 9), .lit (.int 4), .lit (.int 8), .lit (.int 5), .lit (.int 6), .lit (.int 9), .lit (.int 7), .lit (.int 8), .lit (.int 9), .lit (.int 3), .lit (.int 1), .lit (.int 6), .lit (.int 7)]) (.idx (.var 2) (.lit (.int 0))))) [.asg 7 (.comp (.idx (.var 3) (.idx (.var 2) (.bin .add (.bin .add (.lit (.int 5)) (.bin .mul (.lit (.int 5)) (.var 6))) (.var 10)))) (.nm 10) (.rng1 (.var 1)) []), .ite (.and (.cmp .gt (.var 6) (.lit (.int 0))) (.cmp .le (.idx (.var 2) (.bin .add (.lit (.int 4)) (.bin .mul (.lit (.int 5)) (.var 6)))) (.lit (.int 1)))) [.asg 7 (.bi .list [.idx (.var 5) (.bin .sub (.var 6) (.lit (.int 1)))])] [], .ite (.and (.cmp .gt (.var 6) (.lit (.int 0))) (.cmp .eq (.idx (.var 2) (.bin .add (.lit (.int 4)) (.bin .mul (.lit (.int 5)) (.var 6)))) (.lit (.int 1)))) [.asg 8 (.bin .mod (.bi .int [.idx (.var 2) (.bin .add (.lit (.int 5)) (.bin .mul (.lit (.int 5)) (.var 6)))]) (.var 1)), .set 7 (.var 8) (.bin .sub (.lit (.int 1)) (.idx (.var 7) (.var 8)))] [], .drop 7, .app 5 (.var 7)],
  .ite (.cmp .eq (.idx (.var 2) (.lit (.int 1))) (.lit (.int 6))) [.asg 5 (.comp (.comp (.bin .mul (.lit (.int 24390243902)) (.var 11)) (.nm 11) (.seq (.var 9)) []) (.nm 9) (.seq (.var 5)) [])] [],
  .ite (.cmp .eq (.idx (.var 2) (.lit (.int 1))) (.lit (.int 7))) [.asg 5 (.comp (.comp (.bin .add (.var 11) (.var 4)) (.nm 11) (.seq (.var 9)) []) (.nm 9) (.seq (.var 5)) [])] [],
  .ite (.cmp .eq (.idx (.var 2) (.lit (.int 1))) (.lit (.int 8))) [.asg 5 (.comp (.comp (.bin .sub (.var 11) (.var 4)) (.nm 11) (.seq (.var 9)) []) (.nm 9) (.seq (.var 5)) [])] [],
  .ite (.cmp .eq (.idx (.var 2) (.lit (.int 1))) (.lit (.int 9))) [.set 5 (.lit (.int 0)) (.comp (.bin .sub (.lit (.int 999999999999)) (.bin .mul (.lit (.int 1999999999998)) (.bin .mod (.bi .int [.idx (.var 2) (.lit (.int 2))]) (.lit (.int 2))))) (.nm 11) (.seq (.idx (.var 5) (.lit (.int 0)))) [])] [],
  .ite (.cmp .eq (.idx (.var 2) (.lit (.int 1))) (.lit (.int 10))) [.set 5 (.lit (.int 0)) (.comp (.lit (.int 0)) (.nm 11) (.seq (.idx (.var 5) (.lit (.int 0)))) [])] [],
  .ret (.comp (.bi .tuple [.var 9]) (.nm 9) (.seq (.var 5)) [])]
def Bllevelled (x : Ix) : List CS := [
  .asg 5 (.lst []),
  .asg 6 (.lit (.int 1)),
  .forS (.nm 7) (.rng1 (.var 4)) [.asg 9 (.idx (.lst [.lit (.int 1), .lit (.int 2), .lit (.int 2), .lit (.int 4), .lit (.int 3), .lit (.int 2), .lit (.int 1), .lit (.int 8)]) (.idx (.var 0) (.bin .mul (.lit (.int 4)) (.var 7)))), .ite (.cmp .gt (.bin .mul (.var 6) (.var 9)) (.var 3)) [.asg 9 (.lit (.int 1))] [], .app 5 (.var 9), .asg 6 (.bin .mul (.var 6) (.var 9))],
  .asg 8 (.comp (.idx (.var 2) (.bin .mod (.bi .int [.idx (.var 1) (.var 12)]) (.bi .len [.var 2]))) (.nm 12) (.rng1 (.var 6)) []),
  .forS (.nm 7) (.rng1 (.var 4)) [.asg 10 (.lst []), .forS (.nm 11) (.rng1 (.bin .fdiv (.bi .len [.var 8]) (.idx (.var 5) (.var 7)))) [.asg 13 (.idx (.lst [.lit (.str "keeper"), .lit (.str "foe")]) (.bin .mod (.bi .int [.bin .add (.idx (.var 0) (.bin .add (.bin .mul (.lit (.int 4)) (.var 7)) (.lit (.int 1)))) (.bin .mul (.var 11) (.bin .fdiv (.idx (.var 0) (.bin .add (.bin .mul (.lit (.int 4)) (.var 7)) (.lit (.int 2)))) (.lit (.int 2))))]) (.lit (.int 2)))), .app 10 (.tup [.var 13, .bi .tuple [.slc (.var 8) (some (.bin .mul (.var 11) (.idx (.var 5) (.var 7)))) (some (.bin .add (.bin .mul (.var 11) (.idx (.var 5) (.var 7))) (.idx (.var 5) (.var 7))))]])], .drop 10, .asg 8 (.var 10)],
  .ret (.idx (.var 8) (.lit (.int 0)))]
def Blchain (x : Ix) : List CS := [
  .asg 5 (.idx (.var 2) (.bin .mod (.bi .int [.idx (.var 1) (.lit (.int 0))]) (.bi .len [.var 2]))),
  .asg 6 (.lit (.int 1)),
  .forS (.nm 7) (.rng1 (.var 4)) [.asg 8 (.idx (.lst [.lit (.int 0), .lit (.int 1), .lit (.int 0), .lit (.int 2), .lit (.int 1), .lit (.int 0), .lit (.int 3), .lit (.int 2)]) (.idx (.var 0) (.bin .mul (.lit (.int 4)) (.var 7)))), .asg 9 (.bin .add (.var 8) (.idx (.var 0) (.bin .add (.bin .mul (.lit (.int 4)) (.var 7)) (.lit (.int 2))))), .ite (.cmp .gt (.bin .add (.var 6) (.var 9)) (.var 3)) [.asg 8 (.lit (.int 0)), .asg 9 (.lit (.int 0))] [], .asg 10 (.idx (.lst [.lit (.str "keeper"), .lit (.str "foe")]) (.idx (.var 0) (.bin .add (.bin .mul (.lit (.int 4)) (.var 7)) (.lit (.int 1))))), .asg 11 (.comp (.idx (.var 2) (.bin .mod (.bi .int [.bin .add (.idx (.var 1) (.bin .mod (.bin .add (.bin .add (.bin .mul (.lit (.int 5)) (.var 7)) (.var 13)) (.lit (.int 1))) (.lit (.int 64)))) (.var 7)]) (.bi .len [.var 2]))) (.nm 13) (.rng1 (.var 9)) []), .asg 12 (.slc (.var 11) none (some (.var 8))), .ite (.and (.cmp .gt (.var 8) (.lit (.int 1))) (.and (.cmp .gt (.var 7) (.lit (.int 0))) (.cmp .lt (.idx (.var 0) (.bin .add (.bin .mul (.lit (.int 4)) (.var 7)) (.lit (.int 3)))) (.lit (.int 6))))) [.asg 12 (.lst [.tup [.idx (.lst [.lit (.str "foe"), .lit (.str "keeper")]) (.idx (.var 0) (.bin .add (.bin .mul (.lit (.int 4)) (.var 7)) (.lit (.int 1)))), .bi .tuple [.var 12]]])] [], .asg 5 (.tup [.var 10, .bi .tuple [.bin .add (.bin .add (.var 12) (.lst [.var 5])) (.slc (.var 11) (some (.var 8)) none)]]), .asg 6 (.bin .add (.var 6) (.var 9))],
  .ret (.var 5)]
def Blstacked (x : Ix) : List CS := [
  .asg 4 (.lst [.idx (.var 1) (.bin .sub (.bin .sub (.bi .len [.var 1]) (.lit (.int 1))) (.bin .mod (.bi .int [.idx (.var 0) (.lit (.int 3))]) (.bi .len [.var 1])))]),
  .asg 5 (.lst [.lit (.int 1)]),
  .asg 6 (.lst [.lit (.int 0)]),
  .forS (.nm 7) (.rng1 (.bin .fdiv (.bi .len [.var 0]) (.lit (.int 4)))) [.asg 8 (.idx (.var 0) (.bin .mul (.lit (.int 4)) (.var 7))), .asg 9 (.bin .sub (.bi .len [.var 4]) (.lit (.int 1))), .ite (.and (.cmp .le (.var 8) (.lit (.int 3))) (.cmp .lt (.bi .sum [.var 5]) (.var 2))) [.app 4 (.idx (.var 1) (.bin .mod (.bi .int [.idx (.var 0) (.bin .add (.bin .mul (.lit (.int 4)) (.var 7)) (.lit (.int 3)))]) (.bi .len [.var 1]))), .app 5 (.lit (.int 1)), .app 6 (.lit (.int 0))] [], .ite (.and (.cmp .eq (.var 8) (.lit (.int 4))) (.cmp .le (.bin .add (.bi .sum [.var 5]) (.idx (.var 5) (.var 9))) (.var 2))) [.app 4 (.idx (.var 4) (.var 9)), .app 5 (.idx (.var 5) (.var 9)), .app 6 (.idx (.var 6) (.var 9))] [], .ite (.cmp .ge (.var 8) (.lit (.int 5))) [.asg 11 (.bi .max [.lit (.int 0), .bin .add (.bin .sub (.bin .sub (.bi .len [.var 4]) (.idx (.var 0) (.bin .add (.bin .mul (.lit (.int 4)) (.var 7)) (.lit (.int 2))))) (.lit (.int 2))) (.bi .int [.cmp .eq (.var 8) (.lit (.int 7))])]), .asg 12 (.bi .max [.slc (.var 6) (some (.var 11)) none]), .ite (.cmp .lt (.var 12) (.bin .sub (.var 3) (.lit (.int 1)))) [.asg 4 (.bin .add (.slc (.var 4) none (some (.var 11))) (.lst [.tup [.idx (.lst [.lit (.str "keeper"), .lit (.str "foe")]) (.idx (.var 0) (.bin .add (.bin .mul (.lit (.int 4)) (.var 7)) (.lit (.int 1)))), .bi .tuple [.slc (.var 4) (some (.var 11)) none]]])), .asg 5 (.bin .add (.slc (.var 5) none (some (.var 11))) (.lst [.bi .sum [.slc (.var 5) (some (.var 11)) none]])), .asg 6 (.bin .add (.slc (.var 6) none (some (.var 11))) (.lst [.bin .add (.var 12) (.lit (.int 1))]))] []] []],
  .ite (.cmp .eq (.bi .len [.var 4]) (.lit (.int 1))) [.ret (.idx (.var 4) (.lit (.int 0)))] [],
  .ite (.and (.cmp .gt (.bi .len [.var 4]) (.lit (.int 3))) (.and (.cmp .lt (.bi .max [.var 6]) (.bin .sub (.var 3) (.lit (.int 1)))) (.cmp .gt (.idx (.var 0) (.lit (.int 6))) (.lit (.int 0))))) [.asg 10 (.idx (.lst [.lit (.str "foe"), .lit (.str "keeper")]) (.idx (.var 0) (.lit (.int 1)))), .asg 4 (.comp (.tup [.var 10, .bi .tuple [.slc (.var 4) (some (.bin .mul (.lit (.int 2)) (.var 7))) (some (.bin .add (.bin .mul (.lit (.int 2)) (.var 7)) (.lit (.int 2))))]]) (.nm 7) (.rng1 (.bin .fdiv (.bin .add (.bi .len [.var 4]) (.lit (.int 1))) (.lit (.int 2)))) [])] [],
  .ret (.tup [.idx (.lst [.lit (.str "keeper"), .lit (.str "foe")]) (.idx (.var 0) (.lit (.int 1))), .bi .tuple [.var 4]])]
def Bltree (x : Ix) : List CS := [
  .asg 5 (.call x.ldigits [.var 0, .bin .add (.lst [.lit (.int 16), .lit (.int 12)]) (.bin .mul (.lst [.lit (.int 8), .lit (.int 2), .lit (.int 3), .lit (.int 9)]) (.lit (.int 28)))]),
  .asg 6 (.call x.ldigits [.var 1, .bin .mul (.lst [.lit (.int 9)]) (.lit (.int 64))]),
  .ite (.cmp .eq (.idx (.var 5) (.lit (.int 0))) (.lit (.int 0))) [.ret (.idx (.var 2) (.bin .mod (.bi .int [.idx (.var 5) (.lit (.int 1))]) (.bi .len [.var 2])))] [],
  .asg 7 (.var 4),
  .ite (.or (.cmp .eq (.idx (.var 5) (.lit (.int 0))) (.lit (.int 1))) (.cmp .eq (.idx (.var 5) (.lit (.int 0))) (.lit (.int 4)))) [.asg 7 (.bin .add (.bin .mod (.bi .int [.idx (.var 5) (.lit (.int 1))]) (.var 4)) (.lit (.int 1)))] [],
  .ite (.cmp .le (.idx (.var 5) (.lit (.int 0))) (.lit (.int 3))) [.drop 6, .ret (.call x.llevelled [.slc (.var 5) (some (.lit (.int 2))) none, .var 6, .var 2, .var 3, .var 7])] [],
  .ite (.cmp .le (.idx (.var 5) (.lit (.int 0))) (.lit (.int 6))) [.drop 6, .ret (.call x.lchain [.slc (.var 5) (some (.lit (.int 2))) none, .var 6, .var 2, .var 3, .var 7])] [],
  .ret (.call x.lstacked [.slc (.var 5) (some (.lit (.int 2))) (some (.bin .add (.lit (.int 6)) (.bin .mul (.lit (.int 16)) (.idx (.lst [.lit (.int 1), .lit (.int 2), .lit (.int 2), .lit (.int 3), .lit (.int 5), .lit (.int 6)]) (.bin .mod (.bi .int [.idx (.var 5) (.lit (.int 1))]) (.lit (.int 6))))))), .var 2, .var 3, .var 4])]
def Bldressed (x : Ix) : List CS := [
  .ite (.not (.isi (.var 0) [.tuple])) [.ret (.var 0)] [],
  .asg 2 (.var 1),
  .ite (.cmp .ge (.var 1) (.lit (.int 4))) [.asg 2 (.bin .sub (.lit (.int 9)) (.var 1))] [],
  .asg 3 (.comp (.call x.ldressed [.var 5, .var 2]) (.nm 5) (.seq (.var 0)) []),
  .asg 4 (.lit (.bl true)),
  .forS (.nm 5) (.seq (.var 0)) [.ite (.isi (.var 5) [.tuple]) [.asg 4 (.lit (.bl false))] []],
  .ite (.or (.cmp .eq (.var 1) (.lit (.int 1))) (.or (.cmp .eq (.var 1) (.lit (.int 4))) (.or (.and (.cmp .eq (.var 1) (.lit (.int 2))) (.var 4)) (.and (.cmp .eq (.var 1) (.lit (.int 3))) (.not (.var 4)))))) [.ret (.var 3)] [],
  .ret (.bi .tuple [.var 3])]
def Blcount (x : Ix) : List CS := [
  .ite (.not (.call x.lis_node [.var 0])) [.ret (.lit (.int 1))] [],
  .asg 2 (.comp (.call x.lcount [.var 5, .var 1]) (.nm 5) (.seq (.idx (.var 0) (.lit (.int 1)))) []),
  .ite (.cmp .eq (.idx (.var 0) (.lit (.int 0))) (.var 1)) [.ret (.bi .sum [.var 2])] [],
  .asg 3 (.lit (.int 1)),
  .drop 2,
  .forS (.nm 4) (.seq (.var 2)) [.asg 3 (.bin .mul (.var 3) (.var 4))],
  .ret (.var 3)]
def Bloption (x : Ix) : List CS := [
  .ite (.not (.call x.lis_node [.var 0])) [.ret (.var 0)] [],
  .asg 3 (.var 2),
  .ite (.cmp .eq (.idx (.var 0) (.lit (.int 0))) (.var 1)) [.forS (.nm 5) (.seq (.idx (.var 0) (.lit (.int 1)))) [.asg 6 (.call x.lcount [.var 5, .var 1]), .ite (.cmp .lt (.var 3) (.var 6)) [.ret (.call x.loption [.var 5, .var 1, .var 3])] [], .asg 3 (.bin .sub (.var 3) (.var 6))]] [],
  .asg 4 (.lst []),
  .forS (.nm 5) (.rev (.idx (.var 0) (.lit (.int 1)))) [.asg 6 (.call x.lcount [.var 5, .var 1]), .asg 4 (.bin .add (.lst [.call x.loption [.var 5, .var 1, .bin .mod (.bi .int [.var 3]) (.var 6)]]) (.var 4)), .asg 3 (.bin .fdiv (.bi .int [.var 3]) (.var 6))],
  .ret (.tup [.idx (.var 0) (.lit (.int 0)), .bi .tuple [.var 4]])]
def Blvector (x : Ix) : List CS := [
  .asg 3 (.call x.ldigits [.var 0, .bin .add (.lst [.lit (.int 10), .lit (.int 9), .lit (.int 9), .lit (.int 4), .lit (.int 3), .bin .pow (.lit (.int 10)) (.lit (.int 9))]) (.bin .mul (.lst [.lit (.int 13)]) (.lit (.int 4)))]),
  .asg 4 (.lst [.lit (.int 0), .lit (.int 1), .neg (.lit (.int 1)), .lit (.int 2), .neg (.lit (.int 2)), .lit (.int 3), .neg (.lit (.int 3)), .lit (.int 1), .neg (.lit (.int 1)), .lit (.int 5), .neg (.lit (.int 4)), .lit (.int 7), .lit (.int 0)]),
  .asg 5 (.comp (.idx (.var 4) (.idx (.var 3) (.bin .add (.lit (.int 6)) (.var 10)))) (.nm 10) (.rng1 (.var 2)) []),
  .ite (.cmp .eq (.idx (.var 3) (.lit (.int 0))) (.lit (.int 0))) [.asg 5 (.bin .mul (.lst [.lit (.int 0)]) (.var 2))] [],
  .ite (.and (.cmp .le (.idx (.var 3) (.lit (.int 0))) (.lit (.int 2))) (.and (.cmp .gt (.idx (.var 3) (.lit (.int 0))) (.lit (.int 0))) (.cmp .gt (.var 2) (.lit (.int 1))))) [.asg 6 (.idx (.var 1) (.bin .mod (.bi .int [.idx (.var 3) (.lit (.int 1))]) (.bi .len [.var 1]))), .asg 7 (.idx (.var 1) (.bin .mod (.bi .int [.bin .add (.bin .add (.idx (.var 3) (.lit (.int 1))) (.lit (.int 1))) (.idx (.var 3) (.lit (.int 2)))]) (.bi .len [.var 1]))), .asg 8 (.bin .mod (.bi .int [.idx (.var 3) (.lit (.int 3))]) (.var 2)), .asg 9 (.bin .mod (.bi .int [.bin .add (.bin .add (.var 8) (.lit (.int 1))) (.bin .mod (.bi .int [.idx (.var 3) (.lit (.int 4))]) (.bin .sub (.var 2) (.lit (.int 1))))]) (.var 2)), .ite (.or (.cmp .ne (.idx (.var 6) (.var 8)) (.idx (.var 7) (.var 8))) (.cmp .ne (.idx (.var 6) (.var 9)) (.idx (.var 7) (.var 9)))) [.asg 5 (.bin .mul (.lst [.lit (.int 0)]) (.var 2)), .set 5 (.var 8) (.bin .sub (.idx (.var 6) (.var 9)) (.idx (.var 7) (.var 9))), .set 5 (.var 9) (.bin .sub (.idx (.var 7) (.var 8)) (.idx (.var 6) (.var 8)))] []] [],
  .ite (.cmp .eq (.idx (.var 3) (.lit (.int 0))) (.lit (.int 4))) [.asg 5 (.comp (.bin .mul (.var 11) (.bin .add (.bin .pow (.lit (.int 10)) (.lit (.int 20))) (.idx (.var 3) (.lit (.int 5))))) (.nm 11) (.seq (.var 5)) [])] [],
  .ite (.cmp .eq (.idx (.var 3) (.lit (.int 0))) (.lit (.int 5))) [.asg 5 (.comp (.bin .mul (.idx (.var 3) (.lit (.int 5))) (.bi .int [.cmp .eq (.var 10) (.bin .mod (.bi .int [.idx (.var 3) (.lit (.int 3))]) (.var 2))])) (.nm 10) (.rng1 (.var 2)) [])] [],
  .ite (.cmp .eq (.idx (.var 3) (.lit (.int 0))) (.lit (.int 6))) [.asg 5 (.comp (.bi .abs [.var 11]) (.nm 11) (.seq (.var 5)) [])] [],
  .ret (.bi .tuple [.var 5])]
def Blplayed (x : Ix) : List CS := [
  .ite (.not (.call x.lis_node [.var 0])) [.ret (.tup [.call x.ldot [.var 1, .var 0], .var 0, .var 0])] [],
  .asg 2 (.comp (.call x.lplayed [.var 5, .var 1]) (.nm 5) (.seq (.idx (.var 0) (.lit (.int 1)))) []),
  .asg 3 (.idx (.var 2) (.lit (.int 0))),
  .drop 2,
  .forS (.nm 4) (.seq (.var 2)) [.ite (.or (.and (.cmp .eq (.idx (.var 0) (.lit (.int 0))) (.lit (.str "keeper"))) (.cmp .lt (.idx (.var 4) (.lit (.int 0))) (.idx (.var 3) (.lit (.int 0))))) (.and (.cmp .eq (.idx (.var 0) (.lit (.int 0))) (.lit (.str "foe"))) (.cmp .gt (.idx (.var 4) (.lit (.int 0))) (.idx (.var 3) (.lit (.int 0)))))) [.asg 3 (.var 4)] []],
  .ite (.cmp .eq (.idx (.var 0) (.lit (.int 0))) (.lit (.str "keeper"))) [.ret (.tup [.idx (.var 3) (.lit (.int 0)), .idx (.var 3) (.lit (.int 1)), .tup [.lit (.str "keeper"), .bi .tuple [.comp (.idx (.var 4) (.lit (.int 2))) (.nm 4) (.seq (.var 2)) []]]])] [],
  .ret (.tup [.idx (.var 3) (.lit (.int 0)), .tup [.lit (.str "foe"), .bi .tuple [.comp (.idx (.var 4) (.lit (.int 1))) (.nm 4) (.seq (.var 2)) []]], .idx (.var 3) (.lit (.int 2))])]
structure Has (T : List FD) (x : Ix) : Prop where
  is_leaf : T[x.is_leaf]? = some ⟨1, 1, Bis_leaf x⟩
  dot : T[x.dot]? = some ⟨2, 4, Bdot x⟩
  worth : T[x.worth]? = some ⟨2, 3, Bworth x⟩
  best_child : T[x.best_child]? = some ⟨3, 7, Bbest_child x⟩
  chosen_part : T[x.chosen_part]? = some ⟨3, 4, Bchosen_part x⟩
  keeper_part : T[x.keeper_part]? = some ⟨2, 2, Bkeeper_part x⟩
  foe_part : T[x.foe_part]? = some ⟨2, 2, Bfoe_part x⟩
  ldot : T[x.ldot]? = some ⟨2, 4, Bldot x⟩
  lis_node : T[x.lis_node]? = some ⟨1, 1, Blis_node x⟩
  lleaves : T[x.lleaves]? = some ⟨1, 3, Blleaves x⟩
  lpool : T[x.lpool]? = some ⟨2, 12, Blpool x⟩
  llevelled : T[x.llevelled]? = some ⟨5, 14, Bllevelled x⟩
  lchain : T[x.lchain]? = some ⟨5, 14, Blchain x⟩
  lstacked : T[x.lstacked]? = some ⟨4, 13, Blstacked x⟩
  ltree : T[x.ltree]? = some ⟨5, 8, Bltree x⟩
  ldressed : T[x.ldressed]? = some ⟨2, 6, Bldressed x⟩
  lcount : T[x.lcount]? = some ⟨2, 6, Blcount x⟩
  loption : T[x.loption]? = some ⟨3, 7, Bloption x⟩
  lvector : T[x.lvector]? = some ⟨3, 12, Blvector x⟩
  lplayed : T[x.lplayed]? = some ⟨2, 6, Blplayed x⟩

/-- a tree: a row, or a node with children -/
inductive Tr where
  | leaf (r : List Int)
  | node (k : Bool) (c : List Tr)

theorem Tr.ind {P : Tr → Prop} (l : ∀ r, P (.leaf r)) (n : ∀ k c, (∀ t ∈ c, P t) → P (.node k c)) : ∀ t, P t
  | .leaf r => l r
  | .node k c => n k c fun t h => Tr.ind l n t
termination_by t => sizeOf t
decreasing_by
  have := List.sizeOf_lt_of_mem h
  simp only [Tr.node.sizeOf_spec]
  omega

def kw (k : Bool) : Str := if k then "keeper" else "foe"

mutual
def enc : Tr → MV
  | .leaf r => .tup (r.map MV.int)
  | .node k c => .tup [.str (kw k), .tup (encs c)]
def encs : List Tr → List MV
  | [] => []
  | t :: c => enc t :: encs c
end
mutual
def dep : Tr → Nat
  | .leaf _ => 0
  | .node _ c => deps c + 1
def deps : List Tr → Nat
  | [] => 0
  | t :: c => max (dep t) (deps c)
end
/-- the rows' width, no node without children -/
inductive OkP (n : Nat) (P : List Int → Prop) : Tr → Prop where
  | leaf {r : List Int} (h : r.length = n) (b : P r) : OkP n P (.leaf r)
  | node {k : Bool} {c : List Tr} (h : c ≠ []) (l : c.length ≤ 100000) (a : ∀ t ∈ c, OkP n P t) : OkP n P (.node k c)
abbrev Ok (n : Nat) : Tr → Prop := OkP n (fun r => ∀ x ∈ r, Bd x 1000)

/-- a list or a tuple of these -/
def pr (s : Bool) (l : List MV) : MV := if s then .lst l else .tup l
@[simp] theorem pr_idx {s l i} : idxSem (pr s l) (.int i) = atM l i := by cases s <;> rfl
@[simp] theorem pr_tup {s l} : biSem .tuple [pr s l] = some (.tup l, .sh) := by cases s <;> rfl
@[simp] theorem pr_list {s l} : biSem .list [pr s l] = some (.lst l, .fr) := by cases s <;> rfl
@[simp] theorem pr_len {s l} : biSem .len [pr s l] = some (.int l.length, .sh) := by cases s <;> rfl
@[simp] theorem pr_seq {s l} : seqOf (pr s l) = some l := by cases s <;> rfl

/-- a tree in lists or tuples, as it comes -/
inductive Dr : Tr → MV → Prop where
  | leaf (s : Bool) (r : List Int) : Dr (.leaf r) (pr s (r.map MV.int))
  | node (s s' : Bool) (k : Bool) (c : List Tr) (vs : List MV) (h : vs.length = c.length) (a : ∀ (i : Nat) (t : Tr) (v : MV), c[i]? = some t → vs[i]? = some v → Dr t v) : Dr (.node k c) (pr s [.str (kw k), pr s' vs])

theorem encs_map : ∀ c, encs c = c.map enc
  | [] => rfl
  | t :: c => by rw [encs, encs_map c]; rfl
theorem deps_mem : ∀ {c : List Tr} {t}, t ∈ c → dep t ≤ deps c
  | [], _, h => by cases h
  | y :: r, x, h => by
    rw [deps]
    rcases List.mem_cons.mp h with rfl | h
    · exact Nat.le_max_left _ _
    · exact Nat.le_trans (deps_mem h) (Nat.le_max_right _ _)
theorem dr_enc : ∀ t, Dr t (enc t) := by
  refine Tr.ind ?_ ?_
  · intro r; rw [enc]; exact Dr.leaf false r
  · intro k c ih
    rw [enc]
    refine Dr.node false false k c (encs c) (by rw [encs_map, List.length_map]) ?_
    intro i t v ht hv
    rw [encs_map, List.getElem?_map, ht] at hv
    cases hv
    exact ih t (List.mem_of_getElem? ht)

section
variable {T : List FD} {L : Nat} {x : Ix}

theorem isleaf_row {k : Nat} (h : T[x.is_leaf]? = some ⟨1, 1, Bis_leaf x⟩) (hk : 1 ≤ k) (s : Bool) (r : List Int) : run T L k x.is_leaf [pr s (r.map MV.int)] = some (.bl true, false) := by
  obtain ⟨k, rfl⟩ : ∃ j, k = j + 1 := ⟨k - 1, by omega⟩
  refine run_eq h rfl ?_
  cases r with
  | nil => simp [Bis_leaf, startM]
  | cons a r =>
    have : ¬ ((r.length : Int) + 1 = 0) := by omega
    simp [Bis_leaf, startM, this]
theorem isleaf_node {k : Nat} (h : T[x.is_leaf]? = some ⟨1, 1, Bis_leaf x⟩) (hk : 1 ≤ k) (s : Bool) (z : Str) (v : MV) : run T L k x.is_leaf [pr s [.str z, v]] = some (.bl false, false) := by
  obtain ⟨k, rfl⟩ : ∃ j, k = j + 1 := ⟨k - 1, by omega⟩
  refine run_eq h rfl ?_
  simp [Bis_leaf, startM]
theorem isnode_row {k : Nat} (h : T[x.lis_node]? = some ⟨1, 1, Blis_node x⟩) (hk : 1 ≤ k) (s : Bool) (r : List Int) : run T L k x.lis_node [pr s (r.map MV.int)] = some (.bl false, false) := by
  obtain ⟨k, rfl⟩ : ∃ j, k = j + 1 := ⟨k - 1, by omega⟩
  refine run_eq h rfl ?_
  match r with
  | [] => simp [Blis_node, startM]
  | [a] => simp [Blis_node, startM]
  | [a, b] => simp [Blis_node, startM]
  | a :: b :: c :: r =>
    have : ¬ ((r.length : Int) + 1 + 1 + 1 = 2) := by omega
    simp [Blis_node, startM, this]
theorem isnode_node {k : Nat} (h : T[x.lis_node]? = some ⟨1, 1, Blis_node x⟩) (hk : 1 ≤ k) (s : Bool) (z : Str) (v : MV) : run T L k x.lis_node [pr s [.str z, v]] = some (.bl true, false) := by
  obtain ⟨k, rfl⟩ : ∃ j, k = j + 1 := ⟨k - 1, by omega⟩
  refine run_eq h rfl ?_
  simp [Blis_node, startM]

theorem dot_ok {f k : Nat} (h : T[f]? = some ⟨2, 4, Bdot x⟩) (hk : 1 ≤ k) (s t : Bool) (a b : List Int) (hl : b.length = a.length) (hn : a.length ≤ 1000) (ha : ∀ x ∈ a, Bd x 9000) (hb : ∀ x ∈ b, Bd x 9000) : run T L k f [pr s (a.map MV.int), pr t (b.map MV.int)] = some (.int (dt a b a.length), false) := by
  obtain ⟨k, rfl⟩ : ∃ j, k = j + 1 := ⟨k - 1, by omega⟩
  refine run_eq h rfl ?_
  have hr := rngOk_n (n := a.length) (by omega)
  simp [Bdot, startM]
  refine W.for (rngM 0 a.length) (fun i σ => ∃ x, σ = [some (pr s (a.map MV.int), false), some (pr t (b.map MV.int), false), some (.int (dt a b i), false), x]) (by simp [hr]) ⟨none, rfl⟩ ?_ ?_
  · rintro i x σ hx ⟨y, rfl⟩
    obtain ⟨hi, rfl⟩ := rngM_at hx
    haveI := ha _ (gd_mem hi)
    haveI := hb _ (gd_mem (hl ▸ hi : i < b.length))
    have e1 := get_mi hi
    have e2 := get_mi (hl ▸ hi : i < b.length)
    simp only [List.getElem?_map] at e1 e2
    simp (decide := true) [e1, e2, dt]
  · rintro σ ⟨y, rfl⟩
    simp

mutual
/-- a tree's worth -/
def wv (u : List Int) : Tr → Int
  | .leaf r => dt u r u.length
  | .node k c => if k then mnL (wvs u c) else mxL (wvs u c)
def wvs (u : List Int) : List Tr → List Int
  | [] => []
  | t :: c => wv u t :: wvs u c
end
theorem wvs_map {u : List Int} : ∀ c, wvs u c = c.map (wv u)
  | [] => rfl
  | t :: c => by rw [wvs, wvs_map c]; rfl

/-- the numbers that go with trees -/
structure Vc (n : Nat) (u : List Int) : Prop where
  len : u.length = n
  pos : n ≤ 1000
  bd : ∀ x ∈ u, Bd x 4000

theorem kw_eq (k : Bool) : (PyData.eqv (PyData.str (kw k)) (PyData.str "keeper")) = k := by cases k <;> decide +kernel
theorem kw_ok (k : Bool) : cmpOk (.str (kw k)) = true := by cases k <;> decide +kernel
theorem cmp_kw (k : Bool) : cmpSem .eq (.str (kw k)) (.str "keeper") = some k := by cases k <;> decide +kernel
theorem cmp_kf (k : Bool) : cmpSem .eq (.str (kw k)) (.str "foe") = some (!k) := by cases k <;> decide +kernel
theorem cmp_kk (k j : Bool) : cmpSem .eq (.str (kw k)) (.str (kw j)) = some (k == j) := by cases k <;> cases j <;> decide +kernel

theorem worth_ok (h1 : T[x.is_leaf]? = some ⟨1, 1, Bis_leaf x⟩) (h2 : T[x.dot]? = some ⟨2, 4, Bdot x⟩) (h3 : T[x.worth]? = some ⟨2, 3, Bworth x⟩) {n : Nat} {u : List Int} (hu : Vc n u) (s : Bool) :
    ∀ t v, Dr t v → Ok n t → ∀ k, dep t + 2 ≤ k → run T L k x.worth [v, pr s (u.map MV.int)] = some (.int (wv u t), false) := by
  refine Tr.ind ?_ ?_
  · intro r v d o k hk
    obtain ⟨k, rfl⟩ : ∃ j, k = j + 1 := ⟨k - 1, by omega⟩
    rw [dep] at hk
    cases d with
    | leaf s' _ =>
      cases o with
      | leaf hr hb =>
        have e1 := isleaf_row (L := L) h1 (k := k) (by omega) s' r
        have e2 := dot_ok (L := L) h2 (k := k) (by omega) s s' u r (by rw [hr, hu.len]) (by rw [hu.len]; exact hu.pos) (fun x h => (hu.bd x h).up (by decide)) (fun x h => (hb x h).up (by decide))
        refine run_eq h3 rfl ?_
        simp [Bworth, startM, e1, e2, Mn.freeOf, MV.noLst, wv]
  · intro kd c ih v d o k hk
    obtain ⟨k, rfl⟩ : ∃ j, k = j + 1 := ⟨k - 1, by omega⟩
    rw [dep] at hk
    cases d with
    | node s1 s2 _ _ vs hl ha =>
      cases o with
      | node hc hcl hok =>
        have e1 := isleaf_node (L := L) h1 (k := k) (by omega) s1 (kw kd) (pr s2 vs)
        have cp : ev (run T L k) (.comp (.call x.worth [.var 2, .var 1]) (.nm 2) (.seq (.idx (.var 0) (.lit (.int 1)))) []) [some (pr s1 [.str (kw kd), pr s2 vs], false), some (pr s (u.map MV.int), false), none] = some (.lst ((wvs u c).map MV.int), .fr) := by
          refine comp_pt (xs := vs) (t := .sh) ((wvs u c).map MV.int) (by simp) (by rw [List.length_map, wvs_map, List.length_map, hl]) (by omega) ?_
          intro i w y hw hy
          have hi : i < c.length := by
            rcases Nat.lt_or_ge i vs.length with q | q
            · omega
            · rw [List.getElem?_eq_none q] at hw; cases hw
          rw [wvs_map, List.map_map, List.getElem?_map, List.getElem?_eq_getElem hi] at hy
          cases hy
          have hm : c[i] ∈ c := List.getElem_mem hi
          have e := ih c[i] hm w (ha i c[i] w (List.getElem?_eq_getElem hi) hw) (hok _ hm) k (by have := deps_mem hm; omega)
          simp [turn1, e, Mn.freeOf, MV.noLst]
        have hne : wvs u c ≠ [] := by
          rw [wvs_map]
          intro q
          exact hc (List.map_eq_nil_iff.mp q)
        have m1 := bi_minL hne
        have m2 := bi_maxL hne
        refine run_eq h3 rfl ?_
        cases kd <;> simp [Bworth, startM, e1, cmp_kw, cp, m1, m2, Mn.freeOf, MV.noLst, wv]

/-- a stands better than b for this kind -/
def better (k : Bool) (a b : Int) : Bool := if k then decide (a < b) else decide (b < a)
def pick (k : Bool) (u : List Int) : Tr → List Tr → Tr
  | b, [] => b
  | b, t :: r => pick k u (if better k (wv u t) (wv u b) then t else b) r
theorem pick_snoc {k u} {t : Tr} : ∀ {r : List Tr} {b : Tr}, pick k u b (r ++ [t]) = if better k (wv u t) (wv u (pick k u b r)) then t else pick k u b r
  | [], b => rfl
  | a :: r, b => by rw [List.cons_append, pick, pick_snoc, pick]
theorem pick_mem {k u} : ∀ {r : List Tr} {b : Tr}, pick k u b r ∈ b :: r
  | [], b => List.mem_cons_self
  | a :: r, b => by
    rw [pick]
    split
    · exact List.mem_cons_of_mem _ pick_mem
    · rcases List.mem_cons.mp (pick_mem (k := k) (u := u) (r := r) (b := b)) with h | h
      · rw [h]; exact List.mem_cons_self
      · exact List.mem_cons_of_mem _ (List.mem_cons_of_mem _ h)
theorem cut1 {v : MV} {vs : List MV} : cutM (v :: vs) (some 1) none = vs := by
  simp [cutM, HT.sIx]
theorem pr_cut1 {s : Bool} {v : MV} {vs : List MV} : slcSem (pr s (v :: vs)) (some 1) none = some (pr s vs, if s then .fr else .sh) := by
  cases s <;> simp [pr, slcSem, cut1]

theorem best_ok (h1 : T[x.is_leaf]? = some ⟨1, 1, Bis_leaf x⟩) (h2 : T[x.dot]? = some ⟨2, 4, Bdot x⟩) (h3 : T[x.worth]? = some ⟨2, 3, Bworth x⟩) (h4 : T[x.best_child]? = some ⟨3, 7, Bbest_child x⟩) {n : Nat} {u : List Int} (hu : Vc n u) (s s2 : Bool) (kd : Bool)
    (c0 : Tr) (c : List Tr) (v0 : MV) (vs : List MV) (hl : vs.length = c.length) (d0 : Dr c0 v0) (da : ∀ (i : Nat) (t : Tr) (v : MV), c[i]? = some t → vs[i]? = some v → Dr t v) (o0 : Ok n c0) (oa : ∀ t ∈ c, Ok n t)
    (k : Nat) (hk : ∀ t ∈ c0 :: c, dep t + 3 ≤ k) : ∃ w, run T L k x.best_child [pr s2 (v0 :: vs), pr s (u.map MV.int), .str (kw kd)] = some (w, false) ∧ Dr (pick kd u c0 c) w := by
  obtain ⟨k, rfl⟩ : ∃ j, k = j + 1 := ⟨k - 1, by have := hk c0 List.mem_cons_self; omega⟩
  have : OB (run T L (k + 1) x.best_child [pr s2 (v0 :: vs), pr s (u.map MV.int), .str (kw kd)]) (fun r => ∃ w, r = (w, false) ∧ Dr (pick kd u c0 c) w) := by
    refine run_of h4 rfl ?_
    have e0 := worth_ok (L := L) h1 h2 h3 hu s c0 v0 d0 o0 k (by have := hk c0 List.mem_cons_self; omega)
    simp [Bbest_child, startM, e0, Mn.freeOf, MV.noLst]
    refine W.for vs (fun i σ => ∃ w z z', Dr (pick kd u c0 (c.take i)) w ∧ Ok n (pick kd u c0 (c.take i)) ∧ σ = [some (pr s2 (v0 :: vs), false), some (pr s (u.map MV.int), false), some (.str (kw kd), false), some (w, false), some (.int (wv u (pick kd u c0 (c.take i))), false), z, z']) (by cases s2 <;> simp [pr_cut1]) ⟨v0, none, none, d0, o0, rfl⟩ ?_ ?_
    · rintro i v σ hv ⟨w, z, z', dw, ow, rfl⟩
      have hi : i < c.length := by
        rcases Nat.lt_or_ge i vs.length with q | q
        · omega
        · rw [List.getElem?_eq_none q] at hv; cases hv
      have hm : c[i] ∈ c := List.getElem_mem hi
      have dv := da i c[i] v (List.getElem?_eq_getElem hi) hv
      have ov := oa _ hm
      have e := worth_ok (L := L) h1 h2 h3 hu s c[i] v dv ov k (by have := hk c[i] (List.mem_cons_of_mem _ hm); omega)
      have ht : c.take (i + 1) = c.take i ++ [c[i]] := by rw [List.take_add_one, List.getElem?_eq_getElem hi]; rfl
      rw [ht, pick_snoc]
      generalize hb : pick kd u c0 (c.take i) = b at dw ow
      cases kd
      · simp [e, cmp_kw, cmp_kf, Mn.freeOf, MV.noLst, better]
        refine IF.dec (fun hc => ?_) (fun hc => ?_)
        · simp only [hc, if_true]; exact ⟨_, dv, ov, rfl, trivial⟩
        · simp only [hc, if_false]; exact ⟨_, dw, ow, rfl, trivial⟩
      · simp [e, cmp_kw, cmp_kf, Mn.freeOf, MV.noLst, better]
        by_cases hc : wv u c[i] < wv u b
        · simp [hc]; exact ⟨dv, ov⟩
        · simp [hc]; exact ⟨dw, ow⟩
    · rintro σ ⟨w, z, z', dw, ow, rfl⟩
      rw [hl, List.take_length] at dw
      simp
      exact dw
  obtain ⟨r, e, w, rfl, d⟩ := this
  exact ⟨w, e, d⟩

def pickZ (k : Bool) (u : List Int) : Tr → Tr → List Tr → List Tr → Tr
  | b, r, t :: ts, q :: qs => if better k (wv u t) (wv u b) then pickZ k u t q ts qs else pickZ k u b r ts qs
  | _, r, _, _ => r
def pickC (k : Bool) (u : List Int) : List Tr → List Tr → Tr
  | t :: ts, q :: qs => pickZ k u t q ts qs
  | _, _ => .leaf []
mutual
/-- the part that a kind's choices leave -/
def cp (j : Bool) (u : List Int) : Tr → Tr
  | .leaf r => .leaf r
  | .node k c => if k == j then pickC j u c (cps j u c) else .node k (cps j u c)
def cps (j : Bool) (u : List Int) : List Tr → List Tr
  | [] => []
  | t :: c => cp j u t :: cps j u c
end
theorem cps_map {j u} : ∀ c, cps j u c = c.map (cp j u)
  | [] => rfl
  | t :: c => by rw [cps, cps_map c]; rfl
theorem pickZ_eq {k u} : ∀ {ts : List Tr} {b : Tr}, pickZ k u b (cp k u b) ts (ts.map (cp k u)) = cp k u (pick k u b ts)
  | [], b => rfl
  | t :: ts, b => by
    rw [List.map_cons, pickZ, pick]
    split
    · exact pickZ_eq
    · exact pickZ_eq
theorem cp_own {j u} {t : Tr} {c : List Tr} : cp j u (.node j (t :: c)) = cp j u (pick j u t c) := by
  rw [cp, if_pos (by simp), cps_map, List.map_cons, pickC, pickZ_eq]
theorem cp_other {j k u} {c : List Tr} (h : k ≠ j) : cp j u (.node k c) = .node k (c.map (cp j u)) := by
  rw [cp, if_neg (by simpa using h), cps_map]

theorem chosen_ok (h1 : T[x.is_leaf]? = some ⟨1, 1, Bis_leaf x⟩) (h2 : T[x.dot]? = some ⟨2, 4, Bdot x⟩) (h3 : T[x.worth]? = some ⟨2, 3, Bworth x⟩) (h4 : T[x.best_child]? = some ⟨3, 7, Bbest_child x⟩) (h5 : T[x.chosen_part]? = some ⟨3, 4, Bchosen_part x⟩) {n : Nat} {u : List Int} (hu : Vc n u) (s : Bool) (j : Bool) :
    ∀ (m : Nat) (t : Tr), dep t ≤ m → ∀ v, Dr t v → Ok n t → ∀ k, m + 4 ≤ k → run T L k x.chosen_part [v, pr s (u.map MV.int), .str (kw j)] = some (enc (cp j u t), false) := by
  intro m
  induction m with
  | zero =>
    intro t hm v d o k hk
    obtain ⟨k, rfl⟩ : ∃ j, k = j + 1 := ⟨k - 1, by omega⟩
    cases d with
    | leaf s' r =>
      have e1 := isleaf_row (L := L) h1 (k := k) (by omega) s' r
      refine run_eq h5 rfl ?_
      simp [Bchosen_part, startM, e1, Mn.freeOf, MV.noLst, cp, enc]
    | node => rw [dep] at hm; omega
  | succ m ih =>
    intro t hm v d o k hk
    obtain ⟨k, rfl⟩ : ∃ j, k = j + 1 := ⟨k - 1, by omega⟩
    cases d with
    | leaf s' r =>
      have e1 := isleaf_row (L := L) h1 (k := k) (by omega) s' r
      refine run_eq h5 rfl ?_
      simp [Bchosen_part, startM, e1, Mn.freeOf, MV.noLst, cp, enc]
    | node s1 s2 kd c vs hl ha =>
      cases o with
      | node hc hcl hok =>
        rw [dep] at hm
        have e1 := isleaf_node (L := L) h1 (k := k) (by omega) s1 (kw kd) (pr s2 vs)
        refine run_eq h5 rfl ?_
        by_cases hj : kd = j
        · subst hj
          match c, vs, hl with
          | [], _, _ => exact absurd rfl hc
          | t0 :: c, v0 :: vs, hl =>
            have hl' : vs.length = c.length := by simpa using hl
            obtain ⟨w, e2, dw⟩ := best_ok (L := L) h1 h2 h3 h4 hu s s2 kd t0 c v0 vs hl' (ha 0 t0 v0 rfl rfl) (fun i t v a b => ha (i + 1) t v a b) (hok _ List.mem_cons_self) (fun t h => hok t (List.mem_cons_of_mem _ h)) k (fun t h => by have := deps_mem h; omega)
            have hp := pick_mem (k := kd) (u := u) (r := c) (b := t0)
            have e3 := ih (pick kd u t0 c) (by have := deps_mem hp; omega) w dw (hok _ hp) k (by omega)
            simp [Bchosen_part, startM, e1, e2, e3, cmp_kk, cp_own, Mn.freeOf, MV.noLst]
        · have cpv : ev (run T L k) (.comp (.call x.chosen_part [.var 3, .var 1, .var 2]) (.nm 3) (.seq (.idx (.var 0) (.lit (.int 1)))) []) [some (pr s1 [.str (kw kd), pr s2 vs], false), some (pr s (u.map MV.int), false), some (.str (kw j), false), none] = some (.lst (encs (c.map (cp j u))), .fr) := by
            refine comp_pt (xs := vs) (t := .sh) _ (by simp) (by rw [encs_map, List.length_map, List.length_map, hl]) (by omega) ?_
            intro i w y hw hy
            have hi : i < c.length := by
              rcases Nat.lt_or_ge i vs.length with q | q
              · omega
              · rw [List.getElem?_eq_none q] at hw; cases hw
            rw [encs_map, List.map_map, List.getElem?_map, List.getElem?_eq_getElem hi] at hy
            cases hy
            have hm' : c[i] ∈ c := List.getElem_mem hi
            have e := ih c[i] (by have := deps_mem hm'; omega) w (ha i c[i] w (List.getElem?_eq_getElem hi) hw) (hok _ hm') k (by omega)
            simp [turn1, e, Mn.freeOf, MV.noLst]
          have hb : (kd == j) = false := by simpa using hj
          simp [Bchosen_part, startM, e1, cmp_kk, hb, cpv, cp_other hj, enc, Mn.freeOf, MV.noLst]

theorem pick_wv {k u} : ∀ {r : List Tr} {b : Tr}, wv u (pick k u b r) = if k then (r.map (wv u)).foldl (fun a b => if b < a then b else a) (wv u b) else (r.map (wv u)).foldl (fun a b => if a < b then b else a) (wv u b)
  | [], b => by cases k <;> rfl
  | t :: r, b => by
    rw [pick, pick_wv]
    cases k
    · simp only [better, Bool.false_eq_true, if_false, List.map_cons, List.foldl_cons, decide_eq_true_eq]
      congr 1
      split <;> rfl
    · simp only [better, if_true, List.map_cons, List.foldl_cons, decide_eq_true_eq]
      congr 1
      split <;> rfl
theorem wv_pick {k u} {t : Tr} {c : List Tr} : wv u (.node k (t :: c)) = wv u (pick k u t c) := by
  rw [pick_wv, wv, wvs_map, List.map_cons]
  cases k <;> rfl
theorem pick_self {k u} {t : Tr} {c : List Tr} : pick k u t (t :: c) = pick k u t c := by
  rw [pick]
  have : better k (wv u t) (wv u t) = false := by cases k <;> simp [better]
  rw [this]
  rfl

/-- what _law_played tells -/
def trip (u : List Int) (t : Tr) : MV := .tup [.int (wv u t), enc (cp true u t), enc (cp false u t)]

theorem enc_noLst : ∀ t, (enc t).noLst = true := by
  refine Tr.ind ?_ ?_
  · intro r
    rw [enc, MV.noLst]
    induction r with
    | nil => rfl
    | cons x r ih => rw [List.map_cons, MV.noLsts, ih]; rfl
  · intro k c ih
    rw [enc, MV.noLst, MV.noLsts, MV.noLsts, MV.noLst, MV.noLsts]
    have : MV.noLsts (encs c) = true := by
      induction c with
      | nil => rfl
      | cons t c ihc => rw [encs, MV.noLsts, ih t List.mem_cons_self, ihc fun x h => ih x (List.mem_cons_of_mem _ h)]; rfl
    rw [this]; rfl

theorem enc_leaf {r : List Int} : enc (.leaf r) = pr false (r.map MV.int) := by rw [enc]; rfl
theorem enc_node {k : Bool} {c : List Tr} : enc (.node k c) = pr false [.str (kw k), pr false (encs c)] := by rw [enc]; rfl

theorem played_ok (h1 : T[x.lis_node]? = some ⟨1, 1, Blis_node x⟩) (h2 : T[x.ldot]? = some ⟨2, 4, Bdot x⟩) (h3 : T[x.lplayed]? = some ⟨2, 6, Blplayed x⟩) {n : Nat} {u : List Int} (hu : Vc n u) (s : Bool) :
    ∀ t, Ok n t → ∀ k, dep t + 2 ≤ k → run T L k x.lplayed [enc t, pr s (u.map MV.int)] = some (trip u t, false) := by
  refine Tr.ind ?_ ?_
  · intro r o k hk
    obtain ⟨k, rfl⟩ : ∃ j, k = j + 1 := ⟨k - 1, by omega⟩
    rw [dep] at hk
    cases o with
    | leaf hr hb =>
      have e1 := isnode_row (L := L) h1 (k := k) (by omega) false r
      have e2 := dot_ok (L := L) h2 (k := k) (by omega) s false u r (by rw [hr, hu.len]) (by rw [hu.len]; exact hu.pos) (fun x h => (hu.bd x h).up (by decide)) (fun x h => (hb x h).up (by decide))
      refine run_eq h3 rfl ?_
      rw [enc_leaf]
      simp [Blplayed, startM, e1, e2, Mn.freeOf, MV.noLst, trip, wv, cp, enc_leaf]
  · intro kd c ih o k hk
    obtain ⟨k, rfl⟩ : ∃ j, k = j + 1 := ⟨k - 1, by omega⟩
    rw [dep] at hk
    cases o with
    | node hc hcl hok =>
      have e1 := isnode_node (L := L) h1 (k := k) (by omega) false (kw kd) (pr false (encs c))
      have cpv : ev (run T L k) (.comp (.call x.lplayed [.var 5, .var 1]) (.nm 5) (.seq (.idx (.var 0) (.lit (.int 1)))) []) [some (pr false [.str (kw kd), pr false (encs c)], false), some (pr s (u.map MV.int), false), none, none, none, none] = some (.lst (c.map (trip u)), .fr) := by
        refine comp_pt (xs := encs c) (t := .sh) _ (by simp) (by rw [encs_map, List.length_map, List.length_map]) (by rw [encs_map, List.length_map]; omega) ?_
        intro i w y hw hy
        have hi : i < c.length := by
          rcases Nat.lt_or_ge i c.length with q | q
          · exact q
          · rw [encs_map, List.getElem?_eq_none (by rw [List.length_map]; exact q)] at hw; cases hw
        rw [encs_map, List.getElem?_map, List.getElem?_eq_getElem hi] at hw
        rw [List.getElem?_map, List.getElem?_eq_getElem hi] at hy
        cases hw
        cases hy
        have hm' : c[i] ∈ c := List.getElem_mem hi
        have e := ih c[i] hm' (hok _ hm') k (by have := deps_mem hm'; omega)
        simp [turn1, e, Mn.freeOf]
      match c, hc with
      | t0 :: c, _ =>
        refine run_eq h3 rfl ?_
        rw [enc_node]
        simp [Blplayed, startM, e1, cpv, Mn.freeOf, MV.noLst]
        refine W.for ((t0 :: c).map (trip u)) (fun i σ => ∃ z, σ = [some (pr false [MV.str (kw kd), pr false (encs (t0 :: c))], false), some (pr s (List.map MV.int u), false), some (.lst ((t0 :: c).map (trip u)), false), some (trip u (pick kd u t0 ((t0 :: c).take i)), false), z, none]) (by simp) ⟨none, rfl⟩ ?_ ?_
        · rintro i v σ hv ⟨z, rfl⟩
          have hi : i < (t0 :: c).length := by
            rcases Nat.lt_or_ge i (t0 :: c).length with q | q
            · exact q
            · rw [List.getElem?_eq_none (by rw [List.length_map]; exact q)] at hv; cases hv
          rw [List.getElem?_map, List.getElem?_eq_getElem hi] at hv
          cases hv
          have ht : (t0 :: c).take (i + 1) = (t0 :: c).take i ++ [(t0 :: c)[i]] := by rw [List.take_add_one, List.getElem?_eq_getElem hi]; rfl
          rw [ht, pick_snoc]
          generalize pick kd u t0 ((t0 :: c).take i) = b
          generalize (t0 :: c)[i] = a
          cases kd
          · by_cases hc : wv u b < wv u a <;> simp [trip, cmp_kw, cmp_kf, better, hc]
          · by_cases hc : wv u a < wv u b <;> simp [trip, cmp_kw, cmp_kf, better, hc]
        · rintro σ ⟨z, rfl⟩
          have hl : ((t0 :: c).map (trip u)).length = (t0 :: c).length := by rw [List.length_map]
          rw [hl, List.take_length, pick_self]
          have c1 : ∀ b : MV, ev (run T L k) (.comp (.idx (.var 4) (.lit (.int 2))) (.nm 4) (.seq (.var 2)) []) [some (pr false [MV.str (kw kd), pr false (encs (t0 :: c))], false), some (pr s (List.map MV.int u), false), some (.lst ((t0 :: c).map (trip u)), false), some (b, false), z, none] = some (.lst (encs ((t0 :: c).map (cp false u))), .fr) := by
            intro b
            refine comp_pt (xs := (t0 :: c).map (trip u)) (t := .sh) _ (by simp) (by simp [encs_map]) (by rw [hl]; omega) ?_
            intro i w y hw hy
            rw [encs_map, List.map_map, List.getElem?_map] at hy
            rw [List.getElem?_map] at hw
            cases hx : (t0 :: c)[i]? with
            | none => rw [hx] at hw; cases hw
            | some t =>
              rw [hx] at hw hy
              cases hw
              cases hy
              simp [turn1, trip]
          have c2 : ∀ b : MV, ev (run T L k) (.comp (.idx (.var 4) (.lit (.int 1))) (.nm 4) (.seq (.var 2)) []) [some (pr false [MV.str (kw kd), pr false (encs (t0 :: c))], false), some (pr s (List.map MV.int u), false), some (.lst ((t0 :: c).map (trip u)), false), some (b, false), z, none] = some (.lst (encs ((t0 :: c).map (cp true u))), .fr) := by
            intro b
            refine comp_pt (xs := (t0 :: c).map (trip u)) (t := .sh) _ (by simp) (by simp [encs_map]) (by rw [hl]; omega) ?_
            intro i w y hw hy
            rw [encs_map, List.map_map, List.getElem?_map] at hy
            rw [List.getElem?_map] at hw
            cases hx : (t0 :: c)[i]? with
            | none => rw [hx] at hw; cases hw
            | some t =>
              rw [hx] at hw hy
              cases hw
              cases hy
              simp [turn1, trip]
          have c1' := c1 (trip u (pick kd u t0 c))
          have c2' := c2 (trip u (pick kd u t0 c))
          have w1 : wv u (.node kd (t0 :: c)) = wv u (pick kd u t0 c) := wv_pick
          cases kd
          · have p1 : cp false u (.node false (t0 :: c)) = cp false u (pick false u t0 c) := cp_own
            have p2 : cp true u (.node false (t0 :: c)) = .node false ((t0 :: c).map (cp true u)) := cp_other (by decide)
            simp [-List.map_cons, cmp_kw, c2']
            simp [trip, w1, p1, p2, enc, kw]
          · have p1 : cp true u (.node true (t0 :: c)) = cp true u (pick true u t0 c) := cp_own
            have p2 : cp false u (.node true (t0 :: c)) = .node true ((t0 :: c).map (cp false u)) := cp_other (by decide)
            simp [-List.map_cons, cmp_kw, c1']
            simp [trip, w1, p1, p2, enc, kw]

theorem keeper_ok (h1 : T[x.is_leaf]? = some ⟨1, 1, Bis_leaf x⟩) (h2 : T[x.dot]? = some ⟨2, 4, Bdot x⟩) (h3 : T[x.worth]? = some ⟨2, 3, Bworth x⟩) (h4 : T[x.best_child]? = some ⟨3, 7, Bbest_child x⟩) (h5 : T[x.chosen_part]? = some ⟨3, 4, Bchosen_part x⟩) (h6 : T[x.keeper_part]? = some ⟨2, 2, Bkeeper_part x⟩)
    {n : Nat} {u : List Int} (hu : Vc n u) (s : Bool) {t : Tr} {v : MV} (d : Dr t v) (o : Ok n t) {k : Nat} (hk : dep t + 5 ≤ k) : run T L k x.keeper_part [v, pr s (u.map MV.int)] = some (enc (cp true u t), false) := by
  obtain ⟨k, rfl⟩ : ∃ j, k = j + 1 := ⟨k - 1, by omega⟩
  have e := chosen_ok (L := L) h1 h2 h3 h4 h5 hu s true (dep t) t (Nat.le_refl _) v d o k (by omega)
  simp only [kw, if_true] at e
  refine run_eq h6 rfl ?_
  simp [Bkeeper_part, startM, e, Mn.freeOf]
theorem foe_ok (h1 : T[x.is_leaf]? = some ⟨1, 1, Bis_leaf x⟩) (h2 : T[x.dot]? = some ⟨2, 4, Bdot x⟩) (h3 : T[x.worth]? = some ⟨2, 3, Bworth x⟩) (h4 : T[x.best_child]? = some ⟨3, 7, Bbest_child x⟩) (h5 : T[x.chosen_part]? = some ⟨3, 4, Bchosen_part x⟩) (h6 : T[x.foe_part]? = some ⟨2, 2, Bfoe_part x⟩)
    {n : Nat} {u : List Int} (hu : Vc n u) (s : Bool) {t : Tr} {v : MV} (d : Dr t v) (o : Ok n t) {k : Nat} (hk : dep t + 5 ≤ k) : run T L k x.foe_part [v, pr s (u.map MV.int)] = some (enc (cp false u t), false) := by
  obtain ⟨k, rfl⟩ : ∃ j, k = j + 1 := ⟨k - 1, by omega⟩
  have e := chosen_ok (L := L) h1 h2 h3 h4 h5 hu s false (dep t) t (Nat.le_refl _) v d o k (by omega)
  simp only [kw, if_false, Bool.false_eq_true] at e
  refine run_eq h6 rfl ?_
  simp [Bfoe_part, startM, e, Mn.freeOf]

mutual
/-- the rows of a tree -/
def lvs : Tr → List (List Int)
  | .leaf r => [r]
  | .node _ c => lvss c
def lvss : List Tr → List (List Int)
  | [] => []
  | t :: c => lvs t ++ lvss c
end
def rowv (r : List Int) : MV := .tup (r.map MV.int)
theorem lvss_snoc {c : List Tr} {t : Tr} : lvss (c ++ [t]) = lvss c ++ lvs t := by
  induction c with
  | nil => simp [lvss]
  | cons a c ih => rw [List.cons_append, lvss, ih, lvss, List.append_assoc]
theorem lvss_take_le {c : List Tr} {i : Nat} : (lvss (c.take i)).length ≤ (lvss c).length := by
  induction c generalizing i with
  | nil => simp [lvss]
  | cons a c ih =>
    cases i with
    | zero => simp [lvss]
    | succ i => rw [List.take_succ_cons, lvss, lvss, List.length_append, List.length_append]; have := ih (i := i); omega
theorem lvs_mem_le {c : List Tr} {t : Tr} (h : t ∈ c) : (lvs t).length ≤ (lvss c).length := by
  induction c with
  | nil => cases h
  | cons a c ih =>
    rw [lvss, List.length_append]
    rcases List.mem_cons.mp h with rfl | h
    · omega
    · have := ih h; omega

theorem leaves_ok (h1 : T[x.lis_node]? = some ⟨1, 1, Blis_node x⟩) (h2 : T[x.lleaves]? = some ⟨1, 3, Blleaves x⟩) :
    ∀ t, (lvs t).length ≤ 100000 → ∀ k, dep t + 2 ≤ k → run T L k x.lleaves [enc t] = some (.lst ((lvs t).map rowv), true) := by
  refine Tr.ind ?_ ?_
  · intro r hl k hk
    obtain ⟨k, rfl⟩ : ∃ j, k = j + 1 := ⟨k - 1, by omega⟩
    rw [dep] at hk
    have e1 := isnode_row (L := L) h1 (k := k) (by omega) false r
    refine run_eq h2 rfl ?_
    rw [enc_leaf]
    simp [Blleaves, startM, e1, Mn.freeOf, MV.noLst, lvs, rowv]
  · intro kd c ih hl k hk
    obtain ⟨k, rfl⟩ : ∃ j, k = j + 1 := ⟨k - 1, by omega⟩
    rw [dep] at hk
    rw [lvs] at hl
    have e1 := isnode_node (L := L) h1 (k := k) (by omega) false (kw kd) (pr false (encs c))
    refine run_eq h2 rfl ?_
    rw [enc_node]
    simp [Blleaves, startM, e1, Mn.freeOf, MV.noLst]
    refine W.for (encs c) (fun i σ => ∃ z, σ = [some (pr false [MV.str (kw kd), pr false (encs c)], false), some (.lst ((lvss (c.take i)).map rowv), true), z]) (by simp) ⟨none, rfl⟩ ?_ ?_
    · rintro i v σ hv ⟨z, rfl⟩
      have hi : i < c.length := by
        rcases Nat.lt_or_ge i c.length with q | q
        · exact q
        · rw [encs_map, List.getElem?_eq_none (by rw [List.length_map]; exact q)] at hv; cases hv
      rw [encs_map, List.getElem?_map, List.getElem?_eq_getElem hi] at hv
      cases hv
      have hm : c[i] ∈ c := List.getElem_mem hi
      have ht : c.take (i + 1) = c.take i ++ [c[i]] := by rw [List.take_add_one, List.getElem?_eq_getElem hi]; rfl
      have b1 := lvs_mem_le hm
      have b2 := lvss_take_le (c := c) (i := i)
      have e := ih c[i] hm (by omega) k (by have := deps_mem hm; omega)
      rw [ht, lvss_snoc]
      have hz : (lvss (c.take i)).length + (lvs c[i]).length ≤ 4000000 := by omega
      simp [e, hz]
    · rintro σ ⟨z, rfl⟩
      have hl' : (encs c).length = c.length := by rw [encs_map, List.length_map]
      rw [hl', List.take_length]
      simp [lvs]

mutual
/-- how many options a kind has -/
def cnt (j : Bool) : Tr → Nat
  | .leaf _ => 1
  | .node k c => if k == j then (cnts j c).sum else (cnts j c).foldl (· * ·) 1
def cnts (j : Bool) : List Tr → List Nat
  | [] => []
  | t :: c => cnt j t :: cnts j c
end
theorem cnts_map {j} : ∀ c, cnts j c = c.map (cnt j)
  | [] => rfl
  | t :: c => by rw [cnts, cnts_map c]; rfl
theorem foldl_mul {l : List Nat} : ∀ {a : Nat}, l.foldl (· * ·) a = a * l.foldl (· * ·) 1 := by
  induction l with
  | nil => intro a; simp
  | cons x r ih => intro a; rw [List.foldl_cons, ih, List.foldl_cons, ih (a := 1 * x)]; simp [Nat.mul_assoc]
theorem lvs_pos {n P} : ∀ t, OkP n P t → 1 ≤ (lvs t).length := by
  refine Tr.ind ?_ ?_
  · intro r _; rw [lvs]; exact Nat.le_refl _
  · intro k c ih o
    cases o with
    | node hc hl ha =>
      rw [lvs]
      match c, hc with
      | t :: c, _ =>
        have := ih t List.mem_cons_self (ha t List.mem_cons_self)
        rw [lvss, List.length_append]; omega
theorem cnt_bd {n j} : ∀ t, Ok n t → 1 ≤ cnt j t ∧ cnt j t ≤ 2 ^ (lvs t).length := by
  refine Tr.ind ?_ ?_
  · intro r _; rw [cnt, lvs]; exact ⟨Nat.le_refl _, by show 1 ≤ 2 ^ 1; decide⟩
  · intro k c ih o
    cases o with
    | node hc hl ha =>
      have key : ∀ c : List Tr, (∀ t ∈ c, 1 ≤ cnt j t ∧ cnt j t ≤ 2 ^ (lvs t).length) → (∀ t ∈ c, 1 ≤ (lvs t).length) → 1 ≤ (cnts j c).foldl (· * ·) 1 ∧ (cnts j c).foldl (· * ·) 1 ≤ 2 ^ (lvss c).length ∧ (c ≠ [] → 1 ≤ (cnts j c).sum ∧ (cnts j c).sum ≤ 2 ^ (lvss c).length) := by
        intro c
        induction c with
        | nil => intro _ _; exact ⟨Nat.le_refl _, Nat.le_refl _, fun h => absurd rfl h⟩
        | cons t c ihc =>
          intro h hp
          obtain ⟨a1, a2, a3⟩ := ihc (fun x hx => h x (List.mem_cons_of_mem _ hx)) (fun x hx => hp x (List.mem_cons_of_mem _ hx))
          obtain ⟨b1, b2⟩ := h t List.mem_cons_self
          have b3 := hp t List.mem_cons_self
          rw [cnts, lvss, List.length_append, List.foldl_cons, foldl_mul, List.sum_cons, Nat.pow_add]
          refine ⟨Nat.mul_pos (by omega) a1, Nat.mul_le_mul (by omega) a2, fun _ => ⟨by omega, ?_⟩⟩
          by_cases hc : c = []
          · subst hc; simp [cnts, lvss]; exact b2
          · obtain ⟨c1, c2⟩ := a3 hc
            have : 1 ≤ (lvss c).length := by
              match c, hc with
              | y :: c, _ =>
                have := hp y (List.mem_cons_of_mem _ List.mem_cons_self)
                rw [lvss, List.length_append]; omega
            have p1 : 2 ≤ 2 ^ (lvs t).length := by
              have := Nat.pow_le_pow_right (n := 2) (by decide) b3
              omega
            have p2 : 2 ≤ 2 ^ (lvss c).length := by
              have := Nat.pow_le_pow_right (n := 2) (by decide) this
              omega
            have : 2 ^ (lvs t).length + 2 ^ (lvss c).length ≤ 2 ^ (lvs t).length * 2 ^ (lvss c).length := by
              generalize 2 ^ (lvs t).length = p at *
              generalize 2 ^ (lvss c).length = q at *
              have h1 : 2 * q ≤ p * q := Nat.mul_le_mul_right q p1
              have h2 : p * 2 ≤ p * q := Nat.mul_le_mul_left p p2
              omega
            omega
      obtain ⟨a1, a2, a3⟩ := key c (fun t h => ih t h (ha t h)) (fun t h => lvs_pos t (ha t h))
      rw [cnt, lvs]
      split
      · exact a3 hc
      · exact ⟨a1, a2⟩

theorem cnt_Bd {n j} {t : Tr} (o : Ok n t) (hl : (lvs t).length ≤ 1000) : Bd (cnt j t : Int) 1001 := ⟨by
  rw [Int.natAbs_natCast]
  exact Nat.lt_of_le_of_lt (cnt_bd t o).2 (Nat.pow_lt_pow_right (by decide) (by omega))⟩
theorem prod_le {n j} : ∀ {c : List Tr}, (∀ t ∈ c, Ok n t) → (cnts j c).foldl (· * ·) 1 ≤ 2 ^ (lvss c).length
  | [], _ => Nat.le_refl _
  | t :: c, h => by
    rw [cnts, lvss, List.length_append, List.foldl_cons, foldl_mul, Nat.pow_add, Nat.one_mul]
    exact Nat.mul_le_mul (cnt_bd t (h t List.mem_cons_self)).2 (prod_le fun x hx => h x (List.mem_cons_of_mem _ hx))
theorem cnts_snoc {j} {c : List Tr} {t : Tr} : cnts j (c ++ [t]) = cnts j c ++ [cnt j t] := by rw [cnts_map, cnts_map, List.map_append]; rfl

def ci (l : List Nat) : List Int := l.map Int.ofNat
theorem ci_sum (l : List Nat) : (ci l).sum = (l.sum : Nat) := by
  induction l with
  | nil => rfl
  | cons a l ih => rw [ci, List.map_cons, List.sum_cons, List.sum_cons]; rw [ci] at ih; rw [ih]; push_cast; rfl

theorem count_ok (h1 : T[x.lis_node]? = some ⟨1, 1, Blis_node x⟩) (h2 : T[x.lcount]? = some ⟨2, 6, Blcount x⟩) {n : Nat} (j : Bool) :
    ∀ t, Ok n t → (lvs t).length ≤ 1000 → ∀ k, dep t + 2 ≤ k → run T L k x.lcount [enc t, .str (kw j)] = some (.int (cnt j t : Nat), false) := by
  refine Tr.ind ?_ ?_
  · intro r o hl k hk
    obtain ⟨k, rfl⟩ : ∃ j, k = j + 1 := ⟨k - 1, by omega⟩
    rw [dep] at hk
    have e1 := isnode_row (L := L) h1 (k := k) (by omega) false r
    refine run_eq h2 rfl ?_
    rw [enc_leaf]
    simp [Blcount, startM, e1, Mn.freeOf, MV.noLst, cnt]
  · intro kd c ih o hl k hk
    obtain ⟨k, rfl⟩ : ∃ j, k = j + 1 := ⟨k - 1, by omega⟩
    rw [dep] at hk
    rw [lvs] at hl
    cases o with
    | node hc hcl hok =>
      have e1 := isnode_node (L := L) h1 (k := k) (by omega) false (kw kd) (pr false (encs c))
      have cpv : ev (run T L k) (.comp (.call x.lcount [.var 5, .var 1]) (.nm 5) (.seq (.idx (.var 0) (.lit (.int 1)))) []) [some (pr false [.str (kw kd), pr false (encs c)], false), some (.str (kw j), false), none, none, none, none] = some (.lst ((ci (cnts j c)).map MV.int), .fr) := by
        refine comp_pt (xs := encs c) (t := .sh) _ (by simp) (by simp [encs_map, cnts_map, ci]) (by rw [encs_map, List.length_map]; omega) ?_
        intro i w y hw hy
        rw [ci, cnts_map, List.map_map, List.map_map, List.getElem?_map] at hy
        rw [encs_map, List.getElem?_map] at hw
        cases hx : c[i]? with
        | none => rw [hx] at hw; cases hw
        | some t =>
          rw [hx] at hw hy
          cases hw
          cases hy
          have hm := List.mem_of_getElem? hx
          have e := ih t hm (hok t hm) (by have := lvs_mem_le hm; omega) k (by have := deps_mem hm; omega)
          simp [turn1, e, Mn.freeOf, MV.noLst]
      refine run_eq h2 rfl ?_
      rw [enc_node]
      by_cases hj : kd = j
      · subst hj
        have e2 := bi_sum (l := ci (cnts kd c))
        rw [ci_sum] at e2
        simp [-List.map_map, Blcount, startM, e1, cpv, cmp_kk, e2, Mn.freeOf, MV.noLst, cnt]
      · have hb : (kd == j) = false := by simpa using hj
        simp [-List.map_map, Blcount, startM, e1, cpv, cmp_kk, hb, Mn.freeOf, MV.noLst]
        refine W.for ((ci (cnts j c)).map MV.int) (fun i σ => ∃ z, σ = [some (pr false [MV.str (kw kd), pr false (encs c)], false), some (.str (kw j), false), some (.lst ((ci (cnts j c)).map MV.int), false), some (.int ((cnts j (c.take i)).foldl (· * ·) 1 : Nat), false), z, none]) (by simp) ⟨none, by simp [cnts]⟩ ?_ ?_
        · rintro i v σ hv ⟨z, rfl⟩
          rw [ci, cnts_map, List.map_map, List.map_map, List.getElem?_map] at hv
          cases hx : c[i]? with
          | none => rw [hx] at hv; cases hv
          | some t =>
            rw [hx] at hv
            cases hv
            have hm := List.mem_of_getElem? hx
            have ht : c.take (i + 1) = c.take i ++ [t] := by rw [List.take_add_one, hx]; rfl
            haveI b1 := cnt_Bd (j := j) (hok t hm) (by have := lvs_mem_le hm; omega)
            haveI b2 : Bd (((cnts j (c.take i)).foldl (· * ·) 1 : Nat) : Int) 1001 := ⟨by
              rw [Int.natAbs_natCast]
              refine Nat.lt_of_le_of_lt (prod_le (n := n) fun t h => hok t (List.mem_of_mem_take h)) (Nat.pow_lt_pow_right (by decide) ?_)
              have := lvss_take_le (c := c) (i := i)
              omega⟩
            rw [ht, cnts_snoc, List.foldl_append]
            simp (decide := true)
        · rintro σ ⟨z, rfl⟩
          have hl' : ((ci (cnts j c)).map MV.int).length = c.length := by simp [ci, cnts_map]
          rw [hl', List.take_length]
          simp [cnt, hj]

/-- a choice that a kind may make -/
inductive IsOpt (j : Bool) : Tr → Tr → Prop where
  | leaf (r : List Int) : IsOpt j (.leaf r) (.leaf r)
  | own {c : List Tr} {t o : Tr} (h : t ∈ c) (i : IsOpt j t o) : IsOpt j (.node j c) o
  | other {k : Bool} {c os : List Tr} (h : k ≠ j) (l : os.length = c.length) (a : ∀ (i : Nat) t o, c[i]? = some t → os[i]? = some o → IsOpt j t o) : IsOpt j (.node k c) (.node k os)

theorem option_ok (h1 : T[x.lis_node]? = some ⟨1, 1, Blis_node x⟩) (h2 : T[x.lcount]? = some ⟨2, 6, Blcount x⟩) (h3 : T[x.loption]? = some ⟨3, 7, Bloption x⟩) {n : Nat} (j : Bool) :
    ∀ t, Ok n t → (lvs t).length ≤ 1000 → ∀ num : Int, 0 ≤ num → num < cnt j t → ∀ k, dep t + 3 ≤ k → ∃ o, run T L k x.loption [enc t, .str (kw j), .int num] = some (enc o, false) ∧ IsOpt j t o := by
  refine Tr.ind ?_ ?_
  · intro r o hl num h0 hn k hk
    obtain ⟨k, rfl⟩ : ∃ j, k = j + 1 := ⟨k - 1, by omega⟩
    rw [dep] at hk
    have e1 := isnode_row (L := L) h1 (k := k) (by omega) false r
    refine ⟨.leaf r, run_eq h3 rfl ?_, .leaf r⟩
    rw [enc_leaf]
    simp [Bloption, startM, e1, Mn.freeOf, MV.noLst]
  · intro kd c ih o hl num h0 hn k hk
    obtain ⟨k, rfl⟩ : ∃ j, k = j + 1 := ⟨k - 1, by omega⟩
    rw [dep] at hk
    rw [lvs] at hl
    cases o with
    | node hc hcl hok =>
      have e1 := isnode_node (L := L) h1 (k := k) (by omega) false (kw kd) (pr false (encs c))
      have : OB (run T L (k + 1) x.loption [enc (.node kd c), .str (kw j), .int num]) (fun r => ∃ o, r = (enc o, false) ∧ IsOpt j (.node kd c) o) := by
        refine run_of h3 rfl ?_
        rw [enc_node]
        by_cases hj : kd = j
        · subst hj
          rw [cnt, if_pos (by simp)] at hn
          simp [Bloption, startM, e1, cmp_kk, Mn.freeOf, MV.noLst]
          refine W.for (encs c) (fun i σ => ((cnts kd (c.take i)).sum : Int) ≤ num ∧ ∃ z z', σ = [some (pr false [MV.str (kw kd), pr false (encs c)], false), some (.str (kw kd), false), some (.int num, false), some (.int (num - ((cnts kd (c.take i)).sum : Nat)), false), none, z, z']) (by simp) ⟨by simpa [cnts] using h0, none, none, by simp [cnts]⟩ ?_ ?_
          · rintro i v σ hv ⟨hs, z, z', rfl⟩
            rw [encs_map, List.getElem?_map] at hv
            cases hx : c[i]? with
            | none => rw [hx] at hv; cases hv
            | some t =>
              rw [hx] at hv
              cases hv
              have hm := List.mem_of_getElem? hx
              have ht : c.take (i + 1) = c.take i ++ [t] := by rw [List.take_add_one, hx]; rfl
              have hlt := lvs_mem_le hm
              have hd := deps_mem hm
              have e2 := count_ok (L := L) h1 h2 kd t (hok t hm) (by omega) k (by omega)
              rw [ht, cnts_snoc, List.sum_append]
              simp [e2, Mn.freeOf, MV.noLst]
              refine IF.dec (fun hlt' => ?_) (fun hlt' => ?_)
              · obtain ⟨o, e3, io⟩ := ih t hm (hok t hm) (by omega) (num - ((cnts kd (c.take i)).sum : Nat)) (by omega) hlt' k (by omega)
                simp [e3, Mn.freeOf]
                exact ⟨o, rfl, .own hm io⟩
              · refine ⟨by omega, by omega⟩
          · rintro σ ⟨hs, z, z', rfl⟩
            have hl' : (encs c).length = c.length := by rw [encs_map, List.length_map]
            rw [hl', List.take_length] at hs
            omega
        · have hb : (kd == j) = false := by simpa using hj
          simp [Bloption, startM, e1, cmp_kk, hb, Mn.freeOf, MV.noLst]
          refine W.for (encs c).reverse (fun i σ => ∃ os r z z', os.length = i ∧ (∀ (q : Nat) t o, c[c.length - i + q]? = some t → os[q]? = some o → IsOpt j t o) ∧ σ = [some (pr false [MV.str (kw kd), pr false (encs c)], false), some (.str (kw j), false), some (.int num, false), some (.int r, false), some (.lst (encs os), true), z, z']) (by simp) ⟨[], num, none, none, rfl, fun q t o h k => by simp at k, by simp [encs]⟩ ?_ ?_
          · rintro i v σ hv ⟨os, r, z, z', ho, ha, rfl⟩
            have hi : i < c.length := by
              rcases Nat.lt_or_ge i c.length with q | q
              · exact q
              · rw [List.getElem?_eq_none (by rw [List.length_reverse, encs_map, List.length_map]; exact q)] at hv; cases hv
            have hi' : c.length - 1 - i < c.length := by omega
            rw [List.getElem?_reverse (by rw [encs_map, List.length_map]; exact hi), encs_map, List.length_map, List.getElem?_map, List.getElem?_eq_getElem hi'] at hv
            cases hv
            have hm : c[c.length - 1 - i] ∈ c := List.getElem_mem hi'
            have hdr : c[c.length - (i + 1)]? = some c[c.length - 1 - i] := by
              rw [show c.length - (i + 1) = c.length - 1 - i by omega, List.getElem?_eq_getElem hi']
            generalize c[c.length - 1 - i] = t at hm hdr
            have hlt := lvs_mem_le hm
            have hd := deps_mem hm
            have e2 := count_ok (L := L) h1 h2 j t (hok t hm) (by omega) k (by omega)
            have hp := (cnt_bd (j := j) t (hok t hm)).1
            haveI b1 := cnt_Bd (j := j) (hok t hm) (by omega)
            have hp' : (0 : Int) < (cnt j t : Nat) := by omega
            obtain ⟨o, e3, io⟩ := ih t hm (hok t hm) (by omega) (r % (cnt j t : Nat)) (Int.emod_nonneg _ (by omega)) (Int.emod_lt_of_pos _ hp') k (by omega)
            have hz : os.length + 1 ≤ 4000000 := by omega
            have hp2 : 0 < cnt j t := hp
            have hz' : 1 + (encs os).length ≤ 4000000 := by rw [encs_map, List.length_map]; omega
            simp (decide := true) [e2, e3, hp2, hz', Mn.freeOf, MV.noLst]
            refine ⟨o :: os, by simp [ho], ?_, by rw [encs]⟩
            intro q t' o' a b
            cases q with
            | zero => rw [Nat.add_zero, hdr] at a; cases a; cases b; exact io
            | succ q => exact ha q t' o' (by rw [show c.length - i + q = c.length - (i + 1) + (q + 1) by omega]; exact a) b
          · rintro σ ⟨os, r, z, z', ho, ha, rfl⟩
            have hl' : (encs c).length = c.length := by rw [encs_map, List.length_map]
            rw [List.length_reverse, hl'] at ho ha
            simp
            refine ⟨.node kd os, by rw [enc_node]; rfl, .other hj ho ?_⟩
            intro q t o a b
            exact ha q t o (by rw [Nat.sub_self, Nat.zero_add]; exact a) b
      obtain ⟨r, e, o, rfl, h⟩ := this
      exact ⟨o, e, h⟩

/-- a value with lists for some of its tuples -/
inductive Dm : MV → MV → Prop where
  | non : Dm .non .non
  | bl (b) : Dm (.bl b) (.bl b)
  | int (i) : Dm (.int i) (.int i)
  | str (z) : Dm (.str z) (.str z)
  | tup (s : Bool) (l l' : List MV) (h : l'.length = l.length) (a : ∀ (i : Nat) a b, l[i]? = some a → l'[i]? = some b → Dm a b) : Dm (.tup l) (pr s l')

theorem dressed_ok (h1 : T[x.ldressed]? = some ⟨2, 6, Bldressed x⟩) : ∀ (k : Nat) (d : MV), deep d + 1 ≤ k → d.noLst = true → fits d → ∀ turn : Int, ∃ v own, run T L k x.ldressed [d, .int turn] = some (v, own) ∧ Dm d v := by
  intro k
  induction k with
  | zero => intro d h; omega
  | succ k ih =>
    intro d hd nl fi turn
    have : OB (run T L (k + 1) x.ldressed [d, .int turn]) (fun r => ∃ v own, r = (v, own) ∧ Dm d v) := by
      refine run_of h1 rfl ?_
      cases d with
      | non => simp [Bldressed, startM]; exact .non
      | bl b => simp [Bldressed, startM]; exact .bl b
      | int i => simp [Bldressed, startM]; exact .int i
      | str z => simp [Bldressed, startM]; exact .str z
      | lst l => simp [MV.noLst] at nl
      | tup l =>
        rw [deep] at hd
        rw [MV.noLst] at nl
        rw [fits] at fi
        have nlm : ∀ a ∈ l, a.noLst = true := by
          clear hd fi
          induction l with
          | nil => intro a h; cases h
          | cons b r ihr =>
            rw [MV.noLsts, Bool.and_eq_true] at nl
            intro a h
            rcases List.mem_cons.mp h with rfl | h
            · exact nl.1
            · exact ihr nl.2 a h
        have cx : ∀ af : Int, ∃ ys, ev (run T L k) (.comp (.call x.ldressed [.var 5, .var 2]) (.nm 5) (.seq (.var 0)) []) [some (.tup l, false), some (.int turn, false), some (.int af, false), none, none, none] = some (.lst ys, .fr) ∧ ys.length = l.length ∧ ∀ (i : Nat) x y, l[i]? = some x → ys[i]? = some y → Dm x y := by
          intro af
          refine comp_ex (xs := l) (t := .sh) (by simp) (by have := fi.1; omega) ?_
          intro a ha
          obtain ⟨v, own, e, p⟩ := ih a (by have := deeps_le ha; omega) (nlm a ha) (fitss_all fi.2 ha) af
          refine ⟨v, ?_, p⟩
          cases own <;> simp [turn1, e]
        refine W.split 3 (fun σ => ∃ af : Int, σ = [some (.tup l, false), some (.int turn, false), some (.int af, false), none, none, none]) ?_ ?_
        · simp [Bldressed, startM]
          exact IF.dec (fun _ => by first | trivial | exact ⟨_, rfl⟩) (fun _ => by first | trivial | exact ⟨_, rfl⟩)
        · rintro σ ⟨af, rfl⟩
          obtain ⟨ys, e, hl, hp⟩ := cx af
          simp [Bldressed, e]
          refine W.for l (fun i σ => ∃ (b : Bool) (z : Option (MV × Bool)), σ = [some (.tup l, false), some (.int turn, false), some (.int af, false), some (.lst ys, true), some (.bl b, false), z]) (by simp) ⟨true, none, rfl⟩ ?_ ?_
          · rintro i v σ hv ⟨b, z, rfl⟩
            simp
            exact IF.by (fun _ => by first | trivial | exact ⟨_, _, rfl⟩ | exact ⟨_, rfl⟩) (fun _ => by first | trivial | exact ⟨_, _, rfl⟩ | exact ⟨_, rfl⟩)
          · rintro σ ⟨b, z, rfl⟩
            have r1 : ∃ v own, ((MV.lst ys, true) : MV × Bool) = (v, own) ∧ Dm (.tup l) v := ⟨_, _, rfl, .tup true l ys hl hp⟩
            have r2 : ∃ v own, ((MV.tup ys, false) : MV × Bool) = (v, own) ∧ Dm (.tup l) v := ⟨_, _, rfl, .tup false l ys hl hp⟩
            by_cases t1 : turn = 1
            · subst t1; simp; simpa using r1
            by_cases t4 : turn = 4
            · subst t4; simp; simpa using r1
            by_cases t2 : turn = 2
            · subst t2; cases b <;> simp <;> first | simpa using r1 | simpa using r2
            by_cases t3 : turn = 3
            · subst t3; cases b <;> simp <;> first | simpa using r1 | simpa using r2
            simp [t1, t2, t3, t4]; simpa using r2
    obtain ⟨r, e, v, own, rfl, p⟩ := this
    exact ⟨v, own, e, p⟩

theorem Dm.ints {r : List Int} {l : List MV} (h : l.length = (r.map MV.int).length) (a : ∀ (i : Nat) a b, (r.map MV.int)[i]? = some a → l[i]? = some b → Dm a b) : l = r.map MV.int := by
  refine List.ext_getElem? fun i => ?_
  rcases Nat.lt_or_ge i l.length with q | q
  · have q2 : i < (r.map MV.int).length := by omega
    have := a i _ _ (List.getElem?_eq_getElem q2) (List.getElem?_eq_getElem q)
    rw [List.getElem?_eq_getElem q, List.getElem?_eq_getElem q2]
    rw [List.getElem_map] at this ⊢
    generalize l[i] = w at this ⊢
    cases this
    rfl
  · rw [List.getElem?_eq_none q, List.getElem?_eq_none (by omega)]
theorem dr_of : ∀ t v, Dm (enc t) v → Dr t v := by
  refine Tr.ind ?_ ?_
  · intro r v h
    rw [enc] at h
    cases h with
    | tup s _ l' hl a =>
      rw [Dm.ints hl a]
      exact .leaf s r
  · intro k c ih v h
    rw [enc] at h
    cases h with
    | tup s _ l' hl a =>
      match l', hl with
      | [p, q], _ =>
        have hp := a 0 _ _ rfl rfl
        have hq := a 1 _ _ rfl rfl
        cases hp
        cases hq with
        | tup s' _ vs hl' a' =>
          refine .node s s' k c vs (by rw [hl', encs_map, List.length_map]) ?_
          intro i t v ht hv
          refine ih t (List.mem_of_getElem? ht) v (a' i (enc t) v ?_ hv)
          rw [encs_map, List.getElem?_map, ht]; rfl
theorem deep_enc {n} : ∀ t, Ok n t → deep (enc t) ≤ 2 * dep t + 1 := by
  refine Tr.ind ?_ ?_
  · intro r _; rw [enc, deep, deeps_mi, dep]; omega
  · intro k c ih o
    cases o with
    | node hc hl ha =>
      rw [enc, deep, deeps, deeps, deeps, deep, dep]
      have : deeps (encs c) ≤ 2 * deps c + 1 := by
        rw [encs_map]
        refine deeps_all fun y hy => ?_
        obtain ⟨t, ht, rfl⟩ := List.mem_map.mp hy
        have := ih t ht (ha t ht)
        have := deps_mem ht
        omega
      have : deep (.str (kw k)) = 0 := by simp [deep]
      omega
theorem fits_enc {n} (hn : n ≤ 1000) : ∀ t, Ok n t → fits (enc t) := by
  refine Tr.ind ?_ ?_
  · intro r o
    cases o with
    | leaf hr _ => rw [enc, fits]; exact ⟨by rw [List.length_map]; omega, fitss_mi⟩
  · intro k c ih o
    cases o with
    | node hc hl ha =>
      rw [enc, fits]
      refine ⟨by show 2 < 4000000; decide, ?_⟩
      rw [fitss, fitss, fitss, fits]
      · refine ⟨?_, ⟨by rw [encs_map, List.length_map]; omega, ?_⟩, trivial⟩
        · cases k <;> (simp only [fits, okSize]; decide +kernel)
        · clear hc hl
          induction c with
          | nil => trivial
          | cons t c ihc => rw [encs, fitss]; exact ⟨ih t List.mem_cons_self (ha t List.mem_cons_self), ihc (fun x hx => ih x (List.mem_cons_of_mem _ hx)) (fun x hx => ha x (List.mem_cons_of_mem _ hx))⟩
end

end Tw
end Mn.S

set_option Elab.async false
set_option linter.all false
set_option maxRecDepth 100000
set_option exponentiation.threshold 10000
/-! Mn14: the draws of rows, trees and vectors that many laws share. -/
namespace Mn.S.Tw
open PySem
variable {T : List FD} {L : Nat} {x : Ix}

/-- rows of one width, bounded -/
structure Rows (n m : Nat) (b : Int) (rows : List (List Int)) : Prop where
  ne : rows ≠ []
  le : rows.length ≤ m
  wd : ∀ r ∈ rows, r.length = n
  bd : ∀ r ∈ rows, ∀ x ∈ r, -b ≤ x ∧ x ≤ b
def lrow (r : List Int) : MV := .lst (r.map MV.int)

theorem at_lit {L : List Int} {i : Int} (h : 0 ≤ i) (k : i < L.length) {P : Int → Prop} (hP : ∀ x ∈ L, P x) : ∃ x, atM (L.map MV.int) i = some (.int x) ∧ P x := by
  obtain ⟨x, e, m⟩ := atM_in (l := L.map MV.int) h (by rw [List.length_map]; exact k)
  obtain ⟨n, hn, rfl⟩ := List.mem_map.mp m
  exact ⟨n, e, hP n hn⟩

def psz : List Int := [16, 12, 1000000, 1000000] ++ (List.replicate 9 [7, 11, 11, 11, 11]).flatten
theorem psz_at : ∀ k, k < 9 → ∀ j, j < 4 → psz[5 + 5 * k + j]? = some 11 := by decide
theorem psz_at0 : ∀ k, k < 9 → psz[4 + 5 * k]? = some 7 := by decide

theorem turns_exi {f : MV → Option (List MV)} {P : Int → Prop} : ∀ {xs : List MV}, (∀ x ∈ xs, ∃ v : Int, f x = some [.int v] ∧ P v) → ∃ r : List Int, turns f xs = some (r.map MV.int) ∧ r.length = xs.length ∧ ∀ v ∈ r, P v
  | [], _ => ⟨[], rfl, rfl, fun v h => (by cases h)⟩
  | x :: xs, h => by
    obtain ⟨y, e, p⟩ := h x List.mem_cons_self
    obtain ⟨ys, e2, l, q⟩ := turns_exi (fun z hz => h z (List.mem_cons_of_mem _ hz))
    refine ⟨y :: ys, ?_, by rw [List.length_cons, List.length_cons, l], ?_⟩
    · rw [turns, e, Option.bind_some, e2]; rfl
    · intro v hv
      rcases List.mem_cons.mp hv with rfl | hv
      · exact p
      · exact q v hv
theorem comp_exi {Φ : Fns} {σ : MS} {elt tg it ifs} {xs : List MV} {t} {P : Int → Prop} (e : evI Φ it σ = some (xs, t)) (hx : xs.length ≤ 4000000) (hg : ∀ x ∈ xs, ∃ v : Int, turn1 Φ elt tg ifs σ x = some [.int v] ∧ P v) :
    ∃ r : List Int, ev Φ (.comp elt tg it ifs) σ = some (.lst (r.map MV.int), .fr) ∧ r.length = xs.length ∧ ∀ v ∈ r, P v := by
  obtain ⟨ys, e1, l, p⟩ := turns_exi hg
  refine ⟨ys, ?_, l, p⟩
  rw [ev_comp, e, Option.bind_some, e1, Option.bind_some, szS_ok (by rw [List.length_map]; omega)]

/-- within the rows' loop -/
def PI1 (c : Int) (n : Nat) (ds : List Int) (far : Int) (rows : List (List Int)) (i : Nat) (b : Int) (σ : MS) : Prop := ∃ (r : List Int) (d e f g : Option (MV × Bool)), r.length = n ∧ (∀ x ∈ r, -b ≤ x ∧ x ≤ b) ∧
  σ = [some (.int c, false), some (.int n, false), some (.lst (ds.map MV.int), true), some (.lst ([0, 1, -1, 2, -2, 3, -3, 5, -7, 11, -40].map MV.int), true), some (.int far, false), some (.lst (rows.map lrow), true), some (.int i, false), some (.lst (r.map MV.int), true), d, e, f, g]

/-- the invariant of the rows' loop -/
def PI0 (c : Int) (n : Nat) (ds : List Int) (far : Int) (i : Nat) (σ : MS) : Prop := ∃ (rows : List (List Int)) (a b d e f g : Option (MV × Bool)), rows.length = i ∧ (∀ r ∈ rows, r.length = n) ∧ (∀ r ∈ rows, ∀ x ∈ r, -(50 + (i : Int)) ≤ x ∧ x ≤ 50 + i) ∧
  σ = [some (.int c, false), some (.int n, false), some (.lst (ds.map MV.int), true), some (.lst ([0, 1, -1, 2, -2, 3, -3, 5, -7, 11, -40].map MV.int), true), some (.int far, false), some (.lst (rows.map lrow), true), a, b, d, e, f, g]

section
variable {Φ : Fns} {s0 s1 s2 s3 s4 s6 s7 s8 s9 s10 s11 : Option (MV × Bool)}
theorem comp2_rows {E : CE} {f : Int → Int} {t : Bool} (rows : List (List Int)) (hl : rows.length ≤ 1000) (hw : ∀ r ∈ rows, r.length ≤ 1000) (hE : ∀ r ∈ rows, ∀ x ∈ r, ev Φ E [s0, s1, s2, s3, s4, some (.lst (rows.map lrow), t), s6, s7, s8, some (lrow r, false), s10, some (.int x, false)] = some (.int (f x), .sh)) :
    ev Φ (.comp (.comp E (.nm 11) (.seq (.var 9)) []) (.nm 9) (.seq (.var 5)) []) [s0, s1, s2, s3, s4, some (.lst (rows.map lrow), t), s6, s7, s8, s9, s10, s11] = some (.lst ((rows.map (fun r => r.map f)).map lrow), .fr) := by
  refine comp_pt (xs := rows.map lrow) (t := if t then .bo else .sh) _ (by simp) (by simp) (by simp; omega) ?_
  intro i w y hx hy
  rw [List.map_map, List.getElem?_map] at hy
  rw [List.getElem?_map] at hx
  cases hr : rows[i]? with
  | none => rw [hr] at hx; cases hx
  | some r =>
    rw [hr] at hx hy
    cases hx
    cases hy
    have hm := List.mem_of_getElem? hr
    have e := comp_ints (Φ := Φ) (σ := [s0, s1, s2, s3, s4, some (.lst (rows.map lrow), t), s6, s7, s8, some (lrow r, false), s10, s11]) (elt := E) (tg := .nm 11) (it := .seq (.var 9)) (ifs := []) (xs := r.map MV.int) (t := .sh) (fun x => f (nu x)) (by simp [lrow]) (by have := hw r hm; simp; omega) (by
      intro x hx
      obtain ⟨n, hn, rfl⟩ := List.mem_map.mp hx
      have := hE r hm n hn
      simp [turn1, this])
    simp [turn1, e]
    simp [lrow, Function.comp_def]
theorem comp_rowv {t : Bool} (rows : List (List Int)) (hl : rows.length ≤ 1000) : ev Φ (.comp (.bi .tuple [.var 9]) (.nm 9) (.seq (.var 5)) []) [s0, s1, s2, s3, s4, some (.lst (rows.map lrow), t), s6, s7, s8, s9, s10, s11] = some (.lst (rows.map rowv), .fr) := by
  refine comp_pt (xs := rows.map lrow) (t := if t then .bo else .sh) _ (by simp) (by simp) (by simp; omega) ?_
  intro i w y hx hy
  rw [List.getElem?_map] at hy
  rw [List.getElem?_map] at hx
  cases hr : rows[i]? with
  | none => rw [hr] at hx; cases hx
  | some r =>
    rw [hr] at hx hy
    cases hx
    cases hy
    simp [turn1, lrow, rowv]
end

theorem pool_a (h0 : T[x.ldigits]? = some ⟨2, 8, bdigits⟩) (h1 : T[x.lpool]? = some ⟨2, 12, Blpool x⟩) {k : Nat} (hk : 1 ≤ k) (c : Int) (n : Nat) (hn : 1 ≤ n) (hn4 : n ≤ 4) :
    W (run T L k) L (Blpool x) (startM 12 [.int c, .int n]) (fun fl => OB (resOf fl) (fun r => ∃ rows, r = (.lst (rows.map rowv), true) ∧ Rows n 9 2000000000000 rows)) := by
  obtain ⟨ds, hd, bd⟩ := digits_ok (L := L) h0 hk c psz (by decide) (by
    intro s hs
    have : s = 16 ∨ s = 12 ∨ s = 1000000 ∨ s = 7 ∨ s = 11 := by
      simp [psz] at hs; omega
    rcases this with rfl | rfl | rfl | rfl | rfl <;> exact ⟨by decide, Bd.up (n := 200) ⟨by decide⟩ (by decide)⟩)
  obtain ⟨d0, hd0, a0, b0⟩ := bd.get (i := 0) (s := 16) rfl
  obtain ⟨d1, hd1, a1, b1⟩ := bd.get (i := 1) (s := 12) rfl
  obtain ⟨d2, hd2, a2, b2⟩ := bd.get (i := 2) (s := 1000000) rfl
  obtain ⟨d3, hd3, a3, b3⟩ := bd.get (i := 3) (s := 1000000) rfl
  have at0 : ∀ (q : Nat) (d : Int), ds[q]? = some d → atM (ds.map MV.int) (q : Int) = some (.int d) := fun q d h => by rw [atM_nat, List.getElem?_map, h]; rfl
  have e0 : atM (ds.map MV.int) 0 = some (.int d0) := at0 0 d0 hd0
  have e1 : atM (ds.map MV.int) 1 = some (.int d1) := at0 1 d1 hd1
  have e2 : atM (ds.map MV.int) 2 = some (.int d2) := at0 2 d2 hd2
  have e3 : atM (ds.map MV.int) 3 = some (.int d3) := at0 3 d3 hd3
  obtain ⟨m, hm, m0, m1⟩ := at_lit (L := [5, 2, 3, 9, 4, 8, 5, 6, 9, 7, 8, 9, 3, 1, 6, 7]) (i := d0) a0 b0 (P := fun x => 1 ≤ x ∧ x ≤ 9) (by decide)
  have hd' : run T L k x.ldigits [MV.int c, .lst ([16, 12, 1000000, 1000000, 7, 11, 11, 11, 11, 7, 11, 11, 11, 11, 7, 11, 11, 11, 11, 7, 11, 11, 11, 11, 7, 11, 11, 11, 11, 7, 11, 11, 11, 11, 7, 11, 11, 11, 11, 7, 11, 11, 11, 11, 7, 11, 11, 11, 11].map MV.int)] = some (.lst (ds.map MV.int), true) := hd
  simp only [List.map_cons, List.map_nil] at hd' hm
  refine W.split 4 (PI0 c n ds ((d2 * 1000000 + d3) % 999999999900) 0) ?_ ?_
  · haveI : Bd d2 20 := Bd.rng a2 (by omega)
    simp (decide := true) [-atM_of, Blpool, startM, hd', e2, e3]
    exact ⟨[], none, none, none, none, none, none, rfl, fun r h => (by cases h), fun r h => (by cases h), rfl⟩
  · intro σ hσ
    have hf0 : 0 ≤ (d2 * 1000000 + d3) % 999999999900 := Int.emod_nonneg _ (by decide)
    have hf1 : (d2 * 1000000 + d3) % 999999999900 < 999999999900 := Int.emod_lt_of_pos _ (by decide)
    generalize (d2 * 1000000 + d3) % 999999999900 = far at hσ hf0 hf1
    have hm' : rngOk m = true := rngOk_b (by omega) (by omega)
    refine W.split 1 (PI0 c n ds far m.toNat) ?_ ?_
    · have hσ' := hσ
      obtain ⟨rows, _, _, _, _, _, _, hr, hw, hb, rfl⟩ := hσ
      simp [Blpool]
      refine W.for (rngM 0 m.toNat) (PI0 c n ds far) (by simp (decide := true) [-atM_of, e0, hm, hm']) hσ' ?_ (fun σ h => by simpa using h)
      clear hσ' hr hw hb rows
      rintro i v σ hv ⟨rows, a, b, d, e, f, g, hr, hw, hb, rfl⟩
      obtain ⟨hi, rfl⟩ := rngM_at hv
      have hi9 : i < 9 := by omega
      obtain ⟨q, hq, q0, q1⟩ := bd.get (psz_at0 i hi9)
      obtain ⟨q', hq', q0', q1'⟩ := bd.get (psz_at i hi9 0 (by decide))
      have g4 : atM (ds.map MV.int) (4 + 5 * (i : Int)) = some (.int q) := by
        have := at0 _ _ hq; rwa [show ((4 + 5 * i : Nat) : Int) = 4 + 5 * (i : Int) by push_cast; rfl] at this
      have g5 : atM (ds.map MV.int) (5 + 5 * (i : Int)) = some (.int q') := by
        have := at0 _ _ hq'; rwa [show ((5 + 5 * i + 0 : Nat) : Int) = 5 + 5 * (i : Int) by push_cast; rfl] at this
      haveI : Bd (i : Int) 10 := Bd.rng (by omega) (by omega)
      have hrn := rngOk_n (n := n) (by omega)
      rw [putT_nm, OB_some]
      simp only [Int.zero_add, setM_s, setM_z]
      refine W.split 1 (PI1 c n ds far rows i 40) ?_ ?_
      · obtain ⟨r0, er, lr, br⟩ := comp_exi (Φ := run T L k) (σ := [some (.int c, false), some (.int n, false), some (.lst (ds.map MV.int), true), some (.lst ([0, 1, -1, 2, -2, 3, -3, 5, -7, 11, -40].map MV.int), true), some (.int far, false), some (.lst (rows.map lrow), true), some (.int i, false), b, d, e, f, g]) (elt := .idx (.var 3) (.idx (.var 2) (.bin .add (.bin .add (.lit (.int 5)) (.bin .mul (.lit (.int 5)) (.var 6))) (.var 10)))) (tg := .nm 10) (it := .rng1 (.var 1)) (ifs := []) (xs := rngM 0 n) (t := .sh) (P := fun v => -40 ≤ v ∧ v ≤ 40) (by simp [hrn]) (by simp; omega) (by
          intro v hv
          obtain ⟨j, hj, rfl⟩ := rngM_mem hv
          obtain ⟨w, hw, w0, w1⟩ := bd.get (psz_at i hi9 j (by omega))
          have g6 : atM (ds.map MV.int) (5 + 5 * (i : Int) + (j : Int)) = some (.int w) := by
            have := at0 _ _ hw; rwa [show ((5 + 5 * i + j : Nat) : Int) = 5 + 5 * (i : Int) + (j : Int) by push_cast; rfl] at this
          obtain ⟨z, hz, z0, z1⟩ := at_lit (L := [0, 1, -1, 2, -2, 3, -3, 5, -7, 11, -40]) (i := w) w0 w1 (P := fun x => -40 ≤ x ∧ x ≤ 40) (by decide)
          refine ⟨z, ?_, z0, z1⟩
          simp only [List.map_cons, List.map_nil] at hz
          simp (decide := true) [-atM_of, turn1, g6, hz])
        simp only [List.map_cons, List.map_nil] at er
        simp [er]
        exact ⟨r0, _, _, _, _, by simpa using lr, br, rfl⟩
      · rintro σ ⟨r, d', e', f', g', hl, hx, rfl⟩
        refine W.split 1 (PI1 c n ds far rows i (50 + i)) ?_ ?_
        · have keep0 : ∀ (r : List Int) (d e f g : Option (MV × Bool)), r.length = n → (∀ x ∈ r, -(50 + (i : Int)) ≤ x ∧ x ≤ 50 + i) → PI1 c n ds far rows i (50 + i) [some (.int c, false), some (.int n, false), some (.lst (ds.map MV.int), true), some (.lst ([0, 1, -1, 2, -2, 3, -3, 5, -7, 11, -40].map MV.int), true), some (.int far, false), some (.lst (rows.map lrow), true), some (.int i, false), some (.lst (r.map MV.int), true), d, e, f, g] := fun r d e f g h1 h2 => ⟨r, d, e, f, g, h1, h2, rfl⟩
          have k1 := keep0 r d' e' f' g' hl (fun x h => by have := hx x h; omega)
          simp only [List.map_cons, List.map_nil] at k1
          by_cases hi0 : i = 0
          · subst hi0; simp; exact k1
          · have hi1 : 0 < i := by omega
            by_cases hq1 : q ≤ 1
            · have hi2 : i - 1 < rows.length := by omega
              have g7 : atM (rows.map lrow) ((i : Int) - 1) = some (lrow rows[i - 1]) := by
                rw [show (i : Int) - 1 = ((i - 1 : Nat) : Int) by omega, atM_nat, List.getElem?_map, List.getElem?_eq_getElem hi2]; rfl
              have k2 := keep0 rows[i - 1] d' e' f' g' (hw _ (List.getElem_mem hi2)) (fun x h => hb _ (List.getElem_mem hi2) x h)
              simp only [List.map_cons, List.map_nil] at k2
              simp (decide := true) [-atM_of, hi1, g4, hq1, g7]
              simp [lrow]
              exact k2
            · simp (decide := true) [-atM_of, hi1, g4, hq1]
              exact k1
        · rintro σ ⟨r, d', e', f', g', hl, hx, rfl⟩
          refine W.split 1 (PI1 c n ds far rows i (51 + i)) ?_ ?_
          · have keep0 : ∀ (r : List Int) (d e f g : Option (MV × Bool)), r.length = n → (∀ x ∈ r, -(51 + (i : Int)) ≤ x ∧ x ≤ 51 + i) → PI1 c n ds far rows i (51 + i) [some (.int c, false), some (.int n, false), some (.lst (ds.map MV.int), true), some (.lst ([0, 1, -1, 2, -2, 3, -3, 5, -7, 11, -40].map MV.int), true), some (.int far, false), some (.lst (rows.map lrow), true), some (.int i, false), some (.lst (r.map MV.int), true), d, e, f, g] := fun r d e f g h1 h2 => ⟨r, d, e, f, g, h1, h2, rfl⟩
            have k1 := keep0 r d' e' f' g' hl (fun x h => by have := hx x h; omega)
            simp only [List.map_cons, List.map_nil] at k1
            by_cases hi0 : i = 0
            · subst hi0; simp; exact k1
            · have hi1 : 0 < i := by omega
              by_cases hq1 : q = 1
              · have hn0 : (0 : Int) < n := by omega
                have hn1 : 0 < n := by omega
                have hsp0 : 0 ≤ q' % (n : Int) := Int.emod_nonneg _ (by omega)
                have hsp1 : q' % (n : Int) < n := Int.emod_lt_of_pos _ hn0
                obtain ⟨p, hp⟩ := Int.eq_ofNat_of_zero_le hsp0
                have hpn : p < r.length := by omega
                have g8 : atM (r.map MV.int) (p : Int) = some (.int r[p]) := by rw [atM_nat, List.getElem?_map, List.getElem?_eq_getElem hpn]; rfl
                have g9 : setSem (r.map MV.int) (.int (p : Int)) (.int (1 - r[p])) = some ((r.set p (1 - r[p])).map MV.int) := by
                  simp [setSem, L2.ixN, hpn, List.map_set]
                have k2 := keep0 (r.set p (1 - r[p])) (some (.int p, false)) e' f' g' (by simpa using hl) (fun x h => by
                  rcases List.mem_or_eq_of_mem_set h with h | rfl
                  · have := hx x h; omega
                  · have := hx _ (List.getElem_mem hpn); omega)
                simp only [List.map_cons, List.map_nil, List.map_set] at k2
                subst hq1
                simp (decide := true) [-atM_of, hi1, g4, g5, hn1, hp, g8, g9]
                exact k2
              · simp (decide := true) [-atM_of, hi1, g4, hq1]
                exact k1
          · rintro σ ⟨r, d', e', f', g', hl, hx, rfl⟩
            have hz : rows.length < SZ := SZ_gt (by omega)
            simp [hz]
            refine ⟨rows ++ [r], _, _, _, _, _, _, by simp [hr], ?_, ?_, by simp [lrow]; exact ⟨rfl, rfl, rfl, rfl, rfl, rfl⟩⟩
            · intro r' h
              rcases List.mem_append.mp h with h | h
              · exact hw r' h
              · cases List.mem_singleton.mp h; exact hl
            · intro r' h x hx'
              rcases List.mem_append.mp h with h | h
              · have := hb r' h x hx'; omega
              · cases List.mem_singleton.mp h; have := hx x hx'; omega
    · rintro σ ⟨rows, a, b, d, e, f, g, hr, hw, hb, rfl⟩
      have hrl : rows.length ≤ 9 := by omega
      have hrn : rows ≠ [] := by intro h; subst h; simp at hr; omega
      have fin : ∀ (rows : List (List Int)) (a b d e f g : Option (MV × Bool)), Rows n 9 2000000000000 rows → W (run T L k) L [.ret (.comp (.bi .tuple [.var 9]) (.nm 9) (.seq (.var 5)) [])] [some (.int c, false), some (.int n, false), some (.lst (ds.map MV.int), true), some (.lst ([0, 1, -1, 2, -2, 3, -3, 5, -7, 11, -40].map MV.int), true), some (.int far, false), some (.lst (rows.map lrow), true), a, b, d, e, f, g] (fun fl => OB (resOf fl) (fun r => ∃ rows, r = (.lst (rows.map rowv), true) ∧ Rows n 9 2000000000000 rows)) := by
        intro rows a b d e f g h
        have := comp_rowv (Φ := run T L k) (s0 := some (.int c, false)) (s1 := some (.int n, false)) (s2 := some (.lst (ds.map MV.int), true)) (s3 := some (.lst ([0, 1, -1, 2, -2, 3, -3, 5, -7, 11, -40].map MV.int), true)) (s4 := some (.int far, false)) (s6 := a) (s7 := b) (s8 := d) (s9 := e) (s10 := f) (s11 := g) (t := true) rows (by have := h.le; omega)
        simp only [List.map_cons, List.map_nil] at this ⊢
        simp [this]
        exact ⟨rows, rfl, h⟩
      have plain : Rows n 9 2000000000000 rows := ⟨hrn, hrl, hw, fun r hr x hx => by have := hb r hr x hx; omega⟩
      have mapd : ∀ h : Int → Int, (∀ x : Int, -59 ≤ x → x ≤ 59 → -2000000000000 ≤ h x ∧ h x ≤ 2000000000000) → Rows n 9 2000000000000 (rows.map (fun r => r.map h)) := by
        intro h hh
        refine ⟨by simpa using hrn, by simpa using hrl, ?_, ?_⟩
        · intro r hr'
          obtain ⟨r1, h1, rfl⟩ := List.mem_map.mp hr'
          rw [List.length_map]; exact hw r1 h1
        · intro r hr' x hx
          obtain ⟨r1, h1, rfl⟩ := List.mem_map.mp hr'
          obtain ⟨y, hy, rfl⟩ := List.mem_map.mp hx
          have := hb r1 h1 y hy
          exact hh y (by omega) (by omega)
      have hwl : ∀ r ∈ rows, r.length ≤ 1000 := fun r h => by rw [hw r h]; omega
      have c6 := fun (z : List (Option (MV × Bool))) => comp2_rows (Φ := run T L k) (s0 := some (.int c, false)) (s1 := some (.int n, false)) (s2 := some (.lst (ds.map MV.int), true)) (s3 := some (.lst ([0, 1, -1, 2, -2, 3, -3, 5, -7, 11, -40].map MV.int), true)) (s4 := some (.int far, false)) (s6 := a) (s7 := b) (s8 := d) (s9 := e) (s10 := f) (s11 := g) (E := .bin .mul (.lit (.int 24390243902)) (.var 11)) (f := fun x => 24390243902 * x) (t := true) rows (by omega) hwl (fun r hr x hx => by
        have := hb r hr x hx
        haveI : Bd x 10 := Bd.of (by omega) (by omega)
        simp (decide := true))
      have c7 := fun (z : List (Option (MV × Bool))) => comp2_rows (Φ := run T L k) (s0 := some (.int c, false)) (s1 := some (.int n, false)) (s2 := some (.lst (ds.map MV.int), true)) (s3 := some (.lst ([0, 1, -1, 2, -2, 3, -3, 5, -7, 11, -40].map MV.int), true)) (s4 := some (.int far, false)) (s6 := a) (s7 := b) (s8 := d) (s9 := e) (s10 := f) (s11 := g) (E := .bin .add (.var 11) (.var 4)) (f := fun x => x + far) (t := true) rows (by omega) hwl (fun r hr x hx => by simp)
      have c8 := fun (z : List (Option (MV × Bool))) => comp2_rows (Φ := run T L k) (s0 := some (.int c, false)) (s1 := some (.int n, false)) (s2 := some (.lst (ds.map MV.int), true)) (s3 := some (.lst ([0, 1, -1, 2, -2, 3, -3, 5, -7, 11, -40].map MV.int), true)) (s4 := some (.int far, false)) (s6 := a) (s7 := b) (s8 := d) (s9 := e) (s10 := f) (s11 := g) (E := .bin .sub (.var 11) (.var 4)) (f := fun x => x - far) (t := true) rows (by omega) hwl (fun r hr x hx => by simp)
      have c6' := c6 []; have c7' := c7 []; have c8' := c8 []
      have f0 := fin rows a b d e f g plain
      have f6 := fin _ a b d e f g (mapd (fun x => 24390243902 * x) (fun x h1 h2 => by omega))
      have f7 := fin _ a b d e f g (mapd (fun x => x + far) (fun x h1 h2 => by omega))
      have f8 := fin _ a b d e f g (mapd (fun x => x - far) (fun x h1 h2 => by omega))
      simp only [List.map_cons, List.map_nil] at c6' c7' c8' f0 f6 f7 f8
      rcases (by omega : d1 = 6 ∨ d1 = 7 ∨ d1 = 8 ∨ d1 = 9 ∨ d1 = 10 ∨ (d1 ≠ 6 ∧ d1 ≠ 7 ∧ d1 ≠ 8 ∧ d1 ≠ 9 ∧ d1 ≠ 10)) with rfl | rfl | rfl | rfl | rfl | ⟨n6, n7, n8, n9, n10⟩
      · simp (decide := true) [-W_ret, -List.map_map, -atM_of, Blpool, e1, c6']; exact f6
      · simp (decide := true) [-W_ret, -List.map_map, -atM_of, Blpool, e1, c7']; exact f7
      · simp (decide := true) [-W_ret, -List.map_map, -atM_of, Blpool, e1, c8']; exact f8
      · clear c6 c7 c8 c6' c7' c8' f0 f6 f7 f8 mapd plain
        obtain ⟨r0, rs, rfl⟩ := List.exists_cons_of_ne_nil hrn
        have hset : ∀ w : Int, -2000000000000 ≤ w → w ≤ 2000000000000 → Rows n 9 2000000000000 (((r0.map MV.int).map (fun _ => w)) :: rs) := fun w w0 w1 => ⟨by simp, by simpa using hrl, fun r hr' => by
              rcases List.mem_cons.mp hr' with rfl | h
              · rw [List.length_map, List.length_map]; exact hw r0 List.mem_cons_self
              · exact hw r (List.mem_cons_of_mem _ h), fun r hr' x hx => by
              rcases List.mem_cons.mp hr' with rfl | h
              · obtain ⟨y, hy, rfl⟩ := List.mem_map.mp hx; exact ⟨w0, w1⟩
              · have := hb r (List.mem_cons_of_mem _ h) x hx; omega⟩
        have f9 := fin _ a b d e f g (hset (999999999999 - 1999999999998 * (d2 % 2)) (by omega) (by omega))
        have c9 := comp_ints (Φ := run T L k) (σ := [some (.int c, false), some (.int n, false), some (.lst (ds.map MV.int), true), some (.lst ([0, 1, -1, 2, -2, 3, -3, 5, -7, 11, -40].map MV.int), true), some (.int far, false), some (.lst ((r0 :: rs).map lrow), true), a, b, d, e, f, g]) (elt := .bin .sub (.lit (.int 999999999999)) (.bin .mul (.lit (.int 1999999999998)) (.bin .mod (.bi .int [.idx (.var 2) (.lit (.int 2))]) (.lit (.int 2))))) (tg := .nm 11) (it := .seq (.idx (.var 5) (.lit (.int 0)))) (ifs := []) (xs := r0.map MV.int) (t := .sh) (fun _ => 999999999999 - 1999999999998 * (d2 % 2)) (by simp [lrow]) (by have := hwl r0 List.mem_cons_self; simp; omega) (by
          intro x hx
          haveI : Bd (d2 % 2) 2 := Bd.emod (by decide) inferInstance
          simp (decide := true) [-atM_of, turn1, e2])
        simp only [List.map_cons, List.map_nil] at c9 f9
        simp (decide := true) [-W_ret, -List.map_map, -List.map_const', -atM_of, Blpool, e1, c9, setSem, L2.ixN]
        exact f9
      · clear c6 c7 c8 c6' c7' c8' f0 f6 f7 f8 mapd plain
        obtain ⟨r0, rs, rfl⟩ := List.exists_cons_of_ne_nil hrn
        have hset : ∀ w : Int, -2000000000000 ≤ w → w ≤ 2000000000000 → Rows n 9 2000000000000 (((r0.map MV.int).map (fun _ => w)) :: rs) := fun w w0 w1 => ⟨by simp, by simpa using hrl, fun r hr' => by
              rcases List.mem_cons.mp hr' with rfl | h
              · rw [List.length_map, List.length_map]; exact hw r0 List.mem_cons_self
              · exact hw r (List.mem_cons_of_mem _ h), fun r hr' x hx => by
              rcases List.mem_cons.mp hr' with rfl | h
              · obtain ⟨y, hy, rfl⟩ := List.mem_map.mp hx; exact ⟨w0, w1⟩
              · have := hb r (List.mem_cons_of_mem _ h) x hx; omega⟩
        have f9 := fin _ a b d e f g (hset (0) (by omega) (by omega))
        have c9 := comp_ints (Φ := run T L k) (σ := [some (.int c, false), some (.int n, false), some (.lst (ds.map MV.int), true), some (.lst ([0, 1, -1, 2, -2, 3, -3, 5, -7, 11, -40].map MV.int), true), some (.int far, false), some (.lst ((r0 :: rs).map lrow), true), a, b, d, e, f, g]) (elt := .lit (.int 0)) (tg := .nm 11) (it := .seq (.idx (.var 5) (.lit (.int 0)))) (ifs := []) (xs := r0.map MV.int) (t := .sh) (fun _ => 0) (by simp [lrow]) (by have := hwl r0 List.mem_cons_self; simp; omega) (by
          intro x hx
          haveI : Bd (d2 % 2) 2 := Bd.emod (by decide) inferInstance
          simp (decide := true) [-atM_of, turn1, e2])
        simp only [List.map_cons, List.map_nil] at c9 f9
        simp (decide := true) [-W_ret, -List.map_map, -List.map_const', -atM_of, Blpool, e1, c9, setSem, L2.ixN]
        exact f9
      · simp (decide := true) [-W_ret, -List.map_map, -atM_of, Blpool, e1, n6, n7, n8, n9, n10]; exact f0

theorem pool_ok (h0 : T[x.ldigits]? = some ⟨2, 8, bdigits⟩) (h1 : T[x.lpool]? = some ⟨2, 12, Blpool x⟩) {k : Nat} (hk : 2 ≤ k) (c : Int) (n : Nat) (hn : 1 ≤ n) (hn4 : n ≤ 4) :
    ∃ rows, run T L k x.lpool [.int c, .int n] = some (.lst (rows.map rowv), true) ∧ Rows n 9 2000000000000 rows := by
  obtain ⟨k, rfl⟩ : ∃ j, k = j + 1 := ⟨k - 1, by omega⟩
  have : OB (run T L (k + 1) x.lpool [.int c, .int n]) (fun r => ∃ rows, r = (.lst (rows.map rowv), true) ∧ Rows n 9 2000000000000 rows) := run_of h1 rfl (pool_a h0 h1 (by omega) c n hn hn4)
  obtain ⟨r, e, rows, rfl, h⟩ := this
  exact ⟨rows, e, h⟩

def vsz : List Int := [10, 9, 9, 4, 3, 1000000000, 13, 13, 13, 13]
theorem vsz_at : ∀ j, j < 4 → vsz[6 + j]? = some 13 := by decide
def VV (c : Int) (n : Nat) (rows : List (List Int)) (ds : List Int) (b : Int) (σ : MS) : Prop := ∃ (r : List Int) (d e f g h i : Option (MV × Bool)), r.length = n ∧ (∀ x ∈ r, -b ≤ x ∧ x ≤ b) ∧
  σ = [some (.int c, false), some (.lst (rows.map rowv), false), some (.int n, false), some (.lst (ds.map MV.int), true), some (.lst ([0, 1, -1, 2, -2, 3, -3, 1, -1, 5, -4, 7, 0].map MV.int), true), some (.lst (r.map MV.int), true), d, e, f, g, h, i]

theorem vector_a (h0 : T[x.ldigits]? = some ⟨2, 8, bdigits⟩) (h1 : T[x.lvector]? = some ⟨3, 12, Blvector x⟩) {k : Nat} (hk : 1 ≤ k) (c : Int) (n : Nat) (hn : 1 ≤ n) (hn4 : n ≤ 4) (rows : List (List Int)) (hr : Rows n 9 2000000000000 rows) :
    W (run T L k) L (Blvector x) (startM 12 [.int c, .lst (rows.map rowv), .int n]) (fun fl => OB (resOf fl) (fun r => ∃ u : List Int, r = (.tup (u.map MV.int), false) ∧ u.length = n ∧ ∀ x ∈ u, Bd x 200)) := by
  obtain ⟨ds, hd, bd⟩ := digits_ok (L := L) h0 hk c vsz (by decide) (by
    intro s hs
    have : s = 10 ∨ s = 9 ∨ s = 4 ∨ s = 3 ∨ s = 1000000000 ∨ s = 13 := by
      simp [vsz] at hs; omega
    rcases this with rfl | rfl | rfl | rfl | rfl | rfl <;> exact ⟨by decide, Bd.up (n := 200) ⟨by decide⟩ (by decide)⟩)
  obtain ⟨d0, hd0, a0, b0⟩ := bd.get (i := 0) (s := 10) rfl
  obtain ⟨d1, hd1, a1, b1⟩ := bd.get (i := 1) (s := 9) rfl
  obtain ⟨d2, hd2, a2, b2⟩ := bd.get (i := 2) (s := 9) rfl
  obtain ⟨d3, hd3, a3, b3⟩ := bd.get (i := 3) (s := 4) rfl
  obtain ⟨d4, hd4, a4, b4⟩ := bd.get (i := 4) (s := 3) rfl
  obtain ⟨d5, hd5, a5, b5⟩ := bd.get (i := 5) (s := 1000000000) rfl
  have at0 : ∀ (q : Nat) (d : Int), ds[q]? = some d → atM (ds.map MV.int) (q : Int) = some (.int d) := fun q d h => by rw [atM_nat, List.getElem?_map, h]; rfl
  have e0 : atM (ds.map MV.int) 0 = some (.int d0) := at0 0 d0 hd0
  have e1 : atM (ds.map MV.int) 1 = some (.int d1) := at0 1 d1 hd1
  have e2 : atM (ds.map MV.int) 2 = some (.int d2) := at0 2 d2 hd2
  have e3 : atM (ds.map MV.int) 3 = some (.int d3) := at0 3 d3 hd3
  have e4 : atM (ds.map MV.int) 4 = some (.int d4) := at0 4 d4 hd4
  have e5 : atM (ds.map MV.int) 5 = some (.int d5) := at0 5 d5 hd5
  have hd' : run T L k x.ldigits [MV.int c, .lst ([10, 9, 9, 4, 3, 1000000000, 13, 13, 13, 13].map MV.int)] = some (.lst (ds.map MV.int), true) := hd
  simp only [List.map_cons, List.map_nil] at hd'
  have hrn := rngOk_n (n := n) (by omega)
  refine W.split 3 (VV c n rows ds 7) ?_ ?_
  · obtain ⟨r0, er, lr, br⟩ := comp_exi (Φ := run T L k) (σ := [some (.int c, false), some (.lst (rows.map rowv), false), some (.int n, false), some (.lst (ds.map MV.int), true), some (.lst ([0, 1, -1, 2, -2, 3, -3, 1, -1, 5, -4, 7, 0].map MV.int), true), none, none, none, none, none, none, none]) (elt := .idx (.var 4) (.idx (.var 3) (.bin .add (.lit (.int 6)) (.var 10)))) (tg := .nm 10) (it := .rng1 (.var 2)) (ifs := []) (xs := rngM 0 n) (t := .sh) (P := fun v => -7 ≤ v ∧ v ≤ 7) (by simp [hrn]) (by simp; omega) (by
        intro v hv
        obtain ⟨j, hj, rfl⟩ := rngM_mem hv
        obtain ⟨w, hw, w0, w1⟩ := bd.get (vsz_at j (by omega))
        have g6 : atM (ds.map MV.int) (6 + (j : Int)) = some (.int w) := by
          have := at0 _ _ hw; rwa [show ((6 + j : Nat) : Int) = 6 + (j : Int) by push_cast; rfl] at this
        obtain ⟨z, hz, z0, z1⟩ := at_lit (L := [0, 1, -1, 2, -2, 3, -3, 1, -1, 5, -4, 7, 0]) (i := w) w0 w1 (P := fun x => -7 ≤ x ∧ x ≤ 7) (by decide)
        refine ⟨z, ?_, z0, z1⟩
        simp only [List.map_cons, List.map_nil] at hz
        simp (decide := true) [-atM_of, turn1, g6, hz])
    simp only [List.map_cons, List.map_nil] at er
    simp (decide := true) [Blvector, startM, hd', er]
    exact ⟨r0, _, _, _, _, _, _, by simpa using lr, br, rfl⟩
  · rintro σ ⟨r, d, e, f, g, h, i, hl, hb, rfl⟩
    have fin : ∀ (u : List Int) (d e f g h i : Option (MV × Bool)), u.length = n → (∀ x ∈ u, Bd x 200) → W (run T L k) L [.ret (.bi .tuple [.var 5])] [some (.int c, false), some (.lst (rows.map rowv), false), some (.int n, false), some (.lst (ds.map MV.int), true), some (.lst ([0, 1, -1, 2, -2, 3, -3, 1, -1, 5, -4, 7, 0].map MV.int), true), some (.lst (u.map MV.int), true), d, e, f, g, h, i] (fun fl => OB (resOf fl) (fun r => ∃ u : List Int, r = (.tup (u.map MV.int), false) ∧ u.length = n ∧ ∀ x ∈ u, Bd x 200)) := by
      intro u d e f g h i h1 h2
      simp
      exact ⟨u, rfl, h1, h2⟩
    have small : ∀ x ∈ r, Bd x 4 := fun x hx => Bd.of (by have := hb x hx; omega) (by have := hb x hx; omega)
    have rep : binSem .mul (.lst [.int 0]) (.int (n : Int)) = some (.lst ((List.replicate n (0 : Int)).map MV.int), .fr) := by
      rw [bin_rep (by omega) (by omega) (by simp; omega)]
      congr 3
      clear hb hl hrn hn hn4 fin small hr
      induction n with
      | zero => rfl
      | succ m ih =>
        simp only [Int.toNat_natCast] at ih ⊢
        rw [List.replicate_succ, List.flatten_cons, ih, List.replicate_succ, List.map_cons]; rfl
    have z0 := fin (List.replicate n 0) d e f g h i (by simp) (fun x hx => by rw [(List.mem_replicate.mp hx).2]; exact Bd.up (n := 1) ⟨by decide⟩ (by decide))
    have zr := fin r d e f g h i hl (fun x hx => (small x hx).up (by decide))
    simp only [List.map_cons, List.map_nil] at z0 zr
    rcases (by omega : d0 = 0 ∨ (d0 = 1 ∨ d0 = 2) ∨ d0 = 4 ∨ d0 = 5 ∨ d0 = 6 ∨ (d0 = 3 ∨ 7 ≤ d0)) with rfl | hd | rfl | rfl | rfl | hd
    · simp (decide := true) [-W_ret, -List.map_map, -List.map_replicate, -atM_of, Blvector, e0, rep]; exact z0
    · have n0 : ¬ d0 = 0 := by omega
      have n2 : d0 ≤ 2 := by omega
      have n3 : 0 < d0 := by omega
      have n4 : ¬ d0 = 4 := by omega
      have n5 : ¬ d0 = 5 := by omega
      have n6 : ¬ d0 = 6 := by omega
      by_cases hn1 : n = 1
      · subst hn1
        simp (decide := true) [-W_ret, -List.map_map, -atM_of, Blvector, e0, n0, n2, n3, n4, n5, n6]; exact zr
      · have hn2 : 1 < n := by omega
        have hn2' : (1 : Int) < n := by omega
        have hn0 : 0 < n := by omega
        have hlen : 0 < rows.length := List.length_pos_iff.mpr hr.ne
        have rowat : ∀ q : Int, ∃ R, atM (rows.map rowv) (q % (rows.length : Int)) = some (rowv R) ∧ R ∈ rows := by
          intro q
          obtain ⟨v, hv, hm⟩ := atM_in (l := rows.map rowv) (Int.emod_nonneg q (by omega : (rows.length : Int) ≠ 0)) (by rw [List.length_map]; exact Int.emod_lt_of_pos _ (by omega))
          obtain ⟨R, hR, rfl⟩ := List.mem_map.mp hm
          exact ⟨R, hv, hR⟩
        obtain ⟨R1, g1, m1⟩ := rowat d1
        obtain ⟨R2, g2, m2⟩ := rowat (d1 + 1 + d2)
        obtain ⟨fi, hfi⟩ := Int.eq_ofNat_of_zero_le (Int.emod_nonneg d3 (by omega : (n : Int) ≠ 0))
        have hfl : fi < n := by have := Int.emod_lt_of_pos d3 (by omega : (0 : Int) < n); omega
        obtain ⟨se, hse⟩ := Int.eq_ofNat_of_zero_le (Int.emod_nonneg ((fi : Int) + 1 + d4 % ((n : Int) - 1)) (by omega : (n : Int) ≠ 0))
        have hsl : se < n := by have := Int.emod_lt_of_pos ((fi : Int) + 1 + d4 % ((n : Int) - 1)) (by omega : (0 : Int) < n); omega
        have itat : ∀ R ∈ rows, ∀ q, q < n → ∃ v : Int, atM (R.map MV.int) (q : Int) = some (.int v) ∧ -2000000000000 ≤ v ∧ v ≤ 2000000000000 := by
          intro R hR q hq
          have hq' : q < R.length := by rw [hr.wd R hR]; exact hq
          exact ⟨R[q], by rw [atM_nat, List.getElem?_map, List.getElem?_eq_getElem hq']; rfl, hr.bd R hR _ (List.getElem_mem hq')⟩
        obtain ⟨o1, ho1, _, _⟩ := itat R1 m1 fi hfl
        obtain ⟨o2, ho2, _, _⟩ := itat R1 m1 se hsl
        obtain ⟨t1, ht1, _, _⟩ := itat R2 m2 fi hfl
        obtain ⟨t2, ht2, _, _⟩ := itat R2 m2 se hsl
        have hset : ∀ (l : List Int) (q : Nat) (w : Int), l.length = n → q < n → setSem (l.map MV.int) (.int (q : Int)) (.int w) = some ((l.set q w).map MV.int) := by
          intro l q w h1 h2
          simp [setSem, L2.ixN, h1, h2, List.map_set]
        have q1 := hset (List.replicate n 0) fi (o2 - t2) (by simp) hfl
        have q2 := hset ((List.replicate n 0).set fi (o2 - t2)) se (t1 - o1) (by simp) hsl
        have hn1' : (0 : Int) < (n : Int) - 1 := by omega
        have fA := fin r (some (rowv R1, false)) (some (rowv R2, false)) (some (.int fi, false)) (some (.int se, false)) h i hl (fun x hx => (small x hx).up (by decide))
        have fB := fin (((List.replicate n 0).set fi (o2 - t2)).set se (t1 - o1)) (some (rowv R1, false)) (some (rowv R2, false)) (some (.int fi, false)) (some (.int se, false)) h i (by simp) (fun x hx => by
          have : -4000000000000 ≤ x ∧ x ≤ 4000000000000 := by
            rcases List.mem_or_eq_of_mem_set hx with hx | rfl
            · rcases List.mem_or_eq_of_mem_set hx with hx | rfl
              · rw [(List.mem_replicate.mp hx).2]; decide
              · omega
            · omega
          exact (Bd.of (n := 50) (by omega) (by omega)).up (by decide))
        generalize (List.replicate n 0).set fi (o2 - t2) = Z at q1 q2 fB
        generalize Z.set se (t1 - o1) = Z2 at q2 fB
        generalize List.map MV.int (List.replicate n (0 : Int)) = Z0 at rep q1
        generalize Z.map MV.int = z1 at q1 q2
        generalize Z2.map MV.int = z2 at q2 fB
        simp only [List.map_cons, List.map_nil, rowv] at fA fB
        have split2 : ∀ p : Prop, [Decidable p] → decide p = true ∨ decide p = false := fun p _ => by cases decide p <;> simp
        rcases split2 (o1 = t1) with k1 | k1 <;> rcases split2 (o2 = t2) with k2 | k2
        · simp (decide := true) [-W_ret, -List.map_map, -List.map_replicate, -atM_of, -List.map_set, Blvector, e0, e1, e2, e3, e4, n0, n2, n3, n4, n5, n6, hn2, hn2', hn0, hlen, hn1', g1, g2, hfi, hse, rowv, ho1, ho2, ht1, ht2, k1, k2, rep, q1, q2]
          first | exact fA | exact fB
        · simp (decide := true) [-W_ret, -List.map_map, -List.map_replicate, -atM_of, -List.map_set, Blvector, e0, e1, e2, e3, e4, n0, n2, n3, n4, n5, n6, hn2, hn2', hn0, hlen, hn1', g1, g2, hfi, hse, rowv, ho1, ho2, ht1, ht2, k1, k2, rep, q1, q2]
          first | exact fA | exact fB
        · simp (decide := true) [-W_ret, -List.map_map, -List.map_replicate, -atM_of, -List.map_set, Blvector, e0, e1, e2, e3, e4, n0, n2, n3, n4, n5, n6, hn2, hn2', hn0, hlen, hn1', g1, g2, hfi, hse, rowv, ho1, ho2, ht1, ht2, k1, k2, rep, q1, q2]
          first | exact fA | exact fB
        · simp (decide := true) [-W_ret, -List.map_map, -List.map_replicate, -atM_of, -List.map_set, Blvector, e0, e1, e2, e3, e4, n0, n2, n3, n4, n5, n6, hn2, hn2', hn0, hlen, hn1', g1, g2, hfi, hse, rowv, ho1, ho2, ht1, ht2, k1, k2, rep, q1, q2]
          first | exact fA | exact fB
    · haveI : Bd d5 30 := Bd.rng a5 (by omega)
      have c4 := comp_ints (Φ := run T L k) (σ := [some (.int c, false), some (.lst (rows.map rowv), false), some (.int n, false), some (.lst (ds.map MV.int), true), some (.lst ([0, 1, -1, 2, -2, 3, -3, 1, -1, 5, -4, 7, 0].map MV.int), true), some (.lst (r.map MV.int), true), d, e, f, g, h, i]) (elt := .bin .mul (.var 11) (.bin .add (.bin .pow (.lit (.int 10)) (.lit (.int 20))) (.idx (.var 3) (.lit (.int 5))))) (tg := .nm 11) (it := .seq (.var 5)) (ifs := []) (xs := r.map MV.int) (t := .bo) (fun x => nu x * (100000000000000000000 + d5)) (by simp) (by simp; omega) (by
        intro x hx
        obtain ⟨n, hn, rfl⟩ := List.mem_map.mp hx
        haveI := small n hn
        simp (decide := true) [-atM_of, turn1, e5])
      have f4 := fin ((r.map MV.int).map (fun x => nu x * (100000000000000000000 + d5))) d e f g h i (by simp [hl]) (fun x hx => by
        obtain ⟨y, hy, rfl⟩ := List.mem_map.mp hx
        obtain ⟨z, hz, rfl⟩ := List.mem_map.mp hy
        haveI := small z hz
        show Bd (z * (100000000000000000000 + d5)) 200
        exact (fun (v : Int) (n : Nat) (h : Bd v n) (q : n ≤ 200) => h.up q) _ _ inferInstance (by decide))
      simp only [List.map_cons, List.map_nil] at c4 f4
      simp (decide := true) [-W_ret, -List.map_map, -atM_of, Blvector, e0, c4]; exact f4
    · have c5 := comp_ints (Φ := run T L k) (σ := [some (.int c, false), some (.lst (rows.map rowv), false), some (.int n, false), some (.lst (ds.map MV.int), true), some (.lst ([0, 1, -1, 2, -2, 3, -3, 1, -1, 5, -4, 7, 0].map MV.int), true), some (.lst (r.map MV.int), true), d, e, f, g, h, i]) (elt := .bin .mul (.idx (.var 3) (.lit (.int 5))) (.bi .int [.cmp .eq (.var 10) (.bin .mod (.bi .int [.idx (.var 3) (.lit (.int 3))]) (.var 2))])) (tg := .nm 10) (it := .rng1 (.var 2)) (ifs := []) (xs := rngM 0 n) (t := .sh) (fun x => d5 * (if nu x = d3 % n then 1 else 0)) (by simp [hrn]) (by simp; omega) (by
        intro x hx
        obtain ⟨i, hi, rfl⟩ := rngM_mem hx
        have o0 : Bd 0 1 := ⟨by decide⟩
        have o1 : Bd 1 1 := ⟨by decide⟩
        have ob : ∀ p : Prop, [Decidable p] → Bd (if p then 1 else 0) 1 := fun p _ => by split <;> assumption
        haveI : Bd d5 30 := Bd.rng a5 (by omega)
        have hn' : 0 < n := by omega
        simp (decide := true) [-atM_of, turn1, e5, e3, hn'])
      have f5 := fin ((rngM 0 n).map (fun x => d5 * (if nu x = d3 % n then 1 else 0))) d e f g h i (by simp) (fun x hx => by
        obtain ⟨y, hy, rfl⟩ := List.mem_map.mp hx
        split
        · rw [Int.mul_one]; exact (Bd.rng (n := 30) a5 (by omega)).up (by decide)
        · rw [Int.mul_zero]; exact Bd.up (n := 1) ⟨by decide⟩ (by decide))
      simp only [List.map_cons, List.map_nil] at c5 f5
      simp (decide := true) [-W_ret, -List.map_map, -atM_of, Blvector, e0, c5]; exact f5
    · have c6 := comp_ints (Φ := run T L k) (σ := [some (.int c, false), some (.lst (rows.map rowv), false), some (.int n, false), some (.lst (ds.map MV.int), true), some (.lst ([0, 1, -1, 2, -2, 3, -3, 1, -1, 5, -4, 7, 0].map MV.int), true), some (.lst (r.map MV.int), true), d, e, f, g, h, i]) (elt := .bi .abs [.var 11]) (tg := .nm 11) (it := .seq (.var 5)) (ifs := []) (xs := r.map MV.int) (t := .bo) (fun x => ((nu x).natAbs : Int)) (by simp) (by simp; omega) (by
        intro x hx
        obtain ⟨n, hn, rfl⟩ := List.mem_map.mp hx
        simp [turn1])
      have f6 := fin ((r.map MV.int).map (fun x => ((nu x).natAbs : Int))) d e f g h i (by simp [hl]) (fun x hx => by
        obtain ⟨y, hy, rfl⟩ := List.mem_map.mp hx
        obtain ⟨z, hz, rfl⟩ := List.mem_map.mp hy
        have := hb z hz
        exact (Bd.rng (n := 4) (by omega) (by simp; omega)).up (by decide))
      simp only [List.map_cons, List.map_nil] at c6 f6
      simp (decide := true) [-W_ret, -List.map_map, -atM_of, Blvector, e0, c6]; exact f6
    · have n0 : ¬ d0 = 0 := by omega
      have n2 : ¬ d0 ≤ 2 := by omega
      have n4 : ¬ d0 = 4 := by omega
      have n5 : ¬ d0 = 5 := by omega
      have n6 : ¬ d0 = 6 := by omega
      simp (decide := true) [-W_ret, -List.map_map, -atM_of, Blvector, e0, n0, n2, n4, n5, n6]; exact zr

theorem vector_ok (h0 : T[x.ldigits]? = some ⟨2, 8, bdigits⟩) (h1 : T[x.lvector]? = some ⟨3, 12, Blvector x⟩) {k : Nat} (hk : 2 ≤ k) (c : Int) (n : Nat) (hn : 1 ≤ n) (hn4 : n ≤ 4) (rows : List (List Int)) (hr : Rows n 9 2000000000000 rows) :
    ∃ u : List Int, run T L k x.lvector [.int c, .lst (rows.map rowv), .int n] = some (.tup (u.map MV.int), false) ∧ u.length = n ∧ ∀ x ∈ u, Bd x 200 := by
  obtain ⟨k, rfl⟩ : ∃ j, k = j + 1 := ⟨k - 1, by omega⟩
  have : OB (run T L (k + 1) x.lvector [.int c, .lst (rows.map rowv), .int n]) (fun r => ∃ u : List Int, r = (.tup (u.map MV.int), false) ∧ u.length = n ∧ ∀ x ∈ u, Bd x 200) := run_of h1 rfl (vector_a h0 h1 (by omega) c n hn hn4 rows hr)
  obtain ⟨r, e, u, rfl, h⟩ := this
  exact ⟨u, e, h⟩
end Mn.S.Tw

set_option Elab.async false
set_option linter.all false
set_option maxRecDepth 100000
/-! Mn15: plain facts of trees' worths and parts. -/
namespace Mn.S.Tw
open PySem

/-- u's products with the rows of a tree -/
def pds (u : List Int) (t : Tr) : List Int := (lvs t).map fun r => dt u r u.length
theorem pds_leaf {u r} : pds u (.leaf r) = [dt u r u.length] := by rw [pds, lvs]; rfl
theorem mem_pds_node {u : List Int} {k : Bool} {c : List Tr} {p : Int} : p ∈ pds u (.node k c) ↔ ∃ t ∈ c, p ∈ pds u t := by
  rw [pds, lvs]
  induction c with
  | nil => simp [lvss]
  | cons t c ih =>
    rw [lvss, List.map_append, List.mem_append, ih]
    simp [pds]
theorem wv_false {u : List Int} {c : List Tr} (hc : c ≠ []) : (∃ t ∈ c, wv u (.node false c) = wv u t) ∧ ∀ t ∈ c, wv u t ≤ wv u (.node false c) := by
  rw [wv, wvs_map]
  cases c with
  | nil => contradiction
  | cons a c =>
    obtain ⟨h1, h2⟩ := mxL_spec (c.map (wv u)) (wv u a)
    rw [← List.map_cons] at h1 h2
    simp only [Bool.false_eq_true, if_false]
    obtain ⟨t, ht, e⟩ := List.mem_map.mp h1
    exact ⟨⟨t, ht, e.symm⟩, fun t ht => h2 _ (List.mem_map.mpr ⟨t, ht, rfl⟩)⟩
theorem wv_true {u : List Int} {c : List Tr} (hc : c ≠ []) : (∃ t ∈ c, wv u (.node true c) = wv u t) ∧ ∀ t ∈ c, wv u (.node true c) ≤ wv u t := by
  rw [wv, wvs_map]
  cases c with
  | nil => contradiction
  | cons a c =>
    obtain ⟨h1, h2⟩ := mnL_spec (c.map (wv u)) (wv u a)
    rw [← List.map_cons] at h1 h2
    simp only [if_true]
    obtain ⟨t, ht, e⟩ := List.mem_map.mp h1
    exact ⟨⟨t, ht, e.symm⟩, fun t ht => h2 _ (List.mem_map.mpr ⟨t, ht, rfl⟩)⟩

theorem opt_keeper {u : List Int} {n : Nat} {t o : Tr} (h : IsOpt true t o) : Ok n t → ∃ p ∈ pds u o, wv u t ≤ p := by
  induction h with
  | leaf r => intro _; exact ⟨_, by rw [pds_leaf]; exact List.mem_cons_self, by rw [wv]; exact Int.le_refl _⟩
  | own hm _ ih =>
    intro ok
    cases ok with
    | node hc _ ha =>
      obtain ⟨p, hp, hle⟩ := ih (ha _ hm)
      exact ⟨p, hp, Int.le_trans ((wv_true (u := u) hc).2 _ hm) hle⟩
  | @other k c os hk hl a ih =>
    intro ok
    cases ok with
    | node hc _ ha =>
      have hf : k = false := by cases k <;> simp_all
      subst hf
      obtain ⟨t, ht, e⟩ := (wv_false (u := u) hc).1
      obtain ⟨i, hi, rfl⟩ := List.mem_iff_getElem.mp ht
      have hi' : i < os.length := by omega
      obtain ⟨p, hp, hle⟩ := ih i _ _ (List.getElem?_eq_getElem hi) (List.getElem?_eq_getElem hi') (ha _ ht)
      exact ⟨p, mem_pds_node.mpr ⟨_, List.getElem_mem hi', hp⟩, by rw [e]; exact hle⟩
theorem opt_foe {u : List Int} {n : Nat} {t o : Tr} (h : IsOpt false t o) : Ok n t → ∃ p ∈ pds u o, p ≤ wv u t := by
  induction h with
  | leaf r => intro _; exact ⟨_, by rw [pds_leaf]; exact List.mem_cons_self, by rw [wv]; exact Int.le_refl _⟩
  | own hm _ ih =>
    intro ok
    cases ok with
    | node hc _ ha =>
      obtain ⟨p, hp, hle⟩ := ih (ha _ hm)
      exact ⟨p, hp, Int.le_trans hle ((wv_false (u := u) hc).2 _ hm)⟩
  | @other k c os hk hl a ih =>
    intro ok
    cases ok with
    | node hc _ ha =>
      have hf : k = true := by cases k <;> simp_all
      subst hf
      obtain ⟨t, ht, e⟩ := (wv_true (u := u) hc).1
      obtain ⟨i, hi, rfl⟩ := List.mem_iff_getElem.mp ht
      have hi' : i < os.length := by omega
      obtain ⟨p, hp, hle⟩ := ih i _ _ (List.getElem?_eq_getElem hi) (List.getElem?_eq_getElem hi') (ha _ ht)
      exact ⟨p, mem_pds_node.mpr ⟨_, List.getElem_mem hi', hp⟩, by rw [e]; exact hle⟩

theorem cp_ok {n j} {u : List Int} : ∀ t, Ok n t → Ok n (cp j u t) := by
  refine Tr.ind ?_ ?_
  · intro r o; rw [cp]; exact o
  · intro k c ih o
    cases o with
    | node hc hl ha =>
      by_cases hk : k = j
      · subst hk
        match c, hc with
        | t :: c, _ =>
          rw [cp_own]
          have := pick_mem (k := k) (u := u) (r := c) (b := t)
          exact ih _ this (ha _ this)
      · rw [cp_other hk]
        refine .node (by simpa using hc) (by simpa using hl) ?_
        intro t ht
        obtain ⟨a, h, rfl⟩ := List.mem_map.mp ht
        exact ih a h (ha a h)
theorem wv_map {u : List Int} {k : Bool} {c : List Tr} {f : Tr → Tr} (h : ∀ t ∈ c, wv u (f t) = wv u t) : wv u (.node k (c.map f)) = wv u (.node k c) := by
  have : (c.map f).map (wv u) = c.map (wv u) := by
    rw [List.map_map]; exact List.map_congr_left fun t ht => h t ht
  rw [wv, wv, wvs_map, wvs_map, this]
/-- a part is worth what the tree is worth -/
theorem wv_cp {j} {u : List Int} {n} : ∀ t, Ok n t → wv u (cp j u t) = wv u t := by
  refine Tr.ind ?_ ?_
  · intro r o; rw [cp]
  · intro k c ih o
    cases o with
    | node hc hl ha =>
      by_cases hk : k = j
      · subst hk
        match c, hc with
        | t :: c, _ =>
          have := pick_mem (k := k) (u := u) (r := c) (b := t)
          rw [cp_own, ih _ this (ha _ this), wv_pick]
      · rw [cp_other hk, wv_map fun t ht => ih t ht (ha t ht)]
/-- a part's part is itself -/
theorem cp_cp {j} {u : List Int} {n} : ∀ t, Ok n t → cp j u (cp j u t) = cp j u t := by
  refine Tr.ind ?_ ?_
  · intro r o; rw [cp, cp]
  · intro k c ih o
    cases o with
    | node hc hl ha =>
      by_cases hk : k = j
      · subst hk
        match c, hc with
        | t :: c, _ =>
          have := pick_mem (k := k) (u := u) (r := c) (b := t)
          rw [cp_own]; exact ih _ this (ha _ this)
      · rw [cp_other hk, cp_other hk, List.map_map]
        congr 1
        exact List.map_congr_left fun t ht => ih t ht (ha t ht)

theorem pds_keeper {u : List Int} {n} : ∀ t, Ok n t → ∀ p ∈ pds u (cp true u t), p ≤ wv u t := by
  refine Tr.ind ?_ ?_
  · intro r o p hp
    rw [cp, pds_leaf] at hp
    cases List.mem_singleton.mp hp
    rw [wv]; exact Int.le_refl _
  · intro k c ih o p hp
    cases o with
    | node hc hl ha =>
      cases k with
      | true =>
        match c, hc with
        | t :: c, _ =>
          have hm := pick_mem (k := true) (u := u) (r := c) (b := t)
          rw [cp_own] at hp
          rw [wv_pick]
          exact ih _ hm (ha _ hm) p hp
      | false =>
        rw [cp_other (by decide)] at hp
        obtain ⟨q, hq, hp⟩ := mem_pds_node.mp hp
        obtain ⟨t, ht, rfl⟩ := List.mem_map.mp hq
        exact Int.le_trans (ih t ht (ha t ht) p hp) ((wv_false hc).2 t ht)
theorem pds_foe {u : List Int} {n} : ∀ t, Ok n t → ∀ p ∈ pds u (cp false u t), wv u t ≤ p := by
  refine Tr.ind ?_ ?_
  · intro r o p hp
    rw [cp, pds_leaf] at hp
    cases List.mem_singleton.mp hp
    rw [wv]; exact Int.le_refl _
  · intro k c ih o p hp
    cases o with
    | node hc hl ha =>
      cases k with
      | false =>
        match c, hc with
        | t :: c, _ =>
          have hm := pick_mem (k := false) (u := u) (r := c) (b := t)
          rw [cp_own] at hp
          rw [wv_pick]
          exact ih _ hm (ha _ hm) p hp
      | true =>
        rw [cp_other (by decide)] at hp
        obtain ⟨q, hq, hp⟩ := mem_pds_node.mp hp
        obtain ⟨t, ht, rfl⟩ := List.mem_map.mp hq
        exact Int.le_trans ((wv_true hc).2 t ht) (ih t ht (ha t ht) p hp)
theorem pick_map {k u} {f : Tr → Tr} : ∀ {r : List Tr} {b : Tr}, wv u (f b) = wv u b → (∀ t ∈ r, wv u (f t) = wv u t) → pick k u (f b) (r.map f) = f (pick k u b r)
  | [], _, _, _ => rfl
  | t :: r, b, hb, h => by
    have ht := h t List.mem_cons_self
    rw [List.map_cons, pick, pick, ht, hb]
    split
    · exact pick_map ht fun x hx => h x (List.mem_cons_of_mem _ hx)
    · exact pick_map hb fun x hx => h x (List.mem_cons_of_mem _ hx)
/-- both parts leave the same row -/
theorem cp_comm {u : List Int} {n} : ∀ t, Ok n t → cp false u (cp true u t) = cp true u (cp false u t) := by
  refine Tr.ind ?_ ?_
  · intro r o; rw [cp, cp, cp]
  · intro k c ih o
    cases o with
    | node hc hl ha =>
      match c, hc with
      | t :: c, _ =>
        have hm := fun k => pick_mem (k := k) (u := u) (r := c) (b := t)
        cases k with
        | true =>
          rw [cp_own, ih _ (hm true) (ha _ (hm true)), cp_other (j := false) (by decide), List.map_cons, cp_own,
            pick_map (wv_cp t (ha t List.mem_cons_self)) fun x hx => wv_cp x (ha x (List.mem_cons_of_mem _ hx))]
        | false =>
          rw [cp_own (j := false), ← ih _ (hm false) (ha _ (hm false)), cp_other (j := true) (by decide), List.map_cons, cp_own,
            pick_map (wv_cp t (ha t List.mem_cons_self)) fun x hx => wv_cp x (ha x (List.mem_cons_of_mem _ hx))]

theorem gd_scale {f : Int} {u : List Int} {k : Nat} : gd (u.map (fun x => f * x)) k = f * gd u k := by
  simp only [gd, List.getD_eq_getElem?_getD, List.getElem?_map]
  cases u[k]? with
  | none => simp
  | some x => simp
theorem dt_scale {f : Int} {u r : List Int} : ∀ m, dt (u.map (fun x => f * x)) r m = f * dt u r m
  | 0 => by simp [dt]
  | m + 1 => by rw [dt, dt, dt_scale m, gd_scale, Int.mul_add, Int.mul_assoc]
theorem better_scale {f a b : Int} {k : Bool} (hf : 0 < f) : better k (f * a) (f * b) = better k a b := by
  have h : ∀ a b : Int, decide (f * a < f * b) = decide (a < b) := fun a b => by
    by_cases q : a < b
    · rw [decide_eq_true q, decide_eq_true (Int.mul_lt_mul_of_pos_left q hf)]
    · rw [decide_eq_false q, decide_eq_false (Int.not_lt.mpr (Int.mul_le_mul_of_nonneg_left (Int.not_lt.mp q) (Int.le_of_lt hf)))]
  cases k <;> simp only [better, h]
theorem pick_scale {f : Int} {u : List Int} {k : Bool} (hf : 0 < f) : ∀ {r : List Tr} {b : Tr}, wv (u.map (fun x => f * x)) b = f * wv u b → (∀ t ∈ r, wv (u.map (fun x => f * x)) t = f * wv u t) → pick k (u.map (fun x => f * x)) b r = pick k u b r
  | [], _, _, _ => rfl
  | t :: r, b, hb, h => by
    have ht := h t List.mem_cons_self
    rw [pick, pick, ht, hb, better_scale hf]
    split
    · exact pick_scale hf ht fun x hx => h x (List.mem_cons_of_mem _ hx)
    · exact pick_scale hf hb fun x hx => h x (List.mem_cons_of_mem _ hx)
theorem wv_scale {f : Int} {u : List Int} (hf : 0 < f) {n} : ∀ t, Ok n t → wv (u.map (fun x => f * x)) t = f * wv u t := by
  refine Tr.ind ?_ ?_
  · intro r o; rw [wv, wv, List.length_map, dt_scale]
  · intro k c ih o
    cases o with
    | node hc hl ha =>
      match c, hc with
      | t :: c, _ =>
        have h0 := ih t List.mem_cons_self (ha t List.mem_cons_self)
        have h1 : ∀ x ∈ c, _ := fun x hx => ih x (List.mem_cons_of_mem _ hx) (ha x (List.mem_cons_of_mem _ hx))
        have hm := pick_mem (k := k) (u := u) (r := c) (b := t)
        rw [wv_pick, wv_pick, pick_scale hf h0 h1]
        exact ih _ hm (ha _ hm)
theorem cp_scale {f : Int} {u : List Int} {j} (hf : 0 < f) {n} : ∀ t, Ok n t → cp j (u.map (fun x => f * x)) t = cp j u t := by
  refine Tr.ind ?_ ?_
  · intro r o; rw [cp, cp]
  · intro k c ih o
    cases o with
    | node hc hl ha =>
      by_cases hk : k = j
      · subst hk
        match c, hc with
        | t :: c, _ =>
          have hm := pick_mem (k := k) (u := u) (r := c) (b := t)
          rw [cp_own, cp_own, pick_scale hf (wv_scale hf t (ha t List.mem_cons_self)) fun x hx => wv_scale hf x (ha x (List.mem_cons_of_mem _ hx))]
          exact ih _ hm (ha _ hm)
      · rw [cp_other hk, cp_other hk]
        congr 1
        exact List.map_congr_left fun t ht => ih t ht (ha t ht)
end Mn.S.Tw

set_option Elab.async false
set_option linter.all false
set_option maxRecDepth 100000
/-! Mn16: slices; the draws of trees (under way). -/
namespace Mn.S.Tw
open PySem
variable {T : List FD} {L : Nat} {x : Ix}

theorem cut_to {xs : List MV} {f : Nat} : cutM xs none (some (f : Int)) = xs.take f := by
  unfold cutM HT.sIx
  simp only [List.drop_zero, Nat.sub_zero]
  rw [if_neg (by omega), Int.toNat_natCast]
  rcases Nat.le_total f xs.length with h | h
  · rw [Nat.min_eq_left h]
  · rw [Nat.min_eq_right h, List.take_of_length_le (Nat.le_refl _), List.take_of_length_le h]
theorem cut_from {xs : List MV} {f : Nat} : cutM xs (some (f : Int)) none = xs.drop f := by
  unfold cutM HT.sIx
  dsimp only
  rw [if_neg (by omega), Int.toNat_natCast]
  rcases Nat.le_total f xs.length with h | h
  · rw [Nat.min_eq_left h, List.take_of_length_le (by rw [List.length_drop]; exact Nat.le_refl _)]
  · rw [Nat.min_eq_right h, List.drop_eq_nil_of_le h, List.drop_eq_nil_of_le (Nat.le_refl _)]; simp
theorem slc_to {xs : List MV} {f : Nat} : slcSem (.lst xs) none (some (f : Int)) = some (.lst (xs.take f), .fr) := by rw [slcSem, cut_to]
theorem slc_from {xs : List MV} {f : Nat} : slcSem (.lst xs) (some (f : Int)) none = some (.lst (xs.drop f), .fr) := by rw [slcSem, cut_from]

/-- the state of the chain's loop -/
def CV (ds ps : List Int) (rows : List (List Int)) (most storeys : Int) (n : Nat) (i : Nat) (σ : MS) : Prop := ∃ (t : Tr) (cn : Int) (a b c d e f g : Option (MV × Bool)), OkP n (· ∈ rows) t ∧ dep t ≤ i + 1 ∧ ((lvs t).length : Int) ≤ cn ∧ cn ≤ most ∧
  σ = [some (.lst (ds.map MV.int), false), some (.lst (ps.map MV.int), false), some (.lst (rows.map rowv), false), some (.int most, false), some (.int storeys, false), some (enc t, false), some (.int cn, false), a, b, c, d, e, f, g]

theorem encs_append {a b : List Tr} : encs (a ++ b) = encs a ++ encs b := by rw [encs_map, encs_map, encs_map, List.map_append]
theorem encs_take {a : List Tr} {i : Nat} : encs (a.take i) = (encs a).take i := by rw [encs_map, encs_map, List.map_take]
theorem encs_drop {a : List Tr} {i : Nat} : encs (a.drop i) = (encs a).drop i := by rw [encs_map, encs_map, List.map_drop]
theorem encs_len {a : List Tr} : (encs a).length = a.length := by rw [encs_map, List.length_map]
theorem deps_append {a b : List Tr} : deps (a ++ b) = max (deps a) (deps b) := by
  induction a with
  | nil => rw [List.nil_append, deps, Nat.zero_max]
  | cons t a ih => rw [List.cons_append, deps, ih, deps, Nat.max_assoc]
theorem lvss_append {a b : List Tr} : lvss (a ++ b) = lvss a ++ lvss b := by
  induction a with
  | nil => rfl
  | cons t a ih => rw [List.cons_append, lvss, ih, lvss, List.append_assoc]
theorem deps_le {a : List Tr} {m : Nat} (h : ∀ t ∈ a, dep t ≤ m) : deps a ≤ m := by
  induction a with
  | nil => exact Nat.zero_le _
  | cons t a ih => rw [deps]; exact Nat.max_le.mpr ⟨h t List.mem_cons_self, ih fun x hx => h x (List.mem_cons_of_mem _ hx)⟩
theorem ok_row {n m : Nat} {b : Int} {rows : List (List Int)} (hr : Rows n m b rows) {r : List Int} (h : r ∈ rows) : OkP n (· ∈ rows) (.leaf r) :=
  .leaf (hr.wd r h) h
/-- trees of one row each -/
def Singles (rows : List (List Int)) (n : Nat) (ls : List Tr) : Prop := ∀ t ∈ ls, OkP n (· ∈ rows) t ∧ dep t = 0 ∧ (lvs t).length = 1
theorem singles_lvs {n} {rows : List (List Int)} : ∀ {ls : List Tr}, Singles rows n ls → (lvss ls).length = ls.length
  | [], _ => rfl
  | t :: ls, h => by
    rw [lvss, List.length_append, (h t List.mem_cons_self).2.2, singles_lvs fun x hx => h x (List.mem_cons_of_mem _ hx), List.length_cons]
    omega

/-- picked rows as trees -/
theorem comp_rows {Φ : Fns} {σ : MS} {elt tg it} {xs : List MV} {t} {n m : Nat} {b : Int} {rows : List (List Int)} (hr : Rows n m b rows) (e : evI Φ it σ = some (xs, t)) (hx : xs.length ≤ 4000000)
    (hg : ∀ x ∈ xs, ∃ r ∈ rows, turn1 Φ elt tg [] σ x = some [rowv r]) : ∃ ls : List Tr, ev Φ (.comp elt tg it []) σ = some (.lst (encs ls), .fr) ∧ ls.length = xs.length ∧ Singles rows n ls := by
  have key : ∀ ys : List MV, (∀ x ∈ ys, ∃ r ∈ rows, turn1 Φ elt tg [] σ x = some [rowv r]) → ∃ ls : List Tr, turns (turn1 Φ elt tg [] σ) ys = some (encs ls) ∧ ls.length = ys.length ∧ Singles rows n ls := by
    intro ys
    induction ys with
    | nil => intro _; exact ⟨[], rfl, rfl, fun t h => by cases h⟩
    | cons y ys ih =>
      intro h
      obtain ⟨r, hm, e1⟩ := h y List.mem_cons_self
      obtain ⟨ls, e2, l, sg⟩ := ih fun x hx => h x (List.mem_cons_of_mem _ hx)
      refine ⟨.leaf r :: ls, ?_, by rw [List.length_cons, List.length_cons, l], ?_⟩
      · rw [turns, e1, Option.bind_some, e2, encs, enc]; rfl
      · intro t ht
        rcases List.mem_cons.mp ht with rfl | ht
        · exact ⟨ok_row hr hm, by rw [dep], by rw [lvs]; rfl⟩
        · exact sg t ht
  obtain ⟨ls, e1, l, sg⟩ := key xs hg
  refine ⟨ls, ?_, l, sg⟩
  rw [ev_comp, e, Option.bind_some, e1, Option.bind_some, szS_ok (by rw [encs_len, l]; exact hx)]

/-- within the chain's loop -/
def CW (ds ps : List Int) (rows : List (List Int)) (most storeys : Int) (t : Tr) (cn : Int) (i F G : Nat) (σ : MS) : Prop := ∃ (c d e g : Option (MV × Bool)),
  σ = [some (.lst (ds.map MV.int), false), some (.lst (ps.map MV.int), false), some (.lst (rows.map rowv), false), some (.int most, false), some (.int storeys, false), some (enc t, false), some (.int cn, false), some (.int i, false), some (.int F, false), some (.int G, false), c, d, e, g]
/-- within the chain's loop, the children before -/
def CX (ds ps : List Int) (rows : List (List Int)) (most storeys : Int) (n : Nat) (t : Tr) (cn : Int) (i F G : Nat) (kd : Bool) (ls : List Tr) (σ : MS) : Prop := ∃ (bf : List Tr) (z : Option (MV × Bool)), (∀ b ∈ bf, OkP n (· ∈ rows) b) ∧ deps bf ≤ 1 ∧ (lvss bf).length = F ∧ bf.length ≤ 10 ∧
  σ = [some (.lst (ds.map MV.int), false), some (.lst (ps.map MV.int), false), some (.lst (rows.map rowv), false), some (.int most, false), some (.int storeys, false), some (enc t, false), some (.int cn, false), some (.int i, false), some (.int F, false), some (.int G, false), some (.str (kw kd), false), some (.lst (encs ls), true), some (.lst (encs bf), true), z]
/-- four drawn numbers a storey -/
def Quads (ds : List Int) (st : Nat) : Prop := ∀ q, q < st → ∃ a b c d : Int, ds[4 * q]? = some a ∧ ds[4 * q + 1]? = some b ∧ ds[4 * q + 2]? = some c ∧ ds[4 * q + 3]? = some d ∧ 0 ≤ a ∧ a < 8 ∧ 0 ≤ b ∧ b < 2 ∧ 0 ≤ c ∧ c < 3 ∧ 0 ≤ d ∧ d < 9
theorem kind_at {b : Int} (h0 : 0 ≤ b) (h1 : b < 2) : ∃ k : Bool, atM [.str "keeper", .str "foe"] b = some (.str (kw k)) := by
  rcases (by omega : b = 0 ∨ b = 1) with rfl | rfl
  · exact ⟨true, rfl⟩
  · exact ⟨false, rfl⟩
theorem kind_ta {b : Int} (h0 : 0 ≤ b) (h1 : b < 2) : ∃ k : Bool, atM [.str "foe", .str "keeper"] b = some (.str (kw k)) := by
  rcases (by omega : b = 0 ∨ b = 1) with rfl | rfl
  · exact ⟨false, rfl⟩
  · exact ⟨true, rfl⟩
theorem quad_at {ds : List Int} {st q : Nat} (h : Quads ds st) (hq : q < st) : ∃ a b c d : Int, atM (ds.map MV.int) (4 * (q : Int)) = some (.int a) ∧ atM (ds.map MV.int) (4 * (q : Int) + 1) = some (.int b) ∧ atM (ds.map MV.int) (4 * (q : Int) + 2) = some (.int c) ∧ atM (ds.map MV.int) (4 * (q : Int) + 3) = some (.int d) ∧ 0 ≤ a ∧ a < 8 ∧ 0 ≤ b ∧ b < 2 ∧ 0 ≤ c ∧ c < 3 ∧ 0 ≤ d ∧ d < 9 := by
  obtain ⟨a, b, c, d, ha, hb, hc, hd, r⟩ := h q hq
  have at0 : ∀ (q : Nat) (d : Int), ds[q]? = some d → atM (ds.map MV.int) (q : Int) = some (.int d) := fun q d h => by rw [atM_nat, List.getElem?_map, h]; rfl
  refine ⟨a, b, c, d, ?_, ?_, ?_, ?_, r⟩
  · have := at0 _ _ ha; rwa [show ((4 * q : Nat) : Int) = 4 * (q : Int) by push_cast; rfl] at this
  · have := at0 _ _ hb; rwa [show ((4 * q + 1 : Nat) : Int) = 4 * (q : Int) + 1 by push_cast; rfl] at this
  · have := at0 _ _ hc; rwa [show ((4 * q + 2 : Nat) : Int) = 4 * (q : Int) + 2 by push_cast; rfl] at this
  · have := at0 _ _ hd; rwa [show ((4 * q + 3 : Nat) : Int) = 4 * (q : Int) + 3 by push_cast; rfl] at this

theorem chain_a (h1 : T[x.lchain]? = some ⟨5, 14, Blchain x⟩) {k n : Nat} {bb : Int} {ds ps : List Int} {rows : List (List Int)} (hr : Rows n 9 bb rows) {st : Nat} (hst : st ≤ 100) (hds : Quads ds st) (hps : ps.length = 64) {most : Int} (hm1 : 1 ≤ most) (hm2 : most ≤ 1000) :
    W (run T L k) L (Blchain x) (startM 14 [.lst (ds.map MV.int), .lst (ps.map MV.int), .lst (rows.map rowv), .int most, .int st]) (fun fl => OB (resOf fl) (fun r => ∃ t, r = (enc t, false) ∧ OkP n (· ∈ rows) t ∧ dep t ≤ st + 1 ∧ ((lvs t).length : Int) ≤ most)) := by
  have hlen : 0 < rows.length := List.length_pos_iff.mpr hr.ne
  have rowat : ∀ q : Int, ∃ R ∈ rows, atM (rows.map rowv) (q % (rows.length : Int)) = some (rowv R) := by
    intro q
    obtain ⟨v, hv, hm⟩ := atM_in (l := rows.map rowv) (Int.emod_nonneg q (by omega : (rows.length : Int) ≠ 0)) (by rw [List.length_map]; exact Int.emod_lt_of_pos _ (by omega))
    obtain ⟨R, hR, rfl⟩ := List.mem_map.mp hm
    exact ⟨R, hR, hv⟩
  obtain ⟨p0, hp0⟩ : ∃ p, atM (ps.map MV.int) 0 = some (.int p) := by
    refine ⟨gd ps 0, ?_⟩
    have := get_mi (a := ps) (k := 0) (by omega)
    rw [← atM_nat] at this
    exact this
  obtain ⟨R0, hR0, g0⟩ := rowat p0
  have hst' : rngOk (st : Int) = true := rngOk_n (by omega)
  refine W.split 2 (CV ds ps rows most st n 0) ?_ ?_
  · simp (decide := true) [-atM_of, Blchain, startM, hp0, hlen, g0]
    refine ⟨.leaf R0, 1, none, none, none, none, none, none, none, ok_row hr hR0, by rw [dep]; exact Nat.zero_le _, by rw [lvs]; exact Int.le_refl _, hm1, ?_⟩
    rw [enc]; rfl
  · intro σ hσ
    refine W.split 1 (CV ds ps rows most st n st) ?_ ?_
    · have hσ' := hσ
      obtain ⟨t, cn, a, b, c, d, e, f, g, _, _, _, _, rfl⟩ := hσ
      simp [Blchain]
      refine W.for (rngM 0 st) (CV ds ps rows most st n) (by simp (decide := true) [hst']) hσ' ?_ (fun σ h => by simpa using h)
      clear hσ'
      rintro i v σ hv ⟨t, cn, a, b, c, d, e, f, g, ho, hd, hl, hc, rfl⟩
      obtain ⟨hi, rfl⟩ := rngM_at hv
      obtain ⟨q0, q1, q2, q3, g0, g1, g2, g3, l0, u0, l1, u1, l2, u2, l3, u3⟩ := quad_at hds hi
      obtain ⟨F, hF, F0, F1⟩ := at_lit (L := [0, 1, 0, 2, 1, 0, 3, 2]) (i := q0) l0 u0 (P := fun x => 0 ≤ x ∧ x ≤ 3) (by decide)
      simp only [List.map_cons, List.map_nil] at hF
      haveI : Bd (i : Int) 10 := Bd.rng (by omega) (by omega)
      rw [putT_nm, OB_some]
      simp only [Int.zero_add, setM_s, setM_z]
      refine W.split 3 (fun σ => ∃ F G : Nat, F ≤ G ∧ G ≤ 10 ∧ cn + G ≤ most ∧ CW ds ps rows most st t cn i F G σ) ?_ ?_
      · obtain ⟨F', rfl⟩ := Int.eq_ofNat_of_zero_le F0
        obtain ⟨q2', rfl⟩ := Int.eq_ofNat_of_zero_le l2
        by_cases hb : most < cn + (F' + q2')
        · simp (decide := true) [-atM_of, g0, g2, hF, hb]
          exact ⟨0, 0, Nat.le_refl _, by omega, by omega, _, _, _, _, rfl⟩
        · simp (decide := true) [-atM_of, g0, g2, hF, hb]
          exact ⟨F', F' + q2', by omega, by omega, by push_cast; omega, d, e, f, g, by push_cast; rfl⟩
      · rintro σ ⟨F, G, hFG, hG, hcn, c, d, e, g, rfl⟩
        obtain ⟨kd, hkd⟩ := kind_at l1 u1
        obtain ⟨kd2, hkd2⟩ := kind_ta l1 u1
        obtain ⟨ls, els, lls, sls⟩ := comp_rows (Φ := run T L k) (σ := [some (.lst (ds.map MV.int), false), some (.lst (ps.map MV.int), false), some (.lst (rows.map rowv), false), some (.int most, false), some (.int st, false), some (enc t, false), some (.int cn, false), some (.int i, false), some (.int F, false), some (.int G, false), some (.str (kw kd), false), d, e, g]) (elt := .idx (.var 2) (.bin .mod (.bi .int [.bin .add (.idx (.var 1) (.bin .mod (.bin .add (.bin .add (.bin .mul (.lit (.int 5)) (.var 7)) (.var 13)) (.lit (.int 1))) (.lit (.int 64)))) (.var 7)]) (.bi .len [.var 2]))) (tg := .nm 13) (it := .rng1 (.var 9)) (xs := rngM 0 G) (t := .sh) hr (by simp (decide := true) [rngOk_n (n := G) (by omega)]) (by simp; omega) (by
          intro x hx
          obtain ⟨j, hj, rfl⟩ := rngM_mem hx
          obtain ⟨w, hw⟩ : ∃ w, atM (ps.map MV.int) ((5 * (i : Int) + (j : Int) + 1) % 64) = some (.int w) := by
            obtain ⟨v, hv, hm⟩ := atM_in (l := ps.map MV.int) (i := (5 * (i : Int) + (j : Int) + 1) % 64) (Int.emod_nonneg _ (by decide)) (by rw [List.length_map, hps]; exact Int.emod_lt_of_pos _ (by decide))
            obtain ⟨w, _, rfl⟩ := List.mem_map.mp hm
            exact ⟨w, hv⟩
          obtain ⟨R, hR, gR⟩ := rowat (w + i)
          refine ⟨R, hR, ?_⟩
          simp (decide := true) [-atM_of, turn1, hw, hlen, gR])
        rw [rngM_length] at lls
        have hz0 : F ≤ ls.length := by omega
        refine W.split 4 (CX ds ps rows most st n t cn i F G kd ls) ?_ ?_
        · have fin : ∀ (bf : List Tr) (z : Option (MV × Bool)), (∀ b ∈ bf, OkP n (· ∈ rows) b) → deps bf ≤ 1 → (lvss bf).length = F → bf.length ≤ 10 → CX ds ps rows most st n t cn i F G kd ls [some (.lst (ds.map MV.int), false), some (.lst (ps.map MV.int), false), some (.lst (rows.map rowv), false), some (.int most, false), some (.int st, false), some (enc t, false), some (.int cn, false), some (.int i, false), some (.int F, false), some (.int G, false), some (.str (kw kd), false), some (.lst (encs ls), true), some (.lst (encs bf), true), z] := fun bf z a b c d => ⟨bf, z, a, b, c, d, rfl⟩
          have sT : Singles rows n (ls.take F) := fun t h => sls t (List.mem_of_mem_take h)
          have lT : (ls.take F).length = F := by rw [List.length_take]; omega
          have f1 := fin (ls.take F) g (fun b h => (sT b h).1) (deps_le fun t h => by rw [(sT t h).2.1]; omega) (by rw [singles_lvs sT, lT]) (by omega)
          have f2 := fun hF : 0 < F => fin [.node kd2 (ls.take F)] g (fun b h => by
            rcases List.mem_singleton.mp h with rfl
            exact .node (fun q => by rw [q] at lT; simp at lT; omega) (by omega) (fun b h => (sT b h).1)) (by
              rw [deps, deps, dep, Nat.max_zero]
              have := deps_le (a := ls.take F) (m := 0) fun t h => by rw [(sT t h).2.1]; omega
              omega) (by rw [lvss, lvs, lvss, List.append_nil, singles_lvs sT, lT]) (by simp)
          have w2 : encs [.node kd2 (ls.take F)] = [.tup [.str (kw kd2), .tup ((encs ls).take F)]] := by rw [encs, encs, enc, encs_take]
          rw [w2] at f2
          rw [encs_take] at f1
          by_cases hF1 : 1 < F
          · have hF1' : (1 : Int) < (F : Int) := by omega
            by_cases hi0 : 0 < i
            · by_cases hq3 : q3 < 6
              · simp (decide := true) [-atM_of, g1, hkd, els, slc_to, hF1, hF1', hi0, g3, hq3, hkd2]
                exact f2 (by omega)
              · simp (decide := true) [-atM_of, g1, hkd, els, slc_to, hF1, hF1', hi0, g3, hq3]
                exact f1
            · simp (decide := true) [-atM_of, g1, hkd, els, slc_to, hF1, hF1', hi0]
              exact f1
          · have hF1' : ¬ (1 : Int) < (F : Int) := by omega
            simp (decide := true) [-atM_of, g1, hkd, els, slc_to, hF1, hF1']
            exact f1
        · rintro σ ⟨bf, z, b1, b2, b3, b4, rfl⟩
          have z1 : (encs bf).length + 1 ≤ 4000000 := by rw [encs_len]; omega
          have z2 : (encs bf).length + 1 + ((encs ls).length - F) ≤ 4000000 := by rw [encs_len, encs_len]; omega
          have w : enc (.node kd (bf ++ [t] ++ ls.drop F)) = .tup [.str (kw kd), .tup (encs bf ++ enc t :: (encs ls).drop F)] := by
            rw [enc, encs_append, encs_append, encs_drop, encs, encs, List.append_assoc]; rfl
          simp (decide := true) [-atM_of, slc_from, z1, z2]
          have sD : Singles rows n (ls.drop F) := fun t h => sls t (List.mem_of_mem_drop h)
          refine ⟨.node kd (bf ++ [t] ++ ls.drop F), cn + G, _, _, _, _, _, _, _, ?_, ?_, ?_, hcn, by rw [w]⟩
          · refine .node (by simp) (by simp; omega) ?_
            intro b hb
            rcases List.mem_append.mp hb with hb | hb
            · rcases List.mem_append.mp hb with hb | hb
              · exact b1 b hb
              · cases List.mem_singleton.mp hb; exact ho
            · exact (sD b hb).1
          · rw [dep, deps_append, deps_append, deps, deps]
            have := deps_le (a := ls.drop F) (m := 0) fun t h => by rw [(sD t h).2.1]; omega
            omega
          · rw [lvs, lvss_append, lvss_append, List.length_append, List.length_append, b3, singles_lvs sD, List.length_drop, lvss, lvss, List.append_nil]
            omega
    · rintro σ ⟨t, cn, a, b, c, d, e, f, g, ho, hd, hl, hc, rfl⟩
      simp [Blchain]
      exact ⟨t, rfl, ho, hd, by omega⟩
end Mn.S.Tw

set_option Elab.async false
set_option linter.all false
set_option maxRecDepth 100000
/-! Mn17: the drawn tree of equal depth. -/
namespace Mn.S.Tw
open PySem
variable {T : List FD} {L : Nat} {x : Ix}

def prod (l : List Nat) : Nat := l.foldl (· * ·) 1
theorem prod_snoc {l : List Nat} {a : Nat} : prod (l ++ [a]) = prod l * a := by rw [prod, List.foldl_append]; rfl
theorem prod_cons {l : List Nat} {a : Nat} : prod (a :: l) = a * prod l := by
  rw [prod, List.foldl_cons, Nat.one_mul, foldl_mul]; rfl
theorem prod_pos {l : List Nat} (h : ∀ a ∈ l, 1 ≤ a) : 1 ≤ prod l := by
  induction l with
  | nil => exact Nat.le_refl _
  | cons a l ih =>
    rw [prod_cons]
    exact Nat.mul_pos (h a List.mem_cons_self) (ih fun x hx => h x (List.mem_cons_of_mem _ hx))
theorem prod_drop {l : List Nat} {i : Nat} (h : i < l.length) : prod (l.drop i) = l[i] * prod (l.drop (i + 1)) := by
  rw [List.drop_eq_getElem_cons h, prod_cons]

theorem cut_mid {xs : List MV} {a b : Nat} (h : a ≤ b) : cutM xs (some (a : Int)) (some (b : Int)) = (xs.drop a).take (b - a) := by
  unfold cutM HT.sIx
  dsimp only
  rw [if_neg (by omega), if_neg (by omega), Int.toNat_natCast, Int.toNat_natCast]
  rcases Nat.le_total a xs.length with ha | ha
  · rw [Nat.min_eq_left ha]
    rcases Nat.le_total b xs.length with hb | hb
    · rw [Nat.min_eq_left hb]
    · rw [Nat.min_eq_right hb, List.take_of_length_le (by rw [List.length_drop]; exact Nat.le_refl _), List.take_of_length_le (by rw [List.length_drop]; omega)]
  · rw [Nat.min_eq_right ha, List.drop_eq_nil_of_le ha, List.drop_eq_nil_of_le (Nat.le_refl _)]; simp
theorem slc_mid {xs : List MV} {a b : Nat} (h : a ≤ b) : slcSem (.lst xs) (some (a : Int)) (some (b : Int)) = some (.lst ((xs.drop a).take (b - a)), .fr) := by rw [slcSem, cut_mid h]

/-- the state of the sizes' loop -/
def LV (ds ps : List Int) (rows : List (List Int)) (most storeys : Int) (i : Nat) (σ : MS) : Prop := ∃ (sz : List Nat) (a b c d e f g : Option (MV × Bool)), sz.length = i ∧ (∀ s ∈ sz, 1 ≤ s ∧ s ≤ 8) ∧ ((prod sz : Nat) : Int) ≤ most ∧
  σ = [some (.lst (ds.map MV.int), false), some (.lst (ps.map MV.int), false), some (.lst (rows.map rowv), false), some (.int most, false), some (.int storeys, false), some (.lst ((ci sz).map MV.int), true), some (.int (prod sz : Nat), false), a, b, c, d, e, f, g]

/-- the state of the storeys' loop -/
def LW (ds ps : List Int) (rows : List (List Int)) (most storeys : Int) (n : Nat) (sz : List Nat) (i : Nat) (σ : MS) : Prop := ∃ (ts : List Tr) (o : Bool) (a c d e f g : Option (MV × Bool)), (∀ t ∈ ts, OkP n (· ∈ rows) t ∧ dep t ≤ i) ∧ ts.length = prod (sz.drop i) ∧ (lvss ts).length = prod sz ∧
  σ = [some (.lst (ds.map MV.int), false), some (.lst (ps.map MV.int), false), some (.lst (rows.map rowv), false), some (.int most, false), some (.int storeys, false), some (.lst ((ci sz).map MV.int), true), some (.int (prod sz : Nat), false), a, some (.lst (encs ts), o), c, d, e, f, g]

theorem levelled_a (h1 : T[x.llevelled]? = some ⟨5, 14, Bllevelled x⟩) {k n : Nat} {bb : Int} {ds ps : List Int} {rows : List (List Int)} (hr : Rows n 9 bb rows) {st : Nat} (hst : st ≤ 100) (hds : Quads ds st) (hps : ps.length = 64) {most : Int} (hm1 : 1 ≤ most) (hm2 : most ≤ 64) :
    W (run T L k) L (Bllevelled x) (startM 14 [.lst (ds.map MV.int), .lst (ps.map MV.int), .lst (rows.map rowv), .int most, .int st]) (fun fl => OB (resOf fl) (fun r => ∃ t, r = (enc t, false) ∧ OkP n (· ∈ rows) t ∧ dep t ≤ st ∧ ((lvs t).length : Int) ≤ most)) := by
  have hlen : 0 < rows.length := List.length_pos_iff.mpr hr.ne
  have rowat : ∀ q : Int, ∃ R ∈ rows, atM (rows.map rowv) (q % (rows.length : Int)) = some (rowv R) := by
    intro q
    obtain ⟨v, hv, hm⟩ := atM_in (l := rows.map rowv) (Int.emod_nonneg q (by omega : (rows.length : Int) ≠ 0)) (by rw [List.length_map]; exact Int.emod_lt_of_pos _ (by omega))
    obtain ⟨R, hR, rfl⟩ := List.mem_map.mp hm
    exact ⟨R, hR, hv⟩
  have hst' : rngOk (st : Int) = true := rngOk_n (by omega)
  refine W.split 2 (LV ds ps rows most st 0) ?_ ?_
  · simp [Bllevelled, startM]
    exact ⟨[], none, none, none, none, none, none, none, rfl, fun s h => (by cases h), hm1, rfl⟩
  · intro σ hσ
    refine W.split 1 (LV ds ps rows most st st) ?_ ?_
    · have hσ' := hσ
      obtain ⟨sz, a, b, c, d, e, f, g, _, _, _, rfl⟩ := hσ
      simp [Bllevelled]
      refine W.for (rngM 0 st) (LV ds ps rows most st) (by simp (decide := true) [hst']) hσ' ?_ (fun σ h => by simpa using h)
      clear hσ'
      rintro i v σ hv ⟨sz, a, b, c, d, e, f, g, hl, hs, hp, rfl⟩
      obtain ⟨hi, rfl⟩ := rngM_at hv
      obtain ⟨q0, q1, q2, q3, g0, g1, g2, g3, l0, u0, l1, u1, l2, u2, l3, u3⟩ := quad_at hds hi
      obtain ⟨F, hF, F0, F1⟩ := at_lit (L := [1, 2, 2, 4, 3, 2, 1, 8]) (i := q0) l0 u0 (P := fun x => 1 ≤ x ∧ x ≤ 8) (by decide)
      obtain ⟨F, rfl⟩ := Int.eq_ofNat_of_zero_le (show 0 ≤ F by omega)
      simp only [List.map_cons, List.map_nil] at hF
      haveI : Bd (i : Int) 10 := Bd.rng (by omega) (by omega)
      haveI : Bd ((prod sz : Nat) : Int) 10 := Bd.rng (by omega) (by omega)
      haveI : Bd (F : Int) 10 := Bd.rng (by omega) (by omega)
      have zs : (ci sz).length < SZ := SZ_gt (by simp [ci]; omega)
      have fin : ∀ (m : Nat) (a b c d e f g : Option (MV × Bool)), 1 ≤ m → m ≤ 8 → ((prod sz * m : Nat) : Int) ≤ most → LV ds ps rows most st (i + 1) [some (.lst (ds.map MV.int), false), some (.lst (ps.map MV.int), false), some (.lst (rows.map rowv), false), some (.int most, false), some (.int st, false), some (.lst ((ci sz).map MV.int ++ [.int m]), true), some (.int ((prod sz : Nat) * (m : Nat) : Int), false), a, b, c, d, e, f, g] := by
        intro m a b c d e f g h1 h2 h3
        refine ⟨sz ++ [m], a, b, c, d, e, f, g, by simp [hl], ?_, by rw [prod_snoc]; exact h3, by rw [prod_snoc]; simp [ci]⟩
        intro s h
        rcases List.mem_append.mp h with h | h
        · exact hs s h
        · cases List.mem_singleton.mp h; exact ⟨h1, h2⟩
      rw [putT_nm, OB_some]
      simp only [Int.zero_add, setM_s, setM_z]
      by_cases hb : most < (prod sz : Nat) * (F : Int)
      · have f1 := fin 1 (some (.int i, false)) b (some (.int 1, false)) d e f g (by decide) (by decide) (by rw [Nat.mul_one]; exact hp)
        simp (decide := true) [-atM_of, g0, hF, hb, zs]
        simpa using f1
      · have f1 := fin F (some (.int i, false)) b (some (.int F, false)) d e f g (by omega) (by omega) (by push_cast; omega)
        simp (decide := true) [-atM_of, g0, hF, hb, zs]
        exact f1
    · rintro σ ⟨sz, a, b, c, d, e, f, g, hl, hs, hp, rfl⟩
      refine W.split 1 (LW ds ps rows most st n sz 0) ?_ ?_
      · have hp1 := prod_pos (l := sz) fun a h => (hs a h).1
        obtain ⟨ls, els, lls, sls⟩ := comp_rows (Φ := run T L k) (σ := [some (.lst (ds.map MV.int), false), some (.lst (ps.map MV.int), false), some (.lst (rows.map rowv), false), some (.int most, false), some (.int st, false), some (.lst ((ci sz).map MV.int), true), some (.int (prod sz : Nat), false), a, b, c, d, e, f, g]) (elt := .idx (.var 2) (.bin .mod (.bi .int [.idx (.var 1) (.var 12)]) (.bi .len [.var 2]))) (tg := .nm 12) (it := .rng1 (.var 6)) (xs := rngM 0 (prod sz)) (t := .sh) hr (by simp (decide := true) [rngOk_n (n := prod sz) (by omega)]) (by simp; omega) (by
          intro x hx
          obtain ⟨j, hj, rfl⟩ := rngM_mem hx
          obtain ⟨w, hw⟩ : ∃ w, atM (ps.map MV.int) (j : Int) = some (.int w) := ⟨_, by rw [atM_nat]; exact get_mi (by omega)⟩
          obtain ⟨R, hR, gR⟩ := rowat w
          refine ⟨R, hR, ?_⟩
          simp (decide := true) [-atM_of, turn1, hw, hlen, gR])
        rw [rngM_length] at lls
        simp (decide := true) [-List.map_map, Bllevelled, els]
        exact ⟨ls, true, _, _, _, _, _, _, fun t h => ⟨(sls t h).1, by rw [(sls t h).2.1]; exact Nat.zero_le _⟩, by rw [List.drop_zero]; exact lls, by rw [singles_lvs sls, lls], rfl⟩
      · intro σ hσ
        refine W.split 1 (LW ds ps rows most st n sz st) ?_ ?_
        · have hσ' := hσ
          obtain ⟨ts, o, a, c, d, e, f, g, _, _, _, rfl⟩ := hσ
          simp [Bllevelled, -List.map_map]
          refine W.for (rngM 0 st) (LW ds ps rows most st n sz) (by simp (decide := true) [hst']) hσ' ?_ (fun σ h => by simpa using h)
          clear hσ'
          rintro i v σ hv ⟨ts, o, a, c, d, e, f, g, ht, hlt, hlv, rfl⟩
          obtain ⟨hi, rfl⟩ := rngM_at hv
          obtain ⟨q0, q1, q2, q3, g0, g1, g2, g3, l0, u0, l1, u1, l2, u2, l3, u3⟩ := quad_at hds hi
          have hi' : i < sz.length := by omega
          rw [prod_drop hi'] at hlt
          have hs' := hs _ (List.getElem_mem hi')
          have gs : atM ((ci sz).map MV.int) (i : Int) = some (.int (sz[i] : Nat)) := by
            rw [atM_nat, List.getElem?_map, ci, List.getElem?_map, List.getElem?_eq_getElem hi']; rfl
          have hp1 : 1 ≤ prod (sz.drop (i + 1)) := prod_pos fun a h => (hs a (List.mem_of_mem_drop h)).1
          have hl64 : ts.length ≤ 64 := by
            have : ts.length ≤ (lvss ts).length := by
              clear hlt hlv hσ
              induction ts with
              | nil => exact Nat.zero_le _
              | cons t ts ih =>
                rw [lvss, List.length_append, List.length_cons]
                have := lvs_pos t (ht t List.mem_cons_self).1
                have := ih fun x hx => ht x (List.mem_cons_of_mem _ hx)
                omega
            omega
          generalize sz[i] = s at hs' hlt gs
          generalize hR : prod (sz.drop (i + 1)) = R at hp1 hlt
          have hdiv : ((encs ts).length : Int) / (s : Int) = (R : Int) := by
            rw [encs_len, hlt, Int.natCast_mul, Int.mul_comm]
            exact Int.mul_ediv_cancel _ (by omega)
          have hR64 : R ≤ 64 := by
            have : R ≤ s * R := Nat.le_mul_of_pos_left R (by omega)
            omega
          haveI : Bd (i : Int) 10 := Bd.rng (by omega) (by omega)
          haveI : Bd (s : Int) 10 := Bd.rng (by omega) (by omega)
          have s0 : (0 : Int) < s := by omega
          have s0' : 0 < s := by omega
          have hRr : rngOk (R : Int) = true := rngOk_n (by omega)
          rw [putT_nm, OB_some]
          simp only [Int.zero_add, setM_s, setM_z]
          simp [-List.map_map]
          refine W.for (rngM 0 R) (fun j σ => ∃ (us : List Tr) (e f g : Option (MV × Bool)), us.length = j ∧ (∀ u ∈ us, OkP n (· ∈ rows) u ∧ dep u ≤ i + 1) ∧ (lvss us).length = (lvss (ts.take (j * s))).length ∧
            σ = [some (.lst (ds.map MV.int), false), some (.lst (ps.map MV.int), false), some (.lst (rows.map rowv), false), some (.int most, false), some (.int st, false), some (.lst ((ci sz).map MV.int), true), some (.int (prod sz : Nat), false), some (.int i, false), some (.lst (encs ts), o), c, some (.lst (encs us), true), e, f, g]) (by simp (decide := true) [-atM_of, gs, hdiv, s0, s0', hRr]) ⟨[], e, f, g, rfl, fun s h => (by cases h), by simp, rfl⟩ ?_ ?_
          · rintro j v σ hv ⟨us, e, f, g, hu1, hu2, hu3, rfl⟩
            obtain ⟨hj, rfl⟩ := rngM_at hv
            have hjs : j * s + s ≤ ts.length := by
              rw [hlt, ← Nat.succ_mul, Nat.mul_comm]
              exact Nat.mul_le_mul_left _ (by omega)
            have sl := slc_mid (xs := encs ts) (a := j * s) (b := j * s + s) (by omega)
            rw [show j * s + s - j * s = s by omega, ← encs_drop, ← encs_take] at sl
            push_cast at sl
            haveI : Bd (j : Int) 10 := Bd.rng (by omega) (by omega)
            haveI : Bd (q2 / 2) 10 := Bd.rng (by omega) (by omega)
            obtain ⟨kd, hkd⟩ := kind_at (b := (q1 + (j : Int) * (q2 / 2)) % 2) (Int.emod_nonneg _ (by decide)) (Int.emod_lt_of_pos _ (by decide))
            have zu : (encs us).length < SZ := SZ_gt (by rw [encs_len]; omega)
            generalize hC : (ts.drop (j * s)).take s = C at sl
            have lC : C.length = s := by rw [← hC, List.length_take, List.length_drop]; omega
            have mC : ∀ t ∈ C, t ∈ ts := fun t h => by rw [← hC] at h; exact List.mem_of_mem_drop (List.mem_of_mem_take h)
            simp (decide := true) [-atM_of, -List.map_map, gs, g1, g2, hkd, sl, zu]
            refine ⟨us ++ [.node kd C], by simp [hu1], ?_, ?_, by rw [encs_append, encs, enc, encs]⟩
            · intro u hu
              rcases List.mem_append.mp hu with hu | hu
              · exact hu2 u hu
              · cases List.mem_singleton.mp hu
                refine ⟨.node (fun q => by rw [q] at lC; simp at lC; omega) (by omega) fun t h => (ht t (mC t h)).1, ?_⟩
                rw [dep]
                have := deps_le (a := C) (m := i) fun t h => (ht t (mC t h)).2
                omega
            · rw [Nat.succ_mul, List.take_add, hC, lvss_append, lvss_append, List.length_append, List.length_append, hu3, lvss, lvs, lvss, List.append_nil]
          · rintro σ ⟨us, e, f, g, hu1, hu2, hu3, rfl⟩
            rw [rngM_length] at hu1 hu3
            rw [Nat.mul_comm, ← hlt, List.take_length] at hu3
            simp [-List.map_map]
            exact ⟨us, false, _, _, _, _, _, _, hu2, by rw [hu1, hR], by rw [hu3, hlv], rfl⟩
        · rintro σ ⟨ts, o, a, c, d, e, f, g, ht, hlt, hlv, rfl⟩
          rw [List.drop_eq_nil_of_le (by omega)] at hlt
          match ts, hlt with
          | [t], _ =>
            rw [lvss, lvss, List.append_nil] at hlv
            simp [-List.map_map, Bllevelled, encs]
            exact ⟨t, rfl, (ht t List.mem_cons_self).1, (ht t List.mem_cons_self).2, by omega⟩
end Mn.S.Tw

set_option Elab.async false
set_option linter.all false
set_option maxRecDepth 100000
/-! Mn18: the drawn tree that is stacked; the drawn tree. -/
namespace Mn.S.Tw
open PySem
variable {T : List FD} {L : Nat} {x : Ix}

def lcs (ts : List Tr) : List Int := ts.map fun t => ((lvs t).length : Int)
def lds (ts : List Tr) : List Int := ts.map fun t => (dep t : Int)
theorem lcs_append {a b : List Tr} : lcs (a ++ b) = lcs a ++ lcs b := by rw [lcs, List.map_append]; rfl
theorem lds_append {a b : List Tr} : lds (a ++ b) = lds a ++ lds b := by rw [lds, List.map_append]; rfl
theorem lcs_take {a : List Tr} {i} : lcs (a.take i) = (lcs a).take i := by rw [lcs, List.map_take]; rfl
theorem lds_take {a : List Tr} {i} : lds (a.take i) = (lds a).take i := by rw [lds, List.map_take]; rfl
theorem lcs_drop {a : List Tr} {i} : lcs (a.drop i) = (lcs a).drop i := by rw [lcs, List.map_drop]; rfl
theorem lds_drop {a : List Tr} {i} : lds (a.drop i) = (lds a).drop i := by rw [lds, List.map_drop]; rfl
theorem lcs_sum : ∀ ts : List Tr, (lcs ts).sum = ((lvss ts).length : Int)
  | [] => rfl
  | t :: ts => by rw [lcs, List.map_cons, List.sum_cons, lvss, List.length_append, Int.natCast_add, ← lcs_sum ts]; rfl
theorem lds_max {ts : List Tr} (h : ts ≠ []) : mxL (lds ts) = (deps ts : Int) := by
  refine mxL_eq ?_ ?_
  · induction ts with
    | nil => contradiction
    | cons t ts ih =>
      rw [deps]
      rcases Nat.le_total (deps ts) (dep t) with q | q
      · rw [Nat.max_eq_left q]; exact List.mem_cons_self
      · rw [Nat.max_eq_right q]
        cases ts with
        | nil =>
          have e : dep t = 0 := by rw [deps] at q; omega
          rw [deps, ← e]; exact List.mem_cons_self
        | cons u us => exact List.mem_cons_of_mem _ (ih (by simp))
  · intro y hy
    obtain ⟨t, ht, rfl⟩ := List.mem_map.mp hy
    have := deps_mem ht
    omega

/-- two by two -/
def pairs (kd : Bool) (ts : List Tr) (m : Nat) : List Tr := (List.range m).map fun k => .node kd ((ts.drop (2 * k)).take 2)
theorem pairs_lvs {kd : Bool} {ts : List Tr} : ∀ m, lvss (pairs kd ts m) = lvss (ts.take (2 * m))
  | 0 => by rw [Nat.mul_zero, List.take_zero]; rfl
  | m + 1 => by
    have := pairs_lvs (kd := kd) (ts := ts) m
    unfold pairs at this ⊢
    rw [List.range_succ, List.map_append, lvss_append, this, List.map_cons, List.map_nil, lvss, lvs, lvss, List.append_nil, ← lvss_append, ← List.take_add]; rfl
theorem pairs_len {kd : Bool} {ts : List Tr} {m} : (pairs kd ts m).length = m := by simp [pairs]
theorem pairs_enc {kd : Bool} {ts : List Tr} : ∀ m, encs (pairs kd ts m) = (rngM 0 m).map fun v => .tup [.str (kw kd), .tup (((encs ts).drop (2 * ix v)).take 2)] := by
  intro m
  refine List.ext_getElem? fun i => ?_
  rw [encs_map, List.getElem?_map, List.getElem?_map, rngM_get, pairs, List.getElem?_map]
  by_cases h : i < m
  · rw [if_pos h, List.getElem?_range h]
    simp [enc, encs_take, encs_drop, ix]
  · rw [if_neg h, List.getElem?_eq_none (by simpa using h)]; rfl

/-- the state of the stack's loop -/
def SV (ds : List Int) (rows : List (List Int)) (most deep : Int) (n : Nat) (i : Nat) (σ : MS) : Prop := ∃ (ts : List Tr) (a b c d e f : Option (MV × Bool)), ts ≠ [] ∧ (∀ t ∈ ts, OkP n (· ∈ rows) t ∧ (dep t : Int) + 1 ≤ deep) ∧ ((lvss ts).length : Int) ≤ most ∧
  σ = [some (.lst (ds.map MV.int), false), some (.lst (rows.map rowv), false), some (.int most, false), some (.int deep, false), some (.lst (encs ts), true), some (.lst ((lcs ts).map MV.int), true), some (.lst ((lds ts).map MV.int), true), a, b, c, d, e, f]

theorem len_lvss {n : Nat} {P : List Int → Prop} : ∀ {ts : List Tr}, (∀ t ∈ ts, OkP n P t) → ts.length ≤ (lvss ts).length
  | [], _ => Nat.zero_le _
  | t :: ts, h => by
    rw [lvss, List.length_append, List.length_cons]
    have := lvs_pos t (h t List.mem_cons_self)
    have := len_lvss (ts := ts) fun x hx => h x (List.mem_cons_of_mem _ hx)
    omega

theorem stacked_a (h1 : T[x.lstacked]? = some ⟨4, 13, Blstacked x⟩) {k n : Nat} {bb : Int} {ds : List Int} {rows : List (List Int)} (hr : Rows n 9 bb rows) {st : Nat} (hst : st ≤ 100) (hst2 : 2 ≤ st) (hds : Quads ds st) (hdl : ds.length = 4 * st) {most deep : Int} (hm1 : 1 ≤ most) (hm2 : most ≤ 1000) (hdp : 1 ≤ deep) (hdp2 : deep ≤ 1000) :
    W (run T L k) L (Blstacked x) (startM 13 [.lst (ds.map MV.int), .lst (rows.map rowv), .int most, .int deep]) (fun fl => OB (resOf fl) (fun r => ∃ t, r = (enc t, false) ∧ OkP n (· ∈ rows) t ∧ (dep t : Int) ≤ deep ∧ ((lvs t).length : Int) ≤ most)) := by
  have hlen : 0 < rows.length := List.length_pos_iff.mpr hr.ne
  have rowat : ∀ q : Int, ∃ R ∈ rows, atM (rows.map rowv) (q % (rows.length : Int)) = some (rowv R) := by
    intro q
    obtain ⟨v, hv, hm⟩ := atM_in (l := rows.map rowv) (Int.emod_nonneg q (by omega : (rows.length : Int) ≠ 0)) (by rw [List.length_map]; exact Int.emod_lt_of_pos _ (by omega))
    obtain ⟨R, hR, rfl⟩ := List.mem_map.mp hm
    exact ⟨R, hR, hv⟩
  have rowta : ∀ q : Int, ∃ R ∈ rows, atM (rows.map rowv) ((rows.length : Int) - 1 - q % (rows.length : Int)) = some (rowv R) := by
    intro q
    have q0 := Int.emod_nonneg q (by omega : (rows.length : Int) ≠ 0)
    have q1 := Int.emod_lt_of_pos q (by omega : (0 : Int) < rows.length)
    obtain ⟨v, hv, hm⟩ := atM_in (l := rows.map rowv) (i := (rows.length : Int) - 1 - q % (rows.length : Int)) (by omega) (by rw [List.length_map]; omega)
    obtain ⟨R, hR, rfl⟩ := List.mem_map.mp hm
    exact ⟨R, hR, hv⟩
  obtain ⟨qa, qb, qc, qd, ga, gb, gc, gd', la, ua, lb, ub, lc', uc, ld', ud⟩ := quad_at hds (q := 0) (by omega)
  obtain ⟨pa, pb, pc, pd, ha, hb, hc, hd, _, _, _, _, lpc, upc, _, _⟩ := quad_at hds (q := 1) (by omega)
  simp only [Int.natCast_zero, Int.mul_zero, Int.zero_add, Int.natCast_one, Int.mul_one, show (4 : Int) + 1 = 5 from rfl, show (4 : Int) + 2 = 6 from rfl, show (4 : Int) + 3 = 7 from rfl] at ga gb gc gd' ha hb hc hd
  obtain ⟨R0, hR0, g0⟩ := rowta qd
  have hst' : rngOk (st : Int) = true := rngOk_n (by omega)
  have hl4 : ((ds.length : Nat) : Int) / 4 = (st : Int) := by omega
  refine W.split 3 (SV ds rows most deep n 0) ?_ ?_
  · simp (decide := true) [-atM_of, Blstacked, startM, gd', hlen, g0]
    refine ⟨[.leaf R0], none, none, none, none, none, none, by simp, ?_, by rw [lvss, lvs, lvss]; exact hm1, by simp [encs, enc, lcs, lds, lvs, dep, rowv]⟩
    intro t ht
    cases List.mem_singleton.mp ht
    exact ⟨ok_row hr hR0, by rw [dep]; omega⟩
  · intro σ hσ
    refine W.split 1 (SV ds rows most deep n st) ?_ ?_
    · have hσ' := hσ
      obtain ⟨ts, a, b, c, d, e, f, _, _, _, rfl⟩ := hσ
      simp [Blstacked, -List.map_map]
      refine W.for (rngM 0 st) (SV ds rows most deep n) (by simp (decide := true) [hst', hl4]) hσ' ?_ (fun σ h => by simpa using h)
      clear hσ'
      rintro i v σ hv ⟨ts, a, b, c, d, e, f, hne, ho, hl, rfl⟩
      obtain ⟨hi, rfl⟩ := rngM_at hv
      obtain ⟨q0, q1, q2, q3, g0, g1, g2, g3, l0, u0, l1, u1, l2, u2, l3, u3⟩ := quad_at hds hi
      have hlt := len_lvss (n := n) (ts := ts) fun t h => (ho t h).1
      have hpos : 0 < ts.length := List.length_pos_iff.mpr hne
      haveI : Bd (i : Int) 10 := Bd.rng (by omega) (by omega)
      have sc := lcs_sum ts
      have z1 : (encs ts).length < SZ := SZ_gt (by rw [encs_len]; omega)
      have z2 : (lcs ts).length < SZ := SZ_gt (by rw [lcs, List.length_map]; omega)
      have z3 : (lds ts).length < SZ := SZ_gt (by rw [lds, List.length_map]; omega)
      have fin : ∀ (us : List Tr) (a b c d e f : Option (MV × Bool)), us ≠ [] → (∀ t ∈ us, OkP n (· ∈ rows) t ∧ (dep t : Int) + 1 ≤ deep) → ((lvss us).length : Int) ≤ most → SV ds rows most deep n (i + 1) [some (.lst (ds.map MV.int), false), some (.lst (rows.map rowv), false), some (.int most, false), some (.int deep, false), some (.lst (encs us), true), some (.lst ((lcs us).map MV.int), true), some (.lst ((lds us).map MV.int), true), a, b, c, d, e, f] :=
        fun us a b c d e f h1 h2 h3 => ⟨us, a, b, c, d, e, f, h1, h2, h3, rfl⟩
      rw [putT_nm, OB_some]
      simp only [Int.zero_add, setM_s, setM_z]
      rcases (by omega : q0 ≤ 3 ∨ q0 = 4 ∨ 5 ≤ q0) with hq | hq | hq
      · have k4 : ¬ q0 = 4 := by omega
        have k5 : ¬ 5 ≤ q0 := by omega
        by_cases hs : ((lvss ts).length : Int) < most
        · obtain ⟨R, hR, gR⟩ := rowat q3
          have f1 := fin (ts ++ [.leaf R]) (some (.int i, false)) (some (.int q0, false)) (some (.int ((encs ts).length - 1), false)) d e f (by simp) (by
            intro t ht
            rcases List.mem_append.mp ht with ht | ht
            · exact ho t ht
            · cases List.mem_singleton.mp ht
              exact ⟨ok_row hr hR, by rw [dep]; omega⟩) (by rw [lvss_append, List.length_append, lvss, lvs, lvss]; simp; omega)
          rw [encs_append, lcs_append, lds_append, List.map_append, List.map_append] at f1
          simp (decide := true) [-atM_of, -List.map_map, g0, hq, k4, k5, sc, hs, z1, z2, z3, g3, hlen, gR]
          exact f1
        · simp (decide := true) [-atM_of, -List.map_map, g0, hq, k4, k5, sc, hs]
          exact fin ts _ _ _ _ _ _ hne ho hl
      · subst hq
        have hlast : ((encs ts).length : Int) - 1 = ((ts.length - 1 : Nat) : Int) := by rw [encs_len]; omega
        have hli : ts.length - 1 < ts.length := by omega
        have gE : atM (encs ts) ((ts.length - 1 : Nat) : Int) = some (enc ts[ts.length - 1]) := by
          rw [atM_nat, encs_map, List.getElem?_map, List.getElem?_eq_getElem hli]; rfl
        have gC : atM ((lcs ts).map MV.int) ((ts.length - 1 : Nat) : Int) = some (.int ((lvs ts[ts.length - 1]).length : Nat)) := by
          rw [atM_nat, lcs, List.getElem?_map, List.getElem?_map, List.getElem?_eq_getElem hli]; rfl
        have gD : atM ((lds ts).map MV.int) ((ts.length - 1 : Nat) : Int) = some (.int (dep ts[ts.length - 1] : Nat)) := by
          rw [atM_nat, lds, List.getElem?_map, List.getElem?_map, List.getElem?_eq_getElem hli]; rfl
        have hmem : ts[ts.length - 1] ∈ ts := List.getElem_mem hli
        generalize ts[ts.length - 1] = tl at gE gC gD hmem
        generalize ts.length - 1 = p at hlast gE gC gD
        by_cases hs : ((lvss ts).length : Int) + ((lvs tl).length : Int) ≤ most
        · have f1 := fin (ts ++ [tl]) (some (.int i, false)) (some (.int 4, false)) (some (.int p, false)) d e f (by simp) (by
            intro t ht
            rcases List.mem_append.mp ht with ht | ht
            · exact ho t ht
            · cases List.mem_singleton.mp ht; exact ho _ hmem) (by rw [lvss_append, List.length_append, lvss, lvss, List.append_nil]; push_cast; omega)
          rw [encs_append, lcs_append, lds_append, List.map_append, List.map_append] at f1
          simp (decide := true) [-atM_of, -List.map_map, g0, sc, hs, z1, z2, z3, hlast, gE, gC, gD]
          exact f1
        · simp (decide := true) [-atM_of, -List.map_map, g0, sc, hs, hlast, gC]
          exact fin ts _ _ _ _ _ _ hne ho hl
      · have k4 : ¬ q0 = 4 := by omega
        have k3 : ¬ q0 ≤ 3 := by omega
        have hcut : ∃ c : Nat, c < ts.length ∧ max 0 (((encs ts).length : Int) - q2 - 2 + if q0 = 7 then 1 else 0) = (c : Int) := by
          rw [encs_len]
          refine ⟨(max 0 ((ts.length : Int) - q2 - 2 + if q0 = 7 then 1 else 0)).toNat, ?_, ?_⟩ <;> split <;> omega
        obtain ⟨c0, hc0, hcut⟩ := hcut
        have hdne : ts.drop c0 ≠ [] := fun q => by have := List.drop_eq_nil_iff.mp q; omega
        have m12 : biSem .max [.lst (((lds ts).map MV.int).drop c0)] = some (.int (deps (ts.drop c0) : Nat), .sh) := by
          rw [← List.map_drop, ← lds_drop, bi_maxL (l := lds (ts.drop c0)) (fun q => hdne (by rw [lds] at q; exact List.map_eq_nil_iff.mp q)), lds_max hdne]
        have s5 : biSem .sum [.lst (((lcs ts).map MV.int).drop c0)] = some (.int ((lvss (ts.drop c0)).length : Nat), .sh) := by
          rw [← List.map_drop, ← lcs_drop, bi_sum, lcs_sum]
        obtain ⟨kd, hkd⟩ := kind_at l1 u1
        have y1 : min c0 (encs ts).length + 1 ≤ 4000000 := by rw [encs_len]; omega
        have y2 : min c0 (lcs ts).length + 1 ≤ 4000000 := by rw [lcs, List.length_map]; omega
        have y3 : min c0 (lds ts).length + 1 ≤ 4000000 := by rw [lds, List.length_map]; omega
        have hsplit : (lvss ts).length = (lvss (ts.take c0)).length + (lvss (ts.drop c0)).length := by
          rw [← List.length_append, ← lvss_append, List.take_append_drop]
        by_cases hs : ((deps (ts.drop c0) : Nat) : Int) < deep - 1
        · have f1 := fin (ts.take c0 ++ [.node kd (ts.drop c0)]) (some (.int i, false)) (some (.int q0, false)) (some (.int ((encs ts).length - 1), false)) d (some (.int c0, false)) (some (.int (deps (ts.drop c0) : Nat), false)) (by simp) (by
            intro t ht
            rcases List.mem_append.mp ht with ht | ht
            · exact ho t (List.mem_of_mem_take ht)
            · cases List.mem_singleton.mp ht
              refine ⟨.node hdne (by rw [List.length_drop]; omega) fun t h => (ho t (List.mem_of_mem_drop h)).1, ?_⟩
              rw [dep]; push_cast; omega) (by rw [lvss_append, List.length_append, lvss, lvs, lvss, List.append_nil]; omega)
          rw [encs_append, lcs_append, lds_append, List.map_append, List.map_append, encs_take, lcs_take, lds_take, List.map_take, List.map_take] at f1
          rw [show encs [.node kd (ts.drop c0)] = [.tup [.str (kw kd), .tup ((encs ts).drop c0)]] by rw [encs, encs, enc, encs_drop], show lcs [.node kd (ts.drop c0)] = [((lvss (ts.drop c0)).length : Int)] by simp [lcs, lvs], show lds [.node kd (ts.drop c0)] = [((deps (ts.drop c0) : Nat) : Int) + 1] by simp [lds, dep]] at f1
          simp only [List.map_cons, List.map_nil] at f1
          simp (decide := true) [-atM_of, -List.map_map, g0, g1, g2, hq, k3, k4, hcut, slc_to, slc_from, m12, s5, hs, hkd, y1, y2, y3]
          exact f1
        · simp (decide := true) [-atM_of, -List.map_map, g0, g2, hq, k3, k4, hcut, slc_from, m12, hs]
          exact fin ts _ _ _ _ _ _ hne ho hl
    · rintro σ ⟨ts, a, b, c, d, e, f, hne, ho, hl, rfl⟩
      have hlt := len_lvss (n := n) (ts := ts) fun t h => (ho t h).1
      obtain ⟨kd, hkd⟩ := kind_at lb ub
      obtain ⟨kd2, hkd2⟩ := kind_ta lb ub
      have m6 : biSem .max [.lst ((lds ts).map MV.int)] = some (.int (deps ts : Nat), .sh) := by
        rw [bi_maxL (l := lds ts) (fun q => hne (by rw [lds] at q; exact List.map_eq_nil_iff.mp q)), lds_max hne]
      have hde : ((deps ts : Nat) : Int) + 1 ≤ deep := by
        have := deps_le (a := ts) (m := (deep - 1).toNat) fun t h => by have := (ho t h).2; omega
        omega
      by_cases h1 : ts.length = 1
      · match ts, h1 with
        | [t], _ =>
          rw [lvss, lvss, List.append_nil] at hl
          simp [Blstacked, encs]
          exact ⟨t, rfl, (ho t List.mem_cons_self).1, by have := (ho t List.mem_cons_self).2; omega, hl⟩
      · have h1' : ¬ ((encs ts).length : Int) = 1 := by rw [encs_len]; omega
        have h1'' : ¬ (encs ts).length = 1 := by rw [encs_len]; omega
        have plain : ∃ t, MV.tup [.str (kw kd), .tup (encs ts)] = enc t ∧ OkP n (· ∈ rows) t ∧ (dep t : Int) ≤ deep ∧ ((lvs t).length : Int) ≤ most :=
          ⟨.node kd ts, by rw [enc], .node hne (by omega) fun t h => (ho t h).1, by rw [dep]; push_cast; omega, by rw [lvs]; exact hl⟩
        by_cases h3 : (3 : Int) < ((encs ts).length : Int)
        · by_cases h4 : ((deps ts : Nat) : Int) < deep - 1
          · by_cases h6 : 0 < pc
            · obtain ⟨m, hm0⟩ : ∃ m : Nat, m = (ts.length + 1) / 2 := ⟨_, rfl⟩
              have hm : ((((encs ts).length : Int) + 1) / 2) = (m : Int) := by rw [encs_len]; omega
              have e10 := ev_comp_map (Φ := run T L k) (σ := [some (.lst (ds.map MV.int), false), some (.lst (rows.map rowv), false), some (.int most, false), some (.int deep, false), some (.lst (encs ts), true), some (.lst ((lcs ts).map MV.int), true), some (.lst ((lds ts).map MV.int), true), a, b, c, some (.str (kw kd2), false), e, f]) (elt := .tup [.var 10, .bi .tuple [.slc (.var 4) (some (.bin .mul (.lit (.int 2)) (.var 7))) (some (.bin .add (.bin .mul (.lit (.int 2)) (.var 7)) (.lit (.int 2))))]]) (tg := .nm 7) (it := .rng1 (.bin .fdiv (.bin .add (.bi .len [.var 4]) (.lit (.int 1))) (.lit (.int 2)))) (ifs := []) (xs := rngM 0 m) (t := .sh) (fun v => .tup [.str (kw kd2), .tup (((encs ts).drop (2 * ix v)).take 2)]) (by
                simp (decide := true) [hm, rngOk_n (n := m) (by omega)]) (by simp; omega) (by
                intro v hv
                obtain ⟨j, hj, rfl⟩ := rngM_mem hv
                haveI : Bd (j : Int) 10 := Bd.rng (by omega) (by omega)
                have sl := slc_mid (xs := encs ts) (a := 2 * j) (b := 2 * j + 2) (by omega)
                rw [show 2 * j + 2 - 2 * j = 2 by omega] at sl
                rw [show ((2 * j : Nat) : Int) = 2 * (j : Int) by omega, show ((2 * j + 2 : Nat) : Int) = 2 * (j : Int) + 2 by omega] at sl
                simp (decide := true) [turn1, sl])
              rw [← pairs_enc (kd := kd2) (ts := ts)] at e10
              simp (decide := true) [-atM_of, -List.map_map, Blstacked, h1', h1'', h3, m6, h4, hc, h6, ha, gb, hb, hkd, hkd2, e10]
              have pl := pairs_lvs (kd := kd2) (ts := ts) m
              rw [List.take_of_length_le (by omega)] at pl
              refine ⟨.node kd (pairs kd2 ts m), by rw [enc], .node (fun q => ?_) (by rw [pairs_len]; omega) fun t h => ?_, ?_, by rw [lvs, pl]; exact hl⟩
              · have q2 := congrArg List.length q
                rw [pairs_len, List.length_nil] at q2
                have : 0 < ts.length := List.length_pos_iff.mpr hne
                omega
              · obtain ⟨j, hj, rfl⟩ := List.mem_map.mp h
                rw [List.mem_range] at hj
                refine .node (fun q => ?_) (by rw [List.length_take]; omega) fun t h => (ho t (List.mem_of_mem_drop (List.mem_of_mem_take h))).1
                have := congrArg List.length q
                rw [List.length_take, List.length_drop] at this
                simp at this; omega
              · rw [dep]
                have : deps (pairs kd2 ts m) ≤ deps ts + 1 := by
                  refine deps_le fun t h => ?_
                  obtain ⟨j, hj, rfl⟩ := List.mem_map.mp h
                  rw [dep]
                  have := deps_le (a := (ts.drop (2 * j)).take 2) (m := deps ts) fun t h => deps_mem (List.mem_of_mem_drop (List.mem_of_mem_take h))
                  omega
                omega
            · simp (decide := true) [-atM_of, -List.map_map, Blstacked, h1', h1'', h3, m6, h4, hc, h6, gb, hkd]
              exact plain
          · simp (decide := true) [-atM_of, -List.map_map, Blstacked, h1', h1'', h3, m6, h4, gb, hkd]
            exact plain
        · simp (decide := true) [-atM_of, -List.map_map, Blstacked, h1', h1'', h3, gb, hkd]
          exact plain
end Mn.S.Tw

set_option Elab.async false
set_option linter.all false
set_option maxRecDepth 100000
/-! Mn19: the drawn tree. -/
namespace Mn.S.Tw
open PySem
variable {T : List FD} {L : Nat} {x : Ix}

def tsz : List Int := [16, 12] ++ (List.replicate 28 [8, 2, 3, 9]).flatten
theorem tsz_at : ∀ q, q < 28 → tsz[2 + 4 * q]? = some 8 ∧ tsz[2 + 4 * q + 1]? = some 2 ∧ tsz[2 + 4 * q + 2]? = some 3 ∧ tsz[2 + 4 * q + 3]? = some 9 := by decide
theorem quads_of {ds : List Int} (h : Below ds tsz) {st : Nat} (hs : st ≤ 28) : Quads (ds.drop 2) st := by
  intro q hq
  obtain ⟨h0, h1, h2, h3⟩ := tsz_at q (by omega)
  obtain ⟨a, ea, a0, a1⟩ := h.get h0
  obtain ⟨b, eb, b0, b1⟩ := h.get h1
  obtain ⟨c, ec, c0, c1⟩ := h.get h2
  obtain ⟨d, ed, d0, d1⟩ := h.get h3
  exact ⟨a, b, c, d, by rw [List.getElem?_drop]; exact ea, by rw [List.getElem?_drop, ← Nat.add_assoc]; exact eb, by rw [List.getElem?_drop, ← Nat.add_assoc]; exact ec, by rw [List.getElem?_drop, ← Nat.add_assoc]; exact ed, a0, a1, b0, b1, c0, c1, d0, d1⟩
theorem quads_take {ds : List Int} {st m : Nat} (h : Quads ds st) (hm : 4 * st ≤ m) : Quads (ds.take m) st := by
  intro q hq
  obtain ⟨a, b, c, d, h0, h1, h2, h3, r⟩ := h q hq
  exact ⟨a, b, c, d, by rw [List.getElem?_take_of_lt (by omega)]; exact h0, by rw [List.getElem?_take_of_lt (by omega)]; exact h1, by rw [List.getElem?_take_of_lt (by omega)]; exact h2, by rw [List.getElem?_take_of_lt (by omega)]; exact h3, r⟩

theorem tree_okP (h0 : T[x.ldigits]? = some ⟨2, 8, bdigits⟩) (h1 : T[x.llevelled]? = some ⟨5, 14, Bllevelled x⟩) (h2 : T[x.lchain]? = some ⟨5, 14, Blchain x⟩) (h3 : T[x.lstacked]? = some ⟨4, 13, Blstacked x⟩) (h4 : T[x.ltree]? = some ⟨5, 8, Bltree x⟩)
    {k n : Nat} {bb : Int} (hk : 2 ≤ k) (c1 c2 : Int) {rows : List (List Int)} (hr : Rows n 9 bb rows) {most deep : Int} (hm1 : 1 ≤ most) (hm2 : most ≤ 64) (hd1 : 1 ≤ deep) (hd2 : deep ≤ 28) :
    ∃ t, run T L k x.ltree [.int c1, .int c2, .lst (rows.map rowv), .int most, .int deep] = some (enc t, false) ∧ OkP n (· ∈ rows) t ∧ (dep t : Int) ≤ deep + 1 ∧ ((lvs t).length : Int) ≤ most := by
  obtain ⟨k, rfl⟩ : ∃ j, k = j + 1 := ⟨k - 1, by omega⟩
  obtain ⟨k, rfl⟩ : ∃ j, k = j + 1 := ⟨k - 1, by omega⟩
  have hlen : 0 < rows.length := List.length_pos_iff.mpr hr.ne
  obtain ⟨ds, hd, bd⟩ := digits_ok (L := L) h0 (k := k + 1) (by omega) c1 tsz (by decide) (by
    intro s hs
    have : s = 16 ∨ s = 12 ∨ s = 8 ∨ s = 2 ∨ s = 3 ∨ s = 9 := by
      simp [tsz] at hs; omega
    rcases this with rfl | rfl | rfl | rfl | rfl | rfl <;> exact ⟨by decide, Bd.up (n := 200) ⟨by decide⟩ (by decide)⟩)
  obtain ⟨ps, hp, bp⟩ := digits_ok (L := L) h0 (k := k + 1) (by omega) c2 (List.replicate 64 9) (by decide) (by
    intro s hs
    rw [(List.mem_replicate.mp hs).2]
    exact ⟨by decide, Bd.up (n := 200) ⟨by decide⟩ (by decide)⟩)
  have hpl : ps.length = 64 := by rw [bp.len]; rfl
  obtain ⟨d0, hd0, a0, b0⟩ := bd.get (i := 0) (s := 16) rfl
  obtain ⟨d1, hd1', a1, b1⟩ := bd.get (i := 1) (s := 12) rfl
  have at0 : ∀ (q : Nat) (d : Int), ds[q]? = some d → atM (ds.map MV.int) (q : Int) = some (.int d) := fun q d h => by rw [atM_nat, List.getElem?_map, h]; rfl
  have e0 : atM (ds.map MV.int) 0 = some (.int d0) := at0 0 d0 hd0
  have e1 : atM (ds.map MV.int) 1 = some (.int d1) := at0 1 d1 hd1'
  have rowat : ∀ q : Int, ∃ R ∈ rows, atM (rows.map rowv) (q % (rows.length : Int)) = some (rowv R) := by
    intro q
    obtain ⟨v, hv, hm⟩ := atM_in (l := rows.map rowv) (Int.emod_nonneg q (by omega : (rows.length : Int) ≠ 0)) (by rw [List.length_map]; exact Int.emod_lt_of_pos _ (by omega))
    obtain ⟨R, hR, rfl⟩ := List.mem_map.mp hm
    exact ⟨R, hR, hv⟩
  obtain ⟨R0, hR0, g0⟩ := rowat d1
  have hdr : slcSem (.lst (ds.map MV.int)) (some 2) none = some (.lst ((ds.drop 2).map MV.int), .fr) := by
    rw [List.map_drop]; exact slc_from (f := 2)
  have lv : ∀ st : Nat, st ≤ 28 → ∃ t, run T L (k + 1) x.llevelled [.lst ((ds.drop 2).map MV.int), .lst (ps.map MV.int), .lst (rows.map rowv), .int most, .int st] = some (enc t, false) ∧ OkP n (· ∈ rows) t ∧ dep t ≤ st ∧ ((lvs t).length : Int) ≤ most := by
    intro st hst
    have := run_of (k := k) (L := L) h1 rfl (levelled_a (k := k) (n := n) h1 hr (by omega) (quads_of bd hst) hpl hm1 hm2)
    obtain ⟨r, e, t, rfl, ho⟩ := this
    exact ⟨t, e, ho⟩
  have ch : ∀ st : Nat, st ≤ 28 → ∃ t, run T L (k + 1) x.lchain [.lst ((ds.drop 2).map MV.int), .lst (ps.map MV.int), .lst (rows.map rowv), .int most, .int st] = some (enc t, false) ∧ OkP n (· ∈ rows) t ∧ dep t ≤ st + 1 ∧ ((lvs t).length : Int) ≤ most := by
    intro st hst
    have := run_of (k := k) (L := L) h2 rfl (chain_a (k := k) (n := n) h2 hr (by omega) (quads_of bd hst) hpl hm1 (by omega))
    obtain ⟨r, e, t, rfl, ho⟩ := this
    exact ⟨t, e, ho⟩
  have : OB (run T L (k + 1 + 1) x.ltree [.int c1, .int c2, .lst (rows.map rowv), .int most, .int deep]) (fun r => ∃ t, r = (enc t, false) ∧ OkP n (· ∈ rows) t ∧ (dep t : Int) ≤ deep + 1 ∧ ((lvs t).length : Int) ≤ most) := by
    refine run_of h4 rfl ?_
    refine W.split 2 (fun σ => σ = [some (.int c1, false), some (.int c2, false), some (.lst (rows.map rowv), false), some (.int most, false), some (.int deep, false), some (.lst (ds.map MV.int), true), some (.lst (ps.map MV.int), true), none]) ?_ ?_
    · simp only [tsz] at hd
      simp at hd hp
      simp (decide := true) [Bltree, startM, hd, hp]
    · rintro σ rfl
      have hdp : (0 : Int) < deep := by omega
      obtain ⟨sto, hsto⟩ := Int.eq_ofNat_of_zero_le (show 0 ≤ d1 % deep + 1 by have := Int.emod_nonneg d1 (by omega : deep ≠ 0); omega)
      have hsto2 : (sto : Int) ≤ deep := by have := Int.emod_lt_of_pos d1 hdp; omega
      obtain ⟨dp, rfl⟩ := Int.eq_ofNat_of_zero_le (show 0 ≤ deep by omega)
      have hdp' : 0 < dp := by omega
      rcases (by omega : d0 = 0 ∨ d0 = 1 ∨ (2 ≤ d0 ∧ d0 ≤ 3) ∨ d0 = 4 ∨ (5 ≤ d0 ∧ d0 ≤ 6) ∨ 7 ≤ d0) with rfl | rfl | hq | rfl | hq | hq
      · simp (decide := true) [-atM_of, -List.map_map, Bltree, e0, e1, hlen, g0]
        exact ⟨.leaf R0, by rw [enc]; rfl, ok_row hr hR0, by rw [dep]; omega, by rw [lvs]; exact hm1⟩
      · obtain ⟨t, et, o1, o2, o3⟩ := lv sto (by omega)
        simp (decide := true) [-atM_of, -List.map_map, -List.map_drop, Bltree, e0, e1, hdp', hsto, hdr, et, Mn.freeOf, enc_noLst]
        exact ⟨t, rfl, o1, by omega, o3⟩
      · obtain ⟨t, et, o1, o2, o3⟩ := lv dp (by omega)
        have k0 : ¬ d0 = 0 := by omega
        have k1 : ¬ d0 = 1 := by omega
        have k4 : ¬ d0 = 4 := by omega
        simp (decide := true) [-atM_of, -List.map_map, -List.map_drop, Bltree, e0, k0, k1, k4, hq.2, hdr, et, Mn.freeOf, enc_noLst]
        exact ⟨t, rfl, o1, by omega, o3⟩
      · obtain ⟨t, et, o1, o2, o3⟩ := ch sto (by omega)
        simp (decide := true) [-atM_of, -List.map_map, -List.map_drop, Bltree, e0, e1, hdp', hsto, hdr, et, Mn.freeOf, enc_noLst]
        exact ⟨t, rfl, o1, by omega, o3⟩
      · obtain ⟨t, et, o1, o2, o3⟩ := ch dp (by omega)
        have k0 : ¬ d0 = 0 := by omega
        have k1 : ¬ d0 = 1 := by omega
        have k4 : ¬ d0 = 4 := by omega
        have k3 : ¬ d0 ≤ 3 := by omega
        simp (decide := true) [-atM_of, -List.map_map, -List.map_drop, Bltree, e0, k0, k1, k4, k3, hq.2, hdr, et, Mn.freeOf, enc_noLst]
        exact ⟨t, rfl, o1, by omega, o3⟩
      · have k0 : ¬ d0 = 0 := by omega
        have k1 : ¬ d0 = 1 := by omega
        have k4 : ¬ d0 = 4 := by omega
        have k3 : ¬ d0 ≤ 3 := by omega
        have k6 : ¬ d0 ≤ 6 := by omega
        obtain ⟨m, hm, m0, m1⟩ := at_lit (L := [1, 2, 2, 3, 5, 6]) (i := d1 % 6) (Int.emod_nonneg _ (by decide)) (Int.emod_lt_of_pos _ (by decide)) (P := fun x => 1 ≤ x ∧ x ≤ 6) (by decide)
        simp only [List.map_cons, List.map_nil] at hm
        obtain ⟨m, rfl⟩ := Int.eq_ofNat_of_zero_le (show 0 ≤ m by omega)
        have sl : slcSem (.lst (ds.map MV.int)) (some 2) (some ((6 + 16 * m : Nat) : Int)) = _ := slc_mid (xs := ds.map MV.int) (a := 2) (b := 6 + 16 * m) (by omega)
        rw [show 6 + 16 * m - 2 = 4 * (1 + 4 * m) by omega, ← List.map_drop, ← List.map_take, show ((6 + 16 * m : Nat) : Int) = 6 + 16 * (m : Int) by omega] at sl
        have hdl : ((ds.drop 2).take (4 * (1 + 4 * m))).length = 4 * (1 + 4 * m) := by
          rw [List.length_take, List.length_drop, bd.len]
          have : tsz.length = 114 := rfl
          omega
        have stq := run_of (k := k) (L := L) h3 rfl (stacked_a (k := k) (n := n) h3 hr (st := 1 + 4 * m) (by omega) (by omega) (quads_take (quads_of bd (by omega)) (Nat.le_refl _)) hdl hm1 (by omega) (deep := dp) hd1 (by omega))
        obtain ⟨r, et, t, rfl, o1, o2, o3⟩ := stq
        haveI : Bd (m : Int) 10 := Bd.rng (by omega) (by omega)
        simp (decide := true) [-atM_of, -List.map_map, -List.map_drop, -List.map_take, Bltree, e0, e1, k0, k1, k4, k3, k6, hm, sl, et, Mn.freeOf, enc_noLst]
        exact ⟨t, rfl, o1, by omega, o3⟩
  obtain ⟨r, e, t, rfl, ho⟩ := this
  exact ⟨t, e, ho⟩

theorem OkP.mono {n : Nat} {P Q : List Int → Prop} (h : ∀ r, P r → Q r) : ∀ t, OkP n P t → OkP n Q t := by
  refine Tr.ind ?_ ?_
  · intro r o
    cases o with
    | leaf a b => exact .leaf a (h r b)
  · intro k c ih o
    cases o with
    | node a b e => exact .node a b fun t ht => ih t ht (e t ht)
theorem tree_ok (h0 : T[x.ldigits]? = some ⟨2, 8, bdigits⟩) (h1 : T[x.llevelled]? = some ⟨5, 14, Bllevelled x⟩) (h2 : T[x.lchain]? = some ⟨5, 14, Blchain x⟩) (h3 : T[x.lstacked]? = some ⟨4, 13, Blstacked x⟩) (h4 : T[x.ltree]? = some ⟨5, 8, Bltree x⟩)
    {k n : Nat} (hk : 2 ≤ k) (c1 c2 : Int) {rows : List (List Int)} (hr : Rows n 9 2000000000000 rows) {most deep : Int} (hm1 : 1 ≤ most) (hm2 : most ≤ 64) (hd1 : 1 ≤ deep) (hd2 : deep ≤ 28) :
    ∃ t, run T L k x.ltree [.int c1, .int c2, .lst (rows.map rowv), .int most, .int deep] = some (enc t, false) ∧ Ok n t ∧ (dep t : Int) ≤ deep + 1 ∧ ((lvs t).length : Int) ≤ most := by
  obtain ⟨t, e, o, d, l⟩ := tree_okP h0 h1 h2 h3 h4 hk c1 c2 hr hm1 hm2 hd1 hd2
  exact ⟨t, e, OkP.mono (fun r hr' x hx => (Bd.of (n := 60) (by have := hr.bd r hr' x hx; omega) (by have := hr.bd r hr' x hx; omega)).up (by decide)) t o, d, l⟩
end Mn.S.Tw

set_option Elab.async false
set_option linter.all false
set_option maxRecDepth 100000
/-! Mn20: repr of trees and rows. -/
namespace Mn.S.Tw
open PySem

theorem toDs_map : ∀ l : List MV, MV.toDs l = l.map MV.toD
  | [] => rfl
  | x :: l => by rw [MV.toDs, toDs_map l]; rfl
mutual
theorem toD_noDict : ∀ v : MV, v.toD.hasDict = false
  | .non => by simp only [MV.toD, PyData.hasDict]
  | .bl _ => by simp only [MV.toD, PyData.hasDict]
  | .int _ => by simp only [MV.toD, PyData.hasDict]
  | .str _ => by simp only [MV.toD, PyData.hasDict]
  | .tup l => by simp only [MV.toD, PyData.hasDict]; exact toDs_noDict l
  | .lst l => by simp only [MV.toD, PyData.hasDict]; exact toDs_noDict l
theorem toDs_noDict : ∀ l : List MV, PyData.hasDictAll (MV.toDs l) = false
  | [] => by simp only [MV.toDs, PyData.hasDictAll]
  | x :: l => by simp only [MV.toDs, PyData.hasDictAll, toD_noDict x, toDs_noDict l, Bool.or_self]
end
mutual
theorem toD_depth : ∀ v : MV, v.toD.depth = deep v
  | .non => by simp only [MV.toD, PyData.depth, deep]
  | .bl _ => by simp only [MV.toD, PyData.depth, deep]
  | .int _ => by simp only [MV.toD, PyData.depth, deep]
  | .str _ => by simp only [MV.toD, PyData.depth, deep]
  | .tup l => by simp only [MV.toD, PyData.depth, deep, toDs_depth l]
  | .lst l => by simp only [MV.toD, PyData.depth, deep, toDs_depth l]
theorem toDs_depth : ∀ l : List MV, PyData.depthAll (MV.toDs l) = deeps l
  | [] => by simp only [MV.toDs, PyData.depthAll, deeps]
  | x :: l => by simp only [MV.toDs, PyData.depthAll, deeps, toD_depth x, toDs_depth l]
end
theorem showableAll_iff : ∀ {l : List PyData}, PyData.showableAll l = true ↔ ∀ d ∈ l, d.showable = true
  | [] => by simp [PyData.showableAll]
  | d :: l => by simp [PyData.showableAll, showableAll_iff (l := l)]
theorem shownAll_map : ∀ l : List PyData, PyData.shownAll l = l.map PyData.shown
  | [] => by simp [PyData.shownAll]
  | d :: l => by rw [PyData.shownAll, shownAll_map l]; rfl
theorem sum_le {α : Type} {f : α → Nat} {B : Nat} : ∀ {l : List α}, (∀ d ∈ l, f d ≤ B) → (l.map f).sum ≤ l.length * B
  | [], _ => by simp
  | d :: l, h => by
    rw [List.map_cons, List.sum_cons, List.length_cons, Nat.succ_mul]
    have := h d List.mem_cons_self
    have := sum_le (l := l) fun x hx => h x (List.mem_cons_of_mem _ hx)
    omega
/-- a list or tuple shown -/
theorem shown_pr (s : Bool) (l : List MV) : (pr s l).toD.shown.length ≤ (l.map fun v => v.toD.shown.length).sum + 2 * l.length + 3 := by
  have e : (PyData.shownAll (MV.toDs l)).map (·.length) = l.map fun v => v.toD.shown.length := by
    rw [shownAll_map, toDs_map, List.map_map, List.map_map]; rfl
  have e2 : (PyData.shownAll (MV.toDs l)).length = l.length := by rw [shownAll_map, toDs_map, List.length_map, List.length_map]
  cases s
  · have := tupleText_len_le (PyData.shownAll (MV.toDs l))
    rw [e, e2] at this
    simpa only [pr, MV.toD, PyData.shown, Bool.false_eq_true, if_false] using this
  · have := listText_len_le (PyData.shownAll (MV.toDs l))
    rw [e, e2] at this
    simpa only [pr, MV.toD, PyData.shown, if_true] using this
theorem showable_pr {s : Bool} {l : List MV} (h : ∀ v ∈ l, v.toD.showable = true) : (pr s l).toD.showable = true := by
  have : PyData.showableAll (MV.toDs l) = true := by
    rw [showableAll_iff, toDs_map]
    intro d hd
    obtain ⟨v, hv, rfl⟩ := List.mem_map.mp hd
    exact h v hv
  cases s <;> simpa only [pr, MV.toD, PyData.showable, Bool.false_eq_true, if_false, if_true] using this
theorem shown_intB {i : Int} {n : Nat} (hn : 0 < n) (h : Bd i n) : (MV.int i).toD.shown.length ≤ n + 1 := by
  rw [MV.toD, PyData.shown_int, ofString_length]
  refine int_text_length_le hn ?_
  have := h.le
  by_cases q : i.natAbs = 0
  · rw [q]; simpa using hn
  · exact (Nat.log2_lt q).mpr this
theorem showable_int {i : Int} {n : Nat} (hn : n ≤ 1900) (h0 : 0 < n) (h : Bd i n) : (MV.int i).toD.showable = true := by
  rw [MV.toD, PyData.showable, decide_eq_true_eq]
  have := h.le
  by_cases q : i.natAbs = 0
  · rw [q]; simp
  · have := (Nat.log2_lt q).mpr this
    omega
theorem showable_kw (k : Bool) : (MV.str (kw k)).toD.showable = true := by simp only [MV.toD, PyData.showable]
theorem shown_kw (k : Bool) : (MV.str (kw k)).toD.shown.length ≤ 8 := by cases k <;> decide +kernel

theorem shown_dr {n : Nat} : ∀ t v, Dr t v → Ok n t → v.toD.showable = true ∧ v.toD.shown.length ≤ (n * 1003 + 30) * ((lvs t).length * (dep t + 1)) ∧ deep v ≤ 2 * dep t + 1 := by
  refine Tr.ind ?_ ?_
  · intro r v d o
    cases d with
    | leaf s _ =>
      cases o with
      | leaf hr hb =>
        refine ⟨showable_pr fun v hv => ?_, ?_, ?_⟩
        · obtain ⟨i, hi, rfl⟩ := List.mem_map.mp hv
          exact showable_int (by decide) (by decide) (hb i hi)
        · have h := shown_pr s (r.map MV.int)
          have h2 : ((r.map MV.int).map fun v => v.toD.shown.length).sum ≤ (r.map MV.int).length * 1001 := sum_le fun v hv => by
            obtain ⟨i, hi, rfl⟩ := List.mem_map.mp hv
            exact shown_intB (by decide) (hb i hi)
          rw [List.length_map, hr] at h h2
          rw [lvs, dep]
          simp only [List.length_cons, List.length_nil]
          omega
        · rw [dep]; cases s <;> simp [pr, deep, deeps_mi]
  · intro k c ih v d o
    cases d with
    | node s s' _ _ vs hl ha =>
      cases o with
      | node hc hcl hok =>
        have hv : ∀ v ∈ vs, v.toD.showable = true ∧ deep v ≤ 2 * deps c + 1 := by
          intro v hv
          obtain ⟨i, hi, rfl⟩ := List.mem_iff_getElem.mp hv
          have hm : c[i] ∈ c := List.getElem_mem (by omega)
          obtain ⟨a, b, e⟩ := ih c[i] hm vs[i] (ha i _ _ (List.getElem?_eq_getElem (by omega)) (List.getElem?_eq_getElem hi)) (hok _ hm)
          have := deps_mem hm
          exact ⟨a, by omega⟩
        have hs : (vs.map fun v => v.toD.shown.length).sum ≤ (n * 1003 + 30) * ((lvss c).length * (deps c + 1)) := by
          have key : ∀ (c : List Tr) (vs : List MV) (D : Nat), vs.length = c.length → (∀ t ∈ c, dep t ≤ D) → (∀ (i : Nat) t v, c[i]? = some t → vs[i]? = some v → v.toD.shown.length ≤ (n * 1003 + 30) * ((lvs t).length * (dep t + 1))) → (vs.map fun v => v.toD.shown.length).sum ≤ (n * 1003 + 30) * ((lvss c).length * (D + 1)) := by
            intro c
            induction c with
            | nil => intro vs D h _ _; rw [List.length_eq_zero_iff.mp h]; simp
            | cons t c ihc =>
              intro vs D h hD h2
              match vs, h with
              | v :: vs, h =>
                have a := h2 0 t v rfl rfl
                have b := ihc vs D (by simpa using h) (fun x hx => hD x (List.mem_cons_of_mem _ hx)) fun i t v ht hv => h2 (i + 1) t v ht hv
                have e : (n * 1003 + 30) * (((lvs t).length + (lvss c).length) * (D + 1)) = (n * 1003 + 30) * ((lvs t).length * (D + 1)) + (n * 1003 + 30) * ((lvss c).length * (D + 1)) := by rw [Nat.add_mul (lvs t).length, Nat.mul_add]
                rw [List.map_cons, List.sum_cons, lvss, List.length_append, e]
                have d : (n * 1003 + 30) * ((lvs t).length * (dep t + 1)) ≤ (n * 1003 + 30) * ((lvs t).length * (D + 1)) := Nat.mul_le_mul_left _ (Nat.mul_le_mul_left _ (by have := hD t List.mem_cons_self; omega))
                omega
          refine key c vs _ hl (fun t ht => deps_mem ht) fun i t v ht hv => ?_
          have hm := List.mem_of_getElem? ht
          exact (ih t hm v (ha i t v ht hv) (hok t hm)).2.1
        refine ⟨showable_pr fun v h => ?_, ?_, ?_⟩
        · rcases List.mem_cons.mp h with rfl | h
          · exact showable_kw k
          · rcases List.mem_cons.mp h with rfl | h
            · exact showable_pr fun v h => (hv v h).1
            · cases h
        · have h1 := shown_pr s [.str (kw k), pr s' vs]
          have h2 := shown_pr s' vs
          have h3 := shown_kw k
          simp only [List.map_cons, List.map_nil, List.sum_cons, List.sum_nil, List.length_cons, List.length_nil] at h1
          have h4 := len_lvss (n := n) (ts := c) hok
          have h5 : 0 < c.length := List.length_pos_iff.mpr hc
          rw [lvs, dep, show deps c + 1 + 1 = (deps c + 1) + 1 from rfl, Nat.mul_add (lvss c).length, Nat.mul_one, Nat.mul_add]
          have h6 : 30 * (lvss c).length ≤ (n * 1003 + 30) * (lvss c).length := Nat.mul_le_mul_right _ (by omega)
          omega
        · rw [dep]
          have a : deeps vs ≤ 2 * deps c + 1 := deeps_all fun v h => (hv v h).2
          have b : deep (pr s' vs) = deeps vs + 1 := by cases s' <;> simp [pr, deep]
          have e : deep (pr s [.str (kw k), pr s' vs]) = max 0 (max (deep (pr s' vs)) 0) + 1 := by cases s <;> simp [pr, deep, deeps]
          omega

theorem repr_pr {s : Bool} {l : List MV} (h1 : (pr s l).toD.showable = true) (h2 : (pr s l).toD.shown.length ≤ 4000000) (h3 : deep (pr s l) ≤ 60) : biSem .repr [pr s l] = some (.str (pr s l).toD.shown, .sh) := by
  have : reprM (pr s l) = some (.str (pr s l).toD.shown, .sh) := by
    unfold reprM SZ
    rw [if_pos ⟨h1, toD_noDict _, h2, by rw [toD_depth]; exact h3⟩]
  cases s <;> exact this
theorem repr_tr {n : Nat} (hn : n ≤ 4) {t : Tr} {v : MV} (d : Dr t v) (o : Ok n t) (hl : (lvs t).length ≤ 64) (hd : dep t ≤ 13) : ∃ s, biSem .repr [v] = some (.str s, .sh) := by
  obtain ⟨a, b, c⟩ := shown_dr t v d o
  have b2 : v.toD.shown.length ≤ 4000000 := by
    refine Nat.le_trans b ?_
    have : (n * 1003 + 30) * ((lvs t).length * (dep t + 1)) ≤ (4 * 1003 + 30) * (64 * 14) := Nat.mul_le_mul (by omega) (Nat.mul_le_mul hl (by omega))
    omega
  cases d with
  | leaf s r => exact ⟨_, repr_pr a b2 (by omega)⟩
  | node s s' k c vs h q => exact ⟨_, repr_pr a b2 (by omega)⟩
theorem repr_row {s : Bool} {r : List Int} (hl : r.length ≤ 1000) (hb : ∀ x ∈ r, Bd x 1000) : ∃ z, biSem .repr [pr s (r.map MV.int)] = some (.str z, .sh) := by
  refine ⟨_, repr_pr (showable_pr fun v hv => ?_) ?_ (by cases s <;> simp [pr, deep, deeps_mi])⟩
  · obtain ⟨i, hi, rfl⟩ := List.mem_map.mp hv
    exact showable_int (by decide) (by decide) (hb i hi)
  · have h := shown_pr s (r.map MV.int)
    have h2 : ((r.map MV.int).map fun v => v.toD.shown.length).sum ≤ (r.map MV.int).length * 1001 := sum_le fun v hv => by
      obtain ⟨i, hi, rfl⟩ := List.mem_map.mp hv
      exact shown_intB (by decide) (hb i hi)
    rw [List.length_map] at h h2
    omega
theorem cmp_eqS {a b : Str} : cmpSem .eq (.str a) (.str b) = some (a == b) := rfl
theorem cmp_neS {a b : Str} : cmpSem .ne (.str a) (.str b) = some (a != b) := rfl
end Mn.S.Tw

set_option Elab.async false
set_option linter.all false
set_option maxRecDepth 100000
/-! Mn21: trees shifted, joined, turned, widened; counts, depths, leaves; parts judged. The bodies are printed by gen/gbody.py. -/
namespace Mn.S.Tx
open PySem Mn.S.Tw
structure Ix extends Tw.Ix where
  is_whole : Nat
  is_row : Nat
  is_node : Nat
  leaves : Nat
  depth : Nat
  plus : Nat
  times : Nat
  shifted : Nat
  widened : Nat
  joined : Nat
  turned : Nat
  beside : Nat
  option_count : Nat
  is_part : Nat
  is_keeper_part : Nat
  ldepth : Nat
  lshift : Nat
  ljoin : Nat
  lopposite : Nat
  lwide : Nat
  llow : Nat
  lcount_upon : Nat
  lpart_upon : Nat
  linstead : Nat
def Bis_whole (x : Ix) : List CS := [
  .ret (.and (.isi (.var 0) [.int]) (.not (.isi (.var 0) [.bool])))]
def Bis_row (x : Ix) : List CS := [
  .ite (.or (.not (.isi (.var 0) [.list, .tuple])) (.cmp .ne (.bi .len [.var 0]) (.var 1))) [.ret (.lit (.bl false))] [],
  .forS (.nm 2) (.seq (.var 0)) [.ite (.not (.call x.is_whole [.var 2])) [.ret (.lit (.bl false))] []],
  .ret (.lit (.bl true))]
def Bis_node (x : Ix) : List CS := [
  .ite (.or (.not (.isi (.var 0) [.list, .tuple])) (.cmp .ne (.bi .len [.var 0]) (.lit (.int 2)))) [.ret (.lit (.bl false))] [],
  .ite (.or (.not (.isi (.idx (.var 0) (.lit (.int 0))) [.str])) (.cmp .nin (.idx (.var 0) (.lit (.int 0))) (.tup [.lit (.str "keeper"), .lit (.str "foe")]))) [.ret (.lit (.bl false))] [],
  .ret (.and (.isi (.idx (.var 0) (.lit (.int 1))) [.list, .tuple]) (.cmp .gt (.bi .len [.idx (.var 0) (.lit (.int 1))]) (.lit (.int 0))))]
def Bleaves (x : Ix) : List CS := [
  .ite (.call x.is_leaf [.var 0]) [.ret (.tup [.bi .tuple [.var 0]])] [],
  .asg 1 (.lst []),
  .forS (.nm 2) (.seq (.idx (.var 0) (.lit (.int 1)))) [.ext 1 (.call x.leaves [.var 2])],
  .ret (.bi .tuple [.var 1])]
def Bdepth (x : Ix) : List CS := [
  .ite (.call x.is_leaf [.var 0]) [.ret (.lit (.int 0))] [],
  .ret (.bin .add (.lit (.int 1)) (.bi .max [.comp (.call x.depth [.var 1]) (.nm 1) (.seq (.idx (.var 0) (.lit (.int 1)))) []]))]
def Bplus (x : Ix) : List CS := [
  .ret (.bi .tuple [.comp (.bin .add (.idx (.var 0) (.var 2)) (.idx (.var 1) (.var 2))) (.nm 2) (.rng1 (.bi .len [.var 0])) []])]
def Btimes (x : Ix) : List CS := [
  .ret (.bi .tuple [.comp (.bin .mul (.var 0) (.var 2)) (.nm 2) (.seq (.var 1)) []])]
def Bshifted (x : Ix) : List CS := [
  .ite (.call x.is_leaf [.var 0]) [.ret (.call x.plus [.var 0, .var 1])] [],
  .ret (.tup [.idx (.var 0) (.lit (.int 0)), .bi .tuple [.comp (.call x.shifted [.var 2, .var 1]) (.nm 2) (.seq (.idx (.var 0) (.lit (.int 1)))) []]])]
def Bwidened (x : Ix) : List CS := [
  .ite (.call x.is_leaf [.var 0]) [.ret (.bin .add (.bin .add (.bi .tuple [.comp (.lit (.int 0)) (.nm 4) (.rng1 (.var 1)) []]) (.bi .tuple [.var 0])) (.bi .tuple [.comp (.lit (.int 0)) (.nm 4) (.rng1 (.var 2)) []]))] [],
  .ret (.tup [.idx (.var 0) (.lit (.int 0)), .bi .tuple [.comp (.call x.widened [.var 3, .var 1, .var 2]) (.nm 3) (.seq (.idx (.var 0) (.lit (.int 1)))) []]])]
def Bjoined (x : Ix) : List CS := [
  .ite (.call x.is_leaf [.var 0]) [.ret (.call x.shifted [.var 1, .var 0])] [],
  .ret (.tup [.idx (.var 0) (.lit (.int 0)), .bi .tuple [.comp (.call x.joined [.var 2, .var 1]) (.nm 2) (.seq (.idx (.var 0) (.lit (.int 1)))) []]])]
def Bturned (x : Ix) : List CS := [
  .ite (.call x.is_leaf [.var 0]) [.ret (.call x.times [.neg (.lit (.int 1)), .var 0])] [],
  .asg 1 (.ite (.cmp .eq (.idx (.var 0) (.lit (.int 0))) (.lit (.str "keeper"))) (.lit (.str "foe")) (.lit (.str "keeper"))),
  .ret (.tup [.var 1, .bi .tuple [.comp (.call x.turned [.var 2]) (.nm 2) (.seq (.idx (.var 0) (.lit (.int 1)))) []]])]
def Bbeside (x : Ix) : List CS := [
  .ret (.call x.joined [.call x.widened [.var 0, .lit (.int 0), .var 3], .call x.widened [.var 2, .var 1, .lit (.int 0)]])]
def Boption_count (x : Ix) : List CS := [
  .ite (.call x.is_leaf [.var 0]) [.ret (.lit (.int 1))] [],
  .asg 1 (.comp (.call x.option_count [.var 4]) (.nm 4) (.seq (.idx (.var 0) (.lit (.int 1)))) []),
  .ite (.cmp .eq (.idx (.var 0) (.lit (.int 0))) (.lit (.str "keeper"))) [.ret (.bi .sum [.var 1])] [],
  .asg 2 (.lit (.int 1)),
  .drop 1,
  .forS (.nm 3) (.seq (.var 1)) [.asg 2 (.bin .mul (.var 2) (.var 3))],
  .ret (.var 2)]
def Bis_part (x : Ix) : List CS := [
  .ite (.call x.is_leaf [.var 0]) [.ret (.and (.call x.is_row [.var 1, .bi .len [.var 0]]) (.cmp .eq (.bi .tuple [.var 1]) (.bi .tuple [.var 0])))] [],
  .ite (.cmp .eq (.idx (.var 0) (.lit (.int 0))) (.var 2)) [.forS (.nm 4) (.seq (.idx (.var 0) (.lit (.int 1)))) [.ite (.call x.is_part [.var 4, .var 1, .var 2]) [.ret (.lit (.bl true))] []], .ret (.lit (.bl false))] [],
  .ite (.or (.not (.call x.is_node [.var 1])) (.or (.cmp .ne (.idx (.var 1) (.lit (.int 0))) (.idx (.var 0) (.lit (.int 0)))) (.cmp .ne (.bi .len [.idx (.var 1) (.lit (.int 1))]) (.bi .len [.idx (.var 0) (.lit (.int 1))])))) [.ret (.lit (.bl false))] [],
  .forS (.nm 3) (.rng1 (.bi .len [.idx (.var 0) (.lit (.int 1))])) [.ite (.not (.call x.is_part [.idx (.idx (.var 0) (.lit (.int 1))) (.var 3), .idx (.idx (.var 1) (.lit (.int 1))) (.var 3), .var 2])) [.ret (.lit (.bl false))] []],
  .ret (.lit (.bl true))]
def Bis_keeper_part (x : Ix) : List CS := [
  .ret (.call x.is_part [.var 0, .var 1, .lit (.str "keeper")])]
def Bldepth (x : Ix) : List CS := [
  .ite (.not (.call x.lis_node [.var 0])) [.ret (.lit (.int 0))] [],
  .ret (.bin .add (.lit (.int 1)) (.bi .max [.comp (.call x.ldepth [.var 1]) (.nm 1) (.seq (.idx (.var 0) (.lit (.int 1)))) []]))]
def Blshift (x : Ix) : List CS := [
  .ite (.call x.lis_node [.var 0]) [.ret (.tup [.idx (.var 0) (.lit (.int 0)), .bi .tuple [.comp (.call x.lshift [.var 3, .var 1]) (.nm 3) (.seq (.idx (.var 0) (.lit (.int 1)))) []]])] [],
  .ret (.bi .tuple [.comp (.bin .add (.idx (.var 0) (.var 2)) (.idx (.var 1) (.var 2))) (.nm 2) (.rng1 (.bi .len [.var 0])) []])]
def Bljoin (x : Ix) : List CS := [
  .ite (.call x.lis_node [.var 0]) [.ret (.tup [.idx (.var 0) (.lit (.int 0)), .bi .tuple [.comp (.call x.ljoin [.var 2, .var 1]) (.nm 2) (.seq (.idx (.var 0) (.lit (.int 1)))) []]])] [],
  .ret (.call x.lshift [.var 1, .var 0])]
def Blopposite (x : Ix) : List CS := [
  .ite (.call x.lis_node [.var 0]) [.ret (.tup [.idx (.lst [.lit (.str "keeper"), .lit (.str "foe")]) (.bi .int [.cmp .eq (.idx (.var 0) (.lit (.int 0))) (.lit (.str "keeper"))]), .bi .tuple [.comp (.call x.lopposite [.var 2]) (.nm 2) (.seq (.idx (.var 0) (.lit (.int 1)))) []]])] [],
  .ret (.bi .tuple [.comp (.bin .sub (.lit (.int 0)) (.var 1)) (.nm 1) (.seq (.var 0)) []])]
def Blwide (x : Ix) : List CS := [
  .ite (.call x.lis_node [.var 0]) [.ret (.tup [.idx (.var 0) (.lit (.int 0)), .bi .tuple [.comp (.call x.lwide [.var 3, .var 1, .var 2]) (.nm 3) (.seq (.idx (.var 0) (.lit (.int 1)))) []]])] [],
  .ret (.bin .add (.bin .add (.bin .mul (.tup [.lit (.int 0)]) (.var 1)) (.var 0)) (.bin .mul (.tup [.lit (.int 0)]) (.var 2)))]
def Bllow (x : Ix) : List CS := [
  .asg 1 (.bi .max [.comp (.bi .max [.comp (.bi .abs [.var 3]) (.nm 3) (.seq (.var 2)) []]) (.nm 2) (.seq (.var 0)) []]),
  .ite (.cmp .le (.var 1) (.bin .pow (.lit (.int 10)) (.lit (.int 9)))) [.ret (.var 0)] [],
  .ret (.comp (.bi .tuple [.comp (.bin .fdiv (.var 3) (.lit (.int 4))) (.nm 3) (.seq (.var 2)) []]) (.nm 2) (.seq (.var 0)) [])]
def Blcount_upon (x : Ix) : List CS := [
  .ite (.not (.call x.lis_node [.var 0])) [.ret (.var 1)] [],
  .asg 2 (.comp (.call x.lcount_upon [.var 5, .var 1]) (.nm 5) (.seq (.idx (.var 0) (.lit (.int 1)))) []),
  .ite (.cmp .eq (.idx (.var 0) (.lit (.int 0))) (.lit (.str "keeper"))) [.ret (.bi .sum [.var 2])] [],
  .asg 3 (.lit (.int 1)),
  .drop 2,
  .forS (.nm 4) (.seq (.var 2)) [.asg 3 (.bin .mul (.var 3) (.var 4))],
  .ret (.var 3)]
def Blpart_upon (x : Ix) : List CS := [
  .ite (.not (.call x.lis_node [.var 0])) [.ret (.call x.lshift [.call x.loption [.var 1, .lit (.str "keeper"), .bin .mod (.bi .int [.var 2]) (.call x.lcount [.var 1, .lit (.str "keeper")])], .var 0])] [],
  .asg 3 (.lst []),
  .forS (.nm 4) (.rng1 (.bi .len [.idx (.var 0) (.lit (.int 1))])) [.app 3 (.call x.lpart_upon [.idx (.idx (.var 0) (.lit (.int 1))) (.var 4), .var 1, .bin .add (.bin .add (.bin .fdiv (.var 2) (.lit (.int 3))) (.bin .mul (.var 4) (.lit (.int 7)))) (.lit (.int 1))])],
  .ret (.tup [.idx (.var 0) (.lit (.int 0)), .bi .tuple [.var 3]])]
def Blinstead (x : Ix) : List CS := [
  .ite (.call x.lis_node [.var 0]) [.ret (.tup [.idx (.var 0) (.lit (.int 0)), .bi .tuple [.comp (.call x.linstead [.var 3, .var 1, .var 2]) (.nm 3) (.seq (.idx (.var 0) (.lit (.int 1)))) []]])] [],
  .ite (.cmp .eq (.var 0) (.var 1)) [.ret (.var 2)] [],
  .ret (.var 0)]

mutual
/-- a tree with each leaf changed -/
def mapT (g : List Int → Tr) (h : Bool → Bool) : Tr → Tr
  | .leaf r => g r
  | .node k c => .node (h k) (mapTs g h c)
def mapTs (g : List Int → Tr) (h : Bool → Bool) : List Tr → List Tr
  | [] => []
  | t :: c => mapT g h t :: mapTs g h c
end
theorem mapTs_map {g h} : ∀ c, mapTs g h c = c.map (mapT g h)
  | [] => rfl
  | t :: c => by rw [mapTs, mapTs_map c]; rfl

theorem comp_us {Φ : Fns} {σ : MS} {elt tg it} {vs : List MV} {t} {us : List Tr} (e : evI Φ it σ = some (vs, t)) (hl : vs.length = us.length) (hc : vs.length ≤ 100000)
    (hg : ∀ (i : Nat) v u, vs[i]? = some v → us[i]? = some u → turn1 Φ elt tg [] σ v = some [enc u]) : ev Φ (.comp elt tg it []) σ = some (.lst (encs us), .fr) := by
  refine comp_pt (xs := vs) (t := t) (encs us) e (by rw [encs_len, hl]) (by omega) ?_
  intro i v w hv hw
  rw [encs_map, List.getElem?_map] at hw
  cases hu : us[i]? with
  | none => rw [hu] at hw; cases hw
  | some u => rw [hu] at hw; cases hw; exact hg i v u hv hu

section
variable {T : List FD} {L : Nat} {x : Ix}
theorem map_def {f : Nat} {ex : List MV} {n : Nat} {P : List Int → Prop} (g : List Int → Tr) (h : Bool → Bool) (k0 : Nat)
    (leaf : ∀ k s r, k0 ≤ k → r.length = n → P r → run T L (k + 1) f (pr s (r.map MV.int) :: ex) = some (enc (g r), false))
    (node : ∀ k s s' kd vs us, 1 ≤ k → vs.length = us.length → vs.length ≤ 100000 → (∀ (i : Nat) v u, vs[i]? = some v → us[i]? = some u → run T L k f (v :: ex) = some (enc u, false)) →
      run T L (k + 1) f (pr s [.str (kw kd), pr s' vs] :: ex) = some (enc (.node (h kd) us), false)) :
    ∀ t v, Dr t v → OkP n P t → ∀ k, dep t + 1 + k0 ≤ k → run T L k f (v :: ex) = some (enc (mapT g h t), false) := by
  refine Tr.ind ?_ ?_
  · intro r v d o k hk
    obtain ⟨k, rfl⟩ : ∃ j, k = j + 1 := ⟨k - 1, by omega⟩
    rw [dep] at hk
    cases d with
    | leaf s _ =>
      cases o with
      | leaf hr hb =>
        rw [mapT]
        exact leaf k s r (by omega) hr hb
  · intro kd c ih v d o k hk
    obtain ⟨k, rfl⟩ : ∃ j, k = j + 1 := ⟨k - 1, by omega⟩
    rw [dep] at hk
    cases d with
    | node s s' _ _ vs hl ha =>
      cases o with
      | node hc hcl hok =>
        rw [mapT, mapTs_map]
        refine node k s s' kd vs _ (by omega) (by rw [List.length_map, hl]) (by omega) ?_
        intro i v u hv hu
        rw [List.getElem?_map] at hu
        cases ht : c[i]? with
        | none => rw [ht] at hu; cases hu
        | some t =>
          rw [ht] at hu
          cases hu
          have hm := List.mem_of_getElem? ht
          exact ih t hm v (ha i t v ht hv) (hok t hm) k (by have := deps_mem hm; omega)

/-- sums item by item -/
def av (a b : List Int) : List Int := List.zipWith (· + ·) a b
theorem av_len {a b : List Int} (h : b.length = a.length) : (av a b).length = a.length := by rw [av, List.length_zipWith]; omega
theorem av_get {a b : List Int} {i : Nat} (h : b.length = a.length) (hi : i < a.length) : (av a b)[i]? = some (gd a i + gd b i) := by
  rw [av, List.getElem?_zipWith, List.getElem?_eq_getElem hi, List.getElem?_eq_getElem (by omega : i < b.length), gd_eq hi, gd_eq (by omega)]

theorem comp_av {Φ : Fns} {σ : MS} {elt tg it} {a b : List Int} {t} (e : evI Φ it σ = some (rngM 0 a.length, t)) (hl : b.length = a.length) (hn : a.length ≤ 1000)
    (hg : ∀ i : Nat, i < a.length → turn1 Φ elt tg [] σ (.int i) = some [.int (gd a i + gd b i)]) : ev Φ (.comp elt tg it []) σ = some (.lst ((av a b).map MV.int), .fr) := by
  refine comp_pt (xs := rngM 0 a.length) (t := t) _ e (by rw [List.length_map, av_len hl, rngM_length]) (by rw [rngM_length]; omega) ?_
  intro i v w hv hw
  obtain ⟨hi, rfl⟩ := rngM_at hv
  rw [List.getElem?_map, av_get hl hi] at hw
  cases hw
  rw [Int.zero_add]
  exact hg i hi

theorem plus_ok (h : T[x.plus]? = some ⟨2, 3, Bplus x⟩) {k : Nat} (hk : 1 ≤ k) (s s' : Bool) (a b : List Int) (hl : b.length = a.length) (hn : a.length ≤ 1000) : run T L k x.plus [pr s (a.map MV.int), pr s' (b.map MV.int)] = some (rowv (av a b), false) := by
  obtain ⟨k, rfl⟩ : ∃ j, k = j + 1 := ⟨k - 1, by omega⟩
  refine run_eq h rfl ?_
  have hr := rngOk_n (n := a.length) (by omega)
  have c := comp_av (Φ := run T L k) (σ := [some (pr s (a.map MV.int), false), some (pr s' (b.map MV.int), false), none]) (elt := .bin .add (.idx (.var 0) (.var 2)) (.idx (.var 1) (.var 2))) (tg := .nm 2) (it := .rng1 (.bi .len [.var 0])) (a := a) (b := b) (t := .sh) (by simp [hr]) hl hn (by
    intro i hi
    have e1 := get_mi hi
    have e2 := get_mi (hl ▸ hi : i < b.length)
    simp only [List.getElem?_map] at e1 e2
    simp [turn1, e1, e2])
  simp [Bplus, startM, c, rowv]
end
end Mn.S.Tx

set_option Elab.async false
set_option linter.all false
set_option maxRecDepth 100000
/-! Mn22: what the defs on trees give. -/
namespace Mn.S.Tx
open PySem Mn.S.Tw
section
variable {T : List FD} {L : Nat} {x : Ix}
def sh (row : List Int) : Tr → Tr := mapT (fun r => .leaf (av r row)) id
def jn (two : Tr) : Tr → Tr := mapT (fun r => sh r two) id
def op : Tr → Tr := mapT (fun r => .leaf (r.map fun x => -x)) (!·)
def wd (b a : Nat) : Tr → Tr := mapT (fun r => .leaf (List.replicate b 0 ++ r ++ List.replicate a 0)) id

theorem shifted_ok (h1 : T[x.is_leaf]? = some ⟨1, 1, Bis_leaf x.toIx⟩) (h2 : T[x.plus]? = some ⟨2, 3, Bplus x⟩) (h3 : T[x.shifted]? = some ⟨2, 3, Bshifted x⟩) {n : Nat} {P : List Int → Prop} (s' : Bool) (row : List Int) (hr : row.length = n) (hn : n ≤ 1000) :
    ∀ t v, Dr t v → OkP n P t → ∀ k, dep t + 2 ≤ k → run T L k x.shifted [v, pr s' (row.map MV.int)] = some (enc (sh row t), false) := by
  intro t v d o k hk
  refine map_def (ex := [pr s' (row.map MV.int)]) (fun r => .leaf (av r row)) id 1 ?_ ?_ t v d o k (by omega)
  · intro k s r hk hl _
    have e1 := isleaf_row (L := L) h1 (k := k) hk s r
    have e2 := plus_ok (L := L) h2 (k := k) hk s s' r row (by omega) (by omega)
    refine run_eq h3 rfl ?_
    simp [Bshifted, startM, e1, e2, enc, rowv, Mn.freeOf, MV.noLst]
  · intro k s s2 kd vs us hk hl hc hi
    have e1 := isleaf_node (L := L) h1 (k := k) hk s (kw kd) (pr s2 vs)
    refine run_eq h3 rfl ?_
    have c := comp_us (Φ := run T L k) (σ := [some (pr s [.str (kw kd), pr s2 vs], false), some (pr s' (row.map MV.int), false), none]) (elt := .call x.shifted [.var 2, .var 1]) (tg := .nm 2) (it := .seq (.idx (.var 0) (.lit (.int 1)))) (vs := vs) (us := us) (t := .sh) (by simp) hl hc (by
      intro i v u hv hu
      have := hi i v u hv hu
      simp [turn1, this, Mn.freeOf, enc_noLst])
    simp [Bshifted, startM, e1, c, enc, Mn.freeOf, MV.noLst]
theorem joined_ok (h1 : T[x.is_leaf]? = some ⟨1, 1, Bis_leaf x.toIx⟩) (h2 : T[x.plus]? = some ⟨2, 3, Bplus x⟩) (h3 : T[x.shifted]? = some ⟨2, 3, Bshifted x⟩) (h4 : T[x.joined]? = some ⟨2, 3, Bjoined x⟩) {n : Nat} {P Q : List Int → Prop} (hn : n ≤ 1000) (t2 : Tr) (v2 : MV) (d2 : Dr t2 v2) (o2 : OkP n Q t2) :
    ∀ t v, Dr t v → OkP n P t → ∀ k, dep t + dep t2 + 4 ≤ k → run T L k x.joined [v, v2] = some (enc (jn t2 t), false) := by
  intro t v d o k hk
  refine map_def (ex := [v2]) (fun r => sh r t2) id (dep t2 + 3) ?_ ?_ t v d o k (by omega)
  · intro k s r hk hl _
    have e1 := isleaf_row (L := L) h1 (k := k) (by omega) s r
    have e2 := shifted_ok (L := L) h1 h2 h3 s r hl hn t2 v2 d2 o2 k (by omega)
    refine run_eq h4 rfl ?_
    simp [Bjoined, startM, e1, e2, Mn.freeOf, enc_noLst]
  · intro k s s2 kd vs us hk hl hc hi
    have e1 := isleaf_node (L := L) h1 (k := k) hk s (kw kd) (pr s2 vs)
    refine run_eq h4 rfl ?_
    have c := comp_us (Φ := run T L k) (σ := [some (pr s [.str (kw kd), pr s2 vs], false), some (v2, false), none]) (elt := .call x.joined [.var 2, .var 1]) (tg := .nm 2) (it := .seq (.idx (.var 0) (.lit (.int 1)))) (vs := vs) (us := us) (t := .sh) (by simp) hl hc (by
      intro i v u hv hu
      have := hi i v u hv hu
      simp [turn1, this, Mn.freeOf, enc_noLst])
    simp [Bjoined, startM, e1, c, enc, Mn.freeOf, MV.noLst]
theorem times_ok (h : T[x.times]? = some ⟨2, 3, Btimes x⟩) {k : Nat} (hk : 1 ≤ k) (s : Bool) (f : Int) {m : Nat} (hf : Bd f m) (hm : m ≤ 4000) (a : List Int) (hn : a.length ≤ 1000) (hb : ∀ x ∈ a, Bd x 4000) : run T L k x.times [.int f, pr s (a.map MV.int)] = some (rowv (a.map fun x => f * x), false) := by
  obtain ⟨k, rfl⟩ : ∃ j, k = j + 1 := ⟨k - 1, by omega⟩
  refine run_eq h rfl ?_
  have c := comp_ints (Φ := run T L k) (σ := [some (.int f, false), some (pr s (a.map MV.int), false), none]) (elt := .bin .mul (.var 0) (.var 2)) (tg := .nm 2) (it := .seq (.var 1)) (ifs := []) (xs := a.map MV.int) (t := .sh) (fun x => f * nu x) (by simp) (by simp; omega) (by
    intro v hv
    obtain ⟨y, hy, rfl⟩ := List.mem_map.mp hv
    haveI := hb y hy
    have hm' : m ≤ 400000 := by omega
    simp (decide := true) [turn1, hm'])
  simp only [List.map_map] at c
  simp [Btimes, startM, c, rowv, Function.comp_def]
theorem turned_ok (h1 : T[x.is_leaf]? = some ⟨1, 1, Bis_leaf x.toIx⟩) (h2 : T[x.times]? = some ⟨2, 3, Btimes x⟩) (h3 : T[x.turned]? = some ⟨1, 3, Bturned x⟩) {n : Nat} (hn : n ≤ 1000) :
    ∀ t v, Dr t v → Ok n t → ∀ k, dep t + 2 ≤ k → run T L k x.turned [v] = some (enc (op t), false) := by
  intro t v d o k hk
  refine map_def (ex := []) (fun r => .leaf (r.map fun x => -x)) (!·) 1 ?_ ?_ t v d o k (by omega)
  · intro k s r hk hl hb
    have e1 := isleaf_row (L := L) h1 (k := k) hk s r
    have e2 := times_ok (L := L) h2 (k := k) hk s (-1) (m := 1) ⟨by decide⟩ (by decide) r (by omega) (fun x hx => (hb x hx).up (by decide))
    refine run_eq h3 rfl ?_
    simp [Bturned, startM, e1, e2, enc, rowv, Mn.freeOf, MV.noLst]
  · intro k s s2 kd vs us hk hl hc hi
    have e1 := isleaf_node (L := L) h1 (k := k) hk s (kw kd) (pr s2 vs)
    refine run_eq h3 rfl ?_
    have c := fun z => comp_us (Φ := run T L k) (σ := [some (pr s [.str (kw kd), pr s2 vs], false), z, none]) (elt := .call x.turned [.var 2]) (tg := .nm 2) (it := .seq (.idx (.var 0) (.lit (.int 1)))) (vs := vs) (us := us) (t := .sh) (by simp) hl hc (by
      intro i v u hv hu
      have := hi i v u hv hu
      simp [turn1, this, Mn.freeOf, enc_noLst])
    cases kd <;> simp [Bturned, startM, e1, c, cmp_kw, enc, Mn.freeOf, MV.noLst] <;> rfl
theorem zeros {Φ : Fns} {σ : MS} {i : Nat} {it} {m : Nat} {t} (e : evI Φ it σ = some (rngM 0 m, t)) (hm : m ≤ 1000) : ev Φ (.comp (.lit (.int 0)) (.nm i) it []) σ = some (.lst ((List.replicate m (0 : Int)).map MV.int), .fr) := by
  have := comp_ints (Φ := Φ) (σ := σ) (elt := .lit (.int 0)) (tg := .nm i) (it := it) (ifs := []) (fun _ => 0) e (by rw [rngM_length]; omega) (by intro v hv; simp [turn1])
  rw [this]
  have e2 : (rngM 0 m).map (fun _ => (0 : Int)) = List.replicate m 0 := by
    refine List.eq_replicate_iff.mpr ⟨by rw [List.length_map, rngM_length], fun b hb => ?_⟩
    obtain ⟨_, _, rfl⟩ := List.mem_map.mp hb; rfl
  rw [e2]
theorem widened_ok (h1 : T[x.is_leaf]? = some ⟨1, 1, Bis_leaf x.toIx⟩) (h3 : T[x.widened]? = some ⟨3, 5, Bwidened x⟩) {n : Nat} {P : List Int → Prop} (hn : n ≤ 1000) (b a : Nat) (hb : b ≤ 1000) (ha : a ≤ 1000) :
    ∀ t v, Dr t v → OkP n P t → ∀ k, dep t + 2 ≤ k → run T L k x.widened [v, .int b, .int a] = some (enc (wd b a t), false) := by
  intro t v d o k hk
  refine map_def (ex := [.int b, .int a]) (fun r => .leaf (List.replicate b 0 ++ r ++ List.replicate a 0)) id 1 ?_ ?_ t v d o k (by omega)
  · intro k s r hk hl _
    have e1 := isleaf_row (L := L) h1 (k := k) hk s r
    have r1 := rngOk_n (n := b) (by omega)
    have r2 := rngOk_n (n := a) (by omega)
    have c1 := zeros (Φ := run T L k) (σ := [some (pr s (r.map MV.int), false), some (.int b, false), some (.int a, false), none, none]) (i := 4) (it := .rng1 (.var 1)) (m := b) (t := .sh) (by simp [r1]) hb
    have c2 := zeros (Φ := run T L k) (σ := [some (pr s (r.map MV.int), false), some (.int b, false), some (.int a, false), none, none]) (i := 4) (it := .rng1 (.var 2)) (m := a) (t := .sh) (by simp [r2]) ha
    have z1 : b + r.length ≤ 4000000 := by omega
    have z2 : b + r.length + a ≤ 4000000 := by omega
    refine run_eq h3 rfl ?_
    simp only [List.map_replicate] at c1 c2
    simp [Bwidened, startM, e1, c1, c2, z1, z2, enc]
  · intro k s s2 kd vs us hk hl hc hi
    have e1 := isleaf_node (L := L) h1 (k := k) hk s (kw kd) (pr s2 vs)
    refine run_eq h3 rfl ?_
    have c := comp_us (Φ := run T L k) (σ := [some (pr s [.str (kw kd), pr s2 vs], false), some (.int b, false), some (.int a, false), none, none]) (elt := .call x.widened [.var 3, .var 1, .var 2]) (tg := .nm 3) (it := .seq (.idx (.var 0) (.lit (.int 1)))) (vs := vs) (us := us) (t := .sh) (by simp) hl hc (by
      intro i v u hv hu
      have := hi i v u hv hu
      simp [turn1, this, Mn.freeOf, enc_noLst])
    simp [Bwidened, startM, e1, c, enc, Mn.freeOf, MV.noLst]
end
end Mn.S.Tx

set_option Elab.async false
set_option linter.all false
set_option maxRecDepth 100000
/-! Mn23: the laws' own defs on trees; depths, counts. -/
namespace Mn.S.Tx
open PySem Mn.S.Tw
section
variable {T : List FD} {L : Nat} {x : Ix}
theorem lshift_ok (h1 : T[x.lis_node]? = some ⟨1, 1, Blis_node x.toIx⟩) (h3 : T[x.lshift]? = some ⟨2, 4, Blshift x⟩) {n : Nat} {P : List Int → Prop} (s' : Bool) (row : List Int) (hr : row.length = n) (hn : n ≤ 1000) :
    ∀ t v, Dr t v → OkP n P t → ∀ k, dep t + 2 ≤ k → run T L k x.lshift [v, pr s' (row.map MV.int)] = some (enc (sh row t), false) := by
  intro t v d o k hk
  refine map_def (ex := [pr s' (row.map MV.int)]) (fun r => .leaf (av r row)) id 1 ?_ ?_ t v d o k (by omega)
  · intro k s r hk hl _
    have e1 := isnode_row (L := L) h1 (k := k) hk s r
    have hrr := rngOk_n (n := r.length) (by omega)
    have c := comp_av (Φ := run T L k) (σ := [some (pr s (r.map MV.int), false), some (pr s' (row.map MV.int), false), none, none]) (elt := .bin .add (.idx (.var 0) (.var 2)) (.idx (.var 1) (.var 2))) (tg := .nm 2) (it := .rng1 (.bi .len [.var 0])) (a := r) (b := row) (t := .sh) (by simp [hrr]) (by omega) (by omega) (by
      intro i hi
      have e1 := get_mi hi
      have e2 := get_mi (show i < row.length by omega)
      simp only [List.getElem?_map] at e1 e2
      simp [turn1, e1, e2])
    refine run_eq h3 rfl ?_
    simp [Blshift, startM, e1, c, enc, Mn.freeOf, MV.noLst]
  · intro k s s2 kd vs us hk hl hc hi
    have e1 := isnode_node (L := L) h1 (k := k) hk s (kw kd) (pr s2 vs)
    refine run_eq h3 rfl ?_
    have c := comp_us (Φ := run T L k) (σ := [some (pr s [.str (kw kd), pr s2 vs], false), some (pr s' (row.map MV.int), false), none, none]) (elt := .call x.lshift [.var 3, .var 1]) (tg := .nm 3) (it := .seq (.idx (.var 0) (.lit (.int 1)))) (vs := vs) (us := us) (t := .sh) (by simp) hl hc (by
      intro i v u hv hu
      have := hi i v u hv hu
      simp [turn1, this, Mn.freeOf, enc_noLst])
    simp [Blshift, startM, e1, c, enc, Mn.freeOf, MV.noLst]
theorem ljoin_ok (h1 : T[x.lis_node]? = some ⟨1, 1, Blis_node x.toIx⟩) (h3 : T[x.lshift]? = some ⟨2, 4, Blshift x⟩) (h4 : T[x.ljoin]? = some ⟨2, 3, Bljoin x⟩) {n : Nat} {P Q : List Int → Prop} (hn : n ≤ 1000) (t2 : Tr) (v2 : MV) (d2 : Dr t2 v2) (o2 : OkP n Q t2) :
    ∀ t v, Dr t v → OkP n P t → ∀ k, dep t + dep t2 + 4 ≤ k → run T L k x.ljoin [v, v2] = some (enc (jn t2 t), false) := by
  intro t v d o k hk
  refine map_def (ex := [v2]) (fun r => sh r t2) id (dep t2 + 3) ?_ ?_ t v d o k (by omega)
  · intro k s r hk hl _
    have e1 := isnode_row (L := L) h1 (k := k) (by omega) s r
    have e2 := lshift_ok (L := L) h1 h3 s r hl hn t2 v2 d2 o2 k (by omega)
    refine run_eq h4 rfl ?_
    simp [Bljoin, startM, e1, e2, Mn.freeOf, enc_noLst, MV.noLst]
  · intro k s s2 kd vs us hk hl hc hi
    have e1 := isnode_node (L := L) h1 (k := k) hk s (kw kd) (pr s2 vs)
    refine run_eq h4 rfl ?_
    have c := comp_us (Φ := run T L k) (σ := [some (pr s [.str (kw kd), pr s2 vs], false), some (v2, false), none]) (elt := .call x.ljoin [.var 2, .var 1]) (tg := .nm 2) (it := .seq (.idx (.var 0) (.lit (.int 1)))) (vs := vs) (us := us) (t := .sh) (by simp) hl hc (by
      intro i v u hv hu
      have := hi i v u hv hu
      simp [turn1, this, Mn.freeOf, enc_noLst])
    simp [Bljoin, startM, e1, c, enc, Mn.freeOf, MV.noLst]
theorem lopp_ok (h1 : T[x.lis_node]? = some ⟨1, 1, Blis_node x.toIx⟩) (h3 : T[x.lopposite]? = some ⟨1, 3, Blopposite x⟩) {n : Nat} {P : List Int → Prop} (hn : n ≤ 1000) :
    ∀ t v, Dr t v → OkP n P t → ∀ k, dep t + 2 ≤ k → run T L k x.lopposite [v] = some (enc (op t), false) := by
  intro t v d o k hk
  refine map_def (ex := []) (fun r => .leaf (r.map fun x => -x)) (!·) 1 ?_ ?_ t v d o k (by omega)
  · intro k s r hk hl hb
    have e1 := isnode_row (L := L) h1 (k := k) hk s r
    have c := comp_ints (Φ := run T L k) (σ := [some (pr s (r.map MV.int), false), none, none]) (elt := .bin .sub (.lit (.int 0)) (.var 1)) (tg := .nm 1) (it := .seq (.var 0)) (ifs := []) (xs := r.map MV.int) (t := .sh) (fun x => 0 - nu x) (by simp) (by simp; omega) (by
      intro v hv
      obtain ⟨y, hy, rfl⟩ := List.mem_map.mp hv
      simp [turn1])
    refine run_eq h3 rfl ?_
    simp only [List.map_map, Int.zero_sub] at c
    simp [Blopposite, startM, e1, c, enc, Mn.freeOf, MV.noLst, Function.comp_def]
  · intro k s s2 kd vs us hk hl hc hi
    have e1 := isnode_node (L := L) h1 (k := k) hk s (kw kd) (pr s2 vs)
    refine run_eq h3 rfl ?_
    have c := comp_us (Φ := run T L k) (σ := [some (pr s [.str (kw kd), pr s2 vs], false), none, none]) (elt := .call x.lopposite [.var 2]) (tg := .nm 2) (it := .seq (.idx (.var 0) (.lit (.int 1)))) (vs := vs) (us := us) (t := .sh) (by simp) hl hc (by
      intro i v u hv hu
      have := hi i v u hv hu
      simp [turn1, this, Mn.freeOf, enc_noLst])
    cases kd <;> simp [Blopposite, startM, e1, c, cmp_kw, enc, Mn.freeOf, MV.noLst] <;> rfl

/-- the same for a tree in tuples -/
theorem map_enc {f : Nat} {ex : List MV} {n : Nat} {P : List Int → Prop} (g : List Int → Tr) (h : Bool → Bool) (k0 : Nat)
    (leaf : ∀ k r, k0 ≤ k → r.length = n → P r → run T L (k + 1) f (rowv r :: ex) = some (enc (g r), false))
    (node : ∀ k kd (c us : List Tr), 1 ≤ k → c.length = us.length → c.length ≤ 100000 → (∀ (i : Nat) t u, c[i]? = some t → us[i]? = some u → run T L k f (enc t :: ex) = some (enc u, false)) →
      run T L (k + 1) f (pr false [.str (kw kd), pr false (encs c)] :: ex) = some (enc (.node (h kd) us), false)) :
    ∀ t, OkP n P t → ∀ k, dep t + 1 + k0 ≤ k → run T L k f (enc t :: ex) = some (enc (mapT g h t), false) := by
  refine Tr.ind ?_ ?_
  · intro r o k hk
    obtain ⟨k, rfl⟩ : ∃ j, k = j + 1 := ⟨k - 1, by omega⟩
    rw [dep] at hk
    cases o with
    | leaf hr hb =>
      rw [mapT, enc]
      exact leaf k r (by omega) hr hb
  · intro kd c ih o k hk
    obtain ⟨k, rfl⟩ : ∃ j, k = j + 1 := ⟨k - 1, by omega⟩
    rw [dep] at hk
    cases o with
    | node hc hcl hok =>
      rw [mapT, mapTs_map, enc_node]
      refine node k kd c _ (by omega) (by rw [List.length_map]) hcl ?_
      intro i t u ht hu
      rw [List.getElem?_map, ht] at hu
      cases hu
      have hm := List.mem_of_getElem? ht
      exact ih t hm (hok t hm) k (by have := deps_mem hm; omega)
theorem comp_ue {Φ : Fns} {σ : MS} {elt tg it} {t} {c us : List Tr} (e : evI Φ it σ = some (encs c, t)) (hl : c.length = us.length) (hc : c.length ≤ 100000)
    (hg : ∀ (i : Nat) a u, c[i]? = some a → us[i]? = some u → turn1 Φ elt tg [] σ (enc a) = some [enc u]) : ev Φ (.comp elt tg it []) σ = some (.lst (encs us), .fr) := by
  refine comp_us e (by rw [encs_len, hl]) (by rw [encs_len]; exact hc) ?_
  intro i v u hv hu
  rw [encs_map, List.getElem?_map] at hv
  cases ha : c[i]? with
  | none => rw [ha] at hv; cases hv
  | some a => rw [ha] at hv; cases hv; exact hg i a u ha hu
theorem rep0 (n : Nat) (hn : n ≤ 1000) : binSem .mul (.tup [.int 0]) (.int n) = some (.tup ((List.replicate n (0 : Int)).map MV.int), .sh) := by
  rw [bin_repT rfl (by omega) (by omega) (by simp), Int.toNat_natCast, List.map_replicate]
  congr 3
  clear hn
  induction n with
  | zero => rfl
  | succ n ih => rw [List.replicate_succ, List.flatten_cons, ih, List.replicate_succ]; rfl
theorem lwide_ok (h1 : T[x.lis_node]? = some ⟨1, 1, Blis_node x.toIx⟩) (h3 : T[x.lwide]? = some ⟨3, 4, Blwide x⟩) {n : Nat} {P : List Int → Prop} (hn : n ≤ 1000) (b a : Nat) (hb : b ≤ 1000) (ha : a ≤ 1000) :
    ∀ t, OkP n P t → ∀ k, dep t + 2 ≤ k → run T L k x.lwide [enc t, .int b, .int a] = some (enc (wd b a t), false) := by
  intro t o k hk
  refine map_enc (ex := [.int b, .int a]) (fun r => .leaf (List.replicate b 0 ++ r ++ List.replicate a 0)) id 1 ?_ ?_ t o k (by omega)
  · intro k r hk hl _
    have e1 := isnode_row (L := L) h1 (k := k) hk false r
    have e1' : run T L k x.lis_node [rowv r] = some (.bl false, false) := e1
    have r1 := rep0 b hb
    have r2 := rep0 a ha
    have z1 : b + r.length ≤ 4000000 := by omega
    have z2 : b + r.length + a ≤ 4000000 := by omega
    refine run_eq h3 rfl ?_
    simp only [List.map_replicate] at r1 r2
    simp only [rowv] at e1'
    simp [Blwide, startM, e1', rowv, r1, r2, z1, z2, enc, Mn.freeOf, MV.noLst]
  · intro k kd c us hk hl hc hi
    have e1 := isnode_node (L := L) h1 (k := k) hk false (kw kd) (pr false (encs c))
    refine run_eq h3 rfl ?_
    have c := comp_ue (Φ := run T L k) (σ := [some (pr false [.str (kw kd), pr false (encs c)], false), some (.int b, false), some (.int a, false), none]) (elt := .call x.lwide [.var 3, .var 1, .var 2]) (tg := .nm 3) (it := .seq (.idx (.var 0) (.lit (.int 1)))) (c := c) (us := us) (t := .sh) (by simp) hl hc (by
      intro i v u hv hu
      have := hi i v u hv hu
      simp [turn1, this, Mn.freeOf, enc_noLst])
    simp [Blwide, startM, e1, c, enc, Mn.freeOf, MV.noLst]
/-- a row in the place of another -/
def ins (r far : List Int) : Tr → Tr := mapT (fun q => if q = r then .leaf far else .leaf q) id
theorem canLay_ints : ∀ r : List Int, PyData.canLayAll0 (MV.toDs (r.map MV.int)) = true
  | [] => by simp [MV.toDs, PyData.canLayAll0]
  | x :: r => by simp [MV.toDs, MV.toD, PyData.canLayAll0, PyData.canLay0, canLay_ints r]
theorem cmpOk_row (r : List Int) : cmpOk (rowv r) = true := by
  have h : (rowv r).toD.depth ≤ 64 := by rw [toD_depth, rowv, deep, deeps_mi]; decide
  unfold cmpOk SeqAt.shaped
  rw [decide_eq_true h, Bool.and_true]
  simp only [rowv, MV.toD, PyData.canLay0]
  exact canLay_ints r
theorem eqv_ints : ∀ a b : List Int, PyData.eqvAll (MV.toDs (a.map MV.int)) (MV.toDs (b.map MV.int)) = decide (a = b) := by
  intro a
  induction a with
  | nil => intro b; cases b <;> simp [MV.toDs, PyData.eqvAll]
  | cons x a ih =>
    intro b
    cases b with
    | nil => simp [MV.toDs, PyData.eqvAll]
    | cons y b =>
      simp only [List.map_cons, MV.toDs, PyData.eqvAll, ih, MV.toD]
      rw [Bool.eq_iff_iff]
      simp [PyData.eqv]
theorem cmp_rows (a b : List Int) : cmpSem .eq (rowv a) (rowv b) = some (decide (a = b)) := by
  have : cmpSem .eq (rowv a) (rowv b) = if cmpOk (rowv a) && cmpOk (rowv b) then some (PyData.eqv (rowv a).toD (rowv b).toD) else none := rfl
  rw [this, cmpOk_row, cmpOk_row]
  simp only [Bool.and_self, if_true, rowv, MV.toD, PyData.eqv]
  rw [eqv_ints]
end
end Mn.S.Tx

set_option Elab.async false
set_option linter.all false
set_option maxRecDepth 100000
/-! Mn24: depths, leaves, counts. -/
namespace Mn.S.Tx
open PySem Mn.S.Tw
section
variable {T : List FD} {L : Nat} {x : Ix}
theorem linstead_ok (h1 : T[x.lis_node]? = some ⟨1, 1, Blis_node x.toIx⟩) (h3 : T[x.linstead]? = some ⟨3, 4, Blinstead x⟩) {n : Nat} {P : List Int → Prop} (q far : List Int) :
    ∀ t, OkP n P t → ∀ k, dep t + 2 ≤ k → run T L k x.linstead [enc t, rowv q, rowv far] = some (enc (ins q far t), false) := by
  intro t o k hk
  refine map_enc (ex := [rowv q, rowv far]) (fun r => if r = q then .leaf far else .leaf r) id 1 ?_ ?_ t o k (by omega)
  · intro k r hk hl _
    have e1 : run T L k x.lis_node [rowv r] = some (.bl false, false) := isnode_row (L := L) h1 (k := k) hk false r
    have e2 := cmp_rows r q
    refine run_eq h3 rfl ?_
    by_cases h : r = q
    · rw [decide_eq_true h] at e2
      simp [Blinstead, startM, e1, e2, h, enc, rowv, Mn.freeOf, MV.noLst]
      simp only [rowv] at e1 e2
      rw [h] at e1 e2
      simp [e1, e2]
    · rw [decide_eq_false h] at e2
      simp only [rowv] at e1 e2
      simp [Blinstead, startM, rowv, e1, e2, h, enc, Mn.freeOf, MV.noLst]
  · intro k kd c us hk hl hc hi
    have e1 := isnode_node (L := L) h1 (k := k) hk false (kw kd) (pr false (encs c))
    refine run_eq h3 rfl ?_
    have c := comp_ue (Φ := run T L k) (σ := [some (pr false [.str (kw kd), pr false (encs c)], false), some (rowv q, false), some (rowv far, false), none]) (elt := .call x.linstead [.var 3, .var 1, .var 2]) (tg := .nm 3) (it := .seq (.idx (.var 0) (.lit (.int 1)))) (c := c) (us := us) (t := .sh) (by simp) hl hc (by
      intro i v u hv hu
      have := hi i v u hv hu
      simp [turn1, this, Mn.freeOf, enc_noLst])
    simp [Blinstead, startM, e1, c, enc, Mn.freeOf, MV.noLst]

theorem comp_nums {Φ : Fns} {σ : MS} {elt tg it} {vs : List MV} {t} {c : List Tr} {F : Tr → Int} (e : evI Φ it σ = some (vs, t)) (hl : vs.length = c.length) (hc : vs.length ≤ 100000)
    (hg : ∀ (i : Nat) v a, vs[i]? = some v → c[i]? = some a → turn1 Φ elt tg [] σ v = some [.int (F a)]) : ev Φ (.comp elt tg it []) σ = some (.lst ((c.map F).map MV.int), .fr) := by
  refine comp_pt (xs := vs) (t := t) _ e (by rw [List.length_map, List.length_map, hl]) (by omega) ?_
  intro i v w hv hw
  rw [List.map_map, List.getElem?_map] at hw
  cases hu : c[i]? with
  | none => rw [hu] at hw; cases hw
  | some u => rw [hu] at hw; cases hw; exact hg i v u hv hu

theorem depth_ok (h1 : T[x.is_leaf]? = some ⟨1, 1, Bis_leaf x.toIx⟩) (h2 : T[x.depth]? = some ⟨1, 2, Bdepth x⟩) {n : Nat} {P : List Int → Prop} :
    ∀ t v, Dr t v → OkP n P t → ∀ k, dep t + 2 ≤ k → run T L k x.depth [v] = some (.int (dep t : Nat), false) := by
  refine Tr.ind ?_ ?_
  · intro r v d o k hk
    obtain ⟨k, rfl⟩ : ∃ j, k = j + 1 := ⟨k - 1, by omega⟩
    rw [dep] at hk
    cases d with
    | leaf s _ =>
      have e1 := isleaf_row (L := L) h1 (k := k) (by omega) s r
      refine run_eq h2 rfl ?_
      simp [Bdepth, startM, e1, dep, Mn.freeOf, MV.noLst]
  · intro kd c ih v d o k hk
    obtain ⟨k, rfl⟩ : ∃ j, k = j + 1 := ⟨k - 1, by omega⟩
    rw [dep] at hk
    cases d with
    | node s s2 _ _ vs hl ha =>
      cases o with
      | node hc hcl hok =>
        have e1 := isleaf_node (L := L) h1 (k := k) (by omega) s (kw kd) (pr s2 vs)
        have cc := comp_nums (Φ := run T L k) (σ := [some (pr s [.str (kw kd), pr s2 vs], false), none]) (elt := .call x.depth [.var 1]) (tg := .nm 1) (it := .seq (.idx (.var 0) (.lit (.int 1)))) (vs := vs) (c := c) (F := fun t => (dep t : Int)) (t := .sh) (by simp) hl (by omega) (by
          intro i v a hv hc'
          have hm := List.mem_of_getElem? hc'
          have := ih a hm v (ha i a v hc' hv) (hok a hm) k (by have := deps_mem hm; omega)
          simp [turn1, this, Mn.freeOf, MV.noLst])
        have m := bi_maxL (l := lds c) (fun q => hc (by rw [lds] at q; exact List.map_eq_nil_iff.mp q))
        rw [lds_max hc] at m
        rw [lds] at m
        refine run_eq h2 rfl ?_
        simp [-List.map_map, Bdepth, startM, e1, cc, m, dep, Mn.freeOf, MV.noLst]
        omega
theorem ldepth_ok (h1 : T[x.lis_node]? = some ⟨1, 1, Blis_node x.toIx⟩) (h2 : T[x.ldepth]? = some ⟨1, 2, Bldepth x⟩) {n : Nat} {P : List Int → Prop} :
    ∀ t v, Dr t v → OkP n P t → ∀ k, dep t + 2 ≤ k → run T L k x.ldepth [v] = some (.int (dep t : Nat), false) := by
  refine Tr.ind ?_ ?_
  · intro r v d o k hk
    obtain ⟨k, rfl⟩ : ∃ j, k = j + 1 := ⟨k - 1, by omega⟩
    rw [dep] at hk
    cases d with
    | leaf s _ =>
      have e1 := isnode_row (L := L) h1 (k := k) (by omega) s r
      refine run_eq h2 rfl ?_
      simp [Bldepth, startM, e1, dep, Mn.freeOf, MV.noLst]
  · intro kd c ih v d o k hk
    obtain ⟨k, rfl⟩ : ∃ j, k = j + 1 := ⟨k - 1, by omega⟩
    rw [dep] at hk
    cases d with
    | node s s2 _ _ vs hl ha =>
      cases o with
      | node hc hcl hok =>
        have e1 := isnode_node (L := L) h1 (k := k) (by omega) s (kw kd) (pr s2 vs)
        have cc := comp_nums (Φ := run T L k) (σ := [some (pr s [.str (kw kd), pr s2 vs], false), none]) (elt := .call x.ldepth [.var 1]) (tg := .nm 1) (it := .seq (.idx (.var 0) (.lit (.int 1)))) (vs := vs) (c := c) (F := fun t => (dep t : Int)) (t := .sh) (by simp) hl (by omega) (by
          intro i v a hv hc'
          have hm := List.mem_of_getElem? hc'
          have := ih a hm v (ha i a v hc' hv) (hok a hm) k (by have := deps_mem hm; omega)
          simp [turn1, this, Mn.freeOf, MV.noLst])
        have m := bi_maxL (l := lds c) (fun q => hc (by rw [lds] at q; exact List.map_eq_nil_iff.mp q))
        rw [lds_max hc] at m
        rw [lds] at m
        refine run_eq h2 rfl ?_
        simp [-List.map_map, Bldepth, startM, e1, cc, m, dep, Mn.freeOf, MV.noLst]
        omega

theorem leavesP_ok (h1 : T[x.is_leaf]? = some ⟨1, 1, Bis_leaf x.toIx⟩) (h2 : T[x.leaves]? = some ⟨1, 3, Bleaves x⟩) :
    ∀ t v, Dr t v → (lvs t).length ≤ 100000 → ∀ k, dep t + 2 ≤ k → run T L k x.leaves [v] = some (.tup ((lvs t).map rowv), false) := by
  refine Tr.ind ?_ ?_
  · intro r v d hl k hk
    obtain ⟨k, rfl⟩ : ∃ j, k = j + 1 := ⟨k - 1, by omega⟩
    rw [dep] at hk
    cases d with
    | leaf s _ =>
      have e1 := isleaf_row (L := L) h1 (k := k) (by omega) s r
      refine run_eq h2 rfl ?_
      simp [Bleaves, startM, e1, lvs, rowv, Mn.freeOf, MV.noLst]
  · intro kd c ih v d hlv k hk
    obtain ⟨k, rfl⟩ : ∃ j, k = j + 1 := ⟨k - 1, by omega⟩
    rw [dep] at hk
    rw [lvs] at hlv
    cases d with
    | node s s2 _ _ vs hl ha =>
      have e1 := isleaf_node (L := L) h1 (k := k) (by omega) s (kw kd) (pr s2 vs)
      refine run_eq h2 rfl ?_
      simp [Bleaves, startM, e1, Mn.freeOf, MV.noLst]
      refine W.for vs (fun i σ => ∃ z, σ = [some (pr s [.str (kw kd), pr s2 vs], false), some (.lst ((lvss (c.take i)).map rowv), true), z]) (by simp) ⟨none, by simp [lvss]⟩ ?_ ?_
      · rintro i w σ hv ⟨z, rfl⟩
        cases ht : c[i]? with
        | none =>
          have : i < vs.length := by
            rcases Nat.lt_or_ge i vs.length with q | q
            · exact q
            · rw [List.getElem?_eq_none q] at hv; cases hv
          rw [List.getElem?_eq_none_iff] at ht
          omega
        | some t =>
          have hm := List.mem_of_getElem? ht
          have e2 := ih t hm w (ha i t w ht hv) (by have := lvs_mem_le hm; omega) k (by have := deps_mem hm; omega)
          have hz : (lvss (c.take i)).length + (lvs t).length ≤ SZ := by
            have := lvss_take_le (c := c) (i := i)
            have := lvs_mem_le hm
            have := SZ_gt (n := 200001) (by decide)
            omega
          have hs : c.take (i + 1) = c.take i ++ [t] := by rw [List.take_add_one, ht]; rfl
          rw [hs, lvss_snoc, List.map_append]
          simp [e2, hz, Mn.freeOf]
      · rintro σ ⟨z, rfl⟩
        rw [hl, List.take_length]
        simp [lvs]
end
end Mn.S.Tx

set_option Elab.async false
set_option linter.all false
set_option maxRecDepth 100000
/-! Mn25: numbers of options. -/
namespace Mn.S.Tx
open PySem Mn.S.Tw
section
variable {T : List FD} {L : Nat} {x : Ix}
theorem optc_ok (h1 : T[x.is_leaf]? = some ⟨1, 1, Bis_leaf x.toIx⟩) (h2 : T[x.option_count]? = some ⟨1, 5, Boption_count x⟩) {n : Nat} :
    ∀ t v, Dr t v → Ok n t → (lvs t).length ≤ 1000 → ∀ k, dep t + 2 ≤ k → run T L k x.option_count [v] = some (.int (cnt true t : Nat), false) := by
  refine Tr.ind ?_ ?_
  · intro r v d o hl k hk
    obtain ⟨k, rfl⟩ : ∃ j, k = j + 1 := ⟨k - 1, by omega⟩
    rw [dep] at hk
    cases d with
    | leaf s _ =>
      have e1 := isleaf_row (L := L) h1 (k := k) (by omega) s r
      refine run_eq h2 rfl ?_
      simp [Boption_count, startM, e1, cnt, Mn.freeOf, MV.noLst]
  · intro kd c ih v d o hl k hk
    obtain ⟨k, rfl⟩ : ∃ j, k = j + 1 := ⟨k - 1, by omega⟩
    rw [dep] at hk
    rw [lvs] at hl
    cases d with
    | node s s2 _ _ vs hvl ha =>
      cases o with
      | node hc hcl hok =>
        have e1 := isleaf_node (L := L) h1 (k := k) (by omega) s (kw kd) (pr s2 vs)
        have cc := comp_nums (Φ := run T L k) (σ := [some (pr s [.str (kw kd), pr s2 vs], false), none, none, none, none]) (elt := .call x.option_count [.var 4]) (tg := .nm 4) (it := .seq (.idx (.var 0) (.lit (.int 1)))) (vs := vs) (c := c) (F := fun t => ((cnt true t : Nat) : Int)) (t := .sh) (by simp) hvl (by omega) (by
          intro i v a hv hc'
          have hm := List.mem_of_getElem? hc'
          have := ih a hm v (ha i a v hc' hv) (hok a hm) (by have := lvs_mem_le hm; omega) k (by have := deps_mem hm; omega)
          simp [turn1, this, Mn.freeOf, MV.noLst])
        have ec : c.map (fun t => ((cnt true t : Nat) : Int)) = ci (cnts true c) := by rw [ci, cnts_map, List.map_map]; rfl
        rw [ec] at cc
        refine run_eq h2 rfl ?_
        cases kd with
        | true =>
          have e2 := bi_sum (l := ci (cnts true c))
          rw [ci_sum] at e2
          simp [-List.map_map, Boption_count, startM, e1, cc, cmp_kw, e2, Mn.freeOf, MV.noLst, cnt]
        | false =>
          simp [-List.map_map, Boption_count, startM, e1, cc, cmp_kw, Mn.freeOf, MV.noLst]
          refine W.for ((ci (cnts true c)).map MV.int) (fun i σ => ∃ z, σ = [some (pr s [MV.str (kw false), pr s2 vs], false), some (.lst ((ci (cnts true c)).map MV.int), false), some (.int ((cnts true (c.take i)).foldl (· * ·) 1 : Nat), false), z, none]) (by simp) ⟨none, by simp [cnts]⟩ ?_ ?_
          · rintro i v σ hv ⟨z, rfl⟩
            rw [ci, cnts_map, List.map_map, List.map_map, List.getElem?_map] at hv
            cases hx : c[i]? with
            | none => rw [hx] at hv; cases hv
            | some t =>
              rw [hx] at hv
              cases hv
              have hm := List.mem_of_getElem? hx
              have ht : c.take (i + 1) = c.take i ++ [t] := by rw [List.take_add_one, hx]; rfl
              haveI b1 := cnt_Bd (j := true) (hok t hm) (by have := lvs_mem_le hm; omega)
              haveI b2 : Bd (((cnts true (c.take i)).foldl (· * ·) 1 : Nat) : Int) 1001 := ⟨by
                rw [Int.natAbs_natCast]
                refine Nat.lt_of_le_of_lt (prod_le (n := n) fun t h => hok t (List.mem_of_mem_take h)) (Nat.pow_lt_pow_right (by decide) ?_)
                have := lvss_take_le (c := c) (i := i)
                omega⟩
              rw [ht, cnts_snoc, List.foldl_append]
              simp (decide := true)
          · rintro σ ⟨z, rfl⟩
            have hl' : ((ci (cnts true c)).map MV.int).length = c.length := by simp [ci, cnts_map]
            rw [hl', List.take_length]
            simp [cnt]
theorem jn_leaf {two : Tr} {r} : jn two (.leaf r) = sh r two := by rw [jn, mapT]
theorem jn_node {two : Tr} {k c} : jn two (.node k c) = .node k (c.map (jn two)) := by rw [jn, mapT, mapTs_map]; rfl
theorem sh_leaf {row r} : sh row (.leaf r) = .leaf (av r row) := by rw [sh, mapT]
theorem sh_node {row k c} : sh row (.node k c) = .node k (c.map (sh row)) := by rw [sh, mapT, mapTs_map]; rfl
theorem op_leaf {r} : op (.leaf r) = .leaf (r.map fun x => -x) := by rw [op, mapT]
theorem op_node {k c} : op (.node k c) = .node (!k) (c.map op) := by rw [op, mapT, mapTs_map]
theorem wd_leaf {b a r} : wd b a (.leaf r) = .leaf (List.replicate b 0 ++ r ++ List.replicate a 0) := by rw [wd, mapT]
theorem wd_node {b a k c} : wd b a (.node k c) = .node k (c.map (wd b a)) := by rw [wd, mapT, mapTs_map]; rfl
theorem ins_leaf {q far r} : ins q far (.leaf r) = if r = q then .leaf far else .leaf r := by rw [ins, mapT]
theorem ins_node {q far k c} : ins q far (.node k c) = .node k (c.map (ins q far)) := by rw [ins, mapT, mapTs_map]; rfl
theorem lvss_flat : ∀ c : List Tr, lvss c = (c.map lvs).flatten
  | [] => rfl
  | t :: c => by rw [lvss, lvss_flat c]; rfl
theorem lvss_le_map {f : Tr → Tr} {c : List Tr} (h : ∀ t ∈ c, (lvs t).length ≤ (lvs (f t)).length) : (lvss c).length ≤ (lvss (c.map f)).length := by
  induction c with
  | nil => exact Nat.le_refl _
  | cons t c ih =>
    rw [List.map_cons, lvss, lvss, List.length_append, List.length_append]
    have := h t List.mem_cons_self
    have := ih fun x hx => h x (List.mem_cons_of_mem _ hx)
    omega
theorem cnt_sh {j row} : ∀ t, cnt j (sh row t) = cnt j t := by
  refine Tr.ind ?_ ?_
  · intro r; rw [sh_leaf, cnt, cnt]
  · intro k c ih
    have : (c.map (sh row)).map (cnt j) = c.map (cnt j) := by
      rw [List.map_map]; exact List.map_congr_left fun t ht => ih t ht
    rw [sh_node, cnt, cnt, cnts_map, cnts_map, this]

theorem lcu_ok (h1 : T[x.lis_node]? = some ⟨1, 1, Blis_node x.toIx⟩) (h2 : T[x.lcount_upon]? = some ⟨2, 6, Blcount_upon x⟩) {n n2 : Nat} {P : List Int → Prop} (t2 : Tr) :
    ∀ t, OkP n P t → Ok n2 (jn t2 t) → (lvs (jn t2 t)).length ≤ 1000 → ∀ k, dep t + 2 ≤ k → run T L k x.lcount_upon [enc t, .int (cnt true t2 : Nat)] = some (.int (cnt true (jn t2 t) : Nat), false) := by
  refine Tr.ind ?_ ?_
  · intro r o o2 hl k hk
    obtain ⟨k, rfl⟩ : ∃ j, k = j + 1 := ⟨k - 1, by omega⟩
    rw [dep] at hk
    have e1 := isnode_row (L := L) h1 (k := k) (by omega) false r
    refine run_eq h2 rfl ?_
    rw [enc_leaf]
    simp [Blcount_upon, startM, e1, jn_leaf, cnt_sh, Mn.freeOf, MV.noLst]
  · intro kd c ih o o2 hl k hk
    obtain ⟨k, rfl⟩ : ∃ j, k = j + 1 := ⟨k - 1, by omega⟩
    rw [dep] at hk
    rw [jn_node, lvs] at hl
    cases o with
    | node hc hcl hok =>
      rw [jn_node] at o2
      cases o2 with
      | node _ _ hok2 =>
        have hok3 : ∀ t ∈ c, Ok n2 (jn t2 t) := fun t ht => hok2 _ (List.mem_map.mpr ⟨t, ht, rfl⟩)
        have hll : ∀ t ∈ c, (lvs (jn t2 t)).length ≤ 1000 := fun t ht => by
          have := lvs_mem_le (List.mem_map.mpr ⟨t, ht, rfl⟩ : jn t2 t ∈ c.map (jn t2))
          omega
        have e1 := isnode_node (L := L) h1 (k := k) (by omega) false (kw kd) (pr false (encs c))
        have cc := comp_nums (Φ := run T L k) (σ := [some (pr false [.str (kw kd), pr false (encs c)], false), some (.int (cnt true t2 : Nat), false), none, none, none, none]) (elt := .call x.lcount_upon [.var 5, .var 1]) (tg := .nm 5) (it := .seq (.idx (.var 0) (.lit (.int 1)))) (vs := encs c) (c := c) (F := fun t => ((cnt true (jn t2 t) : Nat) : Int)) (t := .sh) (by simp) encs_len (by rw [encs_len]; omega) (by
          intro i v a hv hc'
          rw [encs_map, List.getElem?_map, hc'] at hv
          cases hv
          have hm := List.mem_of_getElem? hc'
          have := ih a hm (hok a hm) (hok3 a hm) (hll a hm) k (by have := deps_mem hm; omega)
          simp [turn1, this, Mn.freeOf, MV.noLst])
        have ec : c.map (fun t => ((cnt true (jn t2 t) : Nat) : Int)) = ci (cnts true (c.map (jn t2))) := by rw [ci, cnts_map, List.map_map, List.map_map]; rfl
        rw [ec] at cc
        refine run_eq h2 rfl ?_
        rw [enc_node, jn_node]
        cases kd with
        | true =>
          have e2 := bi_sum (l := ci (cnts true (c.map (jn t2))))
          rw [ci_sum] at e2
          simp [-List.map_map, Blcount_upon, startM, e1, cc, cmp_kw, e2, Mn.freeOf, MV.noLst, cnt]
        | false =>
          simp [-List.map_map, Blcount_upon, startM, e1, cc, cmp_kw, Mn.freeOf, MV.noLst]
          refine W.for ((ci (cnts true (c.map (jn t2)))).map MV.int) (fun i σ => ∃ z, σ = [some (pr false [MV.str (kw false), pr false (encs c)], false), some (.int (cnt true t2 : Nat), false), some (.lst ((ci (cnts true (c.map (jn t2)))).map MV.int), false), some (.int ((cnts true ((c.map (jn t2)).take i)).foldl (· * ·) 1 : Nat), false), z, none]) (by simp) ⟨none, by simp [cnts]⟩ ?_ ?_
          · rintro i v σ hv ⟨z, rfl⟩
            rw [ci, cnts_map, List.map_map, List.map_map, List.getElem?_map] at hv
            cases hx : (c.map (jn t2))[i]? with
            | none => rw [hx] at hv; cases hv
            | some t =>
              rw [hx] at hv
              cases hv
              have hm := List.mem_of_getElem? hx
              have ht : (c.map (jn t2)).take (i + 1) = (c.map (jn t2)).take i ++ [t] := by rw [List.take_add_one, hx]; rfl
              haveI b1 := cnt_Bd (j := true) (hok2 t hm) (by have := lvs_mem_le hm; omega)
              haveI b2 : Bd (((cnts true ((c.map (jn t2)).take i)).foldl (· * ·) 1 : Nat) : Int) 1001 := ⟨by
                rw [Int.natAbs_natCast]
                refine Nat.lt_of_le_of_lt (prod_le (n := n2) fun t h => hok2 t (List.mem_of_mem_take h)) (Nat.pow_lt_pow_right (by decide) ?_)
                have := lvss_take_le (c := c.map (jn t2)) (i := i)
                omega⟩
              rw [ht, cnts_snoc, List.foldl_append]
              simp (decide := true)
          · rintro σ ⟨z, rfl⟩
            have hl' : ((ci (cnts true (c.map (jn t2)))).map MV.int).length = (c.map (jn t2)).length := by simp [ci, cnts_map]
            rw [hl', List.take_length]
            simp [cnt]
end
end Mn.S.Tx

set_option Elab.async false
set_option linter.all false
set_option maxRecDepth 100000
/-! Mn26: parts judged. -/
namespace Mn.S.Tx
open PySem Mn.S.Tw
mutual
/-- is w a part of the tree, one child chosen at each node of this kind -/
def isP (j : Bool) : Tr → Tr → Bool
  | .leaf r, w => match w with
    | .leaf q => decide (q = r)
    | .node _ _ => false
  | .node k c, w => if k = j then isPany j c w else match w with
    | .leaf _ => false
    | .node k' os => k' == k && (decide (os.length = c.length) && isPall j c os)
def isPany (j : Bool) : List Tr → Tr → Bool
  | [], _ => false
  | t :: c, w => isP j t w || isPany j c w
def isPall (j : Bool) : List Tr → List Tr → Bool
  | [], _ => true
  | t :: c, os => match os with
    | o :: os => isP j t o && isPall j c os
    | [] => false
end
theorem isP_leaf {j r q} : isP j (.leaf r) (.leaf q) = decide (q = r) := by rw [isP.eq_def]
theorem isP_leafn {j r k c} : isP j (.leaf r) (.node k c) = false := by rw [isP.eq_def]
theorem isP_own {j c w} : isP j (.node j c) w = isPany j c w := by rw [isP.eq_def]; simp
theorem isP_nleaf {j k c q} (h : k ≠ j) : isP j (.node k c) (.leaf q) = false := by rw [isP.eq_def]; simp [h]
theorem isP_nn {j k k' c os} (h : k ≠ j) : isP j (.node k c) (.node k' os) = (k' == k && (decide (os.length = c.length) && isPall j c os)) := by rw [isP.eq_def]; simp [h]
theorem isPany_any {j w} : ∀ c : List Tr, isPany j c w = c.any fun t => isP j t w
  | [] => by rw [isPany]; rfl
  | t :: c => by rw [isPany, isPany_any c, List.any_cons]
theorem isPall_all {j} : ∀ c os : List Tr, os.length = c.length → (isPall j c os = true ↔ ∀ (i : Nat) t o, c[i]? = some t → os[i]? = some o → isP j t o = true)
  | [], os, _ => by rw [isPall]; exact ⟨fun _ i t o h => (by simp at h), fun _ => rfl⟩
  | t :: c, [], h => by simp at h
  | t :: c, o :: os, h => by
    rw [isPall, Bool.and_eq_true, isPall_all c os (by simpa using h)]
    refine ⟨fun ⟨a, b⟩ i t' o' ht ho => ?_, fun h => ⟨h 0 t o rfl rfl, fun i t' o' ht ho => h (i + 1) t' o' ht ho⟩⟩
    cases i with
    | zero => cases ht; cases ho; exact a
    | succ i => exact b i t' o' ht ho
section
variable {T : List FD} {L : Nat} {x : Ix}
theorem isrow_row (h1 : T[x.is_whole]? = some ⟨1, 1, Bis_whole x⟩) (h2 : T[x.is_row]? = some ⟨2, 3, Bis_row x⟩) {k : Nat} (hk : 2 ≤ k) (s : Bool) (r : List Int) (w : Int) : run T L k x.is_row [pr s (r.map MV.int), .int w] = some (.bl (decide ((r.length : Int) = w)), false) := by
  obtain ⟨k, rfl⟩ : ∃ j, k = j + 1 := ⟨k - 1, by omega⟩
  have hi : ((tyIs (pr s (r.map MV.int)) .list) || (tyIs (pr s (r.map MV.int)) .tuple)) = true := by cases s <;> rfl
  refine run_eq h2 rfl ?_
  by_cases h : (r.length : Int) = w
  · simp [Bis_row, startM, hi, h]
    refine W.for (r.map MV.int) (fun i σ => ∃ z, σ = [some (pr s (r.map MV.int), false), some (.int w, false), z]) (by simp) ⟨none, rfl⟩ ?_ ?_
    · rintro i v σ hv ⟨z, rfl⟩
      obtain ⟨y, hy, rfl⟩ := List.mem_map.mp (List.mem_of_getElem? hv)
      have e := whole_ok (L := L) (f := x.is_whole) h1 (k := k) (by omega) (.int y)
      simp [e, isInt, Mn.freeOf, MV.noLst]
    · rintro σ ⟨z, rfl⟩
      simp
  · simp [Bis_row, startM, hi, h]
theorem isrow_node (h1 : T[x.is_whole]? = some ⟨1, 1, Bis_whole x⟩) (h2 : T[x.is_row]? = some ⟨2, 3, Bis_row x⟩) {k : Nat} (hk : 2 ≤ k) (s : Bool) (z : Str) (v : MV) (w : Int) : run T L k x.is_row [pr s [.str z, v], .int w] = some (.bl false, false) := by
  obtain ⟨k, rfl⟩ : ∃ j, k = j + 1 := ⟨k - 1, by omega⟩
  have hi : ((tyIs (pr s [.str z, v]) .list) || (tyIs (pr s [.str z, v]) .tuple)) = true := by cases s <;> rfl
  have e := whole_ok (L := L) (f := x.is_whole) h1 (k := k) (by omega) (.str z)
  refine run_eq h2 rfl ?_
  by_cases h : (2 : Int) = w
  · simp [Bis_row, startM, hi, h]
    refine W.for [.str z, v] (fun i σ => i = 0 ∧ ∃ z', σ = [some (pr s [.str z, v], false), some (.int w, false), z']) (by simp) ⟨rfl, none, rfl⟩ ?_ ?_
    · rintro i v' σ hv ⟨rfl, z', rfl⟩
      cases hv
      simp [e, isInt, Mn.freeOf, MV.noLst]
    · rintro σ ⟨h0, _⟩
      cases h0
  · simp [Bis_row, startM, hi, h]
theorem nin_kw (k : Bool) : cmpSem .nin (.str (kw k)) (.tup [.str "keeper", .str "foe"]) = some false := by cases k <;> decide +kernel
theorem cmp_nk (k j : Bool) : cmpSem .ne (.str (kw k)) (.str (kw j)) = some (k != j) := by cases k <;> cases j <;> decide +kernel
theorem isnodeP_node (h2 : T[x.is_node]? = some ⟨1, 1, Bis_node x⟩) {k : Nat} (hk : 1 ≤ k) (s s2 : Bool) (kd : Bool) (vs : List MV) : run T L k x.is_node [pr s [.str (kw kd), pr s2 vs]] = some (.bl (decide (0 < vs.length)), false) := by
  obtain ⟨k, rfl⟩ : ∃ j, k = j + 1 := ⟨k - 1, by omega⟩
  have hi : ((tyIs (pr s [.str (kw kd), pr s2 vs]) .list) || (tyIs (pr s [.str (kw kd), pr s2 vs]) .tuple)) = true := by cases s <;> rfl
  have hi2 : ((tyIs (pr s2 vs) .list) || (tyIs (pr s2 vs) .tuple)) = true := by cases s2 <;> rfl
  have e := nin_kw kd
  refine run_eq h2 rfl ?_
  simp [Bis_node, startM, hi, hi2, e]
theorem isnodeP_row (h2 : T[x.is_node]? = some ⟨1, 1, Bis_node x⟩) {k : Nat} (hk : 1 ≤ k) (s : Bool) (r : List Int) : run T L k x.is_node [pr s (r.map MV.int)] = some (.bl false, false) := by
  obtain ⟨k, rfl⟩ : ∃ j, k = j + 1 := ⟨k - 1, by omega⟩
  have hi : ∀ l, ((tyIs (pr s l) .list) || (tyIs (pr s l) .tuple)) = true := fun l => by cases s <;> rfl
  refine run_eq h2 rfl ?_
  match r with
  | [] => simp [Bis_node, startM, hi]
  | [a] => simp [Bis_node, startM, hi]
  | [a, b] => simp [Bis_node, startM, hi]
  | a :: b :: c :: r =>
    have : ¬ ((r.length : Int) + 1 + 1 + 1 = 2) := by omega
    simp [Bis_node, startM, hi, this]

theorem ispart_ok (h0 : T[x.is_leaf]? = some ⟨1, 1, Bis_leaf x.toIx⟩) (h1 : T[x.is_whole]? = some ⟨1, 1, Bis_whole x⟩) (h2 : T[x.is_row]? = some ⟨2, 3, Bis_row x⟩) (h3 : T[x.is_node]? = some ⟨1, 1, Bis_node x⟩) (h4 : T[x.is_part]? = some ⟨3, 5, Bis_part x⟩) {n : Nat} {P : List Int → Prop} (j : Bool) :
    ∀ t v, Dr t v → OkP n P t → ∀ w vw, Dr w vw → ∀ k, dep t + 3 ≤ k → run T L k x.is_part [v, vw, .str (kw j)] = some (.bl (isP j t w), false) := by
  refine Tr.ind ?_ ?_
  · intro r v d o w vw dw k hk
    obtain ⟨k, rfl⟩ : ∃ j, k = j + 1 := ⟨k - 1, by omega⟩
    rw [dep] at hk
    cases d with
    | leaf s _ =>
      have e1 := isleaf_row (L := L) h0 (k := k) (by omega) s r
      refine run_eq h4 rfl ?_
      cases dw with
      | leaf s' q =>
        have e2 := isrow_row (L := L) h1 h2 (k := k) (by omega) s' q (r.length : Int)
        have e3 := cmp_rows q r
        simp only [rowv] at e3
        by_cases hl : q.length = r.length
        · have hl' : (q.length : Int) = (r.length : Int) := by omega
          simp [Bis_part, startM, e1, e2, e3, hl, isP_leaf, Mn.freeOf, MV.noLst]
        · have hq : ¬ q = r := fun e => hl (by rw [e])
          have hl2 : ¬ (q.length : Int) = (r.length : Int) := by omega
          simp [Bis_part, startM, e1, e2, e3, hl, hl2, hq, isP_leaf, Mn.freeOf, MV.noLst]
      | node s1 s2 kd c vs _ _ =>
        have e2 := isrow_node (L := L) h1 h2 (k := k) (by omega) s1 (kw kd) (pr s2 vs) (r.length : Int)
        simp [Bis_part, startM, e1, e2, isP_leafn, Mn.freeOf, MV.noLst]
  · intro kd c ih v d o w vw dw k hk
    obtain ⟨k, rfl⟩ : ∃ j, k = j + 1 := ⟨k - 1, by omega⟩
    rw [dep] at hk
    cases d with
    | node s s2 _ _ vs hl ha =>
      cases o with
      | node hc hcl hok =>
        have e1 := isleaf_node (L := L) h0 (k := k) (by omega) s (kw kd) (pr s2 vs)
        refine run_eq h4 rfl ?_
        have step : ∀ (i : Nat) t v' w' vw', c[i]? = some t → vs[i]? = some v' → Dr w' vw' → run T L k x.is_part [v', vw', .str (kw j)] = some (.bl (isP j t w'), false) := by
          intro i t v' w' vw' ht hv hd
          have hm := List.mem_of_getElem? ht
          exact ih t hm v' (ha i t v' ht hv) (hok t hm) w' vw' hd k (by have := deps_mem hm; omega)
        by_cases hj : kd = j
        · subst hj
          simp [Bis_part, startM, e1, cmp_kk, Mn.freeOf, MV.noLst]
          refine W.for vs (fun i σ => (∀ t ∈ c.take i, isP kd t w = false) ∧ ∃ z z', σ = [some (pr s [.str (kw kd), pr s2 vs], false), some (vw, false), some (.str (kw kd), false), z, z']) (by simp) ⟨by simp, none, none, rfl⟩ ?_ ?_
          · rintro i v' σ hv ⟨hf, z, z', rfl⟩
            have hi : i < c.length := by
              rcases Nat.lt_or_ge i vs.length with q | q
              · omega
              · rw [List.getElem?_eq_none q] at hv; cases hv
            have ht := List.getElem?_eq_getElem hi
            have e2 := step i c[i] v' w vw ht hv dw
            cases hb : isP kd c[i] w with
            | true =>
              rw [hb] at e2
              have : isP kd (.node kd c) w = true := by
                rw [isP_own, isPany_any, List.any_eq_true]
                exact ⟨c[i], List.getElem_mem hi, hb⟩
              simp [e2, this, Mn.freeOf, MV.noLst]
            | false =>
              rw [hb] at e2
              simp [e2, Mn.freeOf, MV.noLst]
              intro t h
              rw [List.take_add_one, ht] at h
              rcases List.mem_append.mp h with h | h
              · exact hf t h
              · cases List.mem_singleton.mp h; exact hb
          · rintro σ ⟨hf, z, z', rfl⟩
            rw [hl, List.take_length] at hf
            have : isP kd (.node kd c) w = false := by
              rw [isP_own, isPany_any, List.any_eq_false]
              intro t ht
              rw [hf t ht]; decide
            simp [this]
        · have hjb : (kd == j) = false := by simpa using hj
          cases dw with
          | leaf s' q =>
            have e2 := isnodeP_row (L := L) h3 (k := k) (by omega) s' q
            simp [Bis_part, startM, e1, cmp_kk, hjb, e2, isP_nleaf hj, Mn.freeOf, MV.noLst]
          | node s1 s3 kd' os ws hl' ha' =>
            have e2 := isnodeP_node (L := L) h3 (k := k) (by omega) s1 s3 kd' ws
            by_cases h0 : 0 < ws.length
            · have h0' : ((0 : Int) < ws.length) := by omega
              by_cases hkk : kd' = kd
              · subst hkk
                by_cases hll : ws.length = vs.length
                · have hr := rngOk_n (n := vs.length) (by omega)
                  have hoc : os.length = c.length := by omega
                  have h0v : 0 < vs.length := by omega
                  simp [Bis_part, startM, e1, cmp_kk, hjb, e2, h0, h0v, cmp_nk, hll, Mn.freeOf, MV.noLst]
                  refine W.for (rngM 0 vs.length) (fun i σ => (∀ (q : Nat) t o, q < i → c[q]? = some t → os[q]? = some o → isP j t o = true) ∧ ∃ z, σ = [some (pr s [.str (kw kd'), pr s2 vs], false), some (pr s1 [.str (kw kd'), pr s3 ws], false), some (.str (kw j), false), z, none]) (by simp [hr]) ⟨fun q t o h => (by omega), none, rfl⟩ ?_ ?_
                  · rintro i v' σ hv ⟨hf, z, rfl⟩
                    obtain ⟨hi, rfl⟩ := rngM_at hv
                    have g1 : c[i]? = some c[i] := List.getElem?_eq_getElem (by omega)
                    have g2 : vs[i]? = some vs[i] := List.getElem?_eq_getElem hi
                    have g3 : os[i]? = some os[i] := List.getElem?_eq_getElem (by omega)
                    have g4 : ws[i]? = some ws[i] := List.getElem?_eq_getElem (by omega)
                    have e3 := step i c[i] vs[i] os[i] ws[i] g1 g2 (ha' i os[i] ws[i] g3 g4)
                    cases hb : isP j c[i] os[i] with
                    | false =>
                      rw [hb] at e3
                      have : isP j (.node kd' c) (.node kd' os) = false := by
                        rw [Bool.eq_false_iff]
                        intro h
                        rw [isP_nn hj] at h
                        simp only [Bool.and_eq_true] at h
                        have := (isPall_all c os hoc).mp h.2.2 i c[i] os[i] g1 g3
                        rw [hb] at this; cases this
                      simp [g2, g4, e3, this, Mn.freeOf, MV.noLst]
                    | true =>
                      rw [hb] at e3
                      simp [g2, g4, e3, Mn.freeOf, MV.noLst]
                      intro q t o hq hct hot
                      rcases Nat.lt_or_ge q i with h | h
                      · exact hf q t o h hct hot
                      · have : q = i := by omega
                        subst this
                        rw [g1] at hct; rw [g3] at hot
                        cases hct; cases hot
                        exact hb
                  · rintro σ ⟨hf, z, rfl⟩
                    rw [rngM_length] at hf
                    have : isP j (.node kd' c) (.node kd' os) = true := by
                      rw [isP_nn hj]
                      simp only [Bool.and_eq_true, beq_self_eq_true, decide_eq_true_eq, true_and]
                      refine ⟨hoc, (isPall_all c os hoc).mpr fun i t o ht ho => hf i t o ?_ ht ho⟩
                      rcases Nat.lt_or_ge i c.length with h | h
                      · omega
                      · rw [List.getElem?_eq_none h] at ht; cases ht
                    simp [this]
                · have hll' : ¬ ((ws.length : Int) = vs.length) := by omega
                  have hoc : ¬ os.length = c.length := by omega
                  simp [Bis_part, startM, e1, cmp_kk, hjb, e2, h0, cmp_nk, hll, hll', isP_nn hj, hoc, Mn.freeOf, MV.noLst]
              · have hkb : (kd' == kd) = false := by simpa using hkk
                have hkn : (kd' != kd) = true := by simpa using hkk
                simp [Bis_part, startM, e1, cmp_kk, hjb, e2, h0, cmp_nk, hkn, isP_nn hj, hkb, Mn.freeOf, MV.noLst]
            · have hoc : ¬ os.length = c.length := by
                have : 0 < c.length := List.length_pos_iff.mpr hc
                omega
              simp [Bis_part, startM, e1, cmp_kk, hjb, e2, h0, isP_nn hj, hoc, Mn.freeOf, MV.noLst]
theorem iskeeper_ok (h0 : T[x.is_leaf]? = some ⟨1, 1, Bis_leaf x.toIx⟩) (h1 : T[x.is_whole]? = some ⟨1, 1, Bis_whole x⟩) (h2 : T[x.is_row]? = some ⟨2, 3, Bis_row x⟩) (h3 : T[x.is_node]? = some ⟨1, 1, Bis_node x⟩) (h4 : T[x.is_part]? = some ⟨3, 5, Bis_part x⟩) (h5 : T[x.is_keeper_part]? = some ⟨2, 2, Bis_keeper_part x⟩) {n : Nat} {P : List Int → Prop}
    {t : Tr} {v : MV} (d : Dr t v) (o : OkP n P t) {w : Tr} {vw : MV} (dw : Dr w vw) {k : Nat} (hk : dep t + 4 ≤ k) : run T L k x.is_keeper_part [v, vw] = some (.bl (isP true t w), false) := by
  obtain ⟨k, rfl⟩ : ∃ j, k = j + 1 := ⟨k - 1, by omega⟩
  have e : run T L k x.is_part [v, vw, .str "keeper"] = some (.bl (isP true t w), false) := ispart_ok h0 h1 h2 h3 h4 true t v d o w vw dw k (by omega)
  refine run_eq h5 rfl ?_
  simp [Bis_keeper_part, startM, e, Mn.freeOf, MV.noLst]
end
end Mn.S.Tx

set_option Elab.async false
set_option linter.all false
set_option maxRecDepth 100000
set_option exponentiation.threshold 10000
/-! Mn27: plain facts of trees joined, turned, widened. -/
namespace Mn.S.Tx
open PySem Mn.S.Tw

theorem okP_map {n n' : Nat} {P Q : List Int → Prop} {g : List Int → Tr} {h : Bool → Bool} (hg : ∀ r, r.length = n → P r → OkP n' Q (g r)) : ∀ t, OkP n P t → OkP n' Q (mapT g h t) := by
  refine Tr.ind ?_ ?_
  · intro r o; rw [mapT]; cases o with | leaf a b => exact hg r a b
  · intro k c ih o
    rw [mapT, mapTs_map]
    cases o with
    | node hc hl ha =>
      refine .node (by simpa using hc) (by simpa using hl) fun t ht => ?_
      obtain ⟨a, h1, rfl⟩ := List.mem_map.mp ht
      exact ih a h1 (ha a h1)
/-- between -b and b -/
def PB (b : Int) (r : List Int) : Prop := ∀ x ∈ r, -b ≤ x ∧ x ≤ b
theorem PB.bd {b : Int} {r : List Int} (h : PB b r) (hb : b < 1000000000000000) : ∀ x ∈ r, Bd x 1000 := fun x hx => (Bd.of (n := 60) (by have := h x hx; omega) (by have := h x hx; omega)).up (by decide)
theorem PB.up {b c : Int} {r : List Int} (h : PB b r) (hb : b ≤ c) : PB c r := fun x hx => by have := h x hx; omega
theorem PB.av {a b : Int} {r q : List Int} (h : PB a r) (h' : PB b q) : PB (a + b) (av r q) := by
  intro x hx
  rw [Tx.av, List.mem_iff_getElem?] at hx
  obtain ⟨i, hi⟩ := hx
  rw [List.getElem?_zipWith] at hi
  cases h1 : r[i]? with
  | none => rw [h1] at hi; cases hi
  | some y =>
    cases h2 : q[i]? with
    | none => rw [h1, h2] at hi; cases hi
    | some z =>
      rw [h1, h2] at hi
      cases hi
      have := h y (List.mem_of_getElem? h1)
      have := h' z (List.mem_of_getElem? h2)
      omega
theorem PB.neg {a : Int} {r : List Int} (h : PB a r) : PB a (r.map fun x => -x) := by
  intro x hx
  obtain ⟨y, hy, rfl⟩ := List.mem_map.mp hx
  have := h y hy
  omega
theorem PB.ok {n : Nat} {b : Int} (hb : b < 1000000000000000) {t : Tr} (o : OkP n (PB b) t) : Ok n t := OkP.mono (fun r h => h.bd hb) t o
theorem ok_sh {n : Nat} {a b : Int} {row : List Int} (hr : row.length = n) (hb : PB b row) {t : Tr} (o : OkP n (PB a) t) : OkP n (PB (a + b)) (sh row t) :=
  okP_map (fun r h1 h2 => .leaf (by rw [av_len (by omega), h1]) (h2.av hb)) t o
theorem ok_jn {n : Nat} {a b : Int} {two t : Tr} (o2 : OkP n (PB b) two) (o : OkP n (PB a) t) : OkP n (PB (b + a)) (jn two t) :=
  okP_map (fun r h1 h2 => ok_sh h1 h2 o2) t o
theorem ok_op {n : Nat} {a : Int} {t : Tr} (o : OkP n (PB a) t) : OkP n (PB a) (op t) :=
  okP_map (fun r h1 h2 => .leaf (by rw [List.length_map, h1]) h2.neg) t o
theorem ok_wd {n : Nat} {a : Int} (ha : 0 ≤ a) {b e : Nat} {t : Tr} (o : OkP n (PB a) t) : OkP (b + n + e) (PB a) (wd b e t) :=
  okP_map (fun r h1 h2 => .leaf (by simp [h1]; omega) fun x hx => by
    rcases List.mem_append.mp hx with hx | hx
    · rcases List.mem_append.mp hx with hx | hx
      · rw [(List.mem_replicate.mp hx).2]; omega
      · exact h2 x hx
    · rw [(List.mem_replicate.mp hx).2]; omega) t o

theorem dep_mapT {g : List Int → Tr} {h : Bool → Bool} {m : Nat} (hg : ∀ r, dep (g r) ≤ m) : ∀ t, dep (mapT g h t) ≤ dep t + m := by
  refine Tr.ind ?_ ?_
  · intro r; rw [mapT, dep]; have := hg r; omega
  · intro k c ih
    rw [mapT, mapTs_map, dep, dep]
    have : deps (c.map (mapT g h)) ≤ deps c + m := Tw.deps_le fun t ht => by
      obtain ⟨a, h1, rfl⟩ := List.mem_map.mp ht
      have := ih a h1
      have := deps_mem h1
      omega
    omega
theorem dep_sh {row : List Int} {t : Tr} : dep (sh row t) ≤ dep t := by have := dep_mapT (g := fun r => .leaf (av r row)) (h := id) (m := 0) (fun r => by rw [dep]; exact Nat.le_refl _) t; exact this
theorem dep_jn {two t : Tr} : dep (jn two t) ≤ dep t + dep two := dep_mapT (fun r => dep_sh) t
theorem dep_op {t : Tr} : dep (op t) ≤ dep t := by have := dep_mapT (g := fun r => .leaf (r.map fun x => -x)) (h := (!·)) (m := 0) (fun r => by rw [dep]; exact Nat.le_refl _) t; exact this
theorem dep_wd {b e} {t : Tr} : dep (wd b e t) ≤ dep t := by have := dep_mapT (g := fun r => .leaf (List.replicate b 0 ++ r ++ List.replicate e 0)) (h := id) (m := 0) (fun r => by rw [dep]; exact Nat.le_refl _) t; exact this
theorem dep_ins {q far} {t : Tr} : dep (ins q far t) ≤ dep t := by
  have := dep_mapT (g := fun r => if r = q then Tr.leaf far else .leaf r) (h := id) (m := 0) (fun r => by split <;> (rw [dep]; exact Nat.le_refl _)) t
  exact this

theorem lvs_mapT {g : List Int → Tr} {h : Bool → Bool} : ∀ t, lvs (mapT g h t) = (lvs t).flatMap fun r => lvs (g r) := by
  refine Tr.ind ?_ ?_
  · intro r; rw [mapT, lvs]; simp
  · intro k c ih
    rw [mapT, mapTs_map, lvs, lvs]
    induction c with
    | nil => rfl
    | cons t c ihc =>
      rw [List.map_cons, lvss, lvss, List.flatMap_append, ih t List.mem_cons_self, ihc fun x hx => ih x (List.mem_cons_of_mem _ hx)]
theorem lvs_sh {row : List Int} {t : Tr} : lvs (sh row t) = (lvs t).map fun q => av q row := by
  rw [sh, lvs_mapT]; simp only [lvs]; exact (List.map_eq_flatMap).symm
theorem lvs_jn {two t : Tr} : lvs (jn two t) = (lvs t).flatMap fun r => (lvs two).map fun q => av q r := by
  rw [jn, lvs_mapT]; simp only [lvs_sh]
theorem lvs_op {t : Tr} : lvs (op t) = (lvs t).map fun r => r.map fun x => -x := by
  rw [op, lvs_mapT]; simp only [lvs]; exact (List.map_eq_flatMap).symm
theorem lvs_wd {b e} {t : Tr} : lvs (wd b e t) = (lvs t).map fun r => List.replicate b 0 ++ r ++ List.replicate e 0 := by
  rw [wd, lvs_mapT]; simp only [lvs]; exact (List.map_eq_flatMap).symm
theorem lvs_ins {q far} {t : Tr} : lvs (ins q far t) = (lvs t).map fun r => if r = q then far else r := by
  rw [ins, lvs_mapT]
  have : ∀ r : List Int, lvs (if r = q then Tr.leaf far else .leaf r) = [if r = q then far else r] := fun r => by split <;> rw [lvs]
  simp only [this]
  exact (List.map_eq_flatMap).symm
theorem flat_len {α : Type} {l : List α} {β : Type} {f : α → List β} {m : Nat} (h : ∀ a, (f a).length = m) : (l.flatMap f).length = l.length * m := by
  induction l with
  | nil => simp
  | cons a l ih => rw [List.flatMap_cons, List.length_append, ih, h, List.length_cons, Nat.succ_mul]; omega
theorem lvs_jn_len {two t : Tr} : (lvs (jn two t)).length = (lvs t).length * (lvs two).length := by
  rw [lvs_jn]; exact flat_len fun a => by rw [List.length_map]
theorem lvs_sh_len {row : List Int} {t : Tr} : (lvs (sh row t)).length = (lvs t).length := by rw [lvs_sh, List.length_map]
theorem lvs_op_len {t : Tr} : (lvs (op t)).length = (lvs t).length := by rw [lvs_op, List.length_map]
theorem lvs_wd_len {b e} {t : Tr} : (lvs (wd b e t)).length = (lvs t).length := by rw [lvs_wd, List.length_map]

theorem av_comm (a b : List Int) : av a b = av b a := by rw [av, av, List.zipWith_comm]; congr 1; funext x y; exact Int.add_comm _ _
theorem av_assoc : ∀ a b c : List Int, av (av a b) c = av a (av b c)
  | [], _, _ => rfl
  | _ :: _, [], _ => rfl
  | _ :: _, _ :: _, [] => rfl
  | x :: a, y :: b, z :: c => by
    have := av_assoc a b c
    simp only [av, List.zipWith_cons_cons, List.cons.injEq] at this ⊢
    exact ⟨Int.add_assoc _ _ _, this⟩
theorem av_neg : ∀ a b : List Int, (av a b).map (fun x => -x) = av (a.map fun x => -x) (b.map fun x => -x)
  | [], _ => rfl
  | _ :: _, [] => rfl
  | x :: a, y :: b => by
    have := av_neg a b
    simp only [av, List.zipWith_cons_cons, List.map_cons, List.cons.injEq] at this ⊢
    exact ⟨by omega, this⟩
theorem map_congr {f g : Tr → Tr} {c : List Tr} (h : ∀ t ∈ c, f t = g t) : c.map f = c.map g := List.map_congr_left h
theorem sh_sh {a b : List Int} : ∀ t, sh a (sh b t) = sh (av b a) t := by
  refine Tr.ind ?_ ?_
  · intro r; rw [sh_leaf, sh_leaf, sh_leaf, av_assoc]
  · intro k c ih; rw [sh_node, sh_node, sh_node, List.map_map]; congr 1; exact map_congr ih
theorem jn_sh {t3 : Tr} {r : List Int} : ∀ t, jn t3 (sh r t) = sh r (jn t3 t) := by
  refine Tr.ind ?_ ?_
  · intro q; rw [sh_leaf, jn_leaf, jn_leaf, sh_sh]
  · intro k c ih; rw [sh_node, jn_node, jn_node, sh_node, List.map_map, List.map_map]; congr 1; exact map_congr ih
theorem jn_jn {t2 t3 : Tr} : ∀ t, jn t3 (jn t2 t) = jn (jn t3 t2) t := by
  refine Tr.ind ?_ ?_
  · intro r; rw [jn_leaf, jn_leaf, jn_sh]
  · intro k c ih; rw [jn_node, jn_node, jn_node, List.map_map]; congr 1; exact map_congr ih
theorem op_sh {r : List Int} : ∀ t, op (sh r t) = sh (r.map fun x => -x) (op t) := by
  refine Tr.ind ?_ ?_
  · intro q; rw [sh_leaf, op_leaf, op_leaf, sh_leaf, av_neg]
  · intro k c ih; rw [sh_node, op_node, op_node, sh_node, List.map_map, List.map_map]; congr 1; exact map_congr ih
theorem op_jn {t2 : Tr} : ∀ t, op (jn t2 t) = jn (op t2) (op t) := by
  refine Tr.ind ?_ ?_
  · intro r; rw [jn_leaf, op_sh, op_leaf, jn_leaf]
  · intro k c ih; rw [jn_node, op_node, op_node, jn_node, List.map_map, List.map_map]; congr 1; exact map_congr ih
theorem op_op : ∀ t, op (op t) = t := by
  refine Tr.ind ?_ ?_
  · intro r; rw [op_leaf, op_leaf, List.map_map]; congr 1; rw [show ((fun x : Int => -x) ∘ fun x => -x) = id from by funext x; simp]; exact List.map_id r
  · intro k c ih; rw [op_node, op_node, List.map_map, Bool.not_not]; congr 1
    rw [map_congr (f := op ∘ op) (g := id) ih]; exact List.map_id c
theorem jn_row {r : List Int} : ∀ t, jn (.leaf r) t = sh r t := by
  refine Tr.ind ?_ ?_
  · intro q; rw [jn_leaf, sh_leaf, sh_leaf, av_comm]
  · intro k c ih; rw [jn_node, sh_node]; congr 1; exact map_congr ih

/-! worths -/
theorem gd_av {a b : List Int} {i : Nat} (h : b.length = a.length) : gd (av a b) i = gd a i + gd b i := by
  rcases Nat.lt_or_ge i a.length with q | q
  · have := av_get h q
    rw [gd, List.getD_eq_getElem?_getD, this]; rfl
  · have e1 : gd (av a b) i = 0 := by rw [gd, List.getD_eq_getElem?_getD, List.getElem?_eq_none (by rw [av_len h]; exact q)]; rfl
    have e2 : gd a i = 0 := by rw [gd, List.getD_eq_getElem?_getD, List.getElem?_eq_none q]; rfl
    have e3 : gd b i = 0 := by rw [gd, List.getD_eq_getElem?_getD, List.getElem?_eq_none (by omega)]; rfl
    rw [e1, e2, e3]; rfl
theorem dt_av {u a b : List Int} (h : b.length = a.length) : ∀ m, dt u (av a b) m = dt u a m + dt u b m
  | 0 => rfl
  | m + 1 => by rw [dt, dt, dt, dt_av h m, gd_av h, Int.mul_add]; omega
theorem gd_neg {a : List Int} {i : Nat} : gd (a.map fun x => -x) i = -gd a i := by
  simp only [gd, List.getD_eq_getElem?_getD, List.getElem?_map]
  cases a[i]? <;> simp
theorem dt_neg {u a : List Int} : ∀ m, dt u (a.map fun x => -x) m = -dt u a m
  | 0 => rfl
  | m + 1 => by rw [dt, dt, dt_neg m, gd_neg, Int.mul_neg]; omega
theorem better_add {k : Bool} {a b K : Int} : better k (a + K) (b + K) = better k a b := by
  cases k <;> simp only [better] <;> congr 1 <;> simp
theorem better_neg {k : Bool} {a b : Int} : better (!k) (-a) (-b) = better k a b := by
  cases k <;> simp only [better, Bool.not_true, Bool.not_false, if_true, Bool.false_eq_true, if_false] <;> congr 1 <;> (rw [eq_iff_iff]; omega)
theorem pick_gen {k k' : Bool} {u v : List Int} {f : Tr → Tr} {F : Int → Int} (hb : ∀ a b, better k' (F a) (F b) = better k a b) : ∀ {r : List Tr} {b : Tr}, wv v (f b) = F (wv u b) → (∀ t ∈ r, wv v (f t) = F (wv u t)) → pick k' v (f b) (r.map f) = f (pick k u b r)
  | [], _, _, _ => rfl
  | t :: r, b, h0, h => by
    have ht := h t List.mem_cons_self
    rw [List.map_cons, pick, pick, ht, h0, hb]
    split
    · exact pick_gen hb ht fun x hx => h x (List.mem_cons_of_mem _ hx)
    · exact pick_gen hb h0 fun x hx => h x (List.mem_cons_of_mem _ hx)
/-- a change of the leaves that changes all worths alike -/
theorem wv_gen {u v : List Int} {g : List Int → Tr} {h : Bool → Bool} {F : Int → Int} {n : Nat} {P : List Int → Prop} (hb : ∀ k a b, better (h k) (F a) (F b) = better k a b)
    (hg : ∀ r, r.length = n → P r → wv v (g r) = F (dt u r u.length)) : ∀ t, OkP n P t → wv v (mapT g h t) = F (wv u t) := by
  refine Tr.ind ?_ ?_
  · intro r o; rw [mapT, wv]; cases o with | leaf a b => exact hg r a b
  · intro k c ih o
    cases o with
    | node hc hl ha =>
      match c, hc with
      | t :: c, _ =>
        have h0 := ih t List.mem_cons_self (ha t List.mem_cons_self)
        have h1 : ∀ x ∈ c, _ := fun x hx => ih x (List.mem_cons_of_mem _ hx) (ha x (List.mem_cons_of_mem _ hx))
        have hm := pick_mem (k := k) (u := u) (r := c) (b := t)
        rw [mapT, mapTs_map, List.map_cons, wv_pick, wv_pick, pick_gen (f := mapT g h) (F := F) (hb k) h0 h1]
        exact ih _ hm (ha _ hm)
/-- and the parts -/
theorem cp_gen {u v : List Int} {g g' : List Int → Tr} {h : Bool → Bool} {j j' : Bool} {F : Int → Int} {n : Nat} {P : List Int → Prop} (hb : ∀ k a b, better (h k) (F a) (F b) = better k a b) (hj : ∀ k, h k = j' ↔ k = j)
    (hg : ∀ r, r.length = n → P r → wv v (g r) = F (dt u r u.length)) (hc : ∀ r, r.length = n → P r → cp j' v (g r) = g' r) : ∀ t, OkP n P t → cp j' v (mapT g h t) = mapT g' h (cp j u t) := by
  refine Tr.ind ?_ ?_
  · intro r o; rw [mapT, cp, mapT]; cases o with | leaf a b => exact hc r a b
  · intro k c ih o
    cases o with
    | node hcn hl ha =>
      by_cases hk : k = j
      · have hk' := (hj k).mpr hk
        subst hk
        match c, hcn with
        | t :: c, _ =>
          have h0 := wv_gen hb hg t (ha t List.mem_cons_self)
          have h1 : ∀ x ∈ c, _ := fun x hx => wv_gen hb hg x (ha x (List.mem_cons_of_mem _ hx))
          have hm := pick_mem (k := k) (u := u) (r := c) (b := t)
          rw [mapT, mapTs_map, hk', List.map_cons, cp_own, cp_own]
          have := pick_gen (f := mapT g h) (F := F) (hb k) h0 h1
          rw [hk'] at this
          rw [this]
          exact ih _ hm (ha _ hm)
      · have hk' : h k ≠ j' := fun e => hk ((hj k).mp e)
        rw [mapT, mapTs_map, cp_other hk', cp_other hk, mapT, mapTs_map, List.map_map, List.map_map]
        congr 1
        exact map_congr fun t ht => ih t ht (ha t ht)
theorem wv_sh {n : Nat} {P : List Int → Prop} {u row : List Int} (hr : row.length = n) {t : Tr} (o : OkP n P t) : wv u (sh row t) = wv u t + dt u row u.length :=
  wv_gen (F := fun a => a + dt u row u.length) (fun k a b => better_add) (fun r h _ => by rw [wv, dt_av (by omega)]) t o
theorem wv_jn {n : Nat} {P Q : List Int → Prop} {u : List Int} {two t : Tr} (o2 : OkP n Q two) (o : OkP n P t) : wv u (jn two t) = wv u t + wv u two :=
  wv_gen (F := fun a => a + wv u two) (fun k a b => better_add) (fun r h _ => by rw [wv_sh h o2, Int.add_comm]) t o
theorem wv_op {n : Nat} {P : List Int → Prop} {u : List Int} {t : Tr} (o : OkP n P t) : wv u (op t) = -wv u t :=
  wv_gen (F := fun a => -a) (fun k a b => better_neg) (fun r h _ => by rw [wv, dt_neg]) t o
theorem cp_sh {n : Nat} {P : List Int → Prop} {u row : List Int} {j : Bool} (hr : row.length = n) {t : Tr} (o : OkP n P t) : cp j u (sh row t) = sh row (cp j u t) :=
  cp_gen (F := fun a => a + dt u row u.length) (fun k a b => better_add) (fun k => Iff.rfl) (fun r h _ => by rw [wv, dt_av (by omega)]) (fun r _ _ => by rw [cp]) t o
theorem cp_jn {n : Nat} {P Q : List Int → Prop} {u : List Int} {j : Bool} {two t : Tr} (o2 : OkP n Q two) (o : OkP n P t) : cp j u (jn two t) = jn (cp j u two) (cp j u t) :=
  cp_gen (F := fun a => a + wv u two) (fun k a b => better_add) (fun k => Iff.rfl) (fun r h _ => by rw [wv_sh h o2, Int.add_comm]) (fun r h _ => cp_sh h o2) t o
theorem cp_op {n : Nat} {P : List Int → Prop} {u : List Int} {j : Bool} {t : Tr} (o : OkP n P t) : cp (!j) u (op t) = op (cp j u t) :=
  cp_gen (F := fun a => -a) (fun k a b => better_neg) (fun k => by cases k <;> cases j <;> simp) (fun r h _ => by rw [wv, dt_neg]) (fun r _ _ => by rw [cp]) t o
end Mn.S.Tx

set_option Elab.async false
set_option linter.all false
set_option maxRecDepth 100000
set_option exponentiation.threshold 10000
/-! Mn28: more plain facts of trees (from K07's proof), and parts upon parts. -/
namespace Mn.S.Tx
open PySem Mn.S.Tw
theorem tz_noLst : ∀ d : MV, d.noLst = true → tz d = d := by
  intro d
  exact MV.rec (motive_1 := fun d => d.noLst = true → tz d = d) (motive_2 := fun l => MV.noLsts l = true → tzs l = l)
    (fun _ => by simp [tz]) (fun _ _ => by simp [tz]) (fun _ _ => by simp [tz]) (fun _ _ => by simp [tz])
    (fun l ih h => by rw [tz, ih (by simpa [MV.noLst] using h)]) (fun l ih h => by simp [MV.noLst] at h)
    (fun _ => by simp [tzs]) (fun x l ih1 ih2 h => by rw [MV.noLsts, Bool.and_eq_true] at h; rw [tzs, ih1 h.1, ih2 h.2]) d

theorem cp_dep {j} {u : List Int} {n} : ∀ t, Ok n t → dep (cp j u t) ≤ dep t := by
  refine Tr.ind ?_ ?_
  · intro r o; rw [cp]; exact Nat.le_refl _
  · intro k c ih o
    cases o with
    | node hc hl ha =>
      by_cases hk : k = j
      · subst hk
        match c, hc with
        | t :: c, _ =>
          have hm := pick_mem (k := k) (u := u) (r := c) (b := t)
          rw [cp_own]
          have := ih _ hm (ha _ hm)
          have := deps_mem hm
          rw [dep]; omega
      · rw [cp_other hk, dep, dep]
        have : deps (c.map (cp j u)) ≤ deps c := Tw.deps_le fun t ht => by
          obtain ⟨a, h, rfl⟩ := List.mem_map.mp ht
          exact Nat.le_trans (ih a h (ha a h)) (deps_mem h)
        omega
theorem cp_lvs {j} {u : List Int} {n} : ∀ t, Ok n t → (lvs (cp j u t)).length ≤ (lvs t).length := by
  refine Tr.ind ?_ ?_
  · intro r o; rw [cp]; exact Nat.le_refl _
  · intro k c ih o
    cases o with
    | node hc hl ha =>
      by_cases hk : k = j
      · subst hk
        match c, hc with
        | t :: c, _ =>
          have hm := pick_mem (k := k) (u := u) (r := c) (b := t)
          rw [cp_own]
          have := ih _ hm (ha _ hm)
          have := lvs_mem_le hm
          rw [lvs]; omega
      · rw [cp_other hk, lvs, lvs]
        clear hc hl
        induction c with
        | nil => exact Nat.le_refl _
        | cons t c ihc =>
          rw [List.map_cons, lvss, lvss, List.length_append, List.length_append]
          have := ih t List.mem_cons_self (ha t List.mem_cons_self)
          have := ihc (fun x hx => ih x (List.mem_cons_of_mem _ hx)) (fun x hx => ha x (List.mem_cons_of_mem _ hx))
          omega

theorem lvs_ok {n : Nat} : ∀ t, Ok n t → ∀ r ∈ lvs t, r.length = n ∧ ∀ x ∈ r, Bd x 1000 := by
  refine Tr.ind ?_ ?_
  · intro r o q hq
    rw [lvs] at hq
    cases List.mem_singleton.mp hq
    cases o with
    | leaf a b => exact ⟨a, b⟩
  · intro k c ih o q hq
    cases o with
    | node hc hcl ha =>
      rw [lvs] at hq
      have : ∃ t ∈ c, q ∈ lvs t := by
        clear ih ha hc hcl
        induction c with
        | nil => rw [lvss] at hq; cases hq
        | cons t c ihc =>
          rw [lvss] at hq
          rcases List.mem_append.mp hq with h | h
          · exact ⟨t, List.mem_cons_self, h⟩
          · obtain ⟨x, hx, h⟩ := ihc h
            exact ⟨x, List.mem_cons_of_mem _ hx, h⟩
      obtain ⟨t, ht, h⟩ := this
      exact ih t ht (ha t ht) q h

theorem isOpt_cp {n : Nat} {u : List Int} {j} : ∀ t, Ok n t → IsOpt j t (cp j u t) := by
  refine Tr.ind ?_ ?_
  · intro r o; rw [cp]; exact .leaf r
  · intro k c ih o
    cases o with
    | node hc hl ha =>
      by_cases hk : k = j
      · subst hk
        match c, hc with
        | t :: c, _ =>
          have hm := pick_mem (k := k) (u := u) (r := c) (b := t)
          rw [cp_own]
          exact .own hm (ih _ hm (ha _ hm))
      · rw [cp_other hk]
        refine .other hk (by simp) fun i t o ht ho => ?_
        rw [List.getElem?_map, ht] at ho
        cases ho
        have hm := List.mem_of_getElem? ht
        exact ih t hm (ha t hm)
theorem max_pds {n : Nat} {u : List Int} {t : Tr} (g : Ok n t) : mxL (pds u (cp true u t)) = wv u t := by
  have h1 := pds_keeper (u := u) t g
  obtain ⟨p, hp, hle⟩ := opt_keeper (u := u) (isOpt_cp (u := u) (j := true) t g) g
  have := h1 p hp
  have e : p = wv u t := by omega
  exact mxL_eq (e ▸ hp) h1
theorem min_pds {n : Nat} {u : List Int} {t : Tr} (g : Ok n t) : mnL (pds u (cp false u t)) = wv u t := by
  have h1 := pds_foe (u := u) t g
  obtain ⟨p, hp, hle⟩ := opt_foe (u := u) (isOpt_cp (u := u) (j := false) t g) g
  have := h1 p hp
  have e : p = wv u t := by omega
  exact mnL_eq (e ▸ hp) h1
theorem pds_ne {n : Nat} {u : List Int} {t : Tr} (g : Ok n t) : pds u t ≠ [] := by
  intro q
  have := lvs_pos t g
  rw [pds, List.map_eq_nil_iff] at q
  rw [q] at this
  simp at this
theorem leaf_of {n : Nat} {u : List Int} : ∀ t, Ok n t → ∃ r, cp false u (cp true u t) = .leaf r := by
  refine Tr.ind ?_ ?_
  · intro r o; exact ⟨r, by rw [cp, cp]⟩
  · intro k c ih o
    cases o with
    | node hc hl ha =>
      match c, hc with
      | t :: c, _ =>
        cases k with
        | true =>
          have hm := pick_mem (k := true) (u := u) (r := c) (b := t)
          rw [cp_own]; exact ih _ hm (ha _ hm)
        | false =>
          have hm := pick_mem (k := false) (u := u) (r := c) (b := t)
          rw [cp_comm (.node false (t :: c)) (.node (by simp) hl ha), cp_own, ← cp_comm _ (ha _ hm)]; exact ih _ hm (ha _ hm)

theorem mxL_ge {l : List Int} {p : Int} (h : p ∈ l) : p ≤ mxL l := by
  cases l with
  | nil => cases h
  | cons x r => exact (mxL_spec r x).2 p h
theorem mnL_le {l : List Int} {p : Int} (h : p ∈ l) : mnL l ≤ p := by
  cases l with
  | nil => cases h
  | cons x r => exact (mnL_spec r x).2 p h
theorem opt_G {n : Nat} {j : Bool} {t o : Tr} (h : IsOpt j t o) : Ok n t → Ok n o ∧ dep o ≤ dep t ∧ (lvs o).length ≤ (lvs t).length := by
  induction h with
  | leaf r => intro ok; exact ⟨ok, Nat.le_refl _, Nat.le_refl _⟩
  | own hm _ ih =>
    intro ok
    cases ok with
    | node hc hl ha =>
      obtain ⟨a, b, c⟩ := ih (ha _ hm)
      have := deps_mem hm
      have := lvs_mem_le hm
      rw [dep, lvs]
      exact ⟨a, by omega, by omega⟩
  | @other k c os hk hl a ih =>
    intro ok
    cases ok with
    | node hc hcl ha =>
      have key : ∀ (i : Nat) t o, c[i]? = some t → os[i]? = some o → Ok n o ∧ dep o ≤ dep t ∧ (lvs o).length ≤ (lvs t).length := fun i t o ht ho => ih i t o ht ho (ha t (List.mem_of_getElem? ht))
      have mem : ∀ o ∈ os, ∃ t ∈ c, Ok n o ∧ dep o ≤ dep t := by
        intro o ho
        obtain ⟨i, hi, rfl⟩ := List.mem_iff_getElem.mp ho
        obtain ⟨a, b, _⟩ := key i _ _ (List.getElem?_eq_getElem (by omega)) (List.getElem?_eq_getElem hi)
        exact ⟨_, List.getElem_mem (by omega), a, b⟩
      refine ⟨.node (fun q => hc (List.length_eq_zero_iff.mp (by rw [← hl, q]; rfl))) (by omega) fun o ho => ?_, ?_, ?_⟩
      · obtain ⟨_, _, a, _⟩ := mem o ho; exact a
      · rw [dep, dep]
        have : deps os ≤ deps c := Tw.deps_le fun o ho => by
          obtain ⟨t, ht, _, b⟩ := mem o ho
          exact Nat.le_trans b (deps_mem ht)
        omega
      · rw [lvs, lvs]
        clear ih mem ha hc hcl a
        induction c generalizing os with
        | nil => rw [List.length_eq_zero_iff.mp hl]; exact Nat.le_refl _
        | cons t c ihc =>
          match os, hl with
          | o :: os, hl =>
            rw [lvss, lvss, List.length_append, List.length_append]
            have := (key 0 t o rfl rfl).2.2
            have := ihc (os := os) (by simpa using hl) fun i t o ht ho => key (i + 1) t o ht ho
            omega


/-- a part of one, another part of two at each of its leaves -/
inductive Up (two : Tr) : Tr → Tr → Prop where
  | leaf (r : List Int) {o : Tr} (h : IsOpt true two o) : Up two (.leaf r) (sh r o)
  | node {k : Bool} {c os : List Tr} (l : os.length = c.length) (a : ∀ (i : Nat) t o, c[i]? = some t → os[i]? = some o → Up two t o) : Up two (.node k c) (.node k os)
theorem isOpt_sh {j : Bool} {row : List Int} {t o : Tr} (h : IsOpt j t o) : IsOpt j (sh row t) (sh row o) := by
  induction h with
  | leaf r => rw [sh_leaf]; exact .leaf _
  | own hm _ ih => rw [sh_node]; exact .own (List.mem_map.mpr ⟨_, hm, rfl⟩) ih
  | other hk hl a ih =>
    rw [sh_node, sh_node]
    refine .other hk (by simpa using hl) fun i t o ht ho => ?_
    rw [List.getElem?_map] at ht ho
    rename_i k c os
    cases h1 : c[i]? with
    | none => rw [h1] at ht; cases ht
    | some t' =>
      cases h2 : os[i]? with
      | none => rw [h2] at ho; cases ho
      | some o' =>
        rw [h1] at ht; rw [h2] at ho
        cases ht; cases ho
        exact ih i t' o' h1 h2
theorem isOpt_up {one two part : Tr} (h : IsOpt true one part) : ∀ {v : Tr}, Up two part v → IsOpt true (jn two one) v := by
  induction h with
  | leaf r => intro v u; cases u with | leaf _ h => rw [jn_leaf]; exact isOpt_sh h
  | own hm _ ih => intro v u; rw [jn_node]; exact .own (List.mem_map.mpr ⟨_, hm, rfl⟩) (ih u)
  | other hk hl a ih =>
    intro v u
    rename_i k c os
    cases u with
    | @node _ _ vs l b =>
      rw [jn_node]
      refine .other hk (by rw [List.length_map, l, hl]) fun i t o ht ho => ?_
      rw [List.getElem?_map] at ht
      cases h1 : c[i]? with
      | none => rw [h1] at ht; cases ht
      | some t' =>
        rw [h1] at ht
        cases ht
        have hi : i < os.length := by
          rcases Nat.lt_or_ge i c.length with q | q
          · omega
          · rw [List.getElem?_eq_none q] at h1; cases h1
        have h2 := List.getElem?_eq_getElem hi
        exact ih i t' os[i] h1 h2 (b i os[i] o h2 ho)
theorem isP_of {j : Bool} {n : Nat} {P : List Int → Prop} {t o : Tr} (h : IsOpt j t o) : OkP n P t → isP j t o = true := by
  induction h with
  | leaf r => intro _; rw [isP_leaf]; simp
  | own hm _ ih =>
    intro ok
    cases ok with
    | node _ _ ha =>
      rw [isP_own, isPany_any, List.any_eq_true]
      exact ⟨_, hm, ih (ha _ hm)⟩
  | other hk hl a ih =>
    intro ok
    cases ok with
    | node _ _ ha =>
      rw [isP_nn hk]
      simp only [beq_self_eq_true, Bool.true_and, Bool.and_eq_true, decide_eq_true_eq]
      exact ⟨hl, (isPall_all _ _ hl).mpr fun i t o ht ho => ih i t o ht ho (ha t (List.mem_of_getElem? ht))⟩
theorem mem_lvss {c : List Tr} {q : List Int} : q ∈ lvss c ↔ ∃ t ∈ c, q ∈ lvs t := by
  induction c with
  | nil => simp [lvss]
  | cons t c ih => rw [lvss, List.mem_append, ih]; simp
theorem isP_lvs {j : Bool} : ∀ t w, isP j t w = true → ∀ q ∈ lvs w, q ∈ lvs t := by
  refine Tr.ind ?_ ?_
  · intro r w h q hq
    cases w with
    | leaf s =>
      rw [isP_leaf, decide_eq_true_eq] at h
      subst h; exact hq
    | node k c => rw [isP_leafn] at h; cases h
  · intro k c ih w h q hq
    rw [lvs, mem_lvss]
    by_cases hk : k = j
    · subst hk
      rw [isP_own, isPany_any, List.any_eq_true] at h
      obtain ⟨t, ht, h⟩ := h
      exact ⟨t, ht, ih t ht w h q hq⟩
    · cases w with
      | leaf s => rw [isP_nleaf hk] at h; cases h
      | node k' os =>
        rw [isP_nn hk] at h
        simp only [Bool.and_eq_true, decide_eq_true_eq] at h
        rw [lvs, mem_lvss] at hq
        obtain ⟨o, ho, hq⟩ := hq
        obtain ⟨i, hi, rfl⟩ := List.mem_iff_getElem.mp ho
        have hi' : i < c.length := by omega
        have := (isPall_all c os h.2.1).mp h.2.2 i c[i] os[i] (List.getElem?_eq_getElem hi') (List.getElem?_eq_getElem hi)
        exact ⟨c[i], List.getElem_mem hi', ih c[i] (List.getElem_mem hi') _ this q hq⟩
theorem wv_wdA {n m : Nat} {P : List Int → Prop} {u v : List Int} (hu : u.length = n) (hv : v.length = m) {t : Tr} (o : OkP n P t) : wv (u ++ v) (wd 0 m t) = wv u t := by
  refine wv_gen (F := fun a => a) (fun k a b => rfl) (fun r h _ => ?_) t o
  rw [wv]
  have key : ∀ k, dt (u ++ v) (List.replicate 0 0 ++ r ++ List.replicate m 0) k = dt u r (min k n) := by
    intro k
    induction k with
    | zero => simp [dt]
    | succ k ih =>
      rw [dt, ih]
      simp only [List.replicate_zero, List.nil_append]
      rcases Nat.lt_or_ge k n with q | q
      · rw [Nat.min_eq_left (by omega), Nat.min_eq_left (by omega), dt]
        simp only [gd, List.getD_eq_getElem?_getD, List.getElem?_append_left (by omega : k < u.length), List.getElem?_append_left (by omega : k < r.length)]
      · rw [Nat.min_eq_right q, Nat.min_eq_right (by omega)]
        have : gd (r ++ List.replicate m 0) k = 0 := by
          simp only [gd, List.getD_eq_getElem?_getD, List.getElem?_append_right (by omega : r.length ≤ k), List.getElem?_replicate]
          split <;> rfl
        rw [this]; omega
  rw [key, List.length_append, Nat.min_eq_right (by omega), hu]
theorem wv_wdB {n m : Nat} {P : List Int → Prop} {u v : List Int} (hu : u.length = m) (hv : v.length = n) {t : Tr} (o : OkP n P t) : wv (u ++ v) (wd m 0 t) = wv v t := by
  refine wv_gen (F := fun a => a) (fun k a b => rfl) (fun r h _ => ?_) t o
  rw [wv]
  have key : ∀ k, dt (u ++ v) (List.replicate m 0 ++ r ++ List.replicate 0 0) k = dt v r (k - m) := by
    intro k
    induction k with
    | zero => simp [dt]
    | succ k ih =>
      rw [dt, ih]
      simp only [List.replicate_zero, List.append_nil]
      rcases Nat.lt_or_ge k m with q | q
      · rw [show k - m = 0 by omega, show k + 1 - m = 0 by omega, dt]
        have : gd (List.replicate m 0 ++ r) k = 0 := by
          simp only [gd, List.getD_eq_getElem?_getD, List.getElem?_append_left (by rw [List.length_replicate]; exact q : k < (List.replicate m (0 : Int)).length), List.getElem?_replicate]
          split <;> rfl
        rw [this]; omega
      · rw [show k + 1 - m = (k - m) + 1 by omega, dt]
        have e1 : gd (u ++ v) k = gd v (k - m) := by
          simp only [gd, List.getD_eq_getElem?_getD, List.getElem?_append_right (by omega : u.length ≤ k), hu]
        have e2 : gd (List.replicate m 0 ++ r) k = gd r (k - m) := by
          simp only [gd, List.getD_eq_getElem?_getD, List.getElem?_append_right (by rw [List.length_replicate]; exact q : (List.replicate m (0 : Int)).length ≤ k), List.length_replicate]
        rw [e1, e2]
  rw [key, List.length_append, hu, show m + v.length - m = v.length by omega]
end Mn.S.Tx

set_option Elab.async false
set_option linter.all false
set_option maxRecDepth 100000
set_option exponentiation.threshold 10000
/-! Mn29: parts upon parts, low rows. -/
namespace Mn.S.Tx
open PySem Mn.S.Tw
section
variable {T : List FD} {L : Nat} {x : Ix}
theorem lpart_upon_ok (h1 : T[x.lis_node]? = some ⟨1, 1, Blis_node x.toIx⟩) (h2 : T[x.lcount]? = some ⟨2, 6, Blcount x.toIx⟩) (h3 : T[x.loption]? = some ⟨3, 7, Bloption x.toIx⟩) (h4 : T[x.lshift]? = some ⟨2, 4, Blshift x⟩) (h5 : T[x.lpart_upon]? = some ⟨3, 5, Blpart_upon x⟩)
    {n : Nat} {P : List Int → Prop} (hn : n ≤ 1000) {two : Tr} (o2 : Ok n two) (hl2 : (lvs two).length ≤ 1000) :
    ∀ t, OkP n P t → ∀ (num : Int) k, dep t + dep two + 5 ≤ k → ∃ o, run T L k x.lpart_upon [enc t, enc two, .int num] = some (enc o, false) ∧ Up two t o := by
  refine Tr.ind ?_ ?_
  · intro r o num k hk
    obtain ⟨k, rfl⟩ : ∃ j, k = j + 1 := ⟨k - 1, by omega⟩
    rw [dep] at hk
    have e1 := isnode_row (L := L) h1 (k := k) (by omega) false r
    have e2 : run T L k x.lcount [enc two, .str "keeper"] = some (.int (cnt true two : Nat), false) := count_ok (L := L) h1 h2 true two o2 hl2 k (by omega)
    have hp := (cnt_bd (j := true) two o2).1
    have hp' : (0 : Int) < (cnt true two : Nat) := by omega
    have hp2 : 0 < cnt true two := hp
    obtain ⟨q, e3, io⟩ := option_ok (L := L) h1 h2 h3 true two o2 hl2 (num % (cnt true two : Nat)) (Int.emod_nonneg _ (by omega)) (Int.emod_lt_of_pos _ hp') k (by omega)
    have e3' : run T L k x.loption [enc two, .str "keeper", .int (num % (cnt true two : Nat))] = some (enc q, false) := e3
    obtain ⟨oq, dq, lq⟩ := opt_G io o2
    cases o with
    | leaf hr _ =>
      have e4 := lshift_ok (L := L) h1 h4 false r hr hn q (enc q) (dr_enc q) oq k (by omega)
      have e4' : run T L k x.lshift [enc q, .tup (r.map MV.int)] = some (enc (sh r q), false) := e4
      refine ⟨sh r q, run_eq h5 rfl ?_, .leaf r io⟩
      rw [enc]
      have e1' : run T L k x.lis_node [.tup (r.map MV.int)] = some (.bl false, false) := e1
      simp [Blpart_upon, startM, e1', e2, hp2, e3', e4', Mn.freeOf, MV.noLst, enc_noLst]
  · intro kd c ih o num k hk
    obtain ⟨k, rfl⟩ : ∃ j, k = j + 1 := ⟨k - 1, by omega⟩
    rw [dep] at hk
    cases o with
    | node hc hcl hok =>
      have e1 := isnode_node (L := L) h1 (k := k) (by omega) false (kw kd) (pr false (encs c))
      have hr := rngOk_n (n := (encs c).length) (by rw [encs_len]; omega)
      have : OB (run T L (k + 1) x.lpart_upon [enc (.node kd c), enc two, .int num]) (fun r => ∃ o, r = (enc o, false) ∧ Up two (.node kd c) o) := by
        refine run_of h5 rfl ?_
        rw [enc_node]
        simp [Blpart_upon, startM, e1, Mn.freeOf, MV.noLst]
        refine W.for (rngM 0 (encs c).length) (fun i σ => ∃ (os : List Tr) (z : Option (MV × Bool)), os.length = i ∧ (∀ (q : Nat) t o, c[q]? = some t → os[q]? = some o → Up two t o) ∧ σ = [some (pr false [MV.str (kw kd), pr false (encs c)], false), some (enc two, false), some (.int num, false), some (.lst (encs os), true), z]) (by simp [hr]) ⟨[], none, rfl, fun q t o _ h => by simp at h, rfl⟩ ?_ ?_
        · rintro i v σ hv ⟨os, z, ho, ha, rfl⟩
          obtain ⟨hi, rfl⟩ := rngM_at hv
          rw [encs_len] at hi
          have g1 : (encs c)[i]? = some (enc c[i]) := by rw [encs_map, List.getElem?_map, List.getElem?_eq_getElem hi]; rfl
          have hm : c[i] ∈ c := List.getElem_mem hi
          haveI : Bd (i : Int) 20 := Bd.rng (by omega) (by omega)
          obtain ⟨o, e2, u⟩ := ih c[i] hm (hok _ hm) (num / 3 + (i : Int) * 7 + 1) k (by have := deps_mem hm; omega)
          have hz : os.length < SZ := SZ_gt (by omega)
          have hz2 : (encs os).length < SZ := by rw [encs_len]; exact hz
          simp (decide := true) [g1, e2, hz2, Mn.freeOf, MV.noLst, enc_noLst]
          refine ⟨os ++ [o], by simp [ho], ?_, by rw [encs_append]; rfl⟩
          intro q t o' ht ho'
          rcases Nat.lt_or_ge q os.length with h | h
          · rw [List.getElem?_append_left h] at ho'
            exact ha q t o' ht ho'
          · rw [List.getElem?_append_right h] at ho'
            have : q = os.length := by
              rcases Nat.eq_zero_or_pos (q - os.length) with h2 | h2
              · omega
              · rw [List.getElem?_eq_none (by simp; omega)] at ho'; cases ho'
            subst this
            rw [Nat.sub_self] at ho'
            cases ho'
            rw [ho, List.getElem?_eq_getElem hi] at ht
            cases ht
            exact u
        · rintro σ ⟨os, z, ho, ha, rfl⟩
          rw [rngM_length, encs_len] at ho
          simp
          exact ⟨.node kd os, by rw [enc_node]; rfl, .node ho ha⟩
      obtain ⟨r, e, o, rfl, h⟩ := this
      exact ⟨o, e, h⟩

theorem llow_ok (h1 : T[x.llow]? = some ⟨1, 4, Bllow x⟩) {k : Nat} (hk : 1 ≤ k) {n : Nat} (hn : 1 ≤ n) (hn4 : n ≤ 4) {rows : List (List Int)} (hr : Rows n 9 2000000000000 rows) :
    ∃ rows' own, run T L k x.llow [.lst (rows.map rowv)] = some (.lst (rows'.map rowv), own) ∧ Rows n 9 600000000000 rows' := by
  obtain ⟨k, rfl⟩ : ∃ j, k = j + 1 := ⟨k - 1, by omega⟩
  have hl := hr.le
  have ca : ∀ r ∈ rows, ∀ a b d, ev (run T L k) (.bi .max [.comp (.bi .abs [.var 3]) (.nm 3) (.seq (.var 2)) []]) [a, b, some (rowv r, false), d] = some (.int (mxL (r.map fun x => ((x.natAbs : Nat) : Int))), .sh) := by
    intro r hm a b d
    have hrl := hr.wd r hm
    have c := comp_ints (Φ := run T L k) (σ := [a, b, some (rowv r, false), d]) (elt := .bi .abs [.var 3]) (tg := .nm 3) (it := .seq (.var 2)) (ifs := []) (xs := r.map MV.int) (t := .sh) (fun x => ((nu x).natAbs : Int)) (by simp [rowv]) (by simp; omega) (by
      intro v hv
      obtain ⟨y, hy, rfl⟩ := List.mem_map.mp hv
      simp [turn1])
    have m := bi_maxL (l := r.map fun x => ((x.natAbs : Nat) : Int)) (fun q => by have := List.map_eq_nil_iff.mp q; rw [this] at hrl; simp at hrl; omega)
    have e : (r.map MV.int).map (fun x => ((nu x).natAbs : Int)) = r.map fun x => ((x.natAbs : Nat) : Int) := by rw [List.map_map]; rfl
    rw [e] at c
    simp only [ev_bi, evs_cons, evs_nil, c, bd_some, List.map_cons, List.map_nil, m]
  have cm := comp_pt (Φ := run T L k) (σ := [some (.lst (rows.map rowv), false), none, none, none]) (elt := .bi .max [.comp (.bi .abs [.var 3]) (.nm 3) (.seq (.var 2)) []]) (tg := .nm 2) (it := .seq (.var 0)) (ifs := []) (xs := rows.map rowv) (t := .sh) ((rows.map fun r => mxL (r.map fun x => ((x.natAbs : Nat) : Int))).map MV.int) (by simp) (by simp) (by simp; omega) (by
    intro i v w hv hw
    rw [List.map_map, List.getElem?_map] at hw
    rw [List.getElem?_map] at hv
    cases h : rows[i]? with
    | none => rw [h] at hv; cases hv
    | some r =>
      rw [h] at hv hw
      cases hv; cases hw
      have := ca r (List.mem_of_getElem? h) (some (.lst (rows.map rowv), false)) none none
      simp only [turn1, tgSlots_nm, wipeM_cons, wipeM_nil, List.set_cons_succ, List.set_cons_zero, putT_nm, setM_s, setM_z, bd_some, evT_nil, CH_t, this, keep_sh]
      rfl)
  have mm := bi_maxL (l := rows.map fun r => mxL (r.map fun x => ((x.natAbs : Nat) : Int))) (fun q => hr.ne (List.map_eq_nil_iff.mp q))
  have : OB (run T L (k + 1) x.llow [.lst (rows.map rowv)]) (fun r => ∃ rows' own, r = (.lst (rows'.map rowv), own) ∧ Rows n 9 600000000000 rows') := by
    refine run_of h1 rfl ?_
    by_cases hg : mxL (rows.map fun r => mxL (r.map fun x => ((x.natAbs : Nat) : Int))) ≤ 1000000000
    · have hr2 : Rows n 9 600000000000 rows := ⟨hr.ne, hr.le, hr.wd, fun r hm y hy => by
        have a1 := mxL_ge (List.mem_map.mpr ⟨r, hm, rfl⟩ : mxL (r.map fun x => ((x.natAbs : Nat) : Int)) ∈ rows.map fun r => mxL (r.map fun x => ((x.natAbs : Nat) : Int)))
        have a2 := mxL_ge (List.mem_map.mpr ⟨y, hy, rfl⟩ : ((y.natAbs : Nat) : Int) ∈ r.map fun x => ((x.natAbs : Nat) : Int))
        omega⟩
      simp (decide := true) [-List.map_map, Bllow, startM, cm, mm, hg]
      exact ⟨rows, rfl, hr2⟩
    · have c2 := fun z => comp_pt (Φ := run T L k) (σ := [some (.lst (rows.map rowv), false), z, none, none]) (elt := .bi .tuple [.comp (.bin .fdiv (.var 3) (.lit (.int 4))) (.nm 3) (.seq (.var 2)) []]) (tg := .nm 2) (it := .seq (.var 0)) (ifs := []) (xs := rows.map rowv) (t := .sh) ((rows.map fun r => r.map fun x => x / 4).map rowv) (by simp) (by simp) (by simp; omega) (by
        intro i v w hv hw
        rw [List.map_map, List.getElem?_map] at hw
        rw [List.getElem?_map] at hv
        cases h : rows[i]? with
        | none => rw [h] at hv; cases hv
        | some r =>
          rw [h] at hv hw
          cases hv; cases hw
          have hrl := hr.wd r (List.mem_of_getElem? h)
          have c := comp_ints (Φ := run T L k) (σ := [some (.lst (rows.map rowv), false), z, some (rowv r, false), none]) (elt := .bin .fdiv (.var 3) (.lit (.int 4))) (tg := .nm 3) (it := .seq (.var 2)) (ifs := []) (xs := r.map MV.int) (t := .sh) (fun x => nu x / 4) (by simp [rowv]) (by simp; omega) (by
            intro v hv
            obtain ⟨y, hy, rfl⟩ := List.mem_map.mp hv
            simp (decide := true) [turn1])
          have e : (r.map MV.int).map (fun x => nu x / 4) = r.map fun x => x / 4 := by rw [List.map_map]; rfl
          rw [e] at c
          simp [turn1, c]
          rw [rowv, List.map_map])
      have hr2 : Rows n 9 600000000000 (rows.map fun r => r.map fun x => x / 4) := ⟨by simpa using hr.ne, by simpa using hr.le, fun r hm => by
        obtain ⟨q, hq, rfl⟩ := List.mem_map.mp hm
        rw [List.length_map]; exact hr.wd q hq, fun r hm y hy => by
        obtain ⟨q, hq, rfl⟩ := List.mem_map.mp hm
        obtain ⟨z, hz, rfl⟩ := List.mem_map.mp hy
        have := hr.bd q hq z hz
        omega⟩
      simp (decide := true) [-List.map_map, Bllow, startM, cm, mm, hg, c2]
      exact ⟨_, rfl, hr2⟩
  obtain ⟨r, e, rows', own, rfl, h⟩ := this
  exact ⟨rows', own, e, h⟩
end
end Mn.S.Tx

set_option Elab.async false
set_option linter.all false
set_option maxRecDepth 100000
set_option exponentiation.threshold 10000
/-! Mn30: trees within bounds. -/
namespace Mn.S.Tx
open PySem Mn.S.Tw
theorem okP_cp {n j} {P : List Int → Prop} {u : List Int} : ∀ t, OkP n P t → OkP n P (cp j u t) := by
  refine Tr.ind ?_ ?_
  · intro r o; rw [cp]; exact o
  · intro k c ih o
    cases o with
    | node hc hl ha =>
      by_cases hk : k = j
      · subst hk
        match c, hc with
        | t :: c, _ =>
          rw [cp_own]
          have := pick_mem (k := k) (u := u) (r := c) (b := t)
          exact ih _ this (ha _ this)
      · rw [cp_other hk]
        refine .node (by simpa using hc) (by simpa using hl) ?_
        intro t ht
        obtain ⟨a, h, rfl⟩ := List.mem_map.mp ht
        exact ih a h (ha a h)
theorem okP_opt {n j} {P : List Int → Prop} {t o : Tr} (h : IsOpt j t o) : OkP n P t → OkP n P o := by
  induction h with
  | leaf r => exact id
  | own hm _ ih => intro ok; cases ok with | node hc hl ha => exact ih (ha _ hm)
  | @other k c os hk hl a ih =>
    intro ok
    cases ok with
    | node hc hcl ha =>
      refine .node (fun q => hc (List.length_eq_zero_iff.mp (by rw [← hl, q]; rfl))) (by omega) fun o ho => ?_
      obtain ⟨i, hi, rfl⟩ := List.mem_iff_getElem.mp ho
      exact ih i _ _ (List.getElem?_eq_getElem (by omega)) (List.getElem?_eq_getElem hi) (ha _ (List.getElem_mem (by omega)))
/-- a tree within bounds: width, numbers, depth, leaves -/
structure G (n : Nat) (B : Int) (t : Tr) : Prop where
  ok : OkP n (PB B) t
  dp : dep t ≤ 30
  lv : (lvs t).length ≤ 64
  n4 : n ≤ 8
  b : B < 100000000000000
theorem G.o {n B t} (g : G n B t) : Ok n t := PB.ok (by have := g.b; omega) g.ok
theorem G.cp {n B t} (g : G n B t) (j : Bool) (u : List Int) : G n B (cp j u t) := ⟨okP_cp t g.ok, Nat.le_trans (cp_dep t g.o) g.dp, Nat.le_trans (cp_lvs t g.o) g.lv, g.n4, g.b⟩
theorem G.opt {n B t j o} (g : G n B t) (h : IsOpt j t o) : G n B o := by
  obtain ⟨_, a, b⟩ := opt_G h g.o
  exact ⟨okP_opt h g.ok, Nat.le_trans a g.dp, Nat.le_trans b g.lv, g.n4, g.b⟩
theorem G.op {n B t} (g : G n B t) : G n B (op t) := ⟨ok_op g.ok, Nat.le_trans dep_op g.dp, by rw [lvs_op_len]; exact g.lv, g.n4, g.b⟩
theorem G.sh {n B B' t row} (g : G n B t) (hr : row.length = n) (hb : PB B' row) (h : B + B' < 100000000000000) : G n (B + B') (sh row t) := ⟨ok_sh hr hb g.ok, Nat.le_trans dep_sh g.dp, by rw [lvs_sh_len]; exact g.lv, g.n4, h⟩
theorem G.jn {n B B' t two} (g : G n B t) (g2 : G n B' two) (h : B' + B < 100000000000000) (hd : dep t + dep two ≤ 30) (hl : (lvs t).length * (lvs two).length ≤ 64) : G n (B' + B) (jn two t) :=
  ⟨ok_jn g2.ok g.ok, Nat.le_trans dep_jn hd, by rw [lvs_jn_len]; exact hl, g.n4, h⟩
theorem rowv_noLst (u : List Int) : (rowv u).noLst = true := by
  rw [rowv, MV.noLst]
  induction u with
  | nil => rfl
  | cons a u ih => rw [List.map_cons, MV.noLsts, ih]; rfl
theorem rows_noLst : ∀ l : List (List Int), MV.noLsts (l.map rowv) = true
  | [] => rfl
  | a :: l => by rw [List.map_cons, MV.noLsts, rowv_noLst, rows_noLst l]; rfl
@[simp] theorem atM_c0 {x0 : MV} {l : List MV} : atM (x0 :: l) 0 = some x0 := by rw [atM_of (by decide)]; rfl
@[simp] theorem atM_c1 {x0 x1 : MV} {l : List MV} : atM (x0 :: x1 :: l) 1 = some x1 := by rw [atM_of (by decide)]; rfl
@[simp] theorem atM_c2 {x0 x1 x2 : MV} {l : List MV} : atM (x0 :: x1 :: x2 :: l) 2 = some x2 := by rw [atM_of (by decide)]; rfl
@[simp] theorem atM_c3 {x0 x1 x2 x3 : MV} {l : List MV} : atM (x0 :: x1 :: x2 :: x3 :: l) 3 = some x3 := by rw [atM_of (by decide)]; rfl
@[simp] theorem atM_c4 {x0 x1 x2 x3 x4 : MV} {l : List MV} : atM (x0 :: x1 :: x2 :: x3 :: x4 :: l) 4 = some x4 := by rw [atM_of (by decide)]; rfl
@[simp] theorem atM_c5 {x0 x1 x2 x3 x4 x5 : MV} {l : List MV} : atM (x0 :: x1 :: x2 :: x3 :: x4 :: x5 :: l) 5 = some x5 := by rw [atM_of (by decide)]; rfl
@[simp] theorem atM_c6 {x0 x1 x2 x3 x4 x5 x6 : MV} {l : List MV} : atM (x0 :: x1 :: x2 :: x3 :: x4 :: x5 :: x6 :: l) 6 = some x6 := by rw [atM_of (by decide)]; rfl
@[simp] theorem atM_c7 {x0 x1 x2 x3 x4 x5 x6 x7 : MV} {l : List MV} : atM (x0 :: x1 :: x2 :: x3 :: x4 :: x5 :: x6 :: x7 :: l) 7 = some x7 := by rw [atM_of (by decide)]; rfl
theorem cmp_isB {a b : Bool} : cmpSem .is (.bl a) (.bl b) = some (a == b) := rfl
theorem cmp_isntB {a b : Bool} : cmpSem .isnt (.bl a) (.bl b) = some (!(a == b)) := rfl
end Mn.S.Tx

set_option Elab.async false
set_option linter.all false
set_option maxRecDepth 100000
set_option maxHeartbeats 4000000
/-! K01a: determinants of up to four rows, in plain words. -/
namespace K01
def sm (n : Nat) (f : Nat → Int) : Int := match n with
  | 0 => 0
  | n + 1 => sm n f + f n
theorem sm_congr {n : Nat} {f g : Nat → Int} (h : ∀ i, i < n → f i = g i) : sm n f = sm n g := by
  induction n with
  | zero => rfl
  | succ n ih => rw [sm, sm, ih fun i hi => h i (by omega), h n (by omega)]
theorem sm_zero {n : Nat} {f : Nat → Int} (h : ∀ i, i < n → f i = 0) : sm n f = 0 := by
  induction n with
  | zero => rfl
  | succ n ih => rw [sm, ih fun i hi => h i (by omega), h n (by omega)]; rfl
theorem sm_add {n : Nat} {f g : Nat → Int} : sm n (fun i => f i + g i) = sm n f + sm n g := by
  induction n with
  | zero => rfl
  | succ n ih => rw [sm, sm, sm, ih]; omega
theorem sm_mul {n : Nat} {a : Int} {f : Nat → Int} : sm n (fun i => a * f i) = a * sm n f := by
  induction n with
  | zero => rw [sm, sm, Int.mul_zero]
  | succ n ih => rw [sm, sm, ih, Int.mul_add]
theorem sm_one {n i : Nat} {f : Nat → Int} (hi : i < n) (h : ∀ j, j < n → j ≠ i → f j = 0) : sm n f = f i := by
  induction n with
  | zero => omega
  | succ n ih =>
    rw [sm]
    by_cases e : i = n
    · subst e
      rw [sm_zero fun j hj => h j (by omega) (by omega), Int.zero_add]
    · rw [ih (by omega) fun j hj hn => h j (by omega) hn, h n (by omega) (fun q => e q.symm), Int.add_zero]
def sg (j : Nat) : Int := if j % 2 = 0 then 1 else -1
/-- the determinant by the first row -/
def DF : Nat → (Nat → Nat → Int) → Int
  | 0, _ => 1
  | n + 1, f => sm (n + 1) fun j => sg j * f 0 j * DF n (fun i c => f (i + 1) (if c < j then c else c + 1))
theorem DF_congr : ∀ {n : Nat} {f g : Nat → Nat → Int}, (∀ i j, i < n → j < n → f i j = g i j) → DF n f = DF n g
  | 0, _, _, _ => rfl
  | n + 1, f, g, h => by
    rw [DF, DF]
    refine sm_congr fun j hj => ?_
    rw [h 0 j (by omega) hj, DF_congr (n := n) fun i c hi hc => h (i + 1) _ (by omega) (by split <;> omega)]
theorem DF1 {f} : DF 1 f = f 0 0 := by simp [DF, sm, sg]
theorem DF2 {f} : DF 2 f = f 0 0 * f 1 1 - f 0 1 * f 1 0 := by simp [DF, sm, sg]; grind
theorem DF3 {f} : DF 3 f = f 0 0 * (f 1 1 * f 2 2 - f 1 2 * f 2 1) - f 0 1 * (f 1 0 * f 2 2 - f 1 2 * f 2 0) + f 0 2 * (f 1 0 * f 2 1 - f 1 1 * f 2 0) := by
  rw [DF]; simp only [DF2, sm, sg]; simp; grind
theorem DF4 {f} : DF 4 f = f 0 0 * DF 3 (fun i c => f (i + 1) (c + 1)) - f 0 1 * DF 3 (fun i c => f (i + 1) (if c < 1 then c else c + 1)) + f 0 2 * DF 3 (fun i c => f (i + 1) (if c < 2 then c else c + 1)) - f 0 3 * DF 3 (fun i c => f (i + 1) (if c < 3 then c else c + 1)) := by
  rw [DF]; simp only [sm, sg]; simp; grind
/-- row k changed -/
def up (f : Nat → Nat → Int) (k : Nat) (g : Nat → Int) : Nat → Nat → Int := fun i j => if i = k then g j else f i j

theorem cramer {n : Nat} (hn : n ≤ 4) (f : Nat → Nat → Int) (g : Nat → Int) (i : Nat) (hi : i < n) : sm n (fun k => f k i * DF n (up f k g)) = DF n f * g i := by
  match n, hn, hi with
  | 1, _, hi =>
    have : i = 0 := by omega
    subst this
    simp [sm, DF1, up, Int.mul_comm]
  | 2, _, hi =>
    rcases (by omega : i = 0 ∨ i = 1) with rfl | rfl <;> (simp [sm, DF2, up]; grind)
  | 3, _, hi =>
    rcases (by omega : i = 0 ∨ i = 1 ∨ i = 2) with rfl | rfl | rfl <;> (simp [sm, DF3, up]; grind)
  | 4, _, hi =>
    rcases (by omega : i = 0 ∨ i = 1 ∨ i = 2 ∨ i = 3) with rfl | rfl | rfl | rfl <;> (simp [sm, DF4, DF3, up]; grind)
theorem rowlin {n : Nat} (hn : n ≤ 4) (f : Nat → Nat → Int) (z : Nat → Int) (k : Nat) (hk : k < n) : DF n (up f k (fun i => sm n fun j => z j * f j i)) = z k * DF n f := by
  match n, hn, hk with
  | 1, _, hi =>
    have : k = 0 := by omega
    subst this
    simp [sm, DF1, up]
  | 2, _, hi =>
    rcases (by omega : k = 0 ∨ k = 1) with rfl | rfl <;> (simp [sm, DF2, up]; grind)
  | 3, _, hi =>
    rcases (by omega : k = 0 ∨ k = 1 ∨ k = 2) with rfl | rfl | rfl <;> (simp [sm, DF3, up]; grind)
  | 4, _, hi =>
    rcases (by omega : k = 0 ∨ k = 1 ∨ k = 2 ∨ k = 3) with rfl | rfl | rfl | rfl <;> (simp [sm, DF4, DF3, up]; grind)
theorem zrow {n : Nat} (hn : n ≤ 4) (f : Nat → Nat → Int) (k : Nat) (hk : k < n) : DF n (up f k (fun _ => 0)) = 0 := by
  have := rowlin hn (up f k fun _ => 0) (fun j => if j = k then 2 else 0) k hk
  have h2 : DF n (up (up f k fun _ => 0) k (fun i => sm n fun j => (if j = k then 2 else 0) * up f k (fun _ => 0) j i)) = DF n (up f k fun _ => 0) := by
    refine DF_congr fun i j hi hj => ?_
    simp only [up]
    split
    · refine sm_zero fun l hl => ?_
      by_cases e : l = k <;> simp [e]
    · rfl
  rw [h2] at this
  simp at this
  omega
/-- a square system with a determinant has no vector that it takes to nought -/
theorem ker0 {n : Nat} (hn : n ≤ 4) (f : Nat → Nat → Int) (z : Nat → Int) (h : ∀ i, i < n → sm n (fun k => z k * f k i) = 0) (hd : DF n f ≠ 0) : ∀ k, k < n → z k = 0 := by
  intro k hk
  have h1 := rowlin hn f z k hk
  have h2 : DF n (up f k (fun i => sm n fun j => z j * f j i)) = DF n (up f k fun _ => 0) := by
    refine DF_congr fun i j hi hj => ?_
    simp only [up]
    split
    · exact h j hj
    · rfl
  rw [h2, zrow hn f k hk] at h1
  rcases Int.mul_eq_zero.mp h1.symm with h | h
  · exact h
  · exact absurd h hd

/-- the places of rows, ascending -/
def Asc (L : Nat) : List Nat → Prop
  | [] => True
  | a :: r => a < L ∧ Asc L r ∧ ∀ b ∈ r, a < b
def pl (p : List Nat) (i : Nat) : Nat := p.getD i 0
def MI (C : Nat → Nat → Int) (p : List Nat) : Int := DF p.length (fun a i => C a (pl p i))

theorem border {k : Nat} (hk : k ≤ 3) (C : Nat → Nat → Int) (p : List Nat) (hp : p.length = k) (j : Nat) :
    MI C (p ++ [j]) = (-1) ^ k * sm k (fun a => C a j * DF k (up (fun a i => C a (pl p i)) a (fun i => C k (pl p i)))) * (-1) ^ (k + 1) + MI C p * C k j := by
  match p, hp with
  | [], rfl => simp [MI, DF1, DF, pl, sm]
  | [a], rfl => simp [MI, DF1, DF2, pl, sm, up]; grind
  | [a, b], rfl => simp [MI, DF2, DF3, pl, sm, up]; grind
  | [a, b, c], rfl => simp [MI, DF3, DF4, pl, sm, up]; grind
  | a :: b :: c :: d :: r, h => simp at h; omega

theorem asc2 {L a b} : Asc L [a, b] ↔ a < b ∧ b < L := by simp [Asc]; omega
theorem asc3 {L a b c} : Asc L [a, b, c] ↔ a < b ∧ b < c ∧ c < L := by simp [Asc]; omega
theorem asc4 {L a b c d} : Asc L [a, b, c, d] ↔ a < b ∧ b < c ∧ c < d ∧ d < L := by simp [Asc]; omega
theorem insert0 {L : Nat} (C : Nat → Nat → Int) (p : List Nat) (hk : p.length ≤ 3) (hp : Asc L p) (j : Nat) (hj : j < L) (H : ∀ q, Asc L q → q.length = p.length + 1 → MI C q = 0) : MI C (p ++ [j]) = 0 := by
  match p, hk with
  | [], _ => exact H [j] (by simp [Asc, hj]) rfl
  | [a], _ =>
    have ha : a < L := by simp [Asc] at hp; exact hp
    rcases Nat.lt_trichotomy a j with h | h | h
    · exact H [a, j] (asc2.mpr ⟨h, hj⟩) rfl
    · subst h; simp [MI, DF2, pl]; try grind
    · have := H [j, a] (asc2.mpr ⟨h, ha⟩) rfl
      simp [MI, DF2, pl] at this ⊢; grind
  | [a, b], _ =>
    have hp := asc2.mp hp
    rcases Nat.lt_trichotomy a j with h | h | h
    · rcases Nat.lt_trichotomy b j with h' | h' | h'
      · exact H [a, b, j] (asc3.mpr ⟨hp.1, h', hj⟩) rfl
      · subst h'; simp [MI, DF3, pl]; try grind
      · have := H [a, j, b] (asc3.mpr ⟨h, h', hp.2⟩) rfl
        simp [MI, DF3, pl] at this ⊢; grind
    · subst h; simp [MI, DF3, pl]; try grind
    · have := H [j, a, b] (asc3.mpr ⟨h, hp.1, hp.2⟩) rfl
      simp [MI, DF3, pl] at this ⊢; grind
  | [a, b, c], _ =>
    have hp := asc3.mp hp
    rcases Nat.lt_trichotomy a j with h | h | h
    · rcases Nat.lt_trichotomy b j with h' | h' | h'
      · rcases Nat.lt_trichotomy c j with h2 | h2 | h2
        · exact H [a, b, c, j] (asc4.mpr ⟨hp.1, hp.2.1, h2, hj⟩) rfl
        · subst h2; simp [MI, DF4, DF3, pl]; try grind
        · have := H [a, b, j, c] (asc4.mpr ⟨hp.1, h', h2, hp.2.2⟩) rfl
          simp [MI, DF4, DF3, pl] at this ⊢; grind
      · subst h'; simp [MI, DF4, DF3, pl]; try grind
      · have := H [a, j, b, c] (asc4.mpr ⟨h, h', hp.2.1, hp.2.2⟩) rfl
        simp [MI, DF4, DF3, pl] at this ⊢; grind
    · subst h; simp [MI, DF4, DF3, pl]; try grind
    · have := H [j, a, b, c] (asc4.mpr ⟨h, hp.1, hp.2.1, hp.2.2⟩) rfl
      simp [MI, DF4, DF3, pl] at this ⊢; grind
  | a :: b :: c :: d :: r, h => simp at h

/-- columns that no vector takes to nought have a choice of rows whose determinant is not nought -/
theorem minor_of {L m : Nat} (hm : m ≤ 4) (C : Nat → Nat → Int) (hk : ∀ z : Nat → Int, (∀ j, j < L → sm m (fun k => z k * C k j) = 0) → ∀ k, k < m → z k = 0) : ∀ k, k ≤ m → ∃ p, Asc L p ∧ p.length = k ∧ MI C p ≠ 0 := by
  intro k
  induction k with
  | zero => intro _; exact ⟨[], trivial, rfl, by simp [MI, DF]⟩
  | succ k ih =>
    intro hkm
    obtain ⟨p, hp, hl, hd⟩ := ih (by omega)
    refine Classical.byContradiction fun hno => ?_
    have H : ∀ q, Asc L q → q.length = p.length + 1 → MI C q = 0 := fun q hq hql => Classical.byContradiction fun h => hno ⟨q, hq, by omega, h⟩
    let z : Nat → Int := fun a => if a < k then -DF k (up (fun a i => C a (pl p i)) a (fun i => C k (pl p i))) else if a = k then MI C p else 0
    have hz : ∀ j, j < L → sm m (fun a => z a * C a j) = 0 := by
      intro j hj
      have e1 : sm m (fun a => z a * C a j) = sm (k + 1) (fun a => z a * C a j) := by
        have : ∀ d, sm (k + 1 + d) (fun a => z a * C a j) = sm (k + 1) (fun a => z a * C a j) := by
          intro d
          induction d with
          | zero => rfl
          | succ d ihd =>
            rw [show k + 1 + (d + 1) = (k + 1 + d) + 1 by omega, sm, ihd]
            have : z (k + 1 + d) = 0 := by simp only [z]; rw [if_neg (by omega), if_neg (by omega)]
            rw [this]; omega
        have := this (m - (k + 1))
        rwa [show k + 1 + (m - (k + 1)) = m by omega] at this
      have b := border (k := k) (by omega) C p hl j
      rw [insert0 C p (by omega) hp j hj H] at b
      have e2 : sm k (fun a => z a * C a j) = -sm k (fun a => C a j * DF k (up (fun a i => C a (pl p i)) a (fun i => C k (pl p i)))) := by
        rw [show -sm k (fun a => C a j * DF k (up (fun a i => C a (pl p i)) a (fun i => C k (pl p i)))) = (-1) * sm k (fun a => C a j * DF k (up (fun a i => C a (pl p i)) a (fun i => C k (pl p i)))) by omega, ← sm_mul]
        refine sm_congr fun a ha => ?_
        simp only [z]
        rw [if_pos ha]
        grind
      have e3 : z k = MI C p := by simp [z]
      rw [e1, sm, e2, e3]
      have s1 : ((-1 : Int)) ^ k * (-1) ^ k = 1 := by
        rw [← Int.mul_pow]; simp [Int.one_pow]
      grind
    have := hk z hz k (by omega)
    have e3 : z k = MI C p := by simp [z]
    rw [e3] at this
    exact hd this
end K01

set_option Elab.async false
set_option linter.all false
set_option maxRecDepth 100000
set_option maxHeartbeats 4000000
/-! K01b: what elimination leaves, in plain words. -/
namespace K01
open Mn.S
/-- an entry of a table -/
def en (R : List (List Int)) (i j : Nat) : Int := gd (R.getD i []) j
/-- what a table takes to nought -/
def Ke (m : Nat) (R : List (List Int)) (z : Nat → Int) : Prop := ∀ i, i < R.length → sm (m + 1) (fun j => en R i j * z j) = 0
def Wd (m : Nat) (R : List (List Int)) : Prop := ∀ r ∈ R, r.length = m + 1
/-- the first c columns are cleared -/
def Dg (c : Nat) (R : List (List Int)) : Prop := ∀ i, i < R.length → ∀ j, j < c → if i = j then en R i j ≠ 0 else en R i j = 0

theorem en_set {R : List (List Int)} {a i j : Nat} {r : List Int} (ha : a < R.length) : en (R.set a r) i j = if i = a then gd r j else en R i j := by
  unfold en
  simp only [List.getD_eq_getElem?_getD]
  by_cases h : i = a
  · subst h; rw [if_pos rfl, List.getElem?_set_self ha]; rfl
  · rw [if_neg h, List.getElem?_set_ne (fun e => h e.symm)]

/-- two rows exchanged, as the text does it -/
def swp (R : List (List Int)) (a c : Nat) : List (List Int) := (R.set a (R.getD c [])).set c (R.getD a [])
theorem swp_len {R a c} : (swp R a c).length = R.length := by simp [swp]
theorem en_swp {R : List (List Int)} {a c i j : Nat} (ha : a < R.length) (hc : c < R.length) : en (swp R a c) i j = en R (if i = c then a else if i = a then c else i) j := by
  unfold swp
  rw [en_set (by simpa using hc), en_set ha]
  by_cases h : i = c
  · rw [if_pos h, if_pos h]; rfl
  · rw [if_neg h, if_neg h]
    by_cases h' : i = a
    · rw [if_pos h', if_pos h']; rfl
    · rw [if_neg h', if_neg h']
theorem ke_swp {m : Nat} {R : List (List Int)} {a c : Nat} (ha : a < R.length) (hc : c < R.length) {z : Nat → Int} : Ke m (swp R a c) z ↔ Ke m R z := by
  have key : ∀ i, sm (m + 1) (fun j => en (swp R a c) i j * z j) = sm (m + 1) (fun j => en R (if i = c then a else if i = a then c else i) j * z j) := fun i => sm_congr fun j _ => by rw [en_swp ha hc]
  constructor
  · intro h i hi
    rw [swp_len.symm] at hi
    by_cases h1 : i = a
    · have := h c (by rw [swp_len]; exact hc)
      rw [key, if_pos rfl, ← h1] at this; exact this
    · by_cases h2 : i = c
      · have := h a (by rw [swp_len]; exact ha)
        rw [key] at this
        by_cases e : a = c
        · exact absurd (h2.trans e.symm) h1
        · rw [if_neg e, if_pos rfl, ← h2] at this; exact this
      · have := h i hi
        rw [key, if_neg h2, if_neg h1] at this; exact this
  · intro h i hi
    rw [swp_len] at hi
    rw [key]
    split
    · exact h a ha
    · split
      · exact h c hc
      · exact h i hi

/-- a row cleared by the lead -/
def crow (lead r : List Int) (c : Nat) : List Int := (List.range r.length).map fun k => gd lead c * gd r k - gd r c * gd lead k
def clr (R : List (List Int)) (c : Nat) : List (List Int) := (List.range R.length).map fun i => if i = c ∨ gd (R.getD i []) c = 0 then R.getD i [] else crow (R.getD c []) (R.getD i []) c
theorem clr_len {R c} : (clr R c).length = R.length := by simp [clr]
theorem gd_range {n : Nat} {f : Nat → Int} {k : Nat} (hk : k < n) : gd ((List.range n).map f) k = f k := by
  simp [gd, List.getD_eq_getElem?_getD, List.getElem?_map, List.getElem?_range hk]
theorem wd_get {m : Nat} {R : List (List Int)} (h : Wd m R) {i : Nat} (hi : i < R.length) : (R.getD i []).length = m + 1 := by
  rw [List.getD_eq_getElem?_getD, List.getElem?_eq_getElem hi]
  exact h _ (List.getElem_mem hi)
theorem en_clr {m : Nat} {R : List (List Int)} {c i j : Nat} (hw : Wd m R) (hi : i < R.length) (hj : j < m + 1) : en (clr R c) i j = if i = c ∨ en R i c = 0 then en R i j else en R c c * en R i j - en R i c * en R c j := by
  have : (clr R c).getD i [] = if i = c ∨ gd (R.getD i []) c = 0 then R.getD i [] else crow (R.getD c []) (R.getD i []) c := by
    rw [List.getD_eq_getElem?_getD, clr, List.getElem?_map, List.getElem?_range hi]; rfl
  unfold en
  rw [this]
  split
  · rfl
  · rw [crow, gd_range (by rw [wd_get hw hi]; exact hj)]
theorem wd_clr {m : Nat} {R : List (List Int)} {c : Nat} (hw : Wd m R) : Wd m (clr R c) := by
  intro r hr
  rw [clr] at hr
  obtain ⟨i, hi, rfl⟩ := List.mem_map.mp hr
  rw [List.mem_range] at hi
  split
  · exact wd_get hw hi
  · rw [crow, List.length_map, List.length_range, wd_get hw hi]
theorem wd_swp {m : Nat} {R : List (List Int)} {a c : Nat} (hw : Wd m R) (ha : a < R.length) (hc : c < R.length) : Wd m (swp R a c) := by
  intro r hr
  rw [swp] at hr
  rcases List.mem_or_eq_of_mem_set hr with hr | rfl
  · rcases List.mem_or_eq_of_mem_set hr with hr | rfl
    · exact hw r hr
    · exact wd_get hw hc
  · exact wd_get hw ha
theorem ke_clr {m : Nat} {R : List (List Int)} {c : Nat} (hw : Wd m R) (hc : c < R.length) (hl : en R c c ≠ 0) {z : Nat → Int} : Ke m (clr R c) z ↔ Ke m R z := by
  have key : ∀ i, i < R.length → sm (m + 1) (fun j => en (clr R c) i j * z j) = if i = c ∨ en R i c = 0 then sm (m + 1) (fun j => en R i j * z j) else en R c c * sm (m + 1) (fun j => en R i j * z j) - en R i c * sm (m + 1) (fun j => en R c j * z j) := by
    intro i hi
    by_cases h : i = c ∨ en R i c = 0
    · rw [if_pos h]
      exact sm_congr fun j hj => by rw [en_clr hw hi hj, if_pos h]
    · rw [if_neg h, ← sm_mul, show ∀ a b : Int, a - b = a + (-1) * b from fun a b => by omega, ← sm_mul, ← sm_mul, ← sm_add]
      exact sm_congr fun j hj => by rw [en_clr hw hi hj, if_neg h]; grind
  constructor
  · intro h
    have h0 : sm (m + 1) (fun j => en R c j * z j) = 0 := by
      have := h c (by rw [clr_len]; exact hc)
      rw [key c hc, if_pos (.inl rfl)] at this; exact this
    intro i hi
    have := h i (by rw [clr_len]; exact hi)
    rw [key i hi] at this
    split at this
    · exact this
    · rw [h0, Int.mul_zero, Int.sub_zero] at this
      rcases Int.mul_eq_zero.mp this with h | h
      · exact absurd h hl
      · exact h
  · intro h i hi
    rw [clr_len] at hi
    rw [key i hi]
    split
    · exact h i hi
    · rw [h i hi, h c hc]; simp
theorem dg_step {m : Nat} {R : List (List Int)} {a c : Nat} (hw : Wd m R) (hcm : c < m + 1) (ha : a < R.length) (hca : c ≤ a) (hp : en R a c ≠ 0) (hd : Dg c R) : Dg (c + 1) (clr (swp R a c) c) := by
  have hc : c < R.length := by omega
  have hw' := wd_swp hw ha hc
  have lead : ∀ j, j < c → en (swp R a c) c j = 0 := by
    intro j hj
    rw [en_swp ha hc, if_pos rfl]
    have := hd a ha j hj
    rw [if_neg (by omega)] at this; exact this
  have leadc : en (swp R a c) c c ≠ 0 := by rw [en_swp ha hc, if_pos rfl]; exact hp
  have old : ∀ i, i < R.length → ∀ j, j < c → if i = j then en (swp R a c) i j ≠ 0 else en (swp R a c) i j = 0 := by
    intro i hi j hj
    by_cases h1 : i = c
    · subst h1; rw [if_neg (by omega)]; exact lead j hj
    · by_cases h2 : i = a
      · rw [en_swp ha hc, if_neg h1, if_pos h2, if_neg (by omega)]
        have := hd c hc j hj
        rw [if_neg (by omega)] at this; exact this
      · rw [en_swp ha hc, if_neg h1, if_neg h2]; exact hd i hi j hj
  intro i hi j hj
  rw [clr_len, swp_len] at hi
  have hi' : i < (swp R a c).length := by rw [swp_len]; exact hi
  rw [en_clr hw' hi' (by omega)]
  by_cases hjc : j = c
  · subst hjc
    by_cases h : i = j
    · rw [if_pos h, if_pos (.inl h), h]; exact leadc
    · rw [if_neg h]
      by_cases h0 : en (swp R a j) i j = 0
      · rw [if_pos (.inr h0)]; exact h0
      · rw [if_neg (fun q => q.elim h h0)]; grind
  · have hjl : j < c := by omega
    have o := old i hi j hjl
    by_cases h : i = c ∨ en (swp R a c) i c = 0
    · rw [if_pos h]; exact o
    · rw [if_neg h, lead j hjl, Int.mul_zero, Int.sub_zero]
      by_cases e : i = j
      · rw [if_pos e] at o ⊢
        exact Int.mul_ne_zero leadc o
      · rw [if_neg e] at o ⊢
        rw [o, Int.mul_zero]
end K01

set_option Elab.async false
set_option linter.all false
set_option maxRecDepth 100000
set_option maxHeartbeats 4000000
/-! K01c: what the end of an elimination tells of the system. -/
namespace K01
open Mn.S
/-- the product of the first c numbers on the diagonal -/
def dp (R : List (List Int)) : Nat → Int
  | 0 => 1
  | c + 1 => dp R c * en R c c
theorem dp_ne {R : List (List Int)} : ∀ {c : Nat}, (∀ i, i < c → en R i i ≠ 0) → dp R c ≠ 0
  | 0, _ => by rw [dp]; decide
  | c + 1, h => by rw [dp]; exact Int.mul_ne_zero (dp_ne fun i hi => h i (by omega)) (h c (by omega))
theorem dp_dvd {R : List (List Int)} : ∀ {c i : Nat}, i < c → en R i i ∣ dp R c
  | 0, _, h => by omega
  | c + 1, i, h => by
    rw [dp]
    by_cases e : i = c
    · subst e; exact Int.dvd_mul_left _ _
    · exact Int.dvd_trans (dp_dvd (by omega)) (Int.dvd_mul_right _ _)
theorem dp_div {R : List (List Int)} {c i : Nat} (h : i < c) : en R i i * (dp R c / en R i i) = dp R c := Int.mul_ediv_cancel' (dp_dvd h)
theorem diag {R : List (List Int)} {c : Nat} (hd : Dg c R) {i : Nat} (hi : i < c) (hl : i < R.length) : en R i i ≠ 0 := by
  have := hd i hl i hi
  rwa [if_pos rfl] at this
theorem offd {R : List (List Int)} {c : Nat} (hd : Dg c R) {i j : Nat} (hj : j < c) (hl : i < R.length) (h : i ≠ j) : en R i j = 0 := by
  have := hd i hl j hj
  rwa [if_neg h] at this
theorem sm_split {n c : Nat} (hc : c < n) {f : Nat → Int} (h : ∀ j, c < j → j < n → f j = 0) : sm n f = sm c f + f c := by
  have : ∀ d, (∀ j, c < j → j < c + 1 + d → f j = 0) → sm (c + 1 + d) f = sm c f + f c := by
    intro d
    induction d with
    | zero => intro _; rfl
    | succ d ih => intro h; rw [show c + 1 + (d + 1) = (c + 1 + d) + 1 by omega, sm, ih fun j a b => h j a (by omega), h (c + 1 + d) (by omega) (by omega), Int.add_zero]
  have := this (n - (c + 1)) fun j a b => h j a (by omega)
  rwa [show c + 1 + (n - (c + 1)) = n by omega] at this

/-- the system: columns C, target b, L rows -/
structure Sys (L m : Nat) (C : Nat → Nat → Int) (b : Nat → Int) (R0 : List (List Int)) : Prop where
  len : R0.length = L
  col : ∀ i, i < L → ∀ j, j < m → en R0 i j = C j i
  tgt : ∀ i, i < L → en R0 i m = b i
section
variable {L m : Nat} {C : Nat → Nat → Int} {b : Nat → Int} {R0 R : List (List Int)}
theorem ke_sys (S : Sys L m C b R0) {z : Nat → Int} {s : Int} : Ke m R0 (fun j => if j < m then z j else -s) ↔ ∀ j, j < L → sm m (fun k => z k * C k j) = s * b j := by
  have key : ∀ i, i < L → sm (m + 1) (fun j => en R0 i j * (if j < m then z j else -s)) = sm m (fun k => z k * C k i) - s * b i := by
    intro i hi
    rw [sm, if_neg (by omega), S.tgt i hi]
    have : sm m (fun j => en R0 i j * (if j < m then z j else -s)) = sm m (fun k => z k * C k i) := sm_congr fun j hj => by rw [if_pos hj, S.col i hi j hj, Int.mul_comm]
    rw [this]
    grind
  constructor
  · intro h j hj
    have := h j (by rw [S.len]; exact hj)
    rw [key j hj] at this; omega
  · intro h i hi
    rw [S.len] at hi
    rw [key i hi, h i hi]; omega
/-- no pivot: the columns are dependent -/
theorem no_pivot (S : Sys L m C b R0) (hl : R.length = L) (hk : ∀ z, Ke m R z ↔ Ke m R0 z) {c : Nat} (hc : c < m) (hcl : c ≤ L) (hd : Dg c R) (h0 : ∀ a, c ≤ a → a < L → en R a c = 0) : ∃ z : Nat → Int, (∃ k, k < m ∧ z k ≠ 0) ∧ ∀ j, j < L → sm m (fun k => z k * C k j) = 0 := by
  let z : Nat → Int := fun j => if j < c then -(en R j c) * (dp R c / en R j j) else if j = c then dp R c else 0
  have zc : z c = dp R c := by simp [z]
  refine ⟨z, ⟨c, hc, by rw [zc]; exact dp_ne fun i hi => diag hd hi (by omega)⟩, ?_⟩
  have : Ke m R0 (fun j => if j < m then z j else -0) := by
    rw [← hk]
    intro i hi
    rw [hl] at hi
    have e0 : ∀ j, j < m + 1 → en R i j * (if j < m then z j else -0) = en R i j * z j := by
      intro j hj
      split
      · rfl
      · have : z j = 0 := by simp only [z]; rw [if_neg (by omega), if_neg (by omega)]
        rw [this]; rfl
    rw [sm_congr e0, sm_split (c := c) (by omega) (fun j h1 h2 => by simp only [z]; rw [if_neg (by omega), if_neg (by omega), Int.mul_zero]), zc]
    by_cases hic : i < c
    · rw [sm_one (i := i) hic (fun j hj hn => by rw [offd hd hj (by omega) (fun e => hn e.symm), Int.zero_mul])]
      have zi : z i = -(en R i c) * (dp R c / en R i i) := by simp only [z]; rw [if_pos hic]
      have := dp_div (R := R) hic
      rw [zi]
      calc en R i i * (-en R i c * (dp R c / en R i i)) + en R i c * dp R c = -en R i c * (en R i i * (dp R c / en R i i)) + en R i c * dp R c := by grind
        _ = 0 := by rw [this]; grind
    · rw [sm_zero fun j hj => by rw [offd hd hj (by omega) (by omega), Int.zero_mul], h0 i (by omega) hi]; simp
  have := (ke_sys S).mp this
  intro j hj
  rw [this j hj]; simp
/-- a rest that is not nought: no solution -/
theorem no_sol (S : Sys L m C b R0) (hl : R.length = L) (hk : ∀ z, Ke m R z ↔ Ke m R0 z) (hd : Dg m R) {a : Nat} (ha : m ≤ a) (hal : a < L) (h0 : en R a m ≠ 0) {z : Nat → Int} {s : Int} (h : ∀ j, j < L → sm m (fun k => z k * C k j) = s * b j) : s = 0 := by
  have := (hk _).mpr ((ke_sys S).mpr h) a (by omega)
  rw [sm, sm_zero fun j hj => by rw [offd hd hj (by omega) (by omega), Int.zero_mul], if_neg (by omega), Int.zero_add] at this
  rcases Int.mul_eq_zero.mp this with h | h
  · exact absurd h h0
  · omega
/-- all rests nought: the one solution -/
theorem the_sol (S : Sys L m C b R0) (hl : R.length = L) (hk : ∀ z, Ke m R z ↔ Ke m R0 z) (hm : m ≤ L) (hd : Dg m R) (h0 : ∀ a, m ≤ a → a < L → en R a m = 0) :
    (∀ z : Nat → Int, (∀ j, j < L → sm m (fun k => z k * C k j) = 0) → ∀ k, k < m → z k = 0) ∧ ∃ (X : Nat → Int) (s : Int), s ≠ 0 ∧ (∀ j, j < L → sm m (fun k => X k * C k j) = s * b j) ∧ ∀ k, k < m → X k * en R k k = s * en R k m := by
  constructor
  · intro z h k hk'
    have h' : ∀ j, j < L → sm m (fun k => z k * C k j) = 0 * b j := fun j hj => by rw [h j hj]; simp
    have := (hk _).mpr ((ke_sys S).mpr h') k (by omega)
    rw [sm, sm_one (i := k) hk' (fun j hj hn => by rw [offd hd hj (by omega) (fun e => hn e.symm), Int.zero_mul]), if_pos hk', if_neg (by omega)] at this
    have d := diag hd hk' (by omega)
    have : en R k k * z k = 0 := by simpa using this
    rcases Int.mul_eq_zero.mp this with h | h
    · exact absurd h d
    · exact h
  · refine ⟨fun k => en R k m * (dp R m / en R k k), dp R m, dp_ne fun i hi => diag hd hi (by omega), (ke_sys S).mp ((hk _).mp ?_), fun k hk' => ?_⟩
    · intro i hi
      rw [hl] at hi
      rw [sm]
      dsimp only
      rw [if_neg (by omega : ¬ m < m)]
      by_cases him : i < m
      · rw [sm_one (i := i) him (fun j hj hn => by rw [offd hd hj (by omega) (fun e => hn e.symm), Int.zero_mul]), if_pos him]
        have := dp_div (R := R) him
        calc en R i i * (en R i m * (dp R m / en R i i)) + en R i m * -dp R m = en R i m * (en R i i * (dp R m / en R i i)) + en R i m * -dp R m := by grind
          _ = 0 := by rw [this]; grind
      · rw [sm_zero fun j hj => by rw [offd hd hj (by omega) (by omega), Int.zero_mul], h0 i (by omega) hi]; simp
    · have := dp_div (R := R) hk'
      calc en R k m * (dp R m / en R k k) * en R k k = en R k m * (en R k k * (dp R m / en R k k)) := by grind
        _ = dp R m * en R k m := by rw [this, Int.mul_comm]
end

/-! the law's own choice of rows -/
def T0 (C : Nat → Nat → Int) (p : List Nat) : Int := ((MI C p).natAbs : Int)
/-- the law's numbers over these rows -/
def TK (C : Nat → Nat → Int) (b : Nat → Int) (p : List Nat) (k : Nat) : Int := (if MI C p < 0 then -1 else 1) * DF p.length (up (fun a i => C a (pl p i)) k (fun i => b (pl p i)))
/-- they hold at each row -/
def Fit (L m : Nat) (C : Nat → Nat → Int) (b : Nat → Int) (p : List Nat) : Prop := ∀ j, j < L → sm m (fun k => TK C b p k * C k j) = T0 C p * b j
section
variable {L m : Nat} {C : Nat → Nat → Int} {b : Nat → Int} {p : List Nat}
theorem t0_eq : T0 C p = (if MI C p < 0 then -1 else 1) * MI C p := by unfold T0; split <;> omega
theorem asc_lt : ∀ {p : List Nat}, Asc L p → ∀ i, i < p.length → pl p i < L
  | [], _, i, h => by simp at h
  | a :: r, h, 0, _ => h.1
  | a :: r, h, i + 1, hi => asc_lt (p := r) h.2.1 i (by simpa using hi)
/-- dependent columns: no choice of rows -/
theorem dep_none (hm : m ≤ 4) {z : Nat → Int} (hz : ∃ k, k < m ∧ z k ≠ 0) (h : ∀ j, j < L → sm m (fun k => z k * C k j) = 0) (hp : Asc L p) (hl : p.length = m) : MI C p = 0 := by
  refine Classical.byContradiction fun hd => ?_
  obtain ⟨k, hk, hn⟩ := hz
  exact hn (ker0 (n := m) hm (fun a i => C a (pl p i)) z (fun i hi => h _ (asc_lt hp i (by omega))) (by have := hd; unfold MI at this; rwa [hl] at this) k hk)
theorem on_rows (hm : m ≤ 4) (hl : p.length = m) {i : Nat} (hi : i < m) : sm m (fun k => TK C b p k * C k (pl p i)) = T0 C p * b (pl p i) := by
  have := cramer (n := m) hm (fun a i => C a (pl p i)) (fun i => b (pl p i)) i hi
  rw [t0_eq]
  have e : sm m (fun k => TK C b p k * C k (pl p i)) = (if MI C p < 0 then -1 else 1) * sm m (fun k => C k (pl p i) * DF m (up (fun a i => C a (pl p i)) k (fun i => b (pl p i)))) := by
    rw [← sm_mul]
    refine sm_congr fun k hk => ?_
    unfold TK
    rw [hl, Int.mul_assoc, Int.mul_comm (DF _ _)]
  rw [e, this, Int.mul_assoc]
  have : MI C p = DF m (fun a i => C a (pl p i)) := by unfold MI; rw [hl]
  rw [this]
/-- the one solution is the law's, over any choice of rows with a determinant -/
theorem sol_fit (hm : m ≤ 4) (hp : Asc L p) (hl : p.length = m) (hd : MI C p ≠ 0) {X : Nat → Int} {s : Int} (hs : s ≠ 0) (h : ∀ j, j < L → sm m (fun k => X k * C k j) = s * b j) : Fit L m C b p ∧ ∀ k, k < m → s * TK C b p k = T0 C p * X k := by
  have e : ∀ k, k < m → s * TK C b p k - T0 C p * X k = 0 := by
    refine ker0 (n := m) hm (fun a i => C a (pl p i)) (fun k => s * TK C b p k - T0 C p * X k) (fun i hi => ?_) (by have := hd; unfold MI at this; rwa [hl] at this)
    have h1 := on_rows (C := C) (b := b) hm hl hi
    have h2 := h _ (asc_lt hp i (by omega))
    have : sm m (fun k => (s * TK C b p k - T0 C p * X k) * C k (pl p i)) = s * sm m (fun k => TK C b p k * C k (pl p i)) + (-T0 C p) * sm m (fun k => X k * C k (pl p i)) := by
      rw [← sm_mul, ← sm_mul, ← sm_add]
      exact sm_congr fun k _ => by grind
    rw [this, h1, h2]; grind
  refine ⟨fun j hj => ?_, fun k hk => by have := e k hk; omega⟩
  have h2 := h j hj
  have : s * sm m (fun k => TK C b p k * C k j) = T0 C p * sm m (fun k => X k * C k j) := by
    rw [← sm_mul, ← sm_mul]
    exact sm_congr fun k hk => by have := e k hk; grind
  rw [h2] at this
  have : s * (sm m (fun k => TK C b p k * C k j) - T0 C p * b j) = 0 := by grind
  rcases Int.mul_eq_zero.mp this with q | q
  · exact absurd q hs
  · omega
end
end K01

set_option Elab.async false
set_option linter.all false
set_option maxRecDepth 100000
set_option exponentiation.threshold 10000
namespace K01
open PySem Mn Mn.S Mn.S.Tw Mn.S.Tx
def LL : Nat := 30000
def NN : Nat := 200
def R (k : Nat) : Fns := run (T.map (·.d)) LL k
theorem R_eq {k f : Nat} {args : List MV} {d : FD} {v : MV × Bool} (h : (T.map (·.d))[f]? = some d) (hl : args.length = d.np) (w : W (R k) LL d.body (startM d.nn args) (fun fl => resOf fl = some v)) : R (k + 1) f args = some v := run_eq h hl w
theorem R_of {k f : Nat} {args : List MV} {d : FD} {P : MV × Bool → Prop} (h : (T.map (·.d))[f]? = some d) (hl : args.length = d.np) (w : W (R k) LL d.body (startM d.nn args) (fun fl => OB (resOf fl) P)) : OB (R (k + 1) f args) P := run_of h hl w

theorem HD : (T.map (·.d))[8]? = some ⟨2, 8, bdigits⟩ := rfl
theorem HC : (T.map (·.d))[7]? = some ⟨2, 4, bcell⟩ := rfl
theorem HS : (T.map (·.d))[10]? = some ⟨2, 3, bsame 10 6⟩ := rfl
theorem HW : (T.map (·.d))[6]? = some ⟨1, 1, bwhole⟩ := rfl
theorem R_cell {k : Nat} (hk : 1 ≤ k) (ns : List Int) (j : Int) (h0 : 0 ≤ j) (h1 : j < 1000000) : ∃ c, R k 7 [.lst (ns.map MV.int), .int j] = some (.int c, false) := cell_ok (L := LL) HC hk ns j h0 h1
theorem R_same {k : Nat} (d : MV) (hk : deep d + 2 ≤ k) (h : d.noLst = true) (f : fits d) : R k 10 [d, d] = some (.bl true, false) := by
  have := same_ok (L := LL) HS HW k d hk f
  rwa [tz_noLst d h] at this
theorem R_same_int {k : Nat} (hk : 2 ≤ k) (i : Int) : R k 10 [.int i, .int i] = some (.bl true, false) := R_same _ (by simpa [deep] using hk) rfl (by simp [fits, okSize])

theorem R_common {k : Nat} (hk : 1 ≤ k) (a b : Int) (ha : Bd a 10000) (hb : Bd b 10000) : R k 9 [.int a, .int b] = some (.int (Nat.gcd a.natAbs b.natAbs : Nat), false) := common_ok (f := 9) rfl hk a b ha hb (by decide)
/-- in lowest terms -/
def nr (a b : Int) : Int × Int := (a.fdiv (if b < 0 then -(Nat.gcd a.natAbs b.natAbs : Nat) else (Nat.gcd a.natAbs b.natAbs : Nat)), b.fdiv (if b < 0 then -(Nat.gcd a.natAbs b.natAbs : Nat) else (Nat.gcd a.natAbs b.natAbs : Nat)))
theorem gcd_bd {a b : Int} {n : Nat} (hb : Bd b n) (h : b ≠ 0) : Bd ((Nat.gcd a.natAbs b.natAbs : Nat) : Int) n := ⟨by
  rw [Int.natAbs_natCast]
  exact Nat.lt_of_le_of_lt (Nat.gcd_le_right _ (by omega)) hb.le⟩
theorem R_ratio {k : Nat} (hk : 1 ≤ k) {a b : Int} {m : Nat} [hb : Bd b m] (hm : m ≤ 9000) (h : b ≠ 0) : R k 0 [.int a, .int b] = some (.tup [.int (nr a b).1, .int (nr a b).2], false) := by
  obtain ⟨k, rfl⟩ : ∃ j, k = j + 1 := ⟨k - 1, by omega⟩
  refine R_eq (d := ⟨2, 3, b_ratio⟩) rfl rfl ?_
  have hg : ((Nat.gcd a.natAbs b.natAbs : Nat) : Int) ≠ 0 := by
    have := Nat.gcd_pos_of_pos_right a.natAbs (n := b.natAbs) (by omega)
    omega
  haveI hgb := gcd_bd (a := a) hb h
  have e1 : ∀ x : Int, binSem .fdiv (.int x) (.int (Nat.gcd a.natAbs b.natAbs : Nat)) = some (.int (x.fdiv (Nat.gcd a.natAbs b.natAbs : Nat)), .sh) := fun x => bin_fdiv hg hm
  have e2 : ∀ x : Int, binSem .fdiv (.int x) (.int (-(Nat.gcd a.natAbs b.natAbs : Nat))) = some (.int (x.fdiv (-(Nat.gcd a.natAbs b.natAbs : Nat))), .sh) := fun x => bin_fdiv (by omega) hm
  simp [b_ratio, startM]
  refine IF.dec (fun hl => ?_) (fun hl => ?_)
  · simp [e2, nr, hl]
  · simp [e1, nr, hl]
/-- two ways to tell one fraction -/
def Dn (a b : Int) : Int := if b < 0 then -(Nat.gcd a.natAbs b.natAbs : Nat) else (Nat.gcd a.natAbs b.natAbs : Nat)
theorem Dn_ne {a b : Int} (hb : b ≠ 0) : Dn a b ≠ 0 := by
  have := Nat.gcd_pos_of_pos_right a.natAbs (n := b.natAbs) (by omega)
  unfold Dn; split <;> omega
theorem Dn_dvd {a b : Int} : Dn a b ∣ a ∧ Dn a b ∣ b := by
  have d1 : ((Nat.gcd a.natAbs b.natAbs : Nat) : Int) ∣ a := Int.dvd_natAbs.mp (Int.ofNat_dvd.mpr (Nat.gcd_dvd_left _ _))
  have d2 : ((Nat.gcd a.natAbs b.natAbs : Nat) : Int) ∣ b := Int.dvd_natAbs.mp (Int.ofNat_dvd.mpr (Nat.gcd_dvd_right _ _))
  unfold Dn
  split
  · exact ⟨Int.neg_dvd.mpr d1, Int.neg_dvd.mpr d2⟩
  · exact ⟨d1, d2⟩
theorem Dn_mul {a b m : Int} (hb : b ≠ 0) (hm : m ≠ 0) : Dn (a * m) (b * m) = Dn a b * m := by
  unfold Dn
  rw [Int.natAbs_mul, Int.natAbs_mul, Nat.gcd_mul_right, Int.natCast_mul]
  generalize ((Nat.gcd a.natAbs b.natAbs : Nat) : Int) = g
  rcases Int.lt_trichotomy b 0 with h | h | h
  · rcases Int.lt_trichotomy m 0 with q | q | q
    · have : ¬ b * m < 0 := by have := Int.mul_pos_of_neg_of_neg h q; omega
      rw [if_neg this, if_pos h, show (m.natAbs : Int) = -m by omega]; grind
    · contradiction
    · have : b * m < 0 := Int.mul_neg_of_neg_of_pos h q
      rw [if_pos this, if_pos h, show (m.natAbs : Int) = m by omega]; grind
  · contradiction
  · rcases Int.lt_trichotomy m 0 with q | q | q
    · have : b * m < 0 := Int.mul_neg_of_pos_of_neg h q
      rw [if_pos this, if_neg (by omega), show (m.natAbs : Int) = -m by omega]; grind
    · contradiction
    · have : ¬ b * m < 0 := by have := Int.mul_pos h q; omega
      rw [if_neg this, if_neg (by omega), show (m.natAbs : Int) = m by omega]
theorem nr_Dn {a b : Int} : nr a b = (a.fdiv (Dn a b), b.fdiv (Dn a b)) := rfl
theorem nr_mul {a b m : Int} (hb : b ≠ 0) (hm : m ≠ 0) : nr (a * m) (b * m) = nr a b := by
  rw [nr_Dn, nr_Dn, Dn_mul hb hm]
  obtain ⟨⟨x, hx⟩, ⟨y, hy⟩⟩ := Dn_dvd (a := a) (b := b)
  have hD := Dn_ne (a := a) hb
  generalize Dn a b = D at hx hy hD
  have e : ∀ x : Int, (D * x * m).fdiv (D * m) = (D * x).fdiv D := fun x => by
    rw [show D * x * m = x * (D * m) by grind, Int.mul_fdiv_cancel _ (Int.mul_ne_zero hD hm), Int.mul_comm D x, Int.mul_fdiv_cancel _ hD]
  rw [hx, hy, e, e]
theorem nr_eq {a b c d : Int} (hb : b ≠ 0) (hd : d ≠ 0) (h : a * d = c * b) : nr a b = nr c d := by
  rw [← nr_mul hb hd, ← nr_mul (a := c) hd hb, h, Int.mul_comm b d]
end K01

set_option Elab.async false
set_option linter.all false
set_option maxRecDepth 100000
set_option exponentiation.threshold 10000
namespace K01
open PySem Mn Mn.S Mn.S.Tw Mn.S.Tx
/-- a row, a table as values -/
def rv (s : Bool) (r : List Int) : MV := pr s (r.map MV.int)
def tv (s0 s : Bool) (M : List (List Int)) : MV := pr s0 (M.map (rv s))
def Sq (n : Nat) (M : List (List Int)) : Prop := M.length = n ∧ ∀ r ∈ M, r.length = n
def EB (b : Nat) (M : List (List Int)) : Prop := ∀ r ∈ M, ∀ x ∈ r, Bd x b
def wo (r : List Int) (j : Nat) : List Int := r.take j ++ r.drop (j + 1)
def woT (M : List (List Int)) (j : Nat) : List (List Int) := (M.drop 1).map fun r => wo r j
theorem pr_to {s : Bool} {xs : List MV} {f : Nat} : slcSem (pr s xs) none (some (f : Int)) = some (pr s (xs.take f), if s then .fr else .sh) := by
  cases s <;> (simp only [pr, if_true, Bool.false_eq_true, if_false]; rw [slcSem, cut_to])
theorem pr_from {s : Bool} {xs : List MV} {f : Nat} : slcSem (pr s xs) (some (f : Int)) none = some (pr s (xs.drop f), if s then .fr else .sh) := by
  cases s <;> (simp only [pr, if_true, Bool.false_eq_true, if_false]; rw [slcSem, cut_from])
theorem pr_add {s : Bool} {a b : List MV} (h : a.length + b.length ≤ 4000000) : binSem .add (pr s a) (pr s b) = some (pr s (a ++ b), if s then .fr else .sh) := by
  cases s
  · exact bin_addT h
  · exact bin_addL h
theorem keep_pr {s : Bool} {v : MV} : keep (v, if s then .fr else .sh) = some v := by cases s <;> rfl
theorem en_get {M : List (List Int)} {i j n : Nat} (h : Sq n M) (hi : i < n) (hj : j < n) : ∃ r, M[i]? = some r ∧ r[j]? = some (en M i j) ∧ r ∈ M := by
  have hi' : i < M.length := by rw [h.1]; exact hi
  refine ⟨M[i], List.getElem?_eq_getElem hi', ?_, List.getElem_mem hi'⟩
  have hl := h.2 M[i] (List.getElem_mem hi')
  rw [List.getElem?_eq_getElem (by omega)]
  unfold en
  rw [List.getD_eq_getElem?_getD, List.getElem?_eq_getElem hi', Option.getD_some, gd_eq (by omega)]
theorem en_bd {M : List (List Int)} {i j n b : Nat} (h : Sq n M) (hb : EB b M) (hi : i < n) (hj : j < n) : Bd (en M i j) b := by
  obtain ⟨r, h1, h2, h3⟩ := en_get h hi hj
  exact hb r h3 _ (List.mem_of_getElem? h2)
theorem wo_len {r : List Int} {j n : Nat} (h : r.length = n + 1) (hj : j < n + 1) : (wo r j).length = n := by
  rw [wo, List.length_append, List.length_take, List.length_drop]; omega
theorem wo_get {r : List Int} {j n c : Nat} (h : r.length = n + 1) (hj : j < n + 1) (hc : c < n) : gd (wo r j) c = gd r (if c < j then c else c + 1) := by
  simp only [gd, List.getD_eq_getElem?_getD, wo]
  split
  · rw [List.getElem?_append_left (by rw [List.length_take]; omega), List.getElem?_take_of_lt (by omega)]
  · rw [List.getElem?_append_right (by rw [List.length_take]; omega), List.length_take, List.getElem?_drop]
    congr 2; omega
theorem woT_sq {M : List (List Int)} {n j : Nat} (h : Sq (n + 1) M) (hj : j < n + 1) : Sq n (woT M j) := by
  refine ⟨by rw [woT, List.length_map, List.length_drop, h.1]; omega, fun r hr => ?_⟩
  obtain ⟨q, hq, rfl⟩ := List.mem_map.mp hr
  exact wo_len (h.2 q (List.mem_of_mem_drop hq)) hj
theorem woT_eb {M : List (List Int)} {b j : Nat} (h : EB b M) : EB b (woT M j) := by
  intro r hr x hx
  obtain ⟨q, hq, rfl⟩ := List.mem_map.mp hr
  have hq' := List.mem_of_mem_drop hq
  rcases List.mem_append.mp hx with hx | hx
  · exact h q hq' x (List.mem_of_mem_take hx)
  · exact h q hq' x (List.mem_of_mem_drop hx)
theorem en_woT {M : List (List Int)} {n j i c : Nat} (h : Sq (n + 1) M) (hj : j < n + 1) (hi : i < n) (hc : c < n) : en (woT M j) i c = en M (i + 1) (if c < j then c else c + 1) := by
  have hi' : i + 1 < M.length := by rw [h.1]; omega
  unfold en
  rw [List.getD_eq_getElem?_getD, woT, List.getElem?_map, List.getElem?_drop, Nat.add_comm 1 i, List.getElem?_eq_getElem hi', List.getD_eq_getElem?_getD, List.getElem?_eq_getElem hi']
  exact wo_get (h.2 _ (List.getElem_mem hi')) hj hc
theorem DF_woT {M : List (List Int)} {n j : Nat} (h : Sq (n + 1) M) (hj : j < n + 1) : DF n (en (woT M j)) = DF n (fun i c => en M (i + 1) (if c < j then c else c + 1)) := DF_congr fun i c hi hc => en_woT h hj hi hc
theorem sm_bd {B : Nat} {f : Nat → Int} : ∀ {n : Nat}, n ≤ 4 → (∀ i, i < n → Bd (f i) B) → Bd (sm n f) (B + 2) := by
  have key : ∀ n : Nat, (∀ i, i < n → Bd (f i) B) → (sm n f).natAbs ≤ n * 2 ^ B := by
    intro n
    induction n with
    | zero => intro _; simp [sm]
    | succ n ih =>
      intro h
      have a := ih fun i hi => h i (by omega)
      have b := (h n (by omega)).le
      rw [sm, Nat.succ_mul]
      have := Int.natAbs_add_le (sm n f) (f n)
      omega
  intro n hn h
  rcases Nat.eq_zero_or_pos n with rfl | hp
  · exact ⟨by simp [sm]; exact Nat.two_pow_pos _⟩
  · refine ⟨?_⟩
    have b := (h (n - 1) (by omega)).le
    have c := (key (n - 1) fun i hi => h i (by omega))
    have : sm n f = sm (n - 1) f + f (n - 1) := by
      obtain ⟨m, rfl⟩ : ∃ m, n = m + 1 := ⟨n - 1, by omega⟩
      rfl
    have d := Int.natAbs_add_le (sm (n - 1) f) (f (n - 1))
    have e : (n - 1) * 2 ^ B ≤ 3 * 2 ^ B := Nat.mul_le_mul_right _ (by omega)
    rw [this, Nat.pow_add]
    omega
theorem sg_bd {j : Nat} : Bd (sg j) 1 := ⟨by unfold sg; split <;> decide⟩
theorem DF_bd : ∀ {n : Nat} {b : Nat} {f : Nat → Nat → Int}, n ≤ 4 → (∀ i j, i < n → j < n → Bd (f i j) b) → Bd (DF n f) (n * (b + 4) + 1)
  | 0, b, f, _, _ => ⟨by rw [DF, Nat.zero_mul]; decide⟩
  | n + 1, b, f, hn, h => by
    rw [DF]
    have := sm_bd (n := n + 1) (B := 1 + b + (n * (b + 4) + 1)) (f := fun j => sg j * f 0 j * DF n (fun i c => f (i + 1) (if c < j then c else c + 1))) hn (fun j hj => by
      have h1 := h 0 j (by omega) hj
      have h2 := DF_bd (n := n) (b := b) (f := fun i c => f (i + 1) (if c < j then c else c + 1)) (by omega) (fun i c hi hc => h (i + 1) _ (by omega) (by split <;> omega))
      exact Bd.mul (ha := Bd.mul (ha := sg_bd) (hb := h1)) (hb := h2))
    refine this.up ?_
    rw [Nat.succ_mul]; omega

theorem R_without {k : Nat} (hk : 1 ≤ k) (s0 s : Bool) {n : Nat} (hn : n ≤ 8) {M : List (List Int)} (h : Sq (n + 1) M) (j : Nat) (hj : j ≤ 8) : R k 1 [tv s0 s M, .int j] = some (.lst ((woT M j).map (rv s)), true) := by
  obtain ⟨k, rfl⟩ : ∃ j, k = j + 1 := ⟨k - 1, by omega⟩
  refine R_eq (d := ⟨2, 3, b__without⟩) rfl rfl ?_
  have e1 : slcSem (pr s0 (M.map (rv s))) (some 1) none = some (pr s0 ((M.map (rv s)).drop 1), if s0 then .fr else .sh) := pr_from (f := 1)
  have e2 : evI (R k) (.seq (.slc (.var 0) (some (.lit (.int 1))) none)) [some (tv s0 s M, false), some (.int j, false), none] = some ((M.map (rv s)).drop 1, if s0 then .fr else .sh) := by
    simp [tv, e1]
  have c := comp_pt (Φ := R k) (σ := [some (tv s0 s M, false), some (.int j, false), none]) (elt := .bin .add (.slc (.var 2) none (some (.var 1))) (.slc (.var 2) (some (.bin .add (.var 1) (.lit (.int 1)))) none)) (tg := .nm 2) (it := .seq (.slc (.var 0) (some (.lit (.int 1))) none)) (ifs := []) ((woT M j).map (rv s)) e2 (by simp [woT]) (by simp [h.1]; omega) (by
    intro i x y hx hy
    rw [List.getElem?_drop, List.getElem?_map] at hx
    rw [woT, List.map_map, List.getElem?_map, List.getElem?_drop] at hy
    cases hr : M[1 + i]? with
    | none => rw [hr] at hx; cases hx
    | some r =>
      rw [hr] at hx hy
      cases hx; cases hy
      have hl := h.2 r (List.mem_of_getElem? hr)
      have a1 := pr_to (s := s) (xs := r.map MV.int) (f := j)
      have a2 := pr_from (s := s) (xs := r.map MV.int) (f := j + 1)
      rw [Int.natCast_add, Int.natCast_one] at a2
      have a3 := pr_add (s := s) (a := (r.map MV.int).take j) (b := (r.map MV.int).drop (j + 1)) (by simp; omega)
      simp only [← List.map_take, ← List.map_drop, ← List.map_append] at a1 a2 a3
      simp [turn1, rv, a1, a2, a3, keep_pr, wo, -List.map_take, -List.map_drop, -List.map_append])
  simp [b__without, startM, c]

theorem tv_len {s0 s : Bool} {M : List (List Int)} : biSem .len [tv s0 s M] = some (.int M.length, .sh) := by rw [tv, pr_len, List.length_map]
theorem tv_at {s0 s : Bool} {M : List (List Int)} {i j n : Nat} (h : Sq n M) (hi : i < n) (hj : j < n) : ∃ r, idxSem (tv s0 s M) (.int (i : Int)) = some (rv s r) ∧ idxSem (rv s r) (.int (j : Int)) = some (.int (en M i j)) := by
  obtain ⟨r, h1, h2, h3⟩ := en_get h hi hj
  refine ⟨r, ?_, ?_⟩
  · rw [tv, pr_idx, atM_nat, List.getElem?_map, h1]; rfl
  · rw [rv, pr_idx, atM_nat, List.getElem?_map, h2]; rfl
/-- one row of a square table -/
theorem tv_row {s0 s : Bool} {M : List (List Int)} {i n : Nat} (h : Sq n M) (hi : i < n) : ∃ r, idxSem (tv s0 s M) (.int (i : Int)) = some (rv s r) ∧ ∀ j, j < n → idxSem (rv s r) (.int (j : Int)) = some (.int (en M i j)) := by
  have hi' : i < M.length := by rw [h.1]; exact hi
  have hl := h.2 M[i] (List.getElem_mem hi')
  refine ⟨M[i], ?_, fun j hj => ?_⟩
  · rw [tv, pr_idx, atM_nat, List.getElem?_map, List.getElem?_eq_getElem hi']; rfl
  · rw [rv, pr_idx, atM_nat, List.getElem?_map, List.getElem?_eq_getElem (by omega : j < M[i].length)]
    unfold en
    rw [List.getD_eq_getElem?_getD, List.getElem?_eq_getElem hi', Option.getD_some, gd_eq (by omega)]; rfl
theorem sg_succ {j : Nat} : sg (j + 1) = -sg j := by unfold sg; split <;> split <;> omega
theorem lst_tv {s : Bool} {M : List (List Int)} : MV.lst (M.map (rv s)) = tv true s M := rfl

theorem R_det : ∀ (n : Nat) {k b : Nat} (s0 s : Bool) {M : List (List Int)}, 1 ≤ n → n ≤ 4 → b ≤ 3000 → Sq n M → EB b M → n + 2 ≤ k → R k 2 [tv s0 s M] = some (.int (DF n (en M)), false) := by
  intro n
  induction n with
  | zero => intro k b s0 s M h; omega
  | succ n ih =>
    intro k b s0 s M _ hn hb h he hk
    obtain ⟨k, rfl⟩ : ∃ j, k = j + 1 := ⟨k - 1, by omega⟩
    have hl : M.length = n + 1 := h.1
    have len := tv_len (s0 := s0) (s := s) (M := M)
    rw [hl] at len
    obtain ⟨r0, q0, q1⟩ := tv_row (s0 := s0) (s := s) (i := 0) h (by omega)
    have q0' : idxSem (tv s0 s M) (.int 0) = some (rv s r0) := q0
    have q10 : idxSem (rv s r0) (.int 0) = some (.int (en M 0 0)) := q1 0 (by omega)
    refine R_eq (d := ⟨1, 4, b_determinant⟩) rfl rfl ?_
    rcases (by omega : n = 0 ∨ n = 1 ∨ 2 ≤ n) with rfl | rfl | hn2
    · simp (decide := true) [b_determinant, startM, len, q0', q10, DF1]
    · obtain ⟨r1, p0, p1⟩ := tv_row (s0 := s0) (s := s) (i := 1) h (by omega)
      have p0' : idxSem (tv s0 s M) (.int 1) = some (rv s r1) := p0
      have p10 : idxSem (rv s r1) (.int 0) = some (.int (en M 1 0)) := p1 0 (by omega)
      have p11 : idxSem (rv s r1) (.int 1) = some (.int (en M 1 1)) := p1 1 (by omega)
      have q11 : idxSem (rv s r0) (.int 1) = some (.int (en M 0 1)) := q1 1 (by omega)
      haveI := (en_bd h he (i := 0) (j := 0) (by omega) (by omega)).up hb
      haveI := (en_bd h he (i := 0) (j := 1) (by omega) (by omega)).up hb
      haveI := (en_bd h he (i := 1) (j := 0) (by omega) (by omega)).up hb
      haveI := (en_bd h he (i := 1) (j := 1) (by omega) (by omega)).up hb
      simp (decide := true) [b_determinant, startM, len, q0', q10, q11, p0', p10, p11, DF2]
    · obtain ⟨N1, hN1⟩ : ∃ N1, N1 = n + 1 := ⟨_, rfl⟩
      rw [← hN1] at len
      have hr := rngOk_n (n := N1) (by omega)
      have l1 : ¬ (N1 : Int) = 1 := by omega
      have l2 : ¬ (N1 : Int) = 2 := by omega
      refine W.split 4 (fun σ => σ = [some (tv s0 s M, false), some (.int 0, false), some (.int 1, false), none]) ?_ ?_
      · simp (decide := true) only [b_determinant, startM, List.take_succ_cons, List.take_zero, List.map_cons, List.map_nil, List.length_cons, List.length_nil, List.replicate, List.cons_append, List.nil_append]
        simp [len, l1, l2]
      · rintro σ rfl
        simp only [b_determinant, List.drop_succ_cons, List.drop_zero]
        refine W.for (rngM 0 N1) (fun i σ => ∃ z, σ = [some (tv s0 s M, false), some (.int (sm i fun j => sg j * en M 0 j * DF n (fun i c => en M (i + 1) (if c < j then c else c + 1))), false), some (.int (sg i), false), z]) (by simp [len, hr]) ⟨none, by simp [sm, sg]⟩ ?_ ?_
        · rintro i v σ hv ⟨z, rfl⟩
          obtain ⟨hi, rfl⟩ := rngM_at hv
          rw [hN1] at hi
          have e1 := q1 i hi
          have e2 := R_without (k := k) (by omega) s0 s (n := n) (by omega) h i (by omega)
          have e3 := ih (k := k) (b := b) true s (M := woT M i) (by omega) (by omega) hb (woT_sq h hi) (woT_eb he) (by omega)
          rw [DF_woT h hi] at e3
          rw [← lst_tv] at e3
          haveI := (en_bd h he (i := 0) (j := i) (by omega) hi).up hb
          haveI := sg_bd (j := i)
          have bD := DF_bd (n := n) (b := b) (f := fun a c => en M (a + 1) (if c < i then c else c + 1)) (by omega) (fun a c ha hc => en_bd h he (by omega) (by split <;> omega))
          haveI := bD.up (show n * (b + 4) + 1 ≤ 20000 by
            have : n * (b + 4) ≤ 4 * (b + 4) := Nat.mul_le_mul_right _ (by omega)
            omega)
          rw [sm, sg_succ]
          by_cases h0 : en M 0 i = 0
          · rw [h0] at e1
            simp (decide := true) [q0', e1, h0]
          · simp (decide := true) [q0', e1, h0, e2, e3, Mn.freeOf, MV.noLst]
        · rintro σ ⟨z, rfl⟩
          simp [DF, hN1]
theorem R_ldet : ∀ (n : Nat) {k b : Nat} (s : Bool) {M : List (List Int)}, n ≤ 4 → b ≤ 3000 → Sq n M → EB b M → n + 1 ≤ k → R k 11 [tv true s M] = some (.int (DF n (en M)), false) := by
  intro n
  induction n with
  | zero =>
    intro k b s M _ hb h he hk
    obtain ⟨k, rfl⟩ : ∃ j, k = j + 1 := ⟨k - 1, by omega⟩
    have len := tv_len (s0 := true) (s := s) (M := M)
    rw [h.1] at len
    refine R_eq (d := ⟨1, 5, b__law_det⟩) rfl rfl ?_
    simp [b__law_det, startM, len, DF]
  | succ n ih =>
    intro k b s M hn hb h he hk
    obtain ⟨k, rfl⟩ : ∃ j, k = j + 1 := ⟨k - 1, by omega⟩
    have hl : M.length = n + 1 := h.1
    have len := tv_len (s0 := true) (s := s) (M := M)
    rw [hl] at len
    obtain ⟨r0, q0, q1⟩ := tv_row (s0 := true) (s := s) (i := 0) h (by omega)
    have q0' : idxSem (tv true s M) (.int 0) = some (rv s r0) := q0
    obtain ⟨N1, hN1⟩ : ∃ N1, N1 = n + 1 := ⟨_, rfl⟩
    rw [← hN1] at len
    have hr := rngOk_n (n := N1) (by omega)
    have l1 : ¬ (N1 : Int) = 0 := by omega
    have l1' : ¬ N1 = 0 := by omega
    refine R_eq (d := ⟨1, 5, b__law_det⟩) rfl rfl ?_
    refine W.split 2 (fun σ => σ = [some (tv true s M, false), some (.int 0, false), none, none, none]) ?_ ?_
    · simp (decide := true) only [b__law_det, startM, List.take_succ_cons, List.take_zero, List.map_cons, List.map_nil, List.length_cons, List.length_nil, List.replicate, List.cons_append, List.nil_append]
      simp [len, l1, l1']
    · rintro σ rfl
      simp only [b__law_det, List.drop_succ_cons, List.drop_zero]
      refine W.for (rngM 0 N1) (fun i σ => ∃ z y, σ = [some (tv true s M, false), some (.int (sm i fun j => sg j * en M 0 j * DF n (fun i c => en M (i + 1) (if c < j then c else c + 1))), false), z, y, none]) (by simp [len, hr]) ⟨none, none, by simp [sm]⟩ ?_ ?_
      · rintro i v σ hv ⟨z, y, rfl⟩
        obtain ⟨hi, rfl⟩ := rngM_at hv
        rw [hN1] at hi
        have e1 := q1 i hi
        have e3 := ih (k := k) (b := b) s (M := woT M i) (by omega) hb (woT_sq h hi) (woT_eb he) (by omega)
        rw [DF_woT h hi] at e3
        rw [← lst_tv] at e3
        haveI := (en_bd h he (i := 0) (j := i) (by omega) hi).up hb
        have hsg : (1 : Int) - 2 * ((i : Int) % 2) = sg i := by unfold sg; split <;> omega
        haveI := sg_bd (j := i)
        have bD := DF_bd (n := n) (b := b) (f := fun a c => en M (a + 1) (if c < i then c else c + 1)) (by omega) (fun a c ha hc => en_bd h he (by omega) (by split <;> omega))
        haveI := bD.up (show n * (b + 4) + 1 ≤ 20000 by
          have : n * (b + 4) ≤ 4 * (b + 4) := Nat.mul_le_mul_right _ (by omega)
          omega)
        haveI : Bd ((i : Int) % 2) 2 := Bd.rng (by omega) (by omega)
        rw [sm]
        by_cases h0 : en M 0 i = 0
        · rw [h0] at e1
          simp (decide := true) [q0', e1, h0]
        · have a0 : slcSem (tv true s M) (some 1) none = some (.lst ((M.map (rv s)).drop 1), .fr) := slc_from (f := 1)
          have c := fun S => comp_pt (Φ := R k) (σ := [some (tv true s M, false), some (.int S, false), some (.int i, false), y, none]) (elt := .bin .add (.slc (.var 4) none (some (.var 2))) (.slc (.var 4) (some (.bin .add (.var 2) (.lit (.int 1)))) none)) (tg := .nm 4) (it := .seq (.slc (.var 0) (some (.lit (.int 1))) none)) (ifs := []) ((woT M i).map (rv s)) (t := .fr) (xs := (M.map (rv s)).drop 1) (by simp [a0]) (by simp [woT]) (by simp [hl]; omega) (by
            intro q x y hx hy
            rw [List.getElem?_drop, List.getElem?_map] at hx
            rw [woT, List.map_map, List.getElem?_map, List.getElem?_drop] at hy
            cases hr : M[1 + q]? with
            | none => rw [hr] at hx; cases hx
            | some r =>
              rw [hr] at hx hy
              cases hx; cases hy
              have hl := h.2 r (List.mem_of_getElem? hr)
              have a1 := pr_to (s := s) (xs := r.map MV.int) (f := i)
              have a2 := pr_from (s := s) (xs := r.map MV.int) (f := i + 1)
              rw [Int.natCast_add, Int.natCast_one] at a2
              have a3 := pr_add (s := s) (a := (r.map MV.int).take i) (b := (r.map MV.int).drop (i + 1)) (by simp; omega)
              simp only [← List.map_take, ← List.map_drop, ← List.map_append] at a1 a2 a3
              simp [turn1, rv, a1, a2, a3, keep_pr, wo, -List.map_take, -List.map_drop, -List.map_append])
          simp (decide := true) [q0', e1, h0, c, e3, hsg, Mn.freeOf, MV.noLst]
      · rintro σ ⟨z, y, rfl⟩
        simp [DF, hN1]
end K01

set_option Elab.async false
set_option linter.all false
set_option maxRecDepth 100000
set_option exponentiation.threshold 10000
namespace K01
open PySem Mn Mn.S Mn.S.Tw Mn.S.Tx
/-- one row of a table -/
theorem tr_row {s0 s : Bool} {m : Nat} {M : List (List Int)} {i : Nat} (h : Wd m M) (hi : i < M.length) : ∃ r, M[i]? = some r ∧ M.getD i [] = r ∧ r.length = m + 1 ∧ idxSem (tv s0 s M) (.int (i : Int)) = some (rv s r) ∧ ∀ j, j < m + 1 → idxSem (rv s r) (.int (j : Int)) = some (.int (en M i j)) := by
  have hl := h M[i] (List.getElem_mem hi)
  have hg : M.getD i [] = M[i] := by rw [List.getD_eq_getElem?_getD, List.getElem?_eq_getElem hi, Option.getD_some]
  refine ⟨M[i], List.getElem?_eq_getElem hi, hg, hl, ?_, fun j hj => ?_⟩
  · rw [tv, pr_idx, atM_nat, List.getElem?_map, List.getElem?_eq_getElem hi]; rfl
  · rw [rv, pr_idx, atM_nat, List.getElem?_map, List.getElem?_eq_getElem (by omega : j < M[i].length)]
    unfold en
    rw [hg, gd_eq (by omega)]; rfl
theorem en_bdw {m b : Nat} {M : List (List Int)} (h : Wd m M) (he : EB b M) {i j : Nat} (hi : i < M.length) (hj : j < m + 1) : Bd (en M i j) b := by
  have hl := h M[i] (List.getElem_mem hi)
  have hg : M.getD i [] = M[i] := by rw [List.getD_eq_getElem?_getD, List.getElem?_eq_getElem hi, Option.getD_some]
  refine he M[i] (List.getElem_mem hi) _ ?_
  unfold en
  rw [hg, gd_eq (by omega)]; exact List.getElem_mem _
theorem R_pivot {k : Nat} (hk : 1 ≤ k) {m c : Nat} {M : List (List Int)} (h : Wd m M) (hl : M.length ≤ 1000) (hc : c < m + 1) (hcl : c ≤ M.length) :
    (∃ a, c ≤ a ∧ a < M.length ∧ en M a c ≠ 0 ∧ R k 3 [tv true true M, .int c] = some (.int a, false)) ∨ ((∀ a, c ≤ a → a < M.length → en M a c = 0) ∧ R k 3 [tv true true M, .int c] = some (.non, false)) := by
  obtain ⟨k, rfl⟩ : ∃ j, k = j + 1 := ⟨k - 1, by omega⟩
  have key : OB (R (k + 1) 3 [tv true true M, .int c]) (fun v => (∃ a : Nat, c ≤ a ∧ a < M.length ∧ en M a c ≠ 0 ∧ v = (.int a, false)) ∨ ((∀ a, c ≤ a → a < M.length → en M a c = 0) ∧ v = (.non, false))) := by
    have len := tv_len (s0 := true) (s := true) (M := M)
    refine R_of (d := ⟨2, 3, b__pivot⟩) rfl rfl ?_
    simp only [b__pivot, startM, List.map_cons, List.map_nil, List.length_cons, List.length_nil, List.replicate, List.cons_append, List.nil_append]
    refine W.for (rngM c (M.length - c)) (fun i σ => (∀ a, c ≤ a → a < c + i → en M a c = 0) ∧ ∃ z, σ = [some (tv true true M, false), some (.int c, false), z]) ?_ ⟨fun a h1 h2 => by omega, none, rfl⟩ ?_ ?_
    · have h1 := rngOk_n (n := c) (by omega)
      have h2 := rngOk_n (n := M.length) (by omega)
      simp [len, rg2_ok, show -4611686018427387904 ≤ (c : Int) by omega, show (c : Int) < 4611686018427387904 by omega, show -4611686018427387904 ≤ (M.length : Int) by omega, show (M.length : Int) < 4611686018427387904 by omega]
    · rintro i v σ hv ⟨h0, z, rfl⟩
      obtain ⟨hi, rfl⟩ := rngM_at hv
      obtain ⟨r, _, _, _, e1, e2⟩ := tr_row (s0 := true) (s := true) (i := c + i) h (by omega)
      have e2' := e2 c hc
      rw [Int.natCast_add] at e1
      by_cases hz : en M (c + i) c = 0
      · simp (decide := true) [e1, e2', hz]
        intro a h1 h2
        by_cases he : a = c + i
        · rw [he]; exact hz
        · exact h0 a h1 (by omega)
      · simp (decide := true) [e1, e2', hz]
        refine ⟨c + i, by omega, by omega, hz, by omega⟩
    · rintro σ ⟨h0, z, rfl⟩
      rw [rngM_len] at h0
      simp
      exact fun a h1 h2 => h0 a h1 (by omega)
  obtain ⟨v, e, q | q⟩ := key
  · obtain ⟨a, h1, h2, h3, rfl⟩ := q
    exact Or.inl ⟨a, h1, h2, h3, e⟩
  · obtain ⟨h1, rfl⟩ := q
    exact Or.inr ⟨h1, e⟩
theorem R_cleared {k : Nat} (hk : 1 ≤ k) {m c b : Nat} {M : List (List Int)} (h : Wd m M) (hl : M.length ≤ 4) (hm : m ≤ 4) (hc : c < m + 1) (hcl : c < M.length) (hb : b ≤ 3000) (he : EB b M) : R k 4 [tv true true M, .int c] = some (tv true true (clr M c), true) := by
  obtain ⟨k, rfl⟩ : ∃ j, k = j + 1 := ⟨k - 1, by omega⟩
  have len := tv_len (s0 := true) (s := true) (M := M)
  have hr := rngOk_n (n := M.length) (by omega)
  obtain ⟨ld, _, g0, l0, c1, c2⟩ := tr_row (s0 := true) (s := true) (i := c) h hcl
  refine R_eq (d := ⟨2, 7, b__cleared⟩) rfl rfl ?_
  refine W.split 2 (fun σ => σ = [some (tv true true M, false), some (.int c, false), some (rv true ld, false), some (.lst [], true), none, none, none]) ?_ ?_
  · simp [b__cleared, startM, c1]
  · rintro σ rfl
    simp only [b__cleared, List.drop_succ_cons, List.drop_zero]
    refine W.for (rngM 0 M.length) (fun i σ => ∃ z y, σ = [some (tv true true M, false), some (.int c, false), some (rv true ld, false), some (.lst (((clr M c).take i).map (rv true)), true), z, y, none]) (by simp [len, hr]) ⟨none, none, by simp⟩ ?_ ?_
    · rintro i v σ hv ⟨z, y, rfl⟩
      obtain ⟨hi, rfl⟩ := rngM_at hv
      obtain ⟨r, gi, gr, lr, e1, e2⟩ := tr_row (s0 := true) (s := true) (i := i) h hi
      have e2c := e2 c hc
      have ht : (clr M c).take (i + 1) = (clr M c).take i ++ [if i = c ∨ gd r c = 0 then r else crow ld r c] := by
        rw [List.take_add_one]
        congr 1
        rw [clr, List.getElem?_map, List.getElem?_range hi, Option.map_some, gr, g0]; rfl
      have gc : en M i c = gd r c := by unfold en; rw [gr]
      have hz : ((clr M c).take i).length < SZ := by
        refine SZ_gt ?_
        rw [List.length_take]; omega
      rw [ht]
      generalize ((clr M c).take i) = T at hz
      have hii : ((i : Int) = (c : Int)) = (i = c) := propext Int.ofNat_inj
      by_cases hic : i = c
      · subst hic
        simp only [true_or, if_true]
        simp (decide := true) [e1, hz, MV.noLst]
      · by_cases h0 : en M i c = 0
        · have h0' := h0
          rw [gc] at h0'
          rw [if_pos (Or.inr h0')]
          simp (decide := true) [e1, e2c, hz, hic, h0, hii, MV.noLst]
        · have h0' := h0
          rw [gc] at h0'
          rw [if_neg (by rintro (q | q); exact hic q; exact h0' q)]
          have lrr : biSem .len [rv true r] = some (.int r.length, .sh) := by rw [rv, pr_len, List.length_map]
          have hrr := rngOk_n (n := r.length) (by omega)
          have c2c := c2 c hc
          have hB := fun i j (hi : i < M.length) (hj : j < m + 1) => (en_bdw h he hi hj).up hb
          have c := comp_pt (Φ := R k) (σ := [some (tv true true M, false), some (.int c, false), some (rv true ld, false), some (.lst (T.map (rv true)), true), some (.int i, false), some (rv true r, false), none]) (elt := .bin .sub (.bin .mul (.idx (.var 2) (.var 1)) (.idx (.var 5) (.var 6))) (.bin .mul (.idx (.var 5) (.var 1)) (.idx (.var 2) (.var 6)))) (tg := .nm 6) (it := .rng1 (.bi .len [.var 5])) (ifs := []) (xs := rngM 0 r.length) (t := .sh) ((crow ld r c).map MV.int) (by simp [lrr, hrr]) (by simp [crow, rngM_len]) (by rw [rngM_len]; omega) (by
            intro j x y hx hy
            obtain ⟨hj, rfl⟩ := rngM_at hx
            rw [List.getElem?_map, crow, List.getElem?_map, List.getElem?_range hj] at hy
            cases hy
            have e2j := e2 j (by omega)
            have c2j := c2 j (by omega)
            have p1 : en M c c = gd ld c := by unfold en; rw [g0]
            have p2 : en M i j = gd r j := by unfold en; rw [gr]
            have p3 : en M c j = gd ld j := by unfold en; rw [g0]
            haveI := hB i c hi hc
            haveI := hB i j hi (by omega)
            haveI := hB c c hcl hc
            haveI := hB c j hcl (by omega)
            simp [turn1, c2c, e2c, e2j, c2j]
            rw [← p1, ← p2, ← p3, ← gc])
          simp (decide := true) [e1, e2c, hz, hic, h0, hii, MV.noLst, c]
          rfl
    · rintro σ ⟨z, y, rfl⟩
      have : (clr M c).take (rngM 0 M.length).length = clr M c := by rw [rngM_len, ← clr_len (R := M) (c := c), List.take_length]
      rw [this]
      simp [tv, pr]
end K01

set_option Elab.async false
set_option linter.all false
set_option maxRecDepth 100000
set_option exponentiation.threshold 10000
namespace K01
open PySem Mn Mn.S Mn.S.Tw Mn.S.Tx
def tab0 (cols : List (List Int)) (tg : List Int) : List (List Int) := (List.range tg.length).map fun i => cols.map (fun c => gd c i) ++ [gd tg i]
def cl (cols : List (List Int)) (k j : Nat) : Int := gd (cols.getD k []) j
theorem tab0_get {cols : List (List Int)} {tg : List Int} {i : Nat} (hi : i < tg.length) : (tab0 cols tg).getD i [] = cols.map (fun c => gd c i) ++ [gd tg i] := by
  rw [List.getD_eq_getElem?_getD, tab0, List.getElem?_map, List.getElem?_range hi]; rfl
theorem tab0_sys {cols : List (List Int)} {tg : List Int} : Sys tg.length cols.length (cl cols) (gd tg) (tab0 cols tg) where
  len := by simp [tab0]
  col := fun i hi j hj => by
    unfold en
    rw [tab0_get hi, gd, List.getD_eq_getElem?_getD, List.getElem?_append_left (by simpa using hj), List.getElem?_map, List.getElem?_eq_getElem hj]
    unfold cl
    rw [List.getD_eq_getElem?_getD, List.getElem?_eq_getElem hj]; rfl
  tgt := fun i hi => by
    unfold en
    rw [tab0_get hi, gd, List.getD_eq_getElem?_getD, List.getElem?_append_right (by simp)]
    simp
theorem tab0_wd {cols : List (List Int)} {tg : List Int} : Wd cols.length (tab0 cols tg) := by
  intro r hr
  obtain ⟨i, hi, rfl⟩ := List.mem_map.mp hr
  simp
def EL (b : Nat) (l : List Int) : Prop := ∀ x ∈ l, Bd x b
theorem gd_bd {b : Nat} {l : List Int} (h : EL b l) {i : Nat} (hi : i < l.length) : Bd (gd l i) b := by
  rw [gd_eq hi]; exact h _ (List.getElem_mem hi)
theorem tab0_eb {b : Nat} {cols : List (List Int)} {tg : List Int} (h1 : EB b cols) (h2 : EL b tg) (h3 : ∀ c ∈ cols, c.length = tg.length) : EB b (tab0 cols tg) := by
  intro r hr x hx
  obtain ⟨i, hi, rfl⟩ := List.mem_map.mp hr
  have hi := List.mem_range.mp hi
  rcases List.mem_append.mp hx with hx | hx
  · obtain ⟨c, hc, rfl⟩ := List.mem_map.mp hx
    exact gd_bd (h1 c hc) (by rw [h3 c hc]; exact hi)
  · rw [List.mem_singleton.mp hx]; exact gd_bd h2 hi
theorem eb_swp {b a c : Nat} {M : List (List Int)} (h : EB b M) (ha : a < M.length) (hc : c < M.length) : EB b (swp M a c) := by
  intro r hr
  have g : ∀ i, i < M.length → M.getD i [] ∈ M := fun i hi => by
    rw [List.getD_eq_getElem?_getD, List.getElem?_eq_getElem hi]; exact List.getElem_mem hi
  rw [swp] at hr
  rcases List.mem_or_eq_of_mem_set hr with hr | rfl
  · rcases List.mem_or_eq_of_mem_set hr with hr | rfl
    · exact h r hr
    · exact h _ (g c hc)
  · exact h _ (g a ha)
theorem eb_clr {m b c : Nat} {M : List (List Int)} (hw : Wd m M) (h : EB b M) (hc : c < M.length) (hcm : c < m + 1) : EB (b + b + 1) (clr M c) := by
  intro r hr x hx
  have g : ∀ i, i < M.length → M.getD i [] ∈ M := fun i hi => by
    rw [List.getD_eq_getElem?_getD, List.getElem?_eq_getElem hi]; exact List.getElem_mem hi
  rw [clr] at hr
  obtain ⟨i, hi, rfl⟩ := List.mem_map.mp hr
  have hi := List.mem_range.mp hi
  split at hx
  · exact (h _ (g i hi) x hx).up (by omega)
  · rw [crow] at hx
    obtain ⟨k, hk, rfl⟩ := List.mem_map.mp hx
    have hk := List.mem_range.mp hk
    have w1 := hw _ (g i hi)
    have w2 := hw _ (g c hc)
    haveI := gd_bd (h _ (g c hc)) (i := c) (by omega)
    haveI := gd_bd (h _ (g c hc)) (i := k) (by omega)
    haveI := gd_bd (h _ (g i hi)) (i := c) (by omega)
    haveI := gd_bd (h _ (g i hi)) (i := k) (by omega)
    have : Bd (gd (M.getD c []) c * gd (M.getD i []) k - gd (M.getD i []) c * gd (M.getD c []) k) (max (b + b) (b + b) + 1) := inferInstance
    exact this.up (by omega)
/-- what solved answers -/
inductive Out (L m : Nat) (C : Nat → Nat → Int) (b : Nat → Int) : MV → Prop
  | dep (z : Nat → Int) (hz : ∃ k, k < m ∧ z k ≠ 0) (h : ∀ j, j < L → sm m (fun k => z k * C k j) = 0) : Out L m C b .non
  | inc (h : ∀ (z : Nat → Int) (s : Int), (∀ j, j < L → sm m (fun k => z k * C k j) = s * b j) → s = 0) : Out L m C b .non
  | sol (hm : m ≤ L) (hk : ∀ z : Nat → Int, (∀ j, j < L → sm m (fun k => z k * C k j) = 0) → ∀ k, k < m → z k = 0) (X : Nat → Int) (s : Int) (hs : s ≠ 0) (h : ∀ j, j < L → sm m (fun k => X k * C k j) = s * b j) (N D : Nat → Int) (hd : ∀ k, k < m → D k ≠ 0 ∧ X k * D k = s * N k) : Out L m C b (.tup ((List.range m).map fun k => .tup [.int (nr (N k) (D k)).1, .int (nr (N k) (D k)).2]))

theorem is_intN {i : Int} : cmpSem .is (.int i) .non = some false := rfl
theorem is_NN : cmpSem .is .non .non = some true := rfl
theorem R_solved {k : Nat} (hk : 2 ≤ k) (s0 s s1 : Bool) {cols : List (List Int)} {tg : List Int} (hm : cols.length ≤ 4) (hL : tg.length ≤ 4) (h1 : EB 200 cols) (h2 : EL 200 tg) (h3 : ∀ c ∈ cols, c.length = tg.length) :
    ∃ v, R k 5 [tv s0 s cols, rv s1 tg] = some (v, false) ∧ Out tg.length cols.length (cl cols) (gd tg) v := by
  obtain ⟨k, rfl⟩ : ∃ j, k = j + 1 := ⟨k - 1, by omega⟩
  suffices key : OB (R (k + 1) 5 [tv s0 s cols, rv s1 tg]) (fun v => v.2 = false ∧ Out tg.length cols.length (cl cols) (gd tg) v.1) by
    obtain ⟨⟨v, f⟩, e, q, o⟩ := key
    simp only at q
    subst q
    exact ⟨v, e, o⟩
  have len := tv_len (s0 := s0) (s := s) (M := cols)
  have tlen : biSem .len [rv s1 tg] = some (.int tg.length, .sh) := by rw [rv, pr_len, List.length_map]
  have hr := rngOk_n (n := tg.length) (by omega)
  refine R_of (d := ⟨2, 7, b_solved⟩) rfl rfl ?_
  refine W.split 2 (fun σ => σ = [some (tv s0 s cols, false), some (rv s1 tg, false), some (.int cols.length, false), some (.lst ((tab0 cols tg).map (rv true)), true), none, none, none]) ?_ ?_
  · have c := comp_pt (Φ := R k) (σ := [some (tv s0 s cols, false), some (rv s1 tg, false), some (.int cols.length, false), none, none, none, none]) (elt := .bin .add (.comp (.idx (.var 4) (.var 5)) (.nm 4) (.seq (.var 0)) []) (.lst [.idx (.var 1) (.var 5)])) (tg := .nm 5) (it := .rng1 (.bi .len [.var 1])) (ifs := []) (xs := rngM 0 tg.length) (t := .sh) ((tab0 cols tg).map (rv true)) (by simp [tlen, hr]) (by simp [tab0, rngM_len]) (by rw [rngM_len]; omega) (by
      intro i x y hx hy
      obtain ⟨hi, rfl⟩ := rngM_at hx
      rw [List.getElem?_map, tab0, List.getElem?_map, List.getElem?_range hi] at hy
      cases hy
      have c2 := comp_pt (Φ := R k) (σ := [some (tv s0 s cols, false), some (rv s1 tg, false), some (.int cols.length, false), none, none, some (.int i, false), none]) (elt := .idx (.var 4) (.var 5)) (tg := .nm 4) (it := .seq (.var 0)) (ifs := []) (xs := cols.map (rv s)) (t := .sh) ((cols.map fun c => gd c i).map MV.int) (by cases s0 <;> simp [tv]) (by simp) (by simp; omega) (by
        intro j x y hx hy
        rw [List.getElem?_map] at hx
        rw [List.map_map, List.getElem?_map] at hy
        cases hc : cols[j]? with
        | none => rw [hc] at hx; cases hx
        | some q =>
          rw [hc] at hx hy
          cases hx; cases hy
          have hq := h3 q (List.mem_of_getElem? hc)
          have e : idxSem (rv s q) (.int (i : Int)) = some (.int (gd q i)) := by
            rw [rv, pr_idx, atM_nat, get_mi (by omega)]
          simp [turn1, e])
      have e : idxSem (rv s1 tg) (.int (i : Int)) = some (.int (gd tg i)) := by
        rw [rv, pr_idx, atM_nat, get_mi hi]
      have ad : binSem .add (.lst ((cols.map fun c => gd c i).map MV.int)) (.lst [.int (gd tg i)]) = some (.lst ((cols.map fun c => gd c i).map MV.int ++ [.int (gd tg i)]), .fr) := bin_addL (by simp; omega)
      simp [turn1, c2, e, ad, -List.map_map]
      simp [rv, pr])
    simp [b_solved, startM, len, c]
  · rintro σ rfl
    simp only [b_solved, List.drop_succ_cons, List.drop_zero]
    have h0 : (tab0 cols tg).length = tg.length := by simp [tab0]
    refine W.for (rngM 0 cols.length) (fun c σ => ∃ z y w M, σ = [some (tv s0 s cols, false), some (rv s1 tg, false), some (.int cols.length, false), some (tv true true M, true), z, y, w] ∧ Wd cols.length M ∧ M.length = tg.length ∧ (∀ z, Ke cols.length M z ↔ Ke cols.length (tab0 cols tg) z) ∧ Dg c M ∧ EB (201 * 2 ^ c - 1) M ∧ c ≤ tg.length) ?_ ?_ ?_ ?_
    · simp [rngOk_n (n := cols.length) (by omega)]
    · exact ⟨none, none, none, tab0 cols tg, rfl, tab0_wd, h0, fun z => Iff.rfl, fun i _ j hj => by omega, tab0_eb h1 h2 h3, by omega⟩
    · rintro c v σ hv ⟨z, y, w, M, rfl, hw, hl, hke, hd, he, hcl⟩
      obtain ⟨hc, rfl⟩ := rngM_at hv
      have hb : 201 * 2 ^ c - 1 ≤ 201 * 2 ^ 3 - 1 := by
        have : 2 ^ c ≤ 2 ^ 3 := Nat.pow_le_pow_right (by decide) (by omega)
        omega
      rcases R_pivot (k := k) (by omega) hw (by omega) (c := c) (by omega) (by omega) with ⟨a, q1, q2, q3, q4⟩ | ⟨q1, q2⟩
      · have hcM : c < M.length := by omega
        obtain ⟨ra, ga, gra, _, ea, _⟩ := tr_row (s0 := true) (s := true) (i := a) hw q2
        obtain ⟨rc, gc, grc, _, ec, _⟩ := tr_row (s0 := true) (s := true) (i := c) hw hcM
        have hs : swp M a c = (M.set a rc).set c ra := by unfold swp; rw [gra, grc]
        have hsw := wd_swp hw q2 hcM
        have hsl := swp_len (R := M) (a := a) (c := c)
        have e4 := R_cleared (k := k) (by omega) (M := swp M a c) hsw (by omega) hm (c := c) (by omega) (by omega) (by omega) (eb_swp he q2 hcM)
        have t1 : setSem (M.map (rv true)) (.int a) (rv true rc) = some ((M.set a rc).map (rv true)) := by
          simp [setSem, L2.ixN, q2, List.map_set]
        have t2 : setSem ((M.set a rc).map (rv true)) (.int c) (rv true ra) = some ((swp M a c).map (rv true)) := by
          simp [setSem, L2.ixN, hcM, List.map_set, hs]
        have ea' : idxSem (.lst (M.map (rv true))) (.int (a : Int)) = some (rv true ra) := ea
        have ec' : idxSem (.lst (M.map (rv true))) (.int (c : Int)) = some (rv true rc) := ec
        have q4' : R k 3 [.lst (M.map (rv true)), .int c] = some (.int a, false) := q4
        have e4' : R k 4 [.lst ((swp M a c).map (rv true)), .int c] = some (.lst ((clr (swp M a c) c).map (rv true)), true) := e4
        have htv : tv true true M = .lst (M.map (rv true)) := rfl
        rw [htv]
        simp (decide := true) [-List.map_set, q4', ea', ec', t1, t2, e4', MV.noLst, Mn.freeOf, is_intN]
        refine ⟨_, _, _, clr (swp M a c) c, ⟨rfl, rfl, rfl, rfl⟩, wd_clr hsw, by rw [clr_len]; omega, fun z => ?_, dg_step hw (by omega) q2 q1 q3 hd, ?_, by omega⟩
        · have h00 : en (swp M a c) c c ≠ 0 := by rw [en_swp q2 hcM, if_pos rfl]; exact q3
          rw [ke_clr hsw (by omega) h00, ke_swp q2 hcM, hke z]
        · have := eb_clr hsw (eb_swp he q2 hcM) (c := c) (by omega) (by omega)
          have e2 : 201 * 2 ^ c - 1 + (201 * 2 ^ c - 1) + 1 = 201 * 2 ^ (c + 1) - 1 := by
            have : 0 < 2 ^ c := Nat.two_pow_pos c
            rw [Nat.pow_succ]; omega
          rwa [e2] at this
      · simp (decide := true) [q2, MV.noLst, Mn.freeOf, is_NN]
        obtain ⟨z, hz, hzz⟩ := no_pivot (tab0_sys (cols := cols) (tg := tg)) (R := M) hl hke hc hcl hd (fun a ha hal => q1 a ha (by omega))
        exact Out.dep z hz hzz
    · rintro σ ⟨z, y, w, M, rfl, hw, hl, hke, hd, he, hcl⟩
      rw [rngM_len] at hd he hcl
      have lenM := tv_len (s0 := true) (s := true) (M := M)
      rw [hl] at lenM
      have hbm : 201 * 2 ^ cols.length - 1 ≤ 201 * 2 ^ 4 - 1 := by
        have : 2 ^ cols.length ≤ 2 ^ 4 := Nat.pow_le_pow_right (by decide) (by omega)
        omega
      refine W.for (rngM cols.length (tg.length - cols.length)) (fun i σ => (∀ a, cols.length ≤ a → a < cols.length + i → en M a cols.length = 0) ∧ ∃ z y w, σ = [some (tv s0 s cols, false), some (rv s1 tg, false), some (.int cols.length, false), some (tv true true M, true), z, y, w]) ?_ ⟨fun a h1 h2 => by omega, z, y, w, rfl⟩ ?_ ?_
      · simp [lenM, rg2_ok, show -4611686018427387904 ≤ (cols.length : Int) by omega, show (cols.length : Int) < 4611686018427387904 by omega, show -4611686018427387904 ≤ (tg.length : Int) by omega, show (tg.length : Int) < 4611686018427387904 by omega]
      · rintro i v σ hv ⟨hz, z, y, w, rfl⟩
        obtain ⟨hi, rfl⟩ := rngM_at hv
        obtain ⟨r, _, _, _, e1, e2⟩ := tr_row (s0 := true) (s := true) (i := cols.length + i) hw (by omega)
        have e2' := e2 cols.length (by omega)
        rw [Int.natCast_add] at e1
        by_cases h0 : en M (cols.length + i) cols.length = 0
        · simp (decide := true) [e1, e2', h0]
          intro a h1 h2
          by_cases he : a = cols.length + i
          · rw [he]; exact h0
          · exact hz a h1 (by omega)
        · simp (decide := true) [e1, e2', h0]
          refine Out.inc fun z s h => no_sol (tab0_sys (cols := cols) (tg := tg)) (R := M) hl hke hd (a := cols.length + i) (by omega) (by omega) h0 h
      · rintro σ ⟨hz, z, y, w, rfl⟩
        rw [rngM_len] at hz
        have c := comp_pt (Φ := R k) (σ := [some (tv s0 s cols, false), some (rv s1 tg, false), some (.int cols.length, false), some (tv true true M, true), z, y, w]) (elt := .call 0 [.idx (.idx (.var 3) (.var 5)) (.var 2), .idx (.idx (.var 3) (.var 5)) (.var 5)]) (tg := .nm 5) (it := .rng1 (.var 2)) (ifs := []) (xs := rngM 0 cols.length) (t := .sh) ((List.range cols.length).map fun k => .tup [.int (nr (en M k cols.length) (en M k k)).1, .int (nr (en M k cols.length) (en M k k)).2]) (by simp [rngOk_n (n := cols.length) (by omega)]) (by simp [rngM_len]) (by rw [rngM_len]; omega) (by
          intro j x y hx hy
          obtain ⟨hj, rfl⟩ := rngM_at hx
          rw [List.getElem?_map, List.getElem?_range hj] at hy
          cases hy
          have hjM : j < M.length := by omega
          obtain ⟨r, _, _, _, e1, e2⟩ := tr_row (s0 := true) (s := true) (i := j) hw hjM
          have f1 := e2 cols.length (by omega)
          have f2 := e2 j (by omega)
          haveI := (en_bdw hw he (i := j) (j := j) hjM (by omega)).up hbm
          have rr := R_ratio (k := k) (by omega) (a := en M j cols.length) (b := en M j j) (by decide) (diag hd hj hjM)
          simp [turn1, e1, f1, f2, rr, Mn.freeOf, MV.noLst])
        simp [c]
        obtain ⟨hk', X, s', hs, hX, hXX⟩ := the_sol (tab0_sys (cols := cols) (tg := tg)) (R := M) hl hke hcl hd (fun a h1 h2 => hz a h1 (by omega))
        exact Out.sol hcl hk' X s' hs hX _ _ fun k hk => ⟨diag hd hk (by omega), hXX k hk⟩
end K01

set_option Elab.async false
set_option linter.all false
set_option maxRecDepth 100000
set_option exponentiation.threshold 10000
namespace K01
open PySem Mn Mn.S Mn.S.Tw Mn.S.Tx
def nl (p : List Nat) : MV := .lst (p.map fun (n : Nat) => MV.int (n : Int))
def sub : Nat → List (List Nat)
  | 0 => [[]]
  | a + 1 => sub a ++ (sub a).map fun p => p ++ [a]
theorem sub_len : ∀ a, (sub a).length = 2 ^ a
  | 0 => rfl
  | a + 1 => by rw [sub, List.length_append, List.length_map, sub_len a, Nat.pow_succ]; omega
theorem sub_lens : ∀ {a : Nat} {p : List Nat}, p ∈ sub a → p.length ≤ a
  | 0, p, h => by rw [sub, List.mem_singleton] at h; subst h; exact Nat.le_refl _
  | a + 1, p, h => by
    rw [sub] at h
    rcases List.mem_append.mp h with h | h
    · have := sub_lens h; omega
    · obtain ⟨q, hq, rfl⟩ := List.mem_map.mp h
      have := sub_lens hq
      rw [List.length_append, List.length_singleton]; omega
theorem asc_up {a b : Nat} (h : a ≤ b) : ∀ {p : List Nat}, Asc a p → Asc b p
  | [], _ => trivial
  | x :: r, q => ⟨Nat.lt_of_lt_of_le q.1 h, asc_up h q.2.1, q.2.2⟩
theorem asc_mem {a : Nat} : ∀ {p : List Nat}, Asc a p → ∀ x ∈ p, x < a
  | y :: r, q, x, hx => by
    rcases List.mem_cons.mp hx with rfl | hx
    · exact q.1
    · exact asc_mem q.2.1 x hx
theorem asc_app {a : Nat} : ∀ {p : List Nat}, Asc a p → Asc (a + 1) (p ++ [a])
  | [], _ => ⟨by omega, trivial, fun _ h => by cases h⟩
  | x :: r, q => ⟨by have := q.1; omega, asc_app q.2.1, fun b hb => by
    rcases List.mem_append.mp hb with hb | hb
    · exact q.2.2 b hb
    · rw [List.mem_singleton.mp hb]; exact q.1⟩
theorem sub_asc : ∀ {a : Nat} {p : List Nat}, p ∈ sub a → Asc a p
  | 0, p, h => by rw [sub, List.mem_singleton] at h; subst h; trivial
  | a + 1, p, h => by
    rw [sub] at h
    rcases List.mem_append.mp h with h | h
    · exact asc_up (by omega) (sub_asc h)
    · obtain ⟨q, hq, rfl⟩ := List.mem_map.mp h
      exact asc_app (sub_asc hq)
theorem asc_cut {a : Nat} : ∀ {p : List Nat}, Asc (a + 1) p → Asc a p ∨ ∃ q, p = q ++ [a] ∧ Asc a q
  | [], _ => Or.inl trivial
  | x :: r, h => by
    rcases asc_cut h.2.1 with h1 | ⟨q, rfl, hq⟩
    · by_cases hx : x < a
      · exact Or.inl ⟨hx, h1, h.2.2⟩
      · have hxa : x = a := by have := h.1; omega
        subst hxa
        cases r with
        | nil => exact Or.inr ⟨[], rfl, trivial⟩
        | cons b r => exact absurd (h1.1) (by have := h.2.2 b List.mem_cons_self; omega)
    · refine Or.inr ⟨x :: q, rfl, h.2.2 a (by simp), hq, fun b hb => h.2.2 b (by simp [hb])⟩
theorem asc_sub : ∀ {a : Nat} {p : List Nat}, Asc a p → p ∈ sub a
  | 0, [], _ => by simp [sub]
  | 0, x :: r, h => absurd h.1 (by omega)
  | a + 1, p, h => by
    rw [sub]
    rcases asc_cut h with h | ⟨q, rfl, hq⟩
    · exact List.mem_append_left _ (asc_sub h)
    · exact List.mem_append_right _ (List.mem_map.mpr ⟨q, asc_sub hq, rfl⟩)
def subs (L m : Nat) : List (List Nat) := (sub L).filter fun p => p.length == m
theorem turns_flt {α : Type} {f : MV → Option (List MV)} {v : α → MV} {P : α → Bool} : ∀ {l : List α}, (∀ x ∈ l, f (v x) = some (if P x then [v x] else [])) → turns f (l.map v) = some ((l.filter P).map v)
  | [], _ => rfl
  | x :: r, h => by
    rw [List.map_cons, turns, h x List.mem_cons_self, Option.bind_some, turns_flt fun y hy => h y (List.mem_cons_of_mem _ hy), Option.bind_some, List.filter_cons]
    split <;> rfl
theorem comp_flt {α : Type} {Φ : Fns} {σ : MS} {elt tg it ifs} {v : α → MV} {P : α → Bool} {l : List α} {t} (e : evI Φ it σ = some (l.map v, t)) (hx : l.length ≤ 4000000) (h : ∀ x ∈ l, turn1 Φ elt tg ifs σ (v x) = some (if P x then [v x] else [])) : ev Φ (.comp elt tg it ifs) σ = some (.lst ((l.filter P).map v), .fr) := by
  rw [ev_comp, e, Option.bind_some, turns_flt h, Option.bind_some, szS_ok]
  have := List.length_filter_le P l
  rw [List.length_map]; omega
theorem R_subsets {k : Nat} (hk : 1 ≤ k) {L m : Nat} (hL : L ≤ 4) (hm : m ≤ 1000) : R k 12 [.int L, .int m] = some (.lst ((subs L m).map nl), true) := by
  obtain ⟨k, rfl⟩ : ∃ j, k = j + 1 := ⟨k - 1, by omega⟩
  refine R_eq (d := ⟨2, 5, b__law_subsets⟩) rfl rfl ?_
  refine W.split 1 (fun σ => σ = [some (.int L, false), some (.int m, false), some (.lst ((sub 0).map nl), true), none, none]) ?_ ?_
  · simp [b__law_subsets, startM, sub, nl]
  · rintro σ rfl
    simp only [b__law_subsets, List.drop_succ_cons, List.drop_zero]
    refine W.for (rngM 0 L) (fun i σ => ∃ z, σ = [some (.int L, false), some (.int m, false), some (.lst ((sub i).map nl), true), z, none]) (by simp [rngOk_n (n := L) (by omega)]) ⟨none, rfl⟩ ?_ ?_
    · rintro i v σ hv ⟨z, rfl⟩
      obtain ⟨hi, rfl⟩ := rngM_at hv
      have hsl := sub_len i
      have hp : 2 ^ i ≤ 2 ^ 4 := Nat.pow_le_pow_right (by decide) (by omega)
      have c := comp_pt (Φ := R k) (σ := [some (.int L, false), some (.int m, false), some (.lst ((sub i).map nl), true), some (.int i, false), none]) (elt := .bin .add (.var 4) (.lst [.var 3])) (tg := .nm 4) (it := .seq (.var 2)) (ifs := []) (xs := (sub i).map nl) (t := .bo) (((sub i).map fun p => p ++ [i]).map nl) (by simp) (by simp) (by simp; omega) (by
        intro j x y hx hy
        rw [List.getElem?_map] at hx
        rw [List.map_map, List.getElem?_map] at hy
        cases hc : (sub i)[j]? with
        | none => rw [hc] at hx; cases hx
        | some q =>
          rw [hc] at hx hy
          cases hx; cases hy
          have hq := sub_lens (List.mem_of_getElem? hc)
          have ad : binSem .add (nl q) (.lst [.int i]) = some (.lst (q.map (fun (n : Nat) => MV.int (n : Int)) ++ [.int i]), .fr) := bin_addL (by simp; omega)
          simp [turn1, ad]
          simp [nl])
      have ad : binSem .add (.lst ((sub i).map nl)) (.lst (((sub i).map fun p => p ++ [i]).map nl)) = some (.lst ((sub i).map nl ++ ((sub i).map fun p => p ++ [i]).map nl), .fr) := bin_addL (by simp; omega)
      rw [sub, List.map_append]
      simp [c, ad, -List.map_map]
    · rintro σ ⟨z, rfl⟩
      rw [rngM_len]
      have hsl := sub_len L
      have hp : 2 ^ L ≤ 2 ^ 4 := Nat.pow_le_pow_right (by decide) (by omega)
      have c := comp_flt (Φ := R k) (σ := [some (.int L, false), some (.int m, false), some (.lst ((sub L).map nl), true), z, none]) (elt := .var 4) (tg := .nm 4) (it := .seq (.var 2)) (ifs := [.cmp .eq (.bi .len [.var 4]) (.var 1)]) (v := nl) (P := fun p => p.length == m) (l := sub L) (t := .bo) (by simp) (by omega) (by
        intro q hq
        have hll := sub_lens hq
        have len : biSem .len [nl q] = some (.int q.length, .sh) := by simp [nl]
        by_cases h : q.length = m
        · subst h
          simp [turn1, len]
        · have h' : ¬ (q.length : Int) = (m : Int) := by omega
          simp [turn1, len, h, h'])
      simp [c, subs]
end K01

set_option Elab.async false
set_option linter.all false
set_option maxRecDepth 100000
set_option exponentiation.threshold 10000
namespace K01
open PySem Mn Mn.S Mn.S.Tw Mn.S.Tx
/-- what the law's fit answers -/
inductive FO (L m : Nat) (C : Nat → Nat → Int) (b : Nat → Int) : List Int → Prop
  | none (h : ∀ p ∈ subs L m, MI C p = 0) : FO L m C b []
  | bad (p : List Nat) (hp : p ∈ subs L m) (h : MI C p ≠ 0) (hf : ¬ Fit L m C b p) : FO L m C b []
  | good (p : List Nat) (hp : p ∈ subs L m) (h : MI C p ≠ 0) (hf : Fit L m C b p) : FO L m C b (T0 C p :: (List.range m).map (TK C b p))
theorem subs_asc {L m : Nat} {p : List Nat} (h : p ∈ subs L m) : Asc L p ∧ p.length = m := by
  have := List.mem_filter.mp h
  exact ⟨sub_asc this.1, by simpa using this.2⟩
def pick (p : List Nat) (c : List Int) : List Int := p.map fun i => gd c i
def base (cols : List (List Int)) (p : List Nat) : List (List Int) := cols.map (pick p)
theorem pick_gd {p : List Nat} {c : List Int} {i : Nat} (h : i < p.length) : gd (pick p c) i = gd c (pl p i) := by
  rw [gd_eq (by simpa [pick] using h)]
  simp only [pick, List.getElem_map, pl, List.getD_eq_getElem?_getD, List.getElem?_eq_getElem h, Option.getD_some]
theorem base_sq {cols : List (List Int)} {p : List Nat} (h : p.length = cols.length) : Sq cols.length (base cols p) := by
  refine ⟨by simp [base], fun r hr => ?_⟩
  obtain ⟨c, hc, rfl⟩ := List.mem_map.mp hr
  simp [pick, h]
theorem base_eb {b : Nat} {cols : List (List Int)} {p : List Nat} {L : Nat} (h : EB b cols) (hp : ∀ i ∈ p, i < L) (h3 : ∀ c ∈ cols, c.length = L) : EB b (base cols p) := by
  intro r hr x hx
  obtain ⟨c, hc, rfl⟩ := List.mem_map.mp hr
  obtain ⟨i, hi, rfl⟩ := List.mem_map.mp hx
  exact gd_bd (h c hc) (by rw [h3 c hc]; exact hp i hi)
theorem en_base {cols : List (List Int)} {p : List Nat} {a i : Nat} (ha : a < cols.length) (hi : i < p.length) : en (base cols p) a i = cl cols a (pl p i) := by
  unfold en cl
  rw [base, List.getD_eq_getElem?_getD, List.getElem?_map, List.getD_eq_getElem?_getD, List.getElem?_eq_getElem ha]
  exact pick_gd hi
theorem DF_base {cols : List (List Int)} {p : List Nat} (h : p.length = cols.length) : DF cols.length (en (base cols p)) = MI (cl cols) p := by
  unfold MI
  rw [h]
  exact DF_congr fun i j hi hj => en_base hi (by omega)
def baseK (cols : List (List Int)) (tg : List Int) (p : List Nat) (k : Nat) : List (List Int) := (base cols p).take k ++ [pick p tg] ++ (base cols p).drop (k + 1)
theorem baseK_set {cols : List (List Int)} {tg : List Int} {p : List Nat} {k : Nat} (hk : k < cols.length) : baseK cols tg p k = (base cols p).set k (pick p tg) := by
  rw [baseK, List.set_eq_take_append_cons_drop, if_pos (by simpa [base] using hk), List.append_assoc]; rfl
theorem baseK_sq {cols : List (List Int)} {tg : List Int} {p : List Nat} {k : Nat} (hk : k < cols.length) (h : p.length = cols.length) : Sq cols.length (baseK cols tg p k) := by
  rw [baseK_set hk]
  refine ⟨by simp [base], fun r hr => ?_⟩
  rcases List.mem_or_eq_of_mem_set hr with hr | rfl
  · exact (base_sq h).2 r hr
  · simp [pick, h]
theorem baseK_eb {b : Nat} {cols : List (List Int)} {tg : List Int} {p : List Nat} {k : Nat} (hk : k < cols.length) (h : EB b cols) (h2 : EL b tg) (hp : ∀ i ∈ p, i < tg.length) (h3 : ∀ c ∈ cols, c.length = tg.length) : EB b (baseK cols tg p k) := by
  rw [baseK_set hk]
  intro r hr
  rcases List.mem_or_eq_of_mem_set hr with hr | rfl
  · exact base_eb h hp h3 r hr
  · intro x hx
    obtain ⟨i, hi, rfl⟩ := List.mem_map.mp hx
    exact gd_bd h2 (hp i hi)
theorem DF_baseK {cols : List (List Int)} {tg : List Int} {p : List Nat} {k : Nat} (hk : k < cols.length) (h : p.length = cols.length) : DF cols.length (en (baseK cols tg p k)) = DF p.length (up (fun a i => cl cols a (pl p i)) k (fun i => gd tg (pl p i))) := by
  rw [h]
  refine DF_congr fun i j hi hj => ?_
  rw [baseK_set hk, en_set (by simpa [base] using hk)]
  unfold up
  split
  · exact pick_gd (by omega)
  · exact en_base hi (by omega)
/-- a choice of places out of a vector -/
theorem comp_pick {Φ : Fns} {σ : MS} {elt tg it} {t} {p : List Nat} {c : List Int} (e : evI Φ it σ = some (p.map fun (n : Nat) => MV.int (n : Int), t)) (hp : p.length ≤ 1000) (h : ∀ n ∈ p, turn1 Φ elt tg [] σ (.int (n : Int)) = some [.int (gd c n)]) : ev Φ (.comp elt tg it []) σ = some (rv true (pick p c), .fr) := by
  have := comp_pt (Φ := Φ) (σ := σ) (elt := elt) (tg := tg) (it := it) (ifs := []) (xs := p.map fun (n : Nat) => MV.int (n : Int)) (t := t) ((pick p c).map MV.int) e (by simp [pick]) (by simp; omega) (by
    intro j x y hx hy
    rw [List.getElem?_map] at hx
    rw [pick, List.map_map, List.getElem?_map] at hy
    cases hc : p[j]? with
    | none => rw [hc] at hx; cases hx
    | some q =>
      rw [hc] at hx hy
      cases hx; cases hy
      exact h q (List.mem_of_getElem? hc))
  exact this
theorem rv_at {s : Bool} {l : List Int} {i : Nat} (h : i < l.length) : idxSem (rv s l) (.int (i : Int)) = some (.int (gd l i)) := by
  rw [rv, pr_idx, atM_nat, get_mi h]
theorem tv_get {s0 s : Bool} {M : List (List Int)} {i : Nat} {r : List Int} (h : M[i]? = some r) : idxSem (tv s0 s M) (.int (i : Int)) = some (rv s r) := by
  rw [tv, pr_idx, atM_nat, List.getElem?_map, h]; rfl

theorem isLst_rv {l : List Int} : isLst (rv true l) = true := rfl
theorem R_fit {k : Nat} (hk : 7 ≤ k) {cols : List (List Int)} {tg : List Int} (hm : cols.length ≤ 4) (hL : tg.length ≤ 4) (h1 : EB 200 cols) (h2 : EL 200 tg) (h3 : ∀ c ∈ cols, c.length = tg.length) :
    ∃ l, R k 13 [tv true true cols, rv true tg] = some (.lst (l.map MV.int), true) ∧ FO tg.length cols.length (cl cols) (gd tg) l := by
  obtain ⟨k, rfl⟩ : ∃ j, k = j + 1 := ⟨k - 1, by omega⟩
  suffices key : OB (R (k + 1) 13 [tv true true cols, rv true tg]) (fun v => ∃ l, v = (.lst (l.map MV.int), true) ∧ FO tg.length cols.length (cl cols) (gd tg) l) by
    obtain ⟨v, e, l, rfl, o⟩ := key
    exact ⟨l, e, o⟩
  have len := tv_len (s0 := true) (s := true) (M := cols)
  have tlen : biSem .len [rv true tg] = some (.int tg.length, .sh) := by rw [rv, pr_len, List.length_map]
  have hr := rngOk_n (n := tg.length) (by omega)
  have hrm := rngOk_n (n := cols.length) (by omega)
  refine R_of (d := ⟨2, 14, b__law_fit⟩) rfl rfl ?_
  refine W.split 1 (fun σ => σ = [some (tv true true cols, false), some (rv true tg, false), some (.int cols.length, false), none, none, none, none, none, none, none, none, none, none, none]) ?_ ?_
  · simp [b__law_fit, startM, len]
  rintro σ rfl
  simp only [b__law_fit, List.drop_succ_cons, List.drop_zero]
  have e12 := R_subsets (k := k) (by omega) (L := tg.length) (m := cols.length) hL (by omega)
  refine W.for ((subs tg.length cols.length).map nl) (fun i σ => (∀ p ∈ (subs tg.length cols.length).take i, MI (cl cols) p = 0) ∧ ∃ a3 a4 a5 a6 a7 a8 a9 a10 a11 a12 a13, σ = [some (tv true true cols, false), some (rv true tg, false), some (.int cols.length, false), a3, a4, a5, a6, a7, a8, a9, a10, a11, a12, a13]) (by simp [tlen, e12, Mn.freeOf, MV.noLst]) ⟨fun p hp => by simp at hp, none, none, none, none, none, none, none, none, none, none, none, rfl⟩ ?_ ?_
  · rintro i v σ hv ⟨hz, a3, a4, a5, a6, a7, a8, a9, a10, a11, a12, a13, rfl⟩
    rw [List.getElem?_map] at hv
    cases hpp : (subs tg.length cols.length)[i]? with
    | none => rw [hpp] at hv; cases hv
    | some p =>
    rw [hpp] at hv
    cases hv
    have hps := List.mem_of_getElem? hpp
    obtain ⟨pa, pL⟩ := subs_asc hps
    have pm := asc_mem pa
    have ht : (subs tg.length cols.length).take (i + 1) = (subs tg.length cols.length).take i ++ [p] := by rw [List.take_add_one, hpp]; rfl
    rw [putT_nm, OB_some]
    simp only [setM_s, setM_z]
    refine W.split 2 (fun σ => ∃ a5 a13, σ = [some (tv true true cols, false), some (rv true tg, false), some (.int cols.length, false), some (nl p, false), some (tv true true (base cols p), true), a5, a6, a7, a8, a9, a10, a11, a12, a13]) ?_ ?_
    · simp only [List.take_succ_cons, List.take_zero]
      refine W.split 1 (fun σ => σ = [some (tv true true cols, false), some (rv true tg, false), some (.int cols.length, false), some (nl p, false), some (.lst [], true), a5, a6, a7, a8, a9, a10, a11, a12, a13]) (by simp) ?_
      rintro σ rfl
      simp only [List.drop_succ_cons, List.drop_zero]
      refine W.for (cols.map (rv true)) (fun j σ => ∃ a5 a13, σ = [some (tv true true cols, false), some (rv true tg, false), some (.int cols.length, false), some (nl p, false), some (tv true true (base (cols.take j) p), true), a5, a6, a7, a8, a9, a10, a11, a12, a13]) (by simp [tv, pr]) ⟨a5, a13, rfl⟩ ?_ ?_
      · rintro j v σ hv ⟨a5, a13, rfl⟩
        rw [List.getElem?_map] at hv
        cases hc : cols[j]? with
        | none => rw [hc] at hv; cases hv
        | some q =>
        rw [hc] at hv
        cases hv
        have hq := h3 q (List.mem_of_getElem? hc)
        have ht : cols.take (j + 1) = cols.take j ++ [q] := by rw [List.take_add_one, hc]; rfl
        have hbl : (base (cols.take j) p).length < SZ := SZ_gt (by simp [base]; omega)
        have hb : base (cols.take (j + 1)) p = base (cols.take j) p ++ [pick p q] := by rw [ht]; simp [base]
        rw [hb]
        generalize base (cols.take j) p = Bs at hbl
        have c := comp_pick (Φ := R k) (σ := [some (tv true true cols, false), some (rv true tg, false), some (.int cols.length, false), some (nl p, false), some (tv true true Bs, true), some (rv true q, false), a6, a7, a8, a9, a10, a11, a12, a13]) (elt := .idx (.var 5) (.var 13)) (tg := .nm 13) (it := .seq (.var 3)) (p := p) (c := q) (t := .sh) (by simp [nl]) (by omega) (by
          intro n hn
          have := rv_at (s := true) (l := q) (i := n) (by rw [hq]; exact pm n hn)
          simp [turn1, this])
        have htv : tv true true Bs = .lst (Bs.map (rv true)) := rfl
        rw [htv] at c ⊢
        simp [c, hbl]
        simp [tv, pr]
      · rintro σ ⟨a5, a13, rfl⟩
        rw [List.length_map, List.take_length]
        simp
    · rintro σ ⟨a5, a13, rfl⟩
      simp only [List.drop_succ_cons, List.drop_zero]
      have ld := R_ldet cols.length (k := k) (b := 200) true (M := base cols p) hm (by decide) (base_sq pL) (base_eb h1 pm h3) (by omega)
      rw [DF_base pL] at ld
      have ld' : R k 11 [.lst ((base cols p).map (rv true))] = some (.int (MI (cl cols) p), false) := ld
      have htv : tv true true (base cols p) = .lst ((base cols p).map (rv true)) := rfl
      rw [htv]
      haveI : Bd (MI (cl cols) p) 900 := by
        have := DF_bd (n := cols.length) (b := 200) (f := en (base cols p)) hm (fun i j hi hj => en_bd (base_sq pL) (base_eb h1 pm h3) hi hj)
        rw [DF_base pL] at this
        refine this.up ?_
        have : cols.length * (200 + 4) ≤ 4 * (200 + 4) := Nat.mul_le_mul_right _ hm
        omega
      by_cases h0 : MI (cl cols) p = 0
      · simp (decide := true) [ld', h0, Mn.freeOf, MV.noLst]
        rw [ht]
        intro q hq
        rcases List.mem_append.mp hq with hq | hq
        · exact hz q hq
        · rw [List.mem_singleton.mp hq]; exact h0
      · refine W.split 1 (fun σ => σ = [some (tv true true cols, false), some (rv true tg, false), some (.int cols.length, false), some (nl p, false), some (.lst ((base cols p).map (rv true)), true), a5, some (.int (MI (cl cols) p), false), a7, a8, a9, a10, a11, a12, a13]) (by simp [ld', Mn.freeOf, MV.noLst]) ?_
        rintro σ rfl
        simp only [List.drop_succ_cons, List.drop_zero]
        have c := comp_pick (Φ := R k) (σ := [some (tv true true cols, false), some (rv true tg, false), some (.int cols.length, false), some (nl p, false), some (.lst ((base cols p).map (rv true)), true), a5, some (.int (MI (cl cols) p), false), a7, a8, a9, a10, a11, a12, a13]) (elt := .idx (.var 1) (.var 13)) (tg := .nm 13) (it := .seq (.var 3)) (p := p) (c := tg) (t := .sh) (by simp [nl]) (by omega) (by
          intro n hn
          have := rv_at (s := true) (l := tg) (i := n) (pm n hn)
          simp [turn1, this])
        simp (decide := true) [h0, c, isLst_rv]
        refine W.split 1 (fun σ => ∃ a9 a11 o, σ = [some (tv true true cols, false), some (rv true tg, false), some (.int cols.length, false), some (nl p, false), some (.lst ((base cols p).map (rv true)), true), a5, some (.int (MI (cl cols) p), false), some (rv true (pick p tg), o), some (.lst ((T0 (cl cols) p :: (List.range cols.length).map (TK (cl cols) (gd tg) p)).map MV.int), true), a9, a10, a11, a12, a13]) ?_ ?_
        · simp only [List.take_succ_cons, List.take_zero]
          refine W.for (rngM 0 cols.length) (fun j σ => ∃ a9 a11 o, σ = [some (tv true true cols, false), some (rv true tg, false), some (.int cols.length, false), some (nl p, false), some (.lst ((base cols p).map (rv true)), true), a5, some (.int (MI (cl cols) p), false), some (rv true (pick p tg), o), some (.lst ((T0 (cl cols) p :: (List.range j).map (TK (cl cols) (gd tg) p)).map MV.int), true), a9, a10, a11, a12, a13]) (by simp [hrm]) ⟨a9, a11, true, by simp [T0]⟩ ?_ ?_
          · rintro j v σ hv ⟨a9, a11, o, rfl⟩
            obtain ⟨hj, rfl⟩ := rngM_at hv
            have lk := R_ldet cols.length (k := k) (b := 200) true (M := baseK cols tg p j) hm (by decide) (baseK_sq hj pL) (baseK_eb hj h1 h2 pm h3) (by omega)
            rw [DF_baseK hj pL] at lk
            have lk' : R k 11 [.lst ((baseK cols tg p j).map (rv true))] = some (.int (DF p.length (up (fun a i => cl cols a (pl p i)) j (fun i => gd tg (pl p i)))), false) := lk
            haveI : Bd (DF p.length (up (fun a i => cl cols a (pl p i)) j (fun i => gd tg (pl p i)))) 900 := by
              have := DF_bd (n := cols.length) (b := 200) (f := en (baseK cols tg p j)) hm (fun i' j' hi' hj' => en_bd (baseK_sq hj pL) (baseK_eb hj h1 h2 pm h3) hi' hj')
              rw [DF_baseK hj pL] at this
              refine this.up ?_
              have : cols.length * (200 + 4) ≤ 4 * (200 + 4) := Nat.mul_le_mul_right _ hm
              omega
            have hbl : (base cols p).length = cols.length := by simp [base]
            have s1 := slc_to (xs := (base cols p).map (rv true)) (f := j)
            have s2 := slc_from (xs := (base cols p).map (rv true)) (f := j + 1)
            rw [Int.natCast_add, Int.natCast_one] at s2
            have s3 : binSem .add (.lst (((base cols p).map (rv true)).take j)) (.lst [rv true (pick p tg)]) = some (.lst (((base cols p).map (rv true)).take j ++ [rv true (pick p tg)]), .fr) := bin_addL (by simp; omega)
            have s4 : binSem .add (.lst (((base cols p).map (rv true)).take j ++ [rv true (pick p tg)])) (.lst (((base cols p).map (rv true)).drop (j + 1))) = some (.lst ((baseK cols tg p j).map (rv true)), .fr) := by
              rw [bin_addL (by simp; omega)]
              simp [baseK]
            have hz : ((T0 (cl cols) p :: (List.range j).map (TK (cl cols) (gd tg) p)).map MV.int).length < SZ := SZ_gt (by simp; omega)
            have hnew : (T0 (cl cols) p :: (List.range (j + 1)).map (TK (cl cols) (gd tg) p)).map MV.int = (T0 (cl cols) p :: (List.range j).map (TK (cl cols) (gd tg) p)).map MV.int ++ [.int (TK (cl cols) (gd tg) p j)] := by
              rw [List.range_succ]; simp
            rw [hnew]
            have htk : TK (cl cols) (gd tg) p j = if MI (cl cols) p < 0 then 0 - DF p.length (up (fun a i => cl cols a (pl p i)) j (fun i => gd tg (pl p i))) else DF p.length (up (fun a i => cl cols a (pl p i)) j (fun i => gd tg (pl p i))) := by
              unfold TK; split <;> omega
            rw [htk]
            generalize (T0 (cl cols) p :: (List.range j).map (TK (cl cols) (gd tg) p)).map MV.int = Told at hz
            simp (decide := true) [s1, s2, s3, s4, lk', hz, Mn.freeOf, MV.noLst, -List.map_take, -List.map_drop]
            exact IF.dec (fun h => by omega) (fun h => by omega)
          · rintro σ ⟨a9, a11, o, rfl⟩
            rw [rngM_len]
            cases o <;> simp
        · rintro σ ⟨a9, a11, o, rfl⟩
          simp only [List.drop_succ_cons, List.drop_zero]
          have hTK : ∀ j, j < cols.length → Bd (TK (cl cols) (gd tg) p j) 900 := fun j hj => by
            have := DF_bd (n := cols.length) (b := 200) (f := en (baseK cols tg p j)) hm (fun i' j' hi' hj' => en_bd (baseK_sq hj pL) (baseK_eb hj h1 h2 pm h3) hi' hj')
            rw [DF_baseK hj pL] at this
            have := this.up (m := 900) (by
              have : cols.length * (200 + 4) ≤ 4 * (200 + 4) := Nat.mul_le_mul_right _ hm
              omega)
            refine ⟨?_⟩
            have h' := this.le
            unfold TK
            split <;> omega
          have hT0 : Bd (T0 (cl cols) p) 900 := ⟨by unfold T0; rw [Int.natAbs_natCast]; exact this.le⟩
          have tl : ∀ j, j < cols.length → idxSem (.lst ((T0 (cl cols) p :: (List.range cols.length).map (TK (cl cols) (gd tg) p)).map MV.int)) (.int ((j : Int) + 1)) = some (.int (TK (cl cols) (gd tg) p j)) := fun j hj => by
            have := rv_at (s := true) (l := T0 (cl cols) p :: (List.range cols.length).map (TK (cl cols) (gd tg) p)) (i := j + 1) (by simpa using hj)
            rw [Int.natCast_add, Int.natCast_one] at this
            rw [show ∀ l : List Int, MV.lst (l.map MV.int) = rv true l from fun _ => rfl, this]
            simp [gd, List.getElem?_range hj]
          have t0 : idxSem (.lst ((T0 (cl cols) p :: (List.range cols.length).map (TK (cl cols) (gd tg) p)).map MV.int)) (.int 0) = some (.int (T0 (cl cols) p)) := rv_at (s := true) (l := T0 (cl cols) p :: (List.range cols.length).map (TK (cl cols) (gd tg) p)) (i := 0) (by simp)
          generalize hTd : (T0 (cl cols) p :: (List.range cols.length).map (TK (cl cols) (gd tg) p)).map MV.int = Told at tl t0
          refine W.for (rngM 0 tg.length) (fun j σ => (∀ i, i < j → sm cols.length (fun k => TK (cl cols) (gd tg) p k * cl cols k i) = T0 (cl cols) p * gd tg i) ∧ ∃ a9 a10 a12, σ = [some (tv true true cols, false), some (rv true tg, false), some (.int cols.length, false), some (nl p, false), some (.lst ((base cols p).map (rv true)), true), a5, some (.int (MI (cl cols) p), false), some (rv true (pick p tg), o), some (.lst Told, true), a9, a10, a11, a12, a13]) (by simp [tlen, hr]) ⟨fun i hi => by omega, a9, a10, a12, rfl⟩ ?_ ?_
          · rintro j v σ hv ⟨hs, a9, a10, a12, rfl⟩
            obtain ⟨hj, rfl⟩ := rngM_at hv
            rw [putT_nm, OB_some]
            simp only [setM_s, setM_z]
            refine W.split 2 (fun σ => ∃ a9, σ = [some (tv true true cols, false), some (rv true tg, false), some (.int cols.length, false), some (nl p, false), some (.lst ((base cols p).map (rv true)), true), a5, some (.int (MI (cl cols) p), false), some (rv true (pick p tg), o), some (.lst Told, true), a9, some (.int (0 + j), false), a11, some (.int (sm cols.length (fun k => TK (cl cols) (gd tg) p k * cl cols k j)), false), a13]) ?_ ?_
            · simp only [List.take_succ_cons, List.take_zero]
              refine W.split 1 (fun σ => σ = [some (tv true true cols, false), some (rv true tg, false), some (.int cols.length, false), some (nl p, false), some (.lst ((base cols p).map (rv true)), true), a5, some (.int (MI (cl cols) p), false), some (rv true (pick p tg), o), some (.lst Told, true), a9, some (.int (0 + j), false), a11, some (.int 0, false), a13]) (by simp) ?_
              rintro σ rfl
              simp only [List.drop_succ_cons, List.drop_zero]
              refine W.for (rngM 0 cols.length) (fun m σ => ∃ a9, σ = [some (tv true true cols, false), some (rv true tg, false), some (.int cols.length, false), some (nl p, false), some (.lst ((base cols p).map (rv true)), true), a5, some (.int (MI (cl cols) p), false), some (rv true (pick p tg), o), some (.lst Told, true), a9, some (.int (0 + j), false), a11, some (.int (sm m (fun k => TK (cl cols) (gd tg) p k * cl cols k j)), false), a13]) (by simp [hrm]) ⟨a9, rfl⟩ ?_ ?_
              · rintro m v σ hv ⟨a9, rfl⟩
                obtain ⟨hm', rfl⟩ := rngM_at hv
                haveI := hTK m hm'
                have hg := List.getElem?_eq_getElem hm'
                have hq := h3 _ (List.getElem_mem hm')
                have e1 := tv_get (s0 := true) (s := true) hg
                have e2 := rv_at (s := true) (l := cols[m]) (i := j) (by omega)
                have e3 : gd cols[m] j = cl cols m j := by unfold cl; rw [List.getD_eq_getElem?_getD, hg]; rfl
                rw [e3] at e2
                have e4 := tl m hm'
                have hcl : ∀ k, k < cols.length → Bd (cl cols k j) 200 := fun k hk => by
                  unfold cl
                  rw [List.getD_eq_getElem?_getD, List.getElem?_eq_getElem hk, Option.getD_some]
                  exact gd_bd (h1 _ (List.getElem_mem hk)) (by rw [h3 _ (List.getElem_mem hk)]; exact hj)
                haveI := hcl m hm'
                haveI : Bd (sm m (fun k => TK (cl cols) (gd tg) p k * cl cols k j)) 1102 := sm_bd (B := 1100) (by omega) fun k hk => Bd.mul (ha := hTK k (by omega)) (hb := hcl k (by omega))
                rw [sm]
                simp (decide := true) [e1, e2, e4]
              · rintro σ ⟨a9, rfl⟩
                rw [rngM_len]
                simp
            · rintro σ ⟨a9, rfl⟩
              simp only [List.drop_succ_cons, List.drop_zero]
              haveI := hT0
              haveI := gd_bd h2 hj
              have e1 := rv_at (s := true) hj
              by_cases he : sm cols.length (fun k => TK (cl cols) (gd tg) p k * cl cols k j) = T0 (cl cols) p * gd tg j
              · simp (decide := true) [t0, e1, he]
                intro i hi
                by_cases hij : i = j
                · rw [hij]; exact he
                · exact hs i (by omega)
              · simp (decide := true) [t0, e1, he]
                exact FO.bad p hps h0 fun hf => he (hf j hj)
          · rintro σ ⟨hs, a9, a10, a12, rfl⟩
            rw [rngM_len] at hs
            simp
            exact ⟨_, hTd.symm, FO.good p hps h0 fun j hj => hs j hj⟩
  · rintro σ ⟨hz, a3, a4, a5, a6, a7, a8, a9, a10, a11, a12, a13, rfl⟩
    rw [List.length_map, List.take_length] at hz
    simp
    exact FO.none hz
end K01

set_option Elab.async false
set_option linter.all false
set_option maxRecDepth 100000
set_option exponentiation.threshold 10000
namespace K01
open PySem Mn Mn.S Mn.S.Tw Mn.S.Tx
theorem TK_bd {cols : List (List Int)} {tg : List Int} (hm : cols.length ≤ 4) (hL : tg.length ≤ 4) (h1 : EB 200 cols) (h2 : EL 200 tg) (h3 : ∀ c ∈ cols, c.length = tg.length) {p : List Nat} (hps : p ∈ subs tg.length cols.length) {j : Nat} (hj : j < cols.length) : Bd (TK (cl cols) (gd tg) p j) 900 := by
  obtain ⟨pa, pL⟩ := subs_asc hps
  have pm := asc_mem pa
  have := DF_bd (n := cols.length) (b := 200) (f := en (baseK cols tg p j)) hm (fun i' j' hi' hj' => en_bd (baseK_sq hj pL) (baseK_eb hj h1 h2 pm h3) hi' hj')
  rw [DF_baseK hj pL] at this
  have := this.up (m := 900) (by
    have : cols.length * (200 + 4) ≤ 4 * (200 + 4) := Nat.mul_le_mul_right _ hm
    omega)
  refine ⟨?_⟩
  have h' := this.le
  unfold TK
  split <;> omega
theorem T0_bd {cols : List (List Int)} {tg : List Int} (hm : cols.length ≤ 4) (hL : tg.length ≤ 4) (h1 : EB 200 cols) (h3 : ∀ c ∈ cols, c.length = tg.length) {p : List Nat} (hps : p ∈ subs tg.length cols.length) : Bd (T0 (cl cols) p) 900 := by
  obtain ⟨pa, pL⟩ := subs_asc hps
  have pm := asc_mem pa
  have := DF_bd (n := cols.length) (b := 200) (f := en (base cols p)) hm (fun i j hi hj => en_bd (base_sq pL) (base_eb h1 pm h3) hi hj)
  rw [DF_base pL] at this
  have := this.up (m := 900) (by
    have : cols.length * (200 + 4) ≤ 4 * (200 + 4) := Nat.mul_le_mul_right _ hm
    omega)
  exact ⟨by unfold T0; rw [Int.natAbs_natCast]; exact this.le⟩
def frac (t0 t : Int) : MV := .tup [.int (nr t t0).1, .int (nr t t0).2]
def dueV : List Int → MV
  | [] => .non
  | t0 :: ts => .lst (ts.map (frac t0))
def dueT : List Int → MV
  | [] => .non
  | t0 :: ts => .tup (ts.map (frac t0))
theorem R_due {k : Nat} (hk : 8 ≤ k) {cols : List (List Int)} {tg : List Int} (hm : cols.length ≤ 4) (hL : tg.length ≤ 4) (h1 : EB 200 cols) (h2 : EL 200 tg) (h3 : ∀ c ∈ cols, c.length = tg.length) :
    ∃ l o, R k 14 [tv true true cols, rv true tg] = some (dueV l, o) ∧ FO tg.length cols.length (cl cols) (gd tg) l := by
  obtain ⟨k, rfl⟩ : ∃ j, k = j + 1 := ⟨k - 1, by omega⟩
  obtain ⟨l, e, F⟩ := R_fit (k := k) (by omega) hm hL h1 h2 h3
  cases l with
  | nil =>
    refine ⟨[], false, R_eq (d := ⟨2, 6, b__law_due⟩) rfl rfl ?_, F⟩
    simp [b__law_due, startM, e, Mn.freeOf, MV.noLst, dueV]
  | cons t0 ts =>
    have hp : 0 < t0 ∧ Bd t0 900 ∧ (∀ t ∈ ts, Bd t 900) ∧ ts.length ≤ 4 := by
      cases F with
      | good p hp h hf =>
        refine ⟨by unfold T0; omega, T0_bd hm hL h1 h3 hp, fun t ht => ?_, by simpa using hm⟩
        obtain ⟨j, hj, rfl⟩ := List.mem_map.mp ht
        exact TK_bd hm hL h1 h2 h3 hp (List.mem_range.mp hj)
    obtain ⟨p0, p1, p2, p3⟩ := hp
    haveI := p1
    refine ⟨t0 :: ts, true, R_eq (d := ⟨2, 6, b__law_due⟩) rfl rfl ?_, F⟩
    have len : biSem .len [MV.lst ((t0 :: ts).map MV.int)] = some (.int (t0 :: ts).length, .sh) := by simp
    have hn : ¬ ((t0 :: ts).length : Int) = 0 := by rw [List.length_cons]; omega
    have i0 : idxSem (.lst ((t0 :: ts).map MV.int)) (.int 0) = some (.int t0) := rv_at (s := true) (l := t0 :: ts) (i := 0) (by simp)
    have sl : slcSem (.lst ((t0 :: ts).map MV.int)) (some 1) none = some (.lst (ts.map MV.int), .fr) := slc_from (f := 1)
    generalize hTd : (t0 :: ts).map MV.int = Told at e len i0 sl
    refine W.split 3 (fun σ => σ = [some (tv true true cols, false), some (rv true tg, false), some (.lst Told, true), some (.lst [], true), none, none]) ?_ ?_
    · simp (decide := true) only [b__law_due, startM, List.take_succ_cons, List.take_zero, List.map_cons, List.map_nil, List.length_cons, List.length_nil, List.replicate, List.cons_append, List.nil_append]
      simp [e, len, hn, Mn.freeOf, MV.noLst]
      exact IF.dec (fun h => by omega) (fun _ => trivial)
    · rintro σ rfl
      simp only [b__law_due, List.drop_succ_cons, List.drop_zero]
      refine W.for (ts.map MV.int) (fun i σ => ∃ a b, σ = [some (tv true true cols, false), some (rv true tg, false), some (.lst Told, true), some (.lst ((ts.take i).map (frac t0)), true), a, b]) (by simp [sl]) ⟨none, none, rfl⟩ ?_ ?_
      · rintro i v σ hv ⟨a, b, rfl⟩
        rw [List.getElem?_map] at hv
        cases hc : ts[i]? with
        | none => rw [hc] at hv; cases hv
        | some t =>
        rw [hc] at hv
        cases hv
        have ht : ts.take (i + 1) = ts.take i ++ [t] := by rw [List.take_add_one, hc]; rfl
        haveI := p2 t (List.mem_of_getElem? hc)
        have cm := R_common (k := k) (by omega) t t0 ((p2 t (List.mem_of_getElem? hc)).up (by decide)) (p1.up (by decide))
        have hg : ((Nat.gcd t.natAbs t0.natAbs : Nat) : Int) ≠ 0 := by
          have := Nat.gcd_pos_of_pos_right t.natAbs (n := t0.natAbs) (by omega)
          omega
        haveI := gcd_bd (a := t) p1 (by omega)
        have d1 : ∀ x : Int, binSem .fdiv (.int x) (.int (Nat.gcd t.natAbs t0.natAbs : Nat)) = some (.int (x.fdiv (Nat.gcd t.natAbs t0.natAbs : Nat)), .sh) := fun x => bin_fdiv hg (by decide)
        have hz : (ts.take i).length < SZ := SZ_gt (by rw [List.length_take]; omega)
        have hf : frac t0 t = .tup [.int (t.fdiv (Nat.gcd t.natAbs t0.natAbs : Nat)), .int (t0.fdiv (Nat.gcd t.natAbs t0.natAbs : Nat))] := by
          unfold frac nr
          rw [if_neg (by omega)]
        rw [ht]
        generalize ts.take i = TT at hz
        simp (decide := true) [i0, cm, d1, hz, hf, Mn.freeOf, MV.noLst]
      · rintro σ ⟨a, b, rfl⟩
        rw [List.length_map, List.take_length]
        simp [dueV]
theorem out_fo {L m : Nat} {C : Nat → Nat → Int} {b : Nat → Int} {v : MV} {l : List Int} (hm : m ≤ 4) (o : Out L m C b v) (f : FO L m C b l) : v = dueT l := by
  cases o with
  | dep z hz h =>
    cases f with
    | none _ => rfl
    | bad p _ _ _ => rfl
    | good p hp hd hf =>
      obtain ⟨pa, pL⟩ := subs_asc hp
      exact absurd (dep_none hm hz h pa pL) hd
  | inc h =>
    cases f with
    | none _ => rfl
    | bad p _ _ _ => rfl
    | good p hp hd hf =>
      have := h (TK C b p) (T0 C p) hf
      unfold T0 at this
      exact absurd (by omega) hd
  | sol hmL hk X s hs h N D hd =>
    cases f with
    | none hn =>
      obtain ⟨p, pa, pL, pn⟩ := minor_of (L := L) (m := m) hm C hk m (Nat.le_refl _)
      exact absurd (hn p (List.mem_filter.mpr ⟨asc_sub pa, by simpa using pL⟩)) pn
    | bad p hp h0 hf =>
      obtain ⟨pa, pL⟩ := subs_asc hp
      exact absurd (sol_fit hm pa pL h0 hs h).1 hf
    | good p hp h0 hf =>
      obtain ⟨pa, pL⟩ := subs_asc hp
      have hx := (sol_fit hm pa pL h0 hs h).2
      rw [dueT, List.map_map]
      congr 1
      refine List.map_congr_left fun k hk => ?_
      have hk := List.mem_range.mp hk
      obtain ⟨d1, d2⟩ := hd k hk
      have t0 : T0 C p ≠ 0 := by unfold T0; omega
      have : nr (N k) (D k) = nr (TK C b p k) (T0 C p) := by
        refine nr_eq d1 t0 ?_
        have q := hx k hk
        have : s * (N k * T0 C p - TK C b p k * D k) = 0 := by grind
        rcases Int.mul_eq_zero.mp this with q | q
        · exact absurd q hs
        · omega
      simp only [Function.comp, frac, this]
end K01

set_option Elab.async false
set_option linter.all false
set_option maxRecDepth 100000
set_option exponentiation.threshold 10000
namespace K01
open PySem Mn Mn.S Mn.S.Tw Mn.S.Tx
theorem tzs_tv : ∀ M : List (List Int), tzs (M.map (rv true)) = M.map (rv false)
  | [] => rfl
  | a :: l => by rw [List.map_cons, tzs, tzs_tv l]; simp only [rv, pr, if_true, tz, tzs_mi]; rfl
theorem tz_tv {M : List (List Int)} : tz (tv true true M) = tv false false M := by
  show tz (.lst (M.map (rv true))) = _
  rw [tz, tzs_tv]; rfl
theorem fits_tv {l : List (List Int)} (h : ∀ r ∈ l, r.length ≤ 1000) : fitss (l.map (rv true)) := by
  induction l with
  | nil => trivial
  | cons a l ih =>
    rw [List.map_cons, fitss]
    refine ⟨?_, ih fun x hx => h x (List.mem_cons_of_mem _ hx)⟩
    show fits (.lst (a.map MV.int))
    rw [fits]
    exact ⟨by rw [List.length_map]; have := h a List.mem_cons_self; omega, fitss_mi⟩
theorem deeps_tv {l : List (List Int)} : deeps (l.map (rv true)) ≤ 1 := deeps_all fun v hv => by
  obtain ⟨r, _, rfl⟩ := List.mem_map.mp hv
  show deep (.lst (r.map MV.int)) ≤ 1
  rw [deep, deeps_mi]; exact Nat.le_refl _
theorem R_same_tv {k : Nat} (hk : 10 ≤ k) {M : List (List Int)} (hl : M.length ≤ 1000) (h : ∀ r ∈ M, r.length ≤ 1000) : R k 10 [tv false false M, tv true true M] = some (.bl true, false) := by
  have := same_ok (L := LL) HS HW k (tv true true M) (by
    show deep (.lst (M.map (rv true))) + 2 ≤ k
    rw [deep]; have := deeps_tv (l := M); omega) (by
    show fits (.lst (M.map (rv true)))
    rw [fits]; exact ⟨by rw [List.length_map]; omega, fits_tv h⟩)
  rw [tz_tv] at this
  exact this
theorem R_same_rv {k : Nat} (hk : 10 ≤ k) {r : List Int} (hl : r.length ≤ 1000) : R k 10 [rv false r, rv true r] = some (.bl true, false) := by
  have := same_ok (L := LL) HS HW k (rv true r) (by
    show deep (.lst (r.map MV.int)) + 2 ≤ k
    rw [deep, deeps_mi]; omega) (by
    show fits (.lst (r.map MV.int))
    rw [fits]; exact ⟨by rw [List.length_map]; omega, fitss_mi⟩)
  have e : tz (rv true r) = rv false r := by
    show tz (.lst (r.map MV.int)) = _
    rw [tz, tzs_mi]; rfl
  rw [e] at this
  exact this
theorem tzs_frac {t0 : Int} : ∀ l : List Int, tzs (l.map (frac t0)) = l.map (frac t0)
  | [] => rfl
  | a :: l => by rw [List.map_cons, tzs, tzs_frac l]; simp [frac, tz, tzs]
theorem R_same_due {k : Nat} (hk : 10 ≤ k) {l : List Int} (hl : l.length ≤ 1000) : R k 10 [dueT l, dueV l] = some (.bl true, false) := by
  have := same_ok (L := LL) HS HW k (dueV l) (by
    cases l with
    | nil => simp [dueV, deep]; omega
    | cons t0 ts =>
      rw [dueV, deep]
      have : deeps (ts.map (frac t0)) ≤ 1 := deeps_all fun v hv => by
        obtain ⟨r, _, rfl⟩ := List.mem_map.mp hv
        simp [frac, deep, deeps]
      omega) (by
    cases l with
    | nil => simp [dueV, fits, okSize]
    | cons t0 ts =>
      rw [dueV, fits]
      refine ⟨by rw [List.length_map]; simp at hl; omega, ?_⟩
      have : ∀ l : List Int, fitss (l.map (frac t0)) := fun l => by
        induction l with
        | nil => trivial
        | cons a l ih => rw [List.map_cons, fitss]; exact ⟨by simp [frac, fits, fitss, okSize], ih⟩
      exact this ts)
  have e : tz (dueV l) = dueT l := by
    cases l with
    | nil => rfl
    | cons t0 ts => rw [dueV, tz, tzs_frac]; rfl
  rw [e] at this
  exact this
theorem comp_each {Φ : Fns} {σ : MS} {elt tg it} {t} {s0 s s' : Bool} {M : List (List Int)} (e : evI Φ it σ = some (M.map (rv s), t)) (hM : M.length ≤ 1000) (h : ∀ r ∈ M, turn1 Φ elt tg [] σ (rv s r) = some [rv s' r]) : ev Φ (.comp elt tg it []) σ = some (tv true s' M, .fr) := by
  have := comp_pt (Φ := Φ) (σ := σ) (elt := elt) (tg := tg) (it := it) (ifs := []) (xs := M.map (rv s)) (t := t) (M.map (rv s')) e (by simp) (by simp; omega) (by
    intro j x y hx hy
    rw [List.getElem?_map] at hx hy
    cases hc : M[j]? with
    | none => rw [hc] at hx; cases hx
    | some q =>
      rw [hc] at hx hy
      cases hx; cases hy
      exact h q (List.mem_of_getElem? hc))
  exact this
theorem evI_tv {Φ : Fns} {σ : MS} {i : Nat} {s0 s : Bool} {M : List (List Int)} : seqOf (tv s0 s M) = some (M.map (rv s)) := by cases s0 <;> rfl
theorem tup_tv {s : Bool} {M : List (List Int)} : biSem .tuple [tv true s M] = some (tv false s M, .sh) := by simp [tv, pr]
theorem isLst_tv {s : Bool} {M : List (List Int)} : isLst (tv true s M) = true := rfl
theorem R_passed {k : Nat} (hk : 1 ≤ k) {M : List (List Int)} (hl : M.length ≤ 1000) (h : ∀ r ∈ M, r.length ≤ 1000) (w : Int) : ∃ s, R k 21 [tv true true M, .int w] = some (tv s s M, s) := by
  obtain ⟨k, rfl⟩ : ∃ j, k = j + 1 := ⟨k - 1, by omega⟩
  have hw : w = 1 ∨ w ≠ 1 := by omega
  refine ⟨decide (w = 1), R_eq (d := ⟨2, 3, b__law_passed⟩) rfl rfl ?_⟩
  have c := comp_each (Φ := R k) (σ := [some (tv true true M, false), some (.int w, false), none]) (elt := .bi .list [.var 2]) (tg := .nm 2) (it := .seq (.var 0)) (s := true) (s' := true) (t := .sh) (s0 := true) (M := M) (by simp [tv, pr]) hl (fun r hr => by
    have := h r hr
    simp [turn1, rv, pr])
  have c2 := comp_each (Φ := R k) (σ := [some (tv true true M, false), some (.int w, false), none]) (elt := .bi .tuple [.var 2]) (tg := .nm 2) (it := .seq (.var 0)) (s := true) (s' := false) (t := .sh) (s0 := true) (M := M) (by simp [tv, pr]) hl (fun r hr => by
    have := h r hr
    simp [turn1, rv, pr])
  rcases hw with rfl | hw
  · simp (decide := true) [b__law_passed, startM, c, isLst_tv]
  · simp (decide := true) [b__law_passed, startM, c2, hw, tup_tv]
theorem R_stays {k : Nat} (hk : 11 ≤ k) {M : List (List Int)} (s0 s : Bool) (hl : M.length ≤ 1000) (h : ∀ r ∈ M, r.length ≤ 1000) : R k 22 [tv s0 s M, tv true true M] = some (.bl true, false) := by
  obtain ⟨k, rfl⟩ : ∃ j, k = j + 1 := ⟨k - 1, by omega⟩
  refine R_eq (d := ⟨2, 3, b__law_stays⟩) rfl rfl ?_
  have e := R_same_tv (k := k) (by omega) hl h
  have c := comp_each (Φ := R k) (σ := [some (tv s0 s M, false), some (tv true true M, false), none]) (elt := .bi .tuple [.var 2]) (tg := .nm 2) (it := .seq (.var 0)) (s := s) (s' := false) (t := .sh) (s0 := true) (M := M) (by cases s0 <;> simp [tv, pr]) hl (fun r hr => by
    have := h r hr
    cases s <;> simp [turn1, rv, pr])
  have e' : R k 10 [.tup (M.map (rv false)), tv true true M] = some (.bl true, false) := e
  simp (decide := true) [b__law_stays, startM, c, tup_tv, e, Mn.freeOf, MV.noLst]
theorem R_table_right {k : Nat} (hk : 13 ≤ k) {n : Nat} {M : List (List Int)} (h1 : 1 ≤ n) (h4 : n ≤ 4) (h : Sq n M) (he : EB 200 M) (w : Int) : R k 23 [tv true true M, .int w] = some (.bl true, false) := by
  obtain ⟨k, rfl⟩ : ∃ j, k = j + 1 := ⟨k - 1, by omega⟩
  have hl : M.length ≤ 1000 := by rw [h.1]; omega
  have hw : ∀ r ∈ M, r.length ≤ 1000 := fun r hr => by rw [h.2 r hr]; omega
  obtain ⟨s, e1⟩ := R_passed (k := k) (by omega) hl hw w
  have e2 := R_det n (k := k) s s h1 h4 (by decide) h he (by omega)
  have e3 := R_ldet n (k := k) true h4 (by decide) h he (by omega)
  have e4 := R_same_int (k := k) (by omega) (DF n (en M))
  have e5 := R_stays (k := k) (by omega) s s hl hw
  refine R_eq (d := ⟨2, 3, b__law_table_right⟩) rfl rfl ?_
  cases s <;> simp (decide := true) [b__law_table_right, startM, e1, e2, e3, e4, e5, Mn.freeOf, MV.noLst]
theorem R_system_right {k : Nat} (hk : 13 ≤ k) {cols : List (List Int)} {tg : List Int} (hm : cols.length ≤ 4) (hL : tg.length ≤ 4) (h1 : EB 200 cols) (h2 : EL 200 tg) (h3 : ∀ c ∈ cols, c.length = tg.length) (w : Int) : R k 24 [tv true true cols, rv true tg, .int w] = some (.bl true, false) := by
  obtain ⟨k, rfl⟩ : ∃ j, k = j + 1 := ⟨k - 1, by omega⟩
  have hl : cols.length ≤ 1000 := by omega
  have hw : ∀ r ∈ cols, r.length ≤ 1000 := fun r hr => by rw [h3 r hr]; omega
  obtain ⟨l, o, e0, F⟩ := R_due (k := k) (by omega) hm hL h1 h2 h3
  obtain ⟨s, e1⟩ := R_passed (k := k) (by omega) hl hw w
  have hll : l.length ≤ 1000 := by
    cases F with
    | none _ => simp
    | bad _ _ _ _ => simp
    | good _ _ _ _ => simp; omega
  have e5 := R_stays (k := k) (by omega) s s hl hw
  have e6 := R_same_rv (k := k) (r := tg) (by omega) (by omega)
  have e7 := R_same_due (k := k) (by omega) hll
  have b1 : biSem .tuple [rv true tg] = some (rv false tg, .sh) := by simp [rv, pr]
  have b2 : biSem .tuple [rv false tg] = some (rv false tg, .sh) := by simp [rv, pr]
  have b3 : biSem .list [rv true tg] = some (rv true tg, .fr) := by simp [rv, pr]
  have go : ∀ s1, ∃ v, R k 5 [tv s s cols, rv s1 tg] = some (dueT l, false) := fun s1 => by
    obtain ⟨v, e, O⟩ := R_solved (k := k) (by omega) s s s1 hm hL h1 h2 h3
    rw [out_fo hm O F] at e
    exact ⟨v, e⟩
  obtain ⟨_, g1⟩ := go true
  obtain ⟨_, g2⟩ := go false
  refine R_eq (d := ⟨3, 6, b__law_system_right⟩) rfl rfl ?_
  by_cases h : w = 1
  · subst h
    cases s <;> cases o <;> simp (decide := true) [b__law_system_right, startM, e0, e1, b1, b2, b3, g1, g2, e5, e6, e7, Mn.freeOf, MV.noLst, isLst_rv]
  · cases s <;> cases o <;> simp (decide := true) [b__law_system_right, startM, e0, e1, b1, b2, b3, g1, g2, e5, e6, e7, Mn.freeOf, MV.noLst, isLst_rv, h]
end K01


set_option Elab.async false
set_option linter.all false
set_option maxRecDepth 100000
set_option exponentiation.threshold 10000
namespace K01
open PySem Mn Mn.S Mn.S.Tw Mn.S.Tx
theorem below_rep {s : Int} : ∀ {n : Nat} {ds : List Int}, Below ds (List.replicate n s) → ds.length = n ∧ ∀ x ∈ ds, 0 ≤ x ∧ x < s
  | 0, ds, h => by cases h; exact ⟨rfl, fun x h => by cases h⟩
  | n + 1, ds, h => by
    rw [List.replicate_succ] at h
    cases h with
    | cons h0 h1 r =>
      obtain ⟨a, b⟩ := below_rep r
      refine ⟨by rw [List.length_cons, a], fun x hx => ?_⟩
      rcases List.mem_cons.mp hx with rfl | hx
      · exact ⟨h0, h1⟩
      · exact b x hx
/-- one entry of a table, as the law draws it -/
def ent (d0 x : Int) : Int := if d0 = 5 then x % 5 * (x / 7 % 3 - 1) else if d0 = 4 then (x - 500000000) * 100000000000000000000 + x else if d0 = 3 then x - 500000000 else if d0 = 2 then x % 19 - 9 else if d0 = 1 then x % 3 - 1 else x % 7 - 3
theorem ent_bd {d0 x : Int} (h0 : 0 ≤ x) (h1 : x < 1000000000) : Bd (ent d0 x) 100 := by
  have a1 : Bd x 30 := Bd.rng h0 (by omega)
  have a2 : Bd (x % 5) 3 := Bd.rng (by omega) (by omega)
  have a3 : Bd (x / 7 % 3 - 1) 2 := Bd.of (by omega) (by omega)
  unfold ent
  split
  · exact Bd.up (n := 3 + 2) Bd.mul (by decide)
  split
  · refine Bd.of ?_ ?_ <;> omega
  split
  · exact Bd.up (n := 31) (Bd.of (by omega) (by omega)) (by decide)
  split
  · exact Bd.up (n := 31) (Bd.of (by omega) (by omega)) (by decide)
  split
  · exact Bd.up (n := 31) (Bd.of (by omega) (by omega)) (by decide)
  · exact Bd.up (n := 31) (Bd.of (by omega) (by omega)) (by decide)
theorem el_snoc {b : Nat} {l : List Int} {x : Int} (h : EL b l) (hx : Bd x b) : EL b (l ++ [x]) := by
  intro y hy
  rcases List.mem_append.mp hy with hy | hy
  · exact h y hy
  · rw [List.mem_singleton.mp hy]; exact hx
theorem R_entries {k : Nat} (hk : 2 ≤ k) (c : Int) {n : Nat} (hn : n ≤ 100) : ∃ l : List Int, R k 15 [.int c, .int n] = some (rv true l, true) ∧ l.length = n ∧ EL 100 l := by
  obtain ⟨k, rfl⟩ : ∃ j, k = j + 1 := ⟨k - 1, by omega⟩
  have rep : binSem .mul (.lst [.int (1000000000 : Int)]) (.int (n : Int)) = some (.lst ((List.replicate n (1000000000 : Int)).map MV.int), .fr) := by
    rw [bin_rep (by omega) (by omega) (by simp; omega)]
    simp
  have ad : binSem .add (.lst [.int 9]) (.lst ((List.replicate n (1000000000 : Int)).map MV.int)) = some (.lst ((9 :: List.replicate n (1000000000 : Int)).map MV.int), .fr) := by
    rw [bin_addL (by simp; omega)]; rfl
  obtain ⟨ds, e, bd⟩ := digits_ok (L := LL) HD (k := k) (by omega) c (9 :: List.replicate n (1000000000 : Int)) (by simp; omega) (by
    intro s hs
    rcases List.mem_cons.mp hs with rfl | hs
    · exact ⟨by decide, Bd.up (n := 200) ⟨by decide⟩ (by decide)⟩
    · rw [(List.mem_replicate.mp hs).2]; exact ⟨by decide, Bd.up (n := 200) ⟨by decide⟩ (by decide)⟩)
  obtain ⟨d0, l, rfl, x0, y0, bd⟩ := bd.c
  obtain ⟨hl, hb⟩ := below_rep bd
  have e' : R k 8 [.int c, .lst ((9 :: List.replicate n (1000000000 : Int)).map MV.int)] = some (.lst ((d0 :: l).map MV.int), true) := e
  refine ⟨l.map (ent d0), ?_, by simp [hl], fun x hx => by
    obtain ⟨y, hy, rfl⟩ := List.mem_map.mp hx
    exact ent_bd (hb y hy).1 (hb y hy).2⟩
  have i0 : idxSem (.lst ((d0 :: l).map MV.int)) (.int 0) = some (.int d0) := rv_at (s := true) (l := d0 :: l) (i := 0) (by simp)
  have i1 : ∀ i, i < n → idxSem (.lst ((d0 :: l).map MV.int)) (.int (1 + (i : Int))) = some (.int (gd l i)) := fun i hi => by
    have := rv_at (s := true) (l := d0 :: l) (i := i + 1) (by simp; omega)
    rw [Int.natCast_add, Int.natCast_one, Int.add_comm] at this
    exact this
  generalize (d0 :: l).map MV.int = Dg at e' i0 i1
  refine R_eq (d := ⟨2, 7, b__law_entries⟩) rfl rfl ?_
  refine W.split 2 (fun σ => σ = [some (.int c, false), some (.int n, false), some (.lst Dg, true), some (.lst [], true), none, none, none]) ?_ ?_
  · simp (decide := true) [b__law_entries, startM, rep, ad, e', Mn.freeOf, MV.noLst, -List.map_replicate, show R k 8 [MV.int c, MV.lst (MV.int 9 :: List.map MV.int (List.replicate n 1000000000))] = some (MV.lst Dg, true) from e']
  · rintro σ rfl
    simp only [b__law_entries, List.drop_succ_cons, List.drop_zero]
    refine W.for (rngM 0 n) (fun i σ => ∃ z y w, σ = [some (.int c, false), some (.int n, false), some (.lst Dg, true), some (rv true ((l.take i).map (ent d0)), true), z, y, w]) (by simp [rngOk_n (n := n) (by omega)]) ⟨none, none, none, rfl⟩ ?_ ?_
    · rintro i v σ hv ⟨z, y, w, rfl⟩
      obtain ⟨hi, rfl⟩ := rngM_at hv
      have f1 := i1 i hi
      have hil : i < l.length := by omega
      have hg := hb (gd l i) (by rw [gd_eq hil]; exact List.getElem_mem _)
      have ht : l.take (i + 1) = l.take i ++ [gd l i] := by rw [List.take_add_one, List.getElem?_eq_getElem hil, gd_eq hil]; rfl
      have hz : (l.take i).length < SZ := SZ_gt (by rw [List.length_take]; omega)
      rw [ht]
      generalize l.take i = TT at hz
      generalize gd l i = x at *
      haveI : Bd x 30 := Bd.rng hg.1 (by omega)
      haveI : Bd (x % 5) 3 := Bd.rng (by omega) (by omega)
      haveI : Bd (x / 7 % 3 - 1) 2 := Bd.of (by omega) (by omega)
      rcases (by omega : d0 = 1 ∨ d0 = 2 ∨ d0 = 3 ∨ d0 = 4 ∨ d0 = 5 ∨ (d0 ≠ 1 ∧ d0 ≠ 2 ∧ d0 ≠ 3 ∧ d0 ≠ 4 ∧ d0 ≠ 5)) with rfl | rfl | rfl | rfl | rfl | ⟨n1, n2, n3, n4, n5⟩
      · simp (decide := true) [rv, pr, f1, i0, hz, ent]
      · simp (decide := true) [rv, pr, f1, i0, hz, ent]
      · simp (decide := true) [rv, pr, f1, i0, hz, ent]
      · simp (decide := true) [rv, pr, f1, i0, hz, ent]
      · simp (decide := true) [rv, pr, f1, i0, hz, ent]
      · simp (decide := true) [rv, pr, f1, i0, hz, ent, n1, n2, n3, n4, n5]
    · rintro σ ⟨z, y, w, rfl⟩
      rw [rngM_len, ← hl, List.take_length]
      simp [rv, pr]
theorem R_vectors {k : Nat} (hk : 3 ≤ k) (c : Int) {m n : Nat} (hm : m ≤ 5) (hn : n ≤ 4) : ∃ V : List (List Int), R k 16 [.int c, .int m, .int n] = some (tv true true V, true) ∧ V.length = m ∧ (∀ r ∈ V, r.length = n) ∧ EB 100 V := by
  obtain ⟨k, rfl⟩ : ∃ j, k = j + 1 := ⟨k - 1, by omega⟩
  have hmn : m * n ≤ 5 * 4 := Nat.mul_le_mul hm hn
  obtain ⟨l, e, hl, hb⟩ := R_entries (k := k) (by omega) c (n := m * n) (by omega)
  have hmi : ∀ i, i < m → n * i + n ≤ m * n := fun i hi => by
    have : n * (i + 1) ≤ n * m := Nat.mul_le_mul_left _ hi
    rw [Nat.mul_succ, Nat.mul_comm n m] at this; exact this
  refine ⟨(List.range m).map fun i => (l.drop (n * i)).take n, ?_, by simp, fun r hr => ?_, fun r hr x hx => ?_⟩
  · refine R_eq (d := ⟨3, 5, b__law_vectors⟩) rfl rfl ?_
    have e' : R k 15 [.int c, .int ((m : Int) * (n : Int))] = some (rv true l, true) := by rw [← e, Int.natCast_mul]
    haveI : Bd (m : Int) 20 := Bd.rng (by omega) (by omega)
    haveI : Bd (n : Int) 20 := Bd.rng (by omega) (by omega)
    have cc := comp_pt (Φ := R k) (σ := [some (.int c, false), some (.int m, false), some (.int n, false), some (rv true l, true), none]) (elt := .slc (.var 3) (some (.bin .mul (.var 2) (.var 4))) (some (.bin .add (.bin .mul (.var 2) (.var 4)) (.var 2)))) (tg := .nm 4) (it := .rng1 (.var 1)) (ifs := []) (xs := rngM 0 m) (t := .sh) (((List.range m).map fun i => (l.drop (n * i)).take n).map (rv true)) (by simp [rngOk_n (n := m) (by omega)]) (by simp [rngM_len]) (by rw [rngM_len]; omega) (by
      intro i x y hx hy
      obtain ⟨hi, rfl⟩ := rngM_at hx
      rw [List.getElem?_map, List.getElem?_map, List.getElem?_range hi] at hy
      cases hy
      haveI : Bd (i : Int) 20 := Bd.rng (by omega) (by omega)
      have := hmi i hi
      have sl := slc_mid (xs := l.map MV.int) (a := n * i) (b := n * i + n) (by omega)
      rw [Int.natCast_add, Int.natCast_mul, show n * i + n - n * i = n by omega] at sl
      simp (decide := true) [turn1, rv, pr, sl])
    simp (decide := true) [b__law_vectors, startM, e', cc, Mn.freeOf, MV.noLst, isLst_rv]
    simp [tv, pr]
  · obtain ⟨i, hi, rfl⟩ := List.mem_map.mp hr
    have := hmi i (List.mem_range.mp hi)
    rw [List.length_take, List.length_drop, hl]; omega
  · obtain ⟨i, hi, rfl⟩ := List.mem_map.mp hr
    exact hb x (List.mem_of_mem_drop (List.mem_of_mem_take hx))
end K01

set_option Elab.async false
set_option linter.all false
set_option maxRecDepth 100000
set_option exponentiation.threshold 10000
namespace K01
open PySem Mn Mn.S Mn.S.Tw Mn.S.Tx
theorem R_sum {k : Nat} (hk : 1 ≤ k) {V : List (List Int)} {Ws : List Int} {n b : Nat} (spot : Int) (hV : V.length ≤ 4) (hn : n ≤ 4) (hw : ∀ r ∈ V, r.length = n) (hb : b ≤ 1000) (he : EB b V) (hW : V.length ≤ Ws.length) (hWb : EL 3 Ws) : ∃ l : List Int, R k 17 [tv true true V, rv true Ws, .int n, .int spot] = some (rv true l, true) ∧ l.length = n ∧ EL (b + 8) l := by
  obtain ⟨k, rfl⟩ : ∃ j, k = j + 1 := ⟨k - 1, by omega⟩
  suffices key : OB (R (k + 1) 17 [tv true true V, rv true Ws, .int n, .int spot]) (fun v => ∃ l : List Int, v = (rv true l, true) ∧ l.length = n ∧ EL (b + 8) l) by
    obtain ⟨v, e, l, rfl, o⟩ := key
    exact ⟨l, e, o⟩
  have len := tv_len (s0 := true) (s := true) (M := V)
  refine R_of (d := ⟨4, 8, b__law_sum⟩) rfl rfl ?_
  refine W.split 1 (fun σ => σ = [some (tv true true V, false), some (rv true Ws, false), some (.int n, false), some (.int spot, false), some (rv true (List.replicate n 0), true), none, none, none]) ?_ ?_
  · have c := comp_pt (Φ := R k) (σ := [some (tv true true V, false), some (rv true Ws, false), some (.int n, false), some (.int spot, false), none, none, none, none]) (elt := .lit (.int 0)) (tg := .nm 6) (it := .rng1 (.var 2)) (ifs := []) (xs := rngM 0 n) (t := .sh) ((List.replicate n 0).map MV.int) (by simp [rngOk_n (n := n) (by omega)]) (by simp [rngM_len]) (by rw [rngM_len]; omega) (by
      intro i x y hx hy
      obtain ⟨hi, rfl⟩ := rngM_at hx
      rw [List.getElem?_map, List.getElem?_replicate, if_pos hi] at hy
      cases hy
      simp [turn1])
    simp (decide := true) [b__law_sum, startM, c, -List.map_replicate]
    simp [rv, pr]
  · rintro σ rfl
    simp only [b__law_sum, List.drop_succ_cons, List.drop_zero]
    refine W.for (rngM 0 V.length) (fun i σ => ∃ l z y, l.length = n ∧ EL (b + 4 + i) l ∧ σ = [some (tv true true V, false), some (rv true Ws, false), some (.int n, false), some (.int spot, false), some (rv true l, true), z, none, y]) (by simp [len, rngOk_n (n := V.length) (by omega)]) ⟨List.replicate n 0, none, none, by simp, fun x hx => by rw [(List.mem_replicate.mp hx).2]; exact ⟨Nat.two_pow_pos _⟩, rfl⟩ ?_ ?_
    · rintro i v σ hv ⟨l, z, y, hl, hlb, rfl⟩
      obtain ⟨hi, rfl⟩ := rngM_at hv
      have hg := List.getElem?_eq_getElem hi
      have hq := hw _ (List.getElem_mem hi)
      have e1 := tv_get (s0 := true) (s := true) hg
      have e2 := rv_at (s := true) (l := Ws) (i := i) (by omega)
      haveI := gd_bd hWb (i := i) (by omega)
      have hqb := he _ (List.getElem_mem hi)
      generalize V[i] = q at *
      by_cases hs : (i : Int) = spot
      · simp (decide := true) [hs]
        exact ⟨l, hl, fun x hx => (hlb x hx).up (by omega), rfl⟩
      · have c := comp_pt (Φ := R k) (σ := [some (tv true true V, false), some (rv true Ws, false), some (.int n, false), some (.int spot, false), some (rv true l, true), some (.int i, false), none, y]) (elt := .bin .add (.idx (.var 4) (.var 7)) (.bin .mul (.idx (.var 1) (.var 5)) (.idx (.idx (.var 0) (.var 5)) (.var 7)))) (tg := .nm 7) (it := .rng1 (.var 2)) (ifs := []) (xs := rngM 0 n) (t := .sh) (((List.range n).map fun j => gd l j + gd Ws i * gd q j).map MV.int) (by simp [rngOk_n (n := n) (by omega)]) (by simp [rngM_len]) (by rw [rngM_len]; omega) (by
          intro j x y hx hy
          obtain ⟨hj, rfl⟩ := rngM_at hx
          rw [List.getElem?_map, List.getElem?_map, List.getElem?_range hj] at hy
          cases hy
          have f1 := rv_at (s := true) (l := l) (i := j) (by omega)
          have f2 := rv_at (s := true) (l := q) (i := j) (by omega)
          haveI := (gd_bd hlb (i := j) (by omega)).up (show b + 4 + i ≤ 1008 by omega)
          haveI := (gd_bd hqb (i := j) (by omega)).up hb
          simp (decide := true) [turn1, e1, e2, f1, f2])
        simp (decide := true) [hs, c, -List.map_map]
        refine ⟨_, by simp, fun x hx => ?_, rfl⟩
        obtain ⟨j, hj, rfl⟩ := List.mem_map.mp hx
        have hj := List.mem_range.mp hj
        haveI := gd_bd hlb (i := j) (by omega)
        haveI := gd_bd hqb (i := j) (by omega)
        have : Bd (gd l j + gd Ws i * gd q j) (max (b + 4 + i) (3 + b) + 1) := inferInstance
        exact this.up (by omega)
    · rintro σ ⟨l, z, y, hl, hlb, rfl⟩
      rw [rngM_len] at hlb
      simp [isLst_rv]
      exact ⟨l, rfl, hl, fun x hx => (hlb x hx).up (by omega)⟩
theorem er_map {α β : Type} {f : α → β} : ∀ {l : List α} {q : Nat}, (l.map f).eraseIdx q = (l.eraseIdx q).map f
  | [], q => by simp
  | a :: l, 0 => rfl
  | a :: l, q + 1 => by simp [er_map (l := l) (q := q)]
theorem R_scattered {k : Nat} (hk : 1 ≤ k) {N P : List Int} {m n : Nat} (hm : m ≤ n) (hn : n ≤ 4) (hN : m ≤ N.length) (hP : m ≤ P.length) (hNb : EL 10 N) (hPb : ∀ x ∈ P, 0 ≤ x) : ∃ V : List (List Int), R k 18 [rv true N, rv true P, .int m, .int n] = some (tv true true V, true) ∧ V.length = m ∧ (∀ r ∈ V, r.length = n) ∧ EB 20 V := by
  obtain ⟨k, rfl⟩ : ∃ j, k = j + 1 := ⟨k - 1, by omega⟩
  suffices key : OB (R (k + 1) 18 [rv true N, rv true P, .int m, .int n]) (fun v => ∃ V : List (List Int), v = (tv true true V, true) ∧ V.length = m ∧ (∀ r ∈ V, r.length = n) ∧ EB 20 V) by
    obtain ⟨v, e, l, rfl, o⟩ := key
    exact ⟨l, e, o⟩
  refine R_of (d := ⟨4, 9, b__law_scattered⟩) rfl rfl ?_
  refine W.split 2 (fun σ => σ = [some (rv true N, false), some (rv true P, false), some (.int m, false), some (.int n, false), some (rv true ((List.range n).map fun (i : Nat) => (i : Int)), true), some (tv true true [], true), none, none, none]) ?_ ?_
  · have c := comp_pt (Φ := R k) (σ := [some (rv true N, false), some (rv true P, false), some (.int m, false), some (.int n, false), none, none, none, none, none]) (elt := .var 6) (tg := .nm 6) (it := .rng1 (.var 3)) (ifs := []) (xs := rngM 0 n) (t := .sh) (((List.range n).map fun (i : Nat) => (i : Int)).map MV.int) (by simp [rngOk_n (n := n) (by omega)]) (by simp [rngM_len]) (by rw [rngM_len]; omega) (by
      intro i x y hx hy
      obtain ⟨hi, rfl⟩ := rngM_at hx
      rw [List.getElem?_map, List.getElem?_map, List.getElem?_range hi] at hy
      cases hy
      simp [turn1])
    simp (decide := true) [b__law_scattered, startM, c, -List.map_map]
    simp [rv, pr, tv]
  · rintro σ rfl
    simp only [b__law_scattered, List.drop_succ_cons, List.drop_zero]
    refine W.for (rngM 0 m) (fun i σ => ∃ rest V z y, rest.length + i = n ∧ V.length = i ∧ (∀ r ∈ V, r.length = n) ∧ EB 20 V ∧ σ = [some (rv true N, false), some (rv true P, false), some (.int m, false), some (.int n, false), some (rv true rest, true), some (tv true true V, true), z, y, none]) (by simp [rngOk_n (n := m) (by omega)]) ⟨_, [], none, none, by simp, rfl, fun r h => absurd h (by simp), fun r h => absurd h (by simp), rfl⟩ ?_ ?_
    · rintro i v σ hv ⟨rest, V, z, y, hr, hV, hVn, hVb, rfl⟩
      obtain ⟨hi, rfl⟩ := rngM_at hv
      have e1 := rv_at (s := true) (l := P) (i := i) (by omega)
      have e2 := rv_at (s := true) (l := N) (i := i) (by omega)
      have p0 : 0 ≤ gd P i := hPb _ (by rw [gd_eq (by omega)]; exact List.getElem_mem _)
      haveI := gd_bd hNb (i := i) (by omega)
      have hm0 : (0 : Int) ≤ gd P i % (rest.length : Int) := Int.emod_nonneg _ (by omega)
      have hm1 : gd P i % (rest.length : Int) < rest.length := Int.emod_lt_of_pos _ (by omega)
      obtain ⟨q, hq⟩ := Int.eq_ofNat_of_zero_le hm0
      have hq' : q < rest.length := by omega
      have hlr : biSem .len [rv true rest] = some (.int rest.length, .sh) := by rw [rv, pr_len, List.length_map]
      haveI : Bd (rest.length : Int) 10 := Bd.rng (by omega) (by omega)
      have hp : popSem (rest.map MV.int) (some (q : Int)) = some (.int rest[q], (rest.eraseIdx q).map MV.int) := by
        simp [popSem, L2.ixN, hq', er_map]
      have hrl : ¬ (rest.length : Int) = 0 := by omega
      have hVl : V.length < SZ := SZ_gt (by omega)
      have c := fun v : Int => comp_pt (Φ := R k) (σ := [some (rv true N, false), some (rv true P, false), some (.int m, false), some (.int n, false), some (rv true (rest.eraseIdx q), true), some (tv true true V, true), some (.int i, false), some (.int v, false), none]) (elt := .bin .mul (.idx (.var 0) (.var 6)) (.bi .int [.cmp .eq (.var 8) (.var 7)])) (tg := .nm 8) (it := .rng1 (.var 3)) (ifs := []) (xs := rngM 0 n) (t := .sh) (((List.range n).map fun (j : Nat) => gd N i * (if (j : Int) = v then 1 else 0)).map MV.int) (by simp [rngOk_n (n := n) (by omega)]) (by simp [rngM_len]) (by rw [rngM_len]; omega) (by
        intro j x y hx hy
        obtain ⟨hj, rfl⟩ := rngM_at hx
        rw [List.getElem?_map, List.getElem?_map, List.getElem?_range hj] at hy
        cases hy
        haveI : Bd (if (j : Int) = v then 1 else 0) 2 := Bd.of (by split <;> decide) (by split <;> decide)
        simp [turn1, e2])
      simp (decide := true) only [W_popTo]
      have hmod : binSem .mod (.int (gd P i)) (.int rest.length) = some (.int (gd P i % rest.length), .sh) := bin_mod (by omega)
      have cq := c rest[q]
      rw [show rv true (rest.eraseIdx q) = .lst ((rest.eraseIdx q).map MV.int) from rfl] at cq
      have ow : ∀ (l : List Int) r, ownL (some (rv true l, true) :: r) 0 = some (l.map MV.int) := fun l r => rfl
      have ow2 : ∀ (l : List (List Int)) r, ownL (some (tv true true l, true) :: r) 0 = some (l.map (rv true)) := fun l r => rfl
      simp (decide := true) [e1, hlr, hmod, hq, ow, ow2, hp, cq, -List.map_map, hVl]
      refine ⟨rest.eraseIdx q, ?_, V ++ [(List.range n).map fun (j : Nat) => gd N i * (if (j : Int) = rest[q] then 1 else 0)], by simp [hV], fun r hr => ?_, fun r hr => ?_, rfl, by simp [tv, pr, rv]⟩
      · rw [List.length_eraseIdx, if_pos hq']; omega
      · rcases List.mem_append.mp hr with hr | hr
        · exact hVn r hr
        · rw [List.mem_singleton.mp hr]; simp
      · rcases List.mem_append.mp hr with hr | hr
        · exact hVb r hr
        · rw [List.mem_singleton.mp hr]
          intro x hx
          obtain ⟨j, hj, rfl⟩ := List.mem_map.mp hx
          haveI : Bd (if (j : Int) = rest[q] then 1 else 0) 2 := Bd.of (by split <;> decide) (by split <;> decide)
          exact Bd.up (n := 10 + 2) Bd.mul (by decide)
    · rintro σ ⟨rest, V, z, y, hr, hV, hVn, hVb, rfl⟩
      rw [rngM_len] at hV
      simp [isLst_tv]
      exact ⟨V, rfl, hV, hVn, hVb⟩
end K01

set_option Elab.async false
set_option linter.all false
set_option maxRecDepth 100000
set_option exponentiation.threshold 10000
namespace K01
open PySem Mn Mn.S Mn.S.Tw Mn.S.Tx
theorem eb_set {b s : Nat} {M : List (List Int)} {r : List Int} (h : EB b M) (hr : EL b r) : EB b (M.set s r) := by
  intro q hq
  rcases List.mem_or_eq_of_mem_set hq with hq | rfl
  · exact h q hq
  · exact hr
theorem wd_set {n s : Nat} {M : List (List Int)} {r : List Int} (h : ∀ q ∈ M, q.length = n) (hr : r.length = n) : ∀ q ∈ M.set s r, q.length = n := by
  intro q hq
  rcases List.mem_or_eq_of_mem_set hq with hq | rfl
  · exact h q hq
  · exact hr
theorem set_tv {s : Nat} {M : List (List Int)} {r : List Int} (hs : s < M.length) : setSem (M.map (rv true)) (.int (s : Int)) (rv true r) = some ((M.set s r).map (rv true)) := by
  simp [setSem, L2.ixN, hs, List.map_set]
theorem ow_tv {l : List (List Int)} {r : MS} : ownL (some (tv true true l, true) :: r) 0 = some (l.map (rv true)) := rfl
theorem lst_tvT {M : List (List Int)} : MV.lst (M.map (rv true)) = tv true true M := rfl
theorem noLsts_mi : ∀ l : List Int, MV.noLsts (l.map MV.int) = true
  | [] => rfl
  | a :: l => by rw [List.map_cons, MV.noLsts, noLsts_mi l]; rfl
theorem free_rv {l : List Int} : Mn.freeOf (rv true l, true) = true := noLsts_mi l
/-- a row changed entry by entry -/
theorem comp_row {Φ : Fns} {σ : MS} {elt tg it} {t} {r : List Int} {f : Int → Int} (e : evI Φ it σ = some (r.map MV.int, t)) (hr : r.length ≤ 1000) (h : ∀ x ∈ r, turn1 Φ elt tg [] σ (.int x) = some [.int (f x)]) : ev Φ (.comp elt tg it []) σ = some (rv true (r.map f), .fr) := by
  have := comp_pt (Φ := Φ) (σ := σ) (elt := elt) (tg := tg) (it := it) (ifs := []) (xs := r.map MV.int) (t := t) ((r.map f).map MV.int) e (by simp) (by simp; omega) (by
    intro j x y hx hy
    rw [List.getElem?_map] at hx
    rw [List.map_map, List.getElem?_map] at hy
    cases hc : r[j]? with
    | none => rw [hc] at hx; cases hx
    | some q =>
      rw [hc] at hx hy
      cases hx; cases hy
      exact h q (List.mem_of_getElem? hc))
  exact this
/-- a row told by places -/
theorem comp_rng {Φ : Fns} {σ : MS} {elt tg it} {t} {n : Nat} {f : Nat → Int} (e : evI Φ it σ = some (rngM 0 n, t)) (hn : n ≤ 1000) (h : ∀ j, j < n → turn1 Φ elt tg [] σ (.int (0 + (j : Int))) = some [.int (f j)]) : ev Φ (.comp elt tg it []) σ = some (rv true ((List.range n).map f), .fr) := by
  have := comp_pt (Φ := Φ) (σ := σ) (elt := elt) (tg := tg) (it := it) (ifs := []) (xs := rngM 0 n) (t := t) (((List.range n).map f).map MV.int) e (by simp [rngM_len]) (by rw [rngM_len]; omega) (by
    intro j x y hx hy
    obtain ⟨hj, rfl⟩ := rngM_at hx
    rw [List.getElem?_map, List.getElem?_map, List.getElem?_range hj] at hy
    cases hy
    exact h j hj)
  exact this
def J (c c1 : Int) (Dg : List MV) (n : Nat) (Ws P : List Int) (s : Nat) (b : Nat) (σ : MS) : Prop := ∃ M o4 o5 a8 a9 a10 a11, Sq n M ∧ EB b M ∧ σ = [some (.int c, false), some (.int c1, false), some (.lst Dg, true), some (.int n, false), some (rv true Ws, o4), some (rv true P, o5), some (tv true true M, true), some (.int s, false), a8, a9, a10, a11]

theorem J.up {c c1 : Int} {Dg : List MV} {n : Nat} {Ws P : List Int} {s b b' : Nat} {σ : MS} (h : J c c1 Dg n Ws P s b σ) (hb : b ≤ b') : J c c1 Dg n Ws P s b' σ := by
  obtain ⟨M, o4, o5, a8, a9, a10, a11, h1, h2, h3⟩ := h
  exact ⟨M, o4, o5, a8, a9, a10, a11, h1, fun r hr x hx => (h2 r hr x hx).up hb, h3⟩
section
variable {k : Nat} {c c1 : Int} {Dg : List MV} {n : Nat} {Ws P : List Int} {s : Nat} {σ : MS} {h1 h3 h4 : Int} {Q : Mn.Flow → Prop} {rest : List CS}
theorem J_sum (hk : 1 ≤ k) (n1 : 1 ≤ n) (n4 : n ≤ 4) (hs : s < n) (hW : Ws.length = 4) (hWb : EL 3 Ws) (i1 : idxSem (.lst Dg) (.int 1) = some (.int h1)) {b : Nat} (hb : b ≤ 1000) (j : J c c1 Dg n Ws P s b σ) (q : ∀ σ', J c c1 Dg n Ws P s (b + 8) σ' → W (R k) LL rest σ' Q) :
    W (R k) LL (.ite (.cmp .eq (.idx (.var 2) (.lit (.int 1))) (.lit (.int 2))) [.drop 4, .set 6 (.var 7) (.call 17 [.var 6, .var 4, .var 3, .var 7])] [] :: rest) σ Q := by
  refine W.step (I := J c c1 Dg n Ws P s (b + 8)) ?_ q
  obtain ⟨M, o4, o5, a8, a9, a10, a11, hq, he, rfl⟩ := j
  by_cases hh : h1 = 2
  · subst hh
    obtain ⟨l, e, hl, hlb⟩ := R_sum (k := k) hk (V := M) (Ws := Ws) (n := n) (b := b) (s : Int) (by rw [hq.1]; exact n4) n4 hq.2 hb he (by rw [hq.1]; omega) hWb
    have st := set_tv (s := s) (M := M) (r := l) (by rw [hq.1]; exact hs)
    cases o4 <;> simp (decide := true) [i1, e, ow_tv, st, free_rv, -List.map_set, isLst_rv] <;> exact ⟨M.set s l, _, _, _, _, _, _, ⟨by rw [List.length_set]; exact hq.1, wd_set hq.2 hl⟩, eb_set (fun r hr x hx => (he r hr x hx).up (by omega)) hlb, rfl⟩
  · simp (decide := true) [i1, hh]
    exact ⟨M, _, _, _, _, _, _, hq, fun r hr x hx => (he r hr x hx).up (by omega), rfl⟩
theorem J_copy (n1 : 1 ≤ n) (n4 : n ≤ 4) (hs : s < n) (i1 : idxSem (.lst Dg) (.int 1) = some (.int h1)) (i3 : idxSem (.lst Dg) (.int 3) = some (.int h3)) (i4 : idxSem (.lst Dg) (.int 4) = some (.int h4)) (x4 : 0 ≤ h4) (y4 : h4 < 2) {b : Nat} (hb : b ≤ 1000) (j : J c c1 Dg n Ws P s b σ) (q : ∀ σ', J c c1 Dg n Ws P s (b + 8) σ' → W (R k) LL rest σ' Q) :
    W (R k) LL (.ite (.and (.cmp .eq (.idx (.var 2) (.lit (.int 1))) (.lit (.int 3))) (.cmp .gt (.var 3) (.lit (.int 1)))) [.asg 8 (.bin .mod (.bi .int [.bin .add (.bin .add (.var 7) (.lit (.int 1))) (.bin .mod (.bi .int [.idx (.var 2) (.lit (.int 3))]) (.bin .sub (.var 3) (.lit (.int 1))))]) (.var 3)), .set 6 (.var 7) (.comp (.bin .mul (.bin .sub (.lit (.int 1)) (.bin .mul (.lit (.int 2)) (.idx (.var 2) (.lit (.int 4))))) (.var 10)) (.nm 10) (.seq (.idx (.var 6) (.var 8))) [])] [] :: rest) σ Q := by
  refine W.step (I := J c c1 Dg n Ws P s (b + 8)) ?_ q
  obtain ⟨M, o4, o5, a8, a9, a10, a11, hq, he, rfl⟩ := j
  by_cases hh : h1 = 3
  · by_cases hn : n = 1
    · subst hh; subst hn
      simp (decide := true) [i1]
      exact ⟨M, _, _, _, _, _, _, hq, fun r hr x hx => (he r hr x hx).up (by omega), rfl⟩
    · subst hh
      have hn1 : (1 : Int) < n := by omega
      haveI : Bd (n : Int) 10 := Bd.rng (by omega) (by omega)
      haveI : Bd (s : Int) 10 := Bd.rng (by omega) (by omega)
      haveI : Bd h4 2 := Bd.rng x4 (by omega)
      have m1 : binSem .mod (.int h3) (.int ((n : Int) - 1)) = some (.int (h3 % ((n : Int) - 1)), .sh) := bin_mod (by omega)
      have z0 : 0 ≤ h3 % ((n : Int) - 1) := Int.emod_nonneg _ (by omega)
      have z1 : h3 % ((n : Int) - 1) < (n : Int) - 1 := Int.emod_lt_of_pos _ (by omega)
      haveI : Bd (h3 % ((n : Int) - 1)) 10 := Bd.rng z0 (by omega)
      have m2 : ∀ y : Int, binSem .mod (.int y) (.int (n : Int)) = some (.int (y % (n : Int)), .sh) := fun y => bin_mod (by omega)
      have w0 : 0 ≤ ((s : Int) + 1 + h3 % ((n : Int) - 1)) % (n : Int) := Int.emod_nonneg _ (by omega)
      have w1 : ((s : Int) + 1 + h3 % ((n : Int) - 1)) % (n : Int) < n := Int.emod_lt_of_pos _ (by omega)
      obtain ⟨o, ho⟩ := Int.eq_ofNat_of_zero_le w0
      have hoM : o < M.length := by rw [hq.1]; omega
      have hg := List.getElem?_eq_getElem hoM
      have e1 := tv_get (s0 := true) (s := true) hg
      have hql := hq.2 _ (List.getElem_mem hoM)
      have hqb := he _ (List.getElem_mem hoM)
      generalize M[o] = q at *
      have cc := comp_row (Φ := R k) (σ := [some (.int c, false), some (.int c1, false), some (.lst Dg, true), some (.int n, false), some (rv true Ws, o4), some (rv true P, o5), some (tv true true M, true), some (.int s, false), some (.int o, false), a9, a10, a11]) (elt := .bin .mul (.bin .sub (.lit (.int 1)) (.bin .mul (.lit (.int 2)) (.idx (.var 2) (.lit (.int 4))))) (.var 10)) (tg := .nm 10) (it := .seq (.idx (.var 6) (.var 8))) (r := q) (f := fun x => (1 - 2 * h4) * x) (t := .sh) (by simp [e1, rv, pr]) (by omega) (by
        intro x hx
        haveI := (hqb x hx).up hb
        simp (decide := true) [turn1, i4])
      have st := set_tv (s := s) (M := M) (r := q.map fun x => (1 - 2 * h4) * x) (by rw [hq.1]; exact hs)
      simp (decide := true) [i1, i3, hn1, m1, m2, ho, cc, ow_tv, st, -List.map_set]
      refine ⟨M.set s (q.map fun x => (1 - 2 * h4) * x), _, _, _, _, _, _, ⟨by rw [List.length_set]; exact hq.1, wd_set hq.2 (by simp [hql])⟩, eb_set (fun r hr x hx => (he r hr x hx).up (by omega)) fun x hx => ?_, rfl⟩
      obtain ⟨y, hy, rfl⟩ := List.mem_map.mp hx
      haveI := hqb y hy
      haveI : Bd (1 - 2 * h4) 3 := Bd.of (by omega) (by omega)
      exact Bd.up (n := 3 + b) Bd.mul (by omega)
  · simp (decide := true) [i1, hh]
    exact ⟨M, _, _, _, _, _, _, hq, fun r hr x hx => (he r hr x hx).up (by omega), rfl⟩
theorem J_scat (hk : 1 ≤ k) (n1 : 1 ≤ n) (n4 : n ≤ 4) (hW : Ws.length = 4) (hWb : EL 3 Ws) (hP : P.length = 4) (hPb : ∀ x ∈ P, 0 ≤ x) (i1 : idxSem (.lst Dg) (.int 1) = some (.int h1)) {b : Nat} (hb : 20 ≤ b) (j : J c c1 Dg n Ws P s b σ) (q : ∀ σ', J c c1 Dg n Ws P s b σ' → W (R k) LL rest σ' Q) :
    W (R k) LL (.ite (.or (.cmp .eq (.idx (.var 2) (.lit (.int 1))) (.lit (.int 4))) (.cmp .eq (.idx (.var 2) (.lit (.int 1))) (.lit (.int 5)))) [.drop 5, .asg 6 (.call 18 [.comp (.bin .add (.idx (.var 4) (.var 9)) (.bin .mul (.lit (.int 4)) (.bi .int [.cmp .eq (.idx (.var 4) (.var 9)) (.lit (.int 0))]))) (.nm 9) (.rng1 (.lit (.int 4))) [], .var 5, .var 3, .var 3])] [] :: rest) σ Q := by
  refine W.step (I := J c c1 Dg n Ws P s b) ?_ q
  obtain ⟨M, o4, o5, a8, a9, a10, a11, hq, he, rfl⟩ := j
  have cc := comp_rng (Φ := R k) (σ := [some (.int c, false), some (.int c1, false), some (.lst Dg, true), some (.int n, false), some (rv true Ws, o4), some (rv true P, false), some (tv true true M, true), some (.int s, false), a8, a9, a10, a11]) (elt := .bin .add (.idx (.var 4) (.var 9)) (.bin .mul (.lit (.int 4)) (.bi .int [.cmp .eq (.idx (.var 4) (.var 9)) (.lit (.int 0))]))) (tg := .nm 9) (it := .rng1 (.lit (.int 4))) (n := 4) (f := fun j => gd Ws j + 4 * (if gd Ws j = 0 then 1 else 0)) (t := .sh) (by simp [show rngOk 4 = true from rngOk_n (n := 4) (by decide)]) (by omega) (by
    intro j hj
    have e := rv_at (s := true) (l := Ws) (i := j) (by omega)
    haveI := gd_bd hWb (i := j) (by omega)
    haveI : Bd (if gd Ws j = 0 then (1 : Int) else 0) 2 := Bd.of (by split <;> decide) (by split <;> decide)
    simp (decide := true) [turn1, e])
  obtain ⟨V, e, hV, hVn, hVb⟩ := R_scattered (k := k) hk (N := (List.range 4).map fun j => gd Ws j + 4 * (if gd Ws j = 0 then 1 else 0)) (P := P) (m := n) (n := n) (Nat.le_refl _) n4 (by simp; omega) (by omega) (fun x hx => by
    obtain ⟨j, hj, rfl⟩ := List.mem_map.mp hx
    have hj := List.mem_range.mp hj
    haveI := gd_bd hWb (i := j) (by omega)
    haveI : Bd (if gd Ws j = 0 then (1 : Int) else 0) 2 := Bd.of (by split <;> decide) (by split <;> decide)
    have : Bd (gd Ws j + 4 * (if gd Ws j = 0 then 1 else 0)) _ := inferInstance
    exact this.up (by decide)) hPb
  have fin : J c c1 Dg n Ws P s b [some (.int c, false), some (.int c1, false), some (.lst Dg, true), some (.int n, false), some (rv true Ws, o4), some (rv true P, false), some (tv true true V, true), some (.int s, false), a8, a9, a10, a11] := ⟨V, _, _, _, _, _, _, ⟨hV, hVn⟩, fun r hr x hx => (hVb r hr x hx).up hb, rfl⟩
  by_cases hh : h1 = 4
  · subst hh
    cases o5 <;> simp (decide := true) [i1, cc, e, Mn.freeOf, MV.noLst, -List.map_map] <;> exact fin
  · by_cases hh' : h1 = 5
    · subst hh'
      cases o5 <;> simp (decide := true) [i1, cc, e, Mn.freeOf, MV.noLst, -List.map_map] <;> exact fin
    · simp (decide := true) [i1, hh, hh']
      exact ⟨M, _, _, _, _, _, _, hq, he, rfl⟩
end
end K01

set_option Elab.async false
set_option linter.all false
set_option maxRecDepth 100000
set_option exponentiation.threshold 10000
namespace K01
open PySem Mn Mn.S Mn.S.Tw Mn.S.Tx
section
variable {k : Nat} {c c1 : Int} {Dg : List MV} {n : Nat} {Ws P : List Int} {s : Nat} {σ : MS} {h1 h3 h4 : Int} {Q : Mn.Flow → Prop} {rest : List CS}
theorem J_tri (n1 : 1 ≤ n) (n4 : n ≤ 4) (i1 : idxSem (.lst Dg) (.int 1) = some (.int h1)) {b : Nat} (hb : b ≤ 1000) (j : J c c1 Dg n Ws P s b σ) (q : ∀ σ', J c c1 Dg n Ws P s b σ' → W (R k) LL rest σ' Q) :
    W (R k) LL (.ite (.cmp .eq (.idx (.var 2) (.lit (.int 1))) (.lit (.int 6))) [.forS (.nm 9) (.rng1 (.var 3)) [.set 6 (.var 9) (.comp (.bin .mul (.idx (.idx (.var 6) (.var 9)) (.var 11)) (.bi .int [.cmp .ge (.var 11) (.var 9)])) (.nm 11) (.rng1 (.var 3)) [])]] [] :: rest) σ Q := by
  refine W.step (I := J c c1 Dg n Ws P s b) ?_ q
  obtain ⟨M, o4, o5, a8, a9, a10, a11, hq, he, rfl⟩ := j
  have hr := rngOk_n (n := n) (by omega)
  by_cases hh : h1 = 6
  · subst hh
    simp (decide := true) [i1]
    refine W.for (rngM 0 n) (fun i σ => J c c1 Dg n Ws P s b σ) (by simp [hr]) ⟨M, _, _, _, _, _, _, hq, he, rfl⟩ ?_ ?_
    · rintro i v σ hv ⟨M, o4, o5, a8, a9, a10, a11, hq, he, rfl⟩
      obtain ⟨hi, rfl⟩ := rngM_at hv
      have hiM : i < M.length := by rw [hq.1]; exact hi
      have hg := List.getElem?_eq_getElem hiM
      have e1 := tv_get (s0 := true) (s := true) hg
      have hql := hq.2 _ (List.getElem_mem hiM)
      have hqb := he _ (List.getElem_mem hiM)
      generalize M[i] = q at *
      have bdf : ∀ j, j < n → Bd (gd q j * (if i ≤ j then 1 else 0)) b := fun j hj => by
        have := gd_bd hqb (i := j) (by omega)
        split
        · rw [Int.mul_one]; exact this
        · rw [Int.mul_zero]; exact ⟨Nat.two_pow_pos _⟩
      have cc' : ev (R k) (.comp (.bin .mul (.idx (.idx (.var 6) (.var 9)) (.var 11)) (.bi .int [.cmp .ge (.var 11) (.var 9)])) (.nm 11) (.rng1 (.var 3)) []) [some (.int c, false), some (.int c1, false), some (.lst Dg, true), some (.int n, false), some (rv true Ws, o4), some (rv true P, o5), some (tv true true M, true), some (.int s, false), a8, some (.int i, false), a10, a11] = some (rv true ((List.range n).map fun j => gd q j * (if i ≤ j then 1 else 0)), .fr) := by
        refine comp_rng (t := .sh) (by simp [hr]) (by omega) (by
        intro j hj
        have e := rv_at (s := true) (l := q) (i := j) (by omega)
        haveI := (gd_bd hqb (i := j) (by omega)).up hb
        haveI : Bd (if i ≤ j then (1 : Int) else 0) 2 := Bd.of (by split <;> decide) (by split <;> decide)
        simp (decide := true) [turn1, e1, e])
      have st := set_tv (s := i) (M := M) (r := (List.range n).map fun j => gd q j * (if i ≤ j then 1 else 0)) hiM
      simp (decide := true) [cc', ow_tv, st, -List.map_set]
      refine ⟨_, _, _, _, _, _, _, ⟨by rw [List.length_set]; exact hq.1, wd_set hq.2 (by simp)⟩, eb_set he fun x hx => ?_, rfl⟩
      obtain ⟨j, hj, rfl⟩ := List.mem_map.mp hx
      exact bdf j (List.mem_range.mp hj)
    · rintro σ h
      exact W_nil.mpr h
  · simp (decide := true) [i1, hh]
    exact ⟨M, _, _, _, _, _, _, hq, he, rfl⟩
theorem J_zero (n1 : 1 ≤ n) (n4 : n ≤ 4) (hs : s < n) (i1 : idxSem (.lst Dg) (.int 1) = some (.int h1)) {b : Nat} (j : J c c1 Dg n Ws P s b σ) (q : ∀ σ', J c c1 Dg n Ws P s b σ' → W (R k) LL rest σ' Q) :
    W (R k) LL (.ite (.cmp .eq (.idx (.var 2) (.lit (.int 1))) (.lit (.int 7))) [.set 6 (.var 7) (.comp (.lit (.int 0)) (.nm 9) (.rng1 (.var 3)) [])] [] :: rest) σ Q := by
  refine W.step (I := J c c1 Dg n Ws P s b) ?_ q
  obtain ⟨M, o4, o5, a8, a9, a10, a11, hq, he, rfl⟩ := j
  have hr := rngOk_n (n := n) (by omega)
  by_cases hh : h1 = 7
  · subst hh
    have cc := comp_rng (Φ := R k) (σ := [some (.int c, false), some (.int c1, false), some (.lst Dg, true), some (.int n, false), some (rv true Ws, o4), some (rv true P, o5), some (tv true true M, true), some (.int s, false), a8, a9, a10, a11]) (elt := .lit (.int 0)) (tg := .nm 9) (it := .rng1 (.var 3)) (n := n) (f := fun _ => 0) (t := .sh) (by simp [hr]) (by omega) (by
      intro j hj
      simp (decide := true) [turn1])
    have st := set_tv (s := s) (M := M) (r := (List.range n).map fun _ => 0) (by rw [hq.1]; exact hs)
    simp (decide := true) only [W_ite] at *
    simp (decide := true) [i1, cc, ow_tv, st, -List.map_set]
    refine ⟨_, _, _, _, _, _, _, ⟨by rw [List.length_set]; exact hq.1, wd_set hq.2 (by simp)⟩, eb_set he fun x hx => ?_, rfl⟩
    obtain ⟨j, hj, rfl⟩ := List.mem_map.mp hx
    exact ⟨Nat.two_pow_pos _⟩
  · simp (decide := true) [i1, hh]
    exact ⟨M, _, _, _, _, _, _, hq, he, rfl⟩
end
theorem R_drawn_table {k : Nat} (hk : 4 ≤ k) (c c1 : Int) : ∃ (n : Nat) (M : List (List Int)), 1 ≤ n ∧ n ≤ 4 ∧ Sq n M ∧ EB 200 M ∧ R k 19 [.int c, .int c1] = some (tv true true M, true) := by
  obtain ⟨k, rfl⟩ : ∃ j, k = j + 1 := ⟨k - 1, by omega⟩
  suffices key : OB (R (k + 1) 19 [.int c, .int c1]) (fun v => ∃ (n : Nat) (M : List (List Int)), 1 ≤ n ∧ n ≤ 4 ∧ Sq n M ∧ EB 200 M ∧ v = (tv true true M, true)) by
    obtain ⟨v, e, n, M, h1, h2, h3, h4, rfl⟩ := key
    exact ⟨n, M, h1, h2, h3, h4, e⟩
  refine R_of (d := ⟨2, 12, b__law_drawn_table⟩) rfl rfl ?_
  obtain ⟨ds, hd, bd⟩ := digits_ok (L := LL) HD (k := k) (by omega) c [4, 9, 4, 3, 2, 7, 7, 7, 7, 4, 4, 4, 4] (by decide) (by
    intro s hs
    simp only [List.mem_cons, List.not_mem_nil, or_false] at hs
    rcases hs with rfl | rfl | rfl | rfl | rfl | rfl | rfl | rfl | rfl | rfl | rfl | rfl | rfl <;> exact ⟨by decide, Bd.up (n := 200) ⟨by decide⟩ (by decide)⟩)
  obtain ⟨h0, _, rfl, x0, y0, bd⟩ := bd.c
  obtain ⟨h1, _, rfl, x1, y1, bd⟩ := bd.c
  obtain ⟨h2, _, rfl, x2, y2, bd⟩ := bd.c
  obtain ⟨h3, _, rfl, x3, y3, bd⟩ := bd.c
  obtain ⟨h4, _, rfl, x4, y4, bd⟩ := bd.c
  obtain ⟨h5, _, rfl, x5, y5, bd⟩ := bd.c
  obtain ⟨h6, _, rfl, x6, y6, bd⟩ := bd.c
  obtain ⟨h7, _, rfl, x7, y7, bd⟩ := bd.c
  obtain ⟨h8, _, rfl, x8, y8, bd⟩ := bd.c
  obtain ⟨h9, _, rfl, x9, y9, bd⟩ := bd.c
  obtain ⟨h10, _, rfl, x10, y10, bd⟩ := bd.c
  obtain ⟨h11, _, rfl, x11, y11, bd⟩ := bd.c
  obtain ⟨h12, _, rfl, x12, y12, bd⟩ := bd.c
  cases bd.n
  have hd' : R k 8 [.int c, .lst [.int 4, .int 9, .int 4, .int 3, .int 2, .int 7, .int 7, .int 7, .int 7, .int 4, .int 4, .int 4, .int 4]] = some (.lst [.int h0, .int h1, .int h2, .int h3, .int h4, .int h5, .int h6, .int h7, .int h8, .int h9, .int h10, .int h11, .int h12], true) := hd
  obtain ⟨n, hn1⟩ := Int.eq_ofNat_of_zero_le (show 0 ≤ 1 + h0 by omega)
  have n1 : 1 ≤ n := by omega
  have n4 : n ≤ 4 := by omega
  haveI : Bd h0 4 := Bd.rng x0 (by omega)
  have w0 : 0 ≤ h2 % (n : Int) := Int.emod_nonneg _ (by omega)
  have w1 : h2 % (n : Int) < n := Int.emod_lt_of_pos _ (by omega)
  obtain ⟨s, hs⟩ := Int.eq_ofNat_of_zero_le w0
  have hsn : s < n := by omega
  obtain ⟨V, hv, hV, hVn, hVb⟩ := R_vectors (k := k) (by omega) c1 (m := n) (n := n) (by omega) n4
  have m1 : binSem .mod (.int h2) (.int (n : Int)) = some (.int (h2 % (n : Int)), .sh) := bin_mod (by omega)
  generalize hDg : [MV.int h0, .int h1, .int h2, .int h3, .int h4, .int h5, .int h6, .int h7, .int h8, .int h9, .int h10, .int h11, .int h12] = Dg at hd'
  have i0 : idxSem (.lst Dg) (.int 0) = some (.int h0) := by rw [← hDg]; rfl
  have i1 : idxSem (.lst Dg) (.int 1) = some (.int h1) := by rw [← hDg]; rfl
  have i2 : idxSem (.lst Dg) (.int 2) = some (.int h2) := by rw [← hDg]; rfl
  have i3 : idxSem (.lst Dg) (.int 3) = some (.int h3) := by rw [← hDg]; rfl
  have i4 : idxSem (.lst Dg) (.int 4) = some (.int h4) := by rw [← hDg]; rfl
  have sl : slcSem (.lst Dg) (some 9) (some 13) = some (rv true [h9, h10, h11, h12], .fr) := by rw [← hDg]; exact slc_mid (a := 9) (b := 13) (by decide)
  have hr4 : rngOk 4 = true := rngOk_n (n := 4) (by decide)
  have hWb : EL 3 [h5 - 3, h6 - 3, h7 - 3, h8 - 3] := fun x hx => by
    simp only [List.mem_cons, List.not_mem_nil, or_false] at hx
    rcases hx with rfl | rfl | rfl | rfl <;> exact Bd.of (by omega) (by omega)
  have hPb : ∀ x ∈ [h9, h10, h11, h12], 0 ≤ x := fun x hx => by
    simp only [List.mem_cons, List.not_mem_nil, or_false] at hx
    rcases hx with rfl | rfl | rfl | rfl <;> omega
  refine W.split 6 (J c c1 Dg n [h5 - 3, h6 - 3, h7 - 3, h8 - 3] [h9, h10, h11, h12] s 100) ?_ ?_
  · have cw := comp_rng (Φ := R k) (σ := [some (.int c, false), some (.int c1, false), some (.lst Dg, true), some (.int n, false), none, none, none, none, none, none, none, none]) (elt := .bin .sub (.idx (.var 2) (.bin .add (.lit (.int 5)) (.var 9))) (.lit (.int 3))) (tg := .nm 9) (it := .rng1 (.lit (.int 4))) (n := 4) (f := fun j => gd [h5 - 3, h6 - 3, h7 - 3, h8 - 3] j) (t := .sh) (by simp [hr4]) (by omega) (by
      intro j hj
      haveI : Bd h5 4 := Bd.rng x5 (by omega)
      haveI : Bd h6 4 := Bd.rng x6 (by omega)
      haveI : Bd h7 4 := Bd.rng x7 (by omega)
      haveI : Bd h8 4 := Bd.rng x8 (by omega)
      rw [← hDg]
      match j, hj with
      | 0, _ => simp (decide := true) [turn1, gd]
      | 1, _ => simp (decide := true) [turn1, gd]
      | 2, _ => simp (decide := true) [turn1, gd]
      | 3, _ => simp (decide := true) [turn1, gd])
    have cw2 : (List.range 4).map (fun j => gd [h5 - 3, h6 - 3, h7 - 3, h8 - 3] j) = [h5 - 3, h6 - 3, h7 - 3, h8 - 3] := rfl
    rw [cw2] at cw
    simp (decide := true) only [b__law_drawn_table, startM, List.take_succ_cons, List.take_zero, List.map_cons, List.map_nil, List.length_cons, List.length_nil, List.replicate, List.cons_append, List.nil_append]
    simp (decide := true) [hd', i0, hn1, cw, sl, hv, i2, m1, hs, Mn.freeOf, MV.noLst, MV.noLsts, isLst_rv, isLst_tv]
    exact ⟨V, _, _, _, _, _, _, ⟨hV, hVn⟩, hVb, rfl⟩
  · intro σ j
    simp only [b__law_drawn_table, List.drop_succ_cons, List.drop_zero]
    refine J_sum (by omega) n1 n4 hsn rfl hWb i1 (by decide) j fun σ j => ?_
    refine J_copy n1 n4 hsn i1 i3 i4 x4 y4 (by decide) j fun σ j => ?_
    refine J_scat (by omega) n1 n4 rfl hWb rfl hPb i1 (by decide) j fun σ j => ?_
    refine J_tri n1 n4 i1 (by decide) j fun σ j => ?_
    refine J_zero n1 n4 hsn i1 j fun σ j => ?_
    obtain ⟨M, o4, o5, a8, a9, a10, a11, hq, he, rfl⟩ := j
    simp [isLst_tv]
    exact ⟨n, n1, n4, M, hq, fun r hr x hx => (he r hr x hx).up (by decide), rfl⟩
end K01

set_option Elab.async false
set_option linter.all false
set_option maxRecDepth 100000
set_option exponentiation.threshold 10000
namespace K01
open PySem Mn Mn.S Mn.S.Tw Mn.S.Tx
theorem fac_at {h : Int} (h0 : 0 ≤ h) (h1 : h < 6) : ∃ f : Int, atM [.int 1, .int 2, .int 3, .int 6, .int 5, .int (-2)] h = some (.int f) ∧ Bd f 3 := by
  rcases (by omega : h = 0 ∨ h = 1 ∨ h = 2 ∨ h = 3 ∨ h = 4 ∨ h = 5) with rfl | rfl | rfl | rfl | rfl | rfl <;> exact ⟨_, rfl, ⟨by decide⟩⟩
theorem many_at {h : Int} (h0 : 0 ≤ h) (h1 : h < 7) : ∃ m : Nat, atM [.int 2, .int 0, .int 1, .int 2, .int 3, .int 4, .int 3] h = some (.int (m : Int)) ∧ m ≤ 4 := by
  rcases (by omega : h = 0 ∨ h = 1 ∨ h = 2 ∨ h = 3 ∨ h = 4 ∨ h = 5 ∨ h = 6) with rfl | rfl | rfl | rfl | rfl | rfl | rfl
  · exact ⟨2, rfl, by decide⟩
  · exact ⟨0, rfl, by decide⟩
  · exact ⟨1, rfl, by decide⟩
  · exact ⟨2, rfl, by decide⟩
  · exact ⟨3, rfl, by decide⟩
  · exact ⟨4, rfl, by decide⟩
  · exact ⟨3, rfl, by decide⟩
/-- the state behind the draws of a system -/
def K (c c1 w : Int) (Dg : List MV) (n m : Nat) (Ws Fs : List Int) (V M : List (List Int)) (s : Nat) (o6 o7 : Bool) (r : MS) : MS := some (.int c, false) :: some (.int c1, false) :: some (.int w, false) :: some (.lst Dg, true) :: some (.int n, false) :: some (.int m, false) :: some (rv true Ws, o6) :: some (rv true Fs, o7) :: some (tv true true V, true) :: some (tv true true M, true) :: some (.int s, false) :: r
def Good (v : MV × Bool) : Prop := ∃ (cols : List (List Int)) (tg : List Int), cols.length ≤ 4 ∧ tg.length ≤ 4 ∧ EB 200 cols ∧ EL 200 tg ∧ (∀ c ∈ cols, c.length = tg.length) ∧ v = (.lst [tv true true cols, rv true tg], true)
theorem len_tv {M : List (List Int)} {s0 s : Bool} : biSem .len [tv s0 s M] = some (.int M.length, .sh) := tv_len
theorem R_drawn_head {k : Nat} (hk : 4 ≤ k) (c c1 w : Int) (hwk : ∀ (σ : MS) (Dg : List MV) (n m : Nat) (Ws Fs : List Int) (V : List (List Int)) (s : Nat) (h3 h4 : Int) (P : List Int), 1 ≤ n → n ≤ 4 → m ≤ 4 → (w = 5 → m ≤ n) → Ws.length = 4 → EL 3 Ws → Fs.length = 4 → EL 3 Fs → V.length = m + 1 → (∀ r ∈ V, r.length = n) → EB 100 V → s < max m 1 → idxSem (.lst Dg) (.int 3) = some (.int h3) → idxSem (.lst Dg) (.int 4) = some (.int h4) → 0 ≤ h4 → h4 < 2 → slcSem (.lst Dg) (some 13) (some 17) = some (rv true P, .fr) → P.length = 4 → (∀ x ∈ P, 0 ≤ x) → 0 ≤ h3 →
    W (R k) LL (b__law_drawn_system.drop 9) (K c c1 w Dg n m Ws Fs V (V.take m) s true true [none, none, none, none, none]) (fun fl => OB (resOf fl) Good)) : OB (R (k + 1) 20 [.int c, .int c1, .int w]) Good := by
  refine R_of (d := ⟨3, 16, b__law_drawn_system⟩) rfl rfl ?_
  obtain ⟨ds, hd, bd⟩ := digits_ok (L := LL) HD (k := k) (by omega) c [4, 7, 4, 3, 2, 7, 7, 7, 7, 6, 6, 6, 6, 4, 4, 4, 4] (by decide) (by
    intro s hs
    simp only [List.mem_cons, List.not_mem_nil, or_false] at hs
    rcases hs with rfl | rfl | rfl | rfl | rfl | rfl | rfl | rfl | rfl | rfl | rfl | rfl | rfl | rfl | rfl | rfl | rfl <;> exact ⟨by decide, Bd.up (n := 200) ⟨by decide⟩ (by decide)⟩)
  obtain ⟨h0, _, rfl, x0, y0, bd⟩ := bd.c
  obtain ⟨h1, _, rfl, x1, y1, bd⟩ := bd.c
  obtain ⟨h2, _, rfl, x2, y2, bd⟩ := bd.c
  obtain ⟨h3, _, rfl, x3, y3, bd⟩ := bd.c
  obtain ⟨h4, _, rfl, x4, y4, bd⟩ := bd.c
  obtain ⟨h5, _, rfl, x5, y5, bd⟩ := bd.c
  obtain ⟨h6, _, rfl, x6, y6, bd⟩ := bd.c
  obtain ⟨h7, _, rfl, x7, y7, bd⟩ := bd.c
  obtain ⟨h8, _, rfl, x8, y8, bd⟩ := bd.c
  obtain ⟨h9, _, rfl, x9, y9, bd⟩ := bd.c
  obtain ⟨h10, _, rfl, x10, y10, bd⟩ := bd.c
  obtain ⟨h11, _, rfl, x11, y11, bd⟩ := bd.c
  obtain ⟨h12, _, rfl, x12, y12, bd⟩ := bd.c
  obtain ⟨h13, _, rfl, x13, y13, bd⟩ := bd.c
  obtain ⟨h14, _, rfl, x14, y14, bd⟩ := bd.c
  obtain ⟨h15, _, rfl, x15, y15, bd⟩ := bd.c
  obtain ⟨h16, _, rfl, x16, y16, bd⟩ := bd.c
  cases bd.n
  have hd' : R k 8 [.int c, .lst [.int 4, .int 7, .int 4, .int 3, .int 2, .int 7, .int 7, .int 7, .int 7, .int 6, .int 6, .int 6, .int 6, .int 4, .int 4, .int 4, .int 4]] = some (.lst [.int h0, .int h1, .int h2, .int h3, .int h4, .int h5, .int h6, .int h7, .int h8, .int h9, .int h10, .int h11, .int h12, .int h13, .int h14, .int h15, .int h16], true) := hd
  obtain ⟨n, hn1⟩ := Int.eq_ofNat_of_zero_le (show 0 ≤ 1 + h0 by omega)
  have n1 : 1 ≤ n := by omega
  have n4 : n ≤ 4 := by omega
  haveI : Bd h0 4 := Bd.rng x0 (by omega)
  obtain ⟨m0, em0, hm0⟩ := many_at x1 y1
  obtain ⟨f0, e0, b0⟩ := fac_at x9 y9
  obtain ⟨f1, e1, b1⟩ := fac_at x10 y10
  obtain ⟨f2, e2, b2⟩ := fac_at x11 y11
  obtain ⟨f3, e3, b3⟩ := fac_at x12 y12
  generalize hDg : [MV.int h0, .int h1, .int h2, .int h3, .int h4, .int h5, .int h6, .int h7, .int h8, .int h9, .int h10, .int h11, .int h12, .int h13, .int h14, .int h15, .int h16] = Dg at hd'
  have i0 : idxSem (.lst Dg) (.int 0) = some (.int h0) := by rw [← hDg]; rfl
  have i1 : idxSem (.lst Dg) (.int 1) = some (.int h1) := by rw [← hDg]; rfl
  have i2 : idxSem (.lst Dg) (.int 2) = some (.int h2) := by rw [← hDg]; rfl
  have i3 : idxSem (.lst Dg) (.int 3) = some (.int h3) := by rw [← hDg]; rfl
  have i4 : idxSem (.lst Dg) (.int 4) = some (.int h4) := by rw [← hDg]; rfl
  have i5 : idxSem (.lst Dg) (.int 5) = some (.int h5) := by rw [← hDg]; rfl
  have i6 : idxSem (.lst Dg) (.int 6) = some (.int h6) := by rw [← hDg]; rfl
  have i7 : idxSem (.lst Dg) (.int 7) = some (.int h7) := by rw [← hDg]; rfl
  have i8 : idxSem (.lst Dg) (.int 8) = some (.int h8) := by rw [← hDg]; rfl
  have i9 : idxSem (.lst Dg) (.int 9) = some (.int h9) := by rw [← hDg]; rfl
  have i10 : idxSem (.lst Dg) (.int 10) = some (.int h10) := by rw [← hDg]; rfl
  have i11 : idxSem (.lst Dg) (.int 11) = some (.int h11) := by rw [← hDg]; rfl
  have i12 : idxSem (.lst Dg) (.int 12) = some (.int h12) := by rw [← hDg]; rfl
  have sl : slcSem (.lst Dg) (some 13) (some 17) = some (rv true [h13, h14, h15, h16], .fr) := by rw [← hDg]; exact slc_mid (a := 13) (b := 17) (by decide)
  have hr4 : rngOk 4 = true := rngOk_n (n := 4) (by decide)
  have hWb : EL 3 [h5 - 3, h6 - 3, h7 - 3, h8 - 3] := fun x hx => by
    simp only [List.mem_cons, List.not_mem_nil, or_false] at hx
    rcases hx with rfl | rfl | rfl | rfl <;> exact Bd.of (by omega) (by omega)
  have hFb : EL 3 [f0, f1, f2, f3] := fun x hx => by
    simp only [List.mem_cons, List.not_mem_nil, or_false] at hx
    rcases hx with rfl | rfl | rfl | rfl <;> assumption
  have hPb : ∀ x ∈ [h13, h14, h15, h16], 0 ≤ x := fun x hx => by
    simp only [List.mem_cons, List.not_mem_nil, or_false] at hx
    rcases hx with rfl | rfl | rfl | rfl <;> omega
  refine W.split 3 (fun σ => σ = [some (.int c, false), some (.int c1, false), some (.int w, false), some (.lst Dg, true), some (.int n, false), some (.int m0, false), none, none, none, none, none, none, none, none, none, none]) ?_ ?_
  · simp (decide := true) only [b__law_drawn_system, startM, List.take_succ_cons, List.take_zero, List.map_cons, List.map_nil, List.length_cons, List.length_nil, List.replicate, List.cons_append, List.nil_append]
    simp (decide := true) [hd', i0, hn1, i1, em0, Mn.freeOf, MV.noLst, MV.noLsts, -atM_of]
  · rintro σ rfl
    simp only [b__law_drawn_system, List.drop_succ_cons, List.drop_zero]
    refine W.step (I := fun σ => ∃ m : Nat, m ≤ 4 ∧ (w = 5 → m ≤ n) ∧ σ = [some (.int c, false), some (.int c1, false), some (.int w, false), some (.lst Dg, true), some (.int n, false), some (.int m, false), none, none, none, none, none, none, none, none, none, none]) ?_ ?_
    · have hmin : min (m0 : Int) (n : Int) = ((min m0 n : Nat) : Int) := by omega
      by_cases w3 : w = 3
      · simp (decide := true) [w3]; exact ⟨m0, hm0, rfl⟩
      · by_cases w6 : w = 6
        · simp (decide := true) [w6]; exact ⟨m0, hm0, rfl⟩
        · by_cases w0 : w = 0
          · simp (decide := true) [w0]; exact ⟨m0, hm0, rfl⟩
          · simp (decide := true) [w3, w6, w0, hmin]
            refine ⟨min m0 n, by omega, fun _ => by omega, by omega⟩
    · rintro σ ⟨m, hm, hmw, rfl⟩
      have q0 : 0 ≤ h2 % (max m 1 : Nat) := Int.emod_nonneg _ (by omega)
      have q1 : h2 % ((max m 1 : Nat) : Int) < (max m 1 : Nat) := Int.emod_lt_of_pos _ (by omega)
      obtain ⟨s, hs⟩ := Int.eq_ofNat_of_zero_le q0
      have hmax : max (m : Int) 1 = ((max m 1 : Nat) : Int) := by omega
      have m1 : binSem .mod (.int h2) (.int ((max m 1 : Nat) : Int)) = some (.int (h2 % ((max m 1 : Nat) : Int)), .sh) := bin_mod (by omega)
      obtain ⟨V, hv, hV, hVn, hVb⟩ := R_vectors (k := k) (by omega) c1 (m := m + 1) (n := n) (by omega) n4
      rw [Int.natCast_add, Int.natCast_one] at hv
      have st : slcSem (tv true true V) none (some (m : Int)) = some (tv true true (V.take m), .fr) := by
        have := slc_to (xs := V.map (rv true)) (f := m)
        rw [← List.map_take] at this
        exact this
      haveI : Bd (m : Int) 10 := Bd.rng (by omega) (by omega)
      have cw := comp_rng (Φ := R k) (σ := [some (.int c, false), some (.int c1, false), some (.int w, false), some (.lst Dg, true), some (.int n, false), some (.int m, false), none, none, none, none, none, none, none, none, none, none]) (elt := .bin .sub (.idx (.var 3) (.bin .add (.lit (.int 5)) (.var 13))) (.lit (.int 3))) (tg := .nm 13) (it := .rng1 (.lit (.int 4))) (n := 4) (f := fun j => gd [h5 - 3, h6 - 3, h7 - 3, h8 - 3] j) (t := .sh) (by simp [hr4]) (by omega) (by
        intro j hj
        haveI : Bd h5 4 := Bd.rng x5 (by omega)
        haveI : Bd h6 4 := Bd.rng x6 (by omega)
        haveI : Bd h7 4 := Bd.rng x7 (by omega)
        haveI : Bd h8 4 := Bd.rng x8 (by omega)
        match j, hj with
        | 0, _ => simp (decide := true) [turn1, gd, i5]
        | 1, _ => simp (decide := true) [turn1, gd, i6]
        | 2, _ => simp (decide := true) [turn1, gd, i7]
        | 3, _ => simp (decide := true) [turn1, gd, i8])
      have cw2 : (List.range 4).map (fun j => gd [h5 - 3, h6 - 3, h7 - 3, h8 - 3] j) = [h5 - 3, h6 - 3, h7 - 3, h8 - 3] := rfl
      rw [cw2] at cw
      have cf := comp_rng (Φ := R k) (σ := [some (.int c, false), some (.int c1, false), some (.int w, false), some (.lst Dg, true), some (.int n, false), some (.int m, false), some (rv true [h5 - 3, h6 - 3, h7 - 3, h8 - 3], true), none, none, none, none, none, none, none, none, none]) (elt := .idx (.lst [.lit (.int 1), .lit (.int 2), .lit (.int 3), .lit (.int 6), .lit (.int 5), .neg (.lit (.int 2))]) (.idx (.var 3) (.bin .add (.lit (.int 9)) (.var 13)))) (tg := .nm 13) (it := .rng1 (.lit (.int 4))) (n := 4) (f := fun j => gd [f0, f1, f2, f3] j) (t := .sh) (by simp [hr4]) (by omega) (by
        intro j hj
        match j, hj with
        | 0, _ => simp (decide := true) [turn1, gd, i9, e0, -atM_of]
        | 1, _ => simp (decide := true) [turn1, gd, i10, e1, -atM_of]
        | 2, _ => simp (decide := true) [turn1, gd, i11, e2, -atM_of]
        | 3, _ => simp (decide := true) [turn1, gd, i12, e3, -atM_of])
      have cf2 : (List.range 4).map (fun j => gd [f0, f1, f2, f3] j) = [f0, f1, f2, f3] := rfl
      rw [cf2] at cf
      refine W.split 5 (fun σ => σ = K c c1 w Dg n m [h5 - 3, h6 - 3, h7 - 3, h8 - 3] [f0, f1, f2, f3] V (V.take m) s true true [none, none, none, none, none]) ?_ ?_
      · simp only [List.take_succ_cons, List.take_zero]
        simp (decide := true) [cw, cf, hv, st, i2, hmax, m1, hs, Mn.freeOf, MV.noLst, MV.noLsts, isLst_rv, isLst_tv]
        rfl
      · rintro σ rfl
        have := hwk [] Dg n m _ _ V s h3 h4 _ n1 n4 hm hmw rfl hWb rfl hFb hV hVn hVb (by omega) i3 i4 x4 y4 sl rfl hPb x3
        simp only [b__law_drawn_system, List.drop_succ_cons, List.drop_zero] at this
        simp only [List.drop_succ_cons, List.drop_zero]
        exact this
end K01

set_option Elab.async false
set_option linter.all false
set_option maxRecDepth 100000
set_option exponentiation.threshold 10000
namespace K01
open PySem Mn Mn.S Mn.S.Tw Mn.S.Tx
section
variable {k : Nat} {c c1 w : Int} {Dg : List MV} {n m : Nat} {Ws Fs : List Int} {V : List (List Int)} {s : Nat} {σ : MS} {h3 h4 : Int} {Q : Mn.Flow → Prop} {rest : List CS}
def K2 (c c1 w : Int) (Dg : List MV) (n m : Nat) (Ws Fs : List Int) (V : List (List Int)) (s b : Nat) (σ : MS) : Prop := ∃ M o6 a12 a13 a14 a15, M.length = m ∧ (∀ r ∈ M, r.length = n) ∧ EB b M ∧ σ = K c c1 w Dg n m Ws Fs V M s o6 true [none, a12, a13, a14, a15]
theorem eb_up {b b' : Nat} {M : List (List Int)} (h : EB b M) (hb : b ≤ b') : EB b' M := fun r hr x hx => (h r hr x hx).up hb
theorem el_up {b b' : Nat} {M : List Int} (h : EL b M) (hb : b ≤ b') : EL b' M := fun x hx => (h x hx).up hb
theorem K_sum (hk : 1 ≤ k) (n4 : n ≤ 4) (m4 : m ≤ 4) (hs : s < max m 1) (hW : Ws.length = 4) (hWb : EL 3 Ws) {b : Nat} (hb : b ≤ 1000) (j : K2 c c1 w Dg n m Ws Fs V s b σ) (q : ∀ σ', K2 c c1 w Dg n m Ws Fs V s (b + 8) σ' → W (R k) LL rest σ' Q) :
    W (R k) LL (.ite (.and (.cmp .eq (.var 2) (.lit (.int 3))) (.cmp .gt (.var 5) (.lit (.int 0)))) [.drop 6, .set 9 (.var 10) (.call 17 [.var 9, .var 6, .var 4, .var 10])] [] :: rest) σ Q := by
  refine W.step (I := K2 c c1 w Dg n m Ws Fs V s (b + 8)) ?_ q
  obtain ⟨M, o6, a12, a13, a14, a15, hM, hMn, he, rfl⟩ := j
  have same : K2 c c1 w Dg n m Ws Fs V s (b + 8) (K c c1 w Dg n m Ws Fs V M s o6 true [none, a12, a13, a14, a15]) := ⟨M, _, _, _, _, _, hM, hMn, eb_up he (by omega), rfl⟩
  by_cases hh : w = 3
  · by_cases hm : m = 0
    · subst hh
      simp (decide := true) [K, hm] at same ⊢
      exact same
    · subst hh
      have hm' : (0 : Int) < m := by omega
      have hm'' : 0 < m := by omega
      obtain ⟨l, e, hl, hlb⟩ := R_sum (k := k) hk (V := M) (Ws := Ws) (n := n) (b := b) (s : Int) (by omega) n4 hMn hb he (by omega) hWb
      have st := set_tv (s := s) (M := M) (r := l) (by omega)
      have fin : K2 c c1 3 Dg n m Ws Fs V s (b + 8) (K c c1 3 Dg n m Ws Fs V (M.set s l) s false true [none, a12, a13, a14, a15]) := ⟨M.set s l, _, _, _, _, _, by rw [List.length_set]; exact hM, wd_set hMn hl, eb_set (eb_up he (by omega)) hlb, rfl⟩
      cases o6 <;> simp (decide := true) [K, hm', hm'', e, ow_tv, st, free_rv, -List.map_set, isLst_rv] <;> exact fin
  · simp (decide := true) [K, hh] at same ⊢
    exact same
theorem K_copy (n4 : n ≤ 4) (m4 : m ≤ 4) (hs : s < max m 1) (i3 : idxSem (.lst Dg) (.int 3) = some (.int h3)) (i4 : idxSem (.lst Dg) (.int 4) = some (.int h4)) (x4 : 0 ≤ h4) (y4 : h4 < 2) {b : Nat} (hb : b ≤ 1000) (j : K2 c c1 w Dg n m Ws Fs V s b σ) (q : ∀ σ', K2 c c1 w Dg n m Ws Fs V s (b + 8) σ' → W (R k) LL rest σ' Q) :
    W (R k) LL (.ite (.and (.cmp .eq (.var 2) (.lit (.int 6))) (.cmp .gt (.var 5) (.lit (.int 1)))) [.asg 12 (.bin .mod (.bi .int [.bin .add (.bin .add (.var 10) (.lit (.int 1))) (.bin .mod (.bi .int [.idx (.var 3) (.lit (.int 3))]) (.bin .sub (.var 5) (.lit (.int 1))))]) (.var 5)), .set 9 (.var 10) (.comp (.bin .mul (.bin .sub (.lit (.int 1)) (.bin .mul (.lit (.int 2)) (.idx (.var 3) (.lit (.int 4))))) (.var 15)) (.nm 15) (.seq (.idx (.var 9) (.var 12))) [])] [] :: rest) σ Q := by
  refine W.step (I := K2 c c1 w Dg n m Ws Fs V s (b + 8)) ?_ q
  obtain ⟨M, o6, a12, a13, a14, a15, hM, hMn, he, rfl⟩ := j
  have same : K2 c c1 w Dg n m Ws Fs V s (b + 8) (K c c1 w Dg n m Ws Fs V M s o6 true [none, a12, a13, a14, a15]) := ⟨M, _, _, _, _, _, hM, hMn, eb_up he (by omega), rfl⟩
  by_cases hh : w = 6
  · by_cases hm : m ≤ 1
    · subst hh
      have hm' : ¬ (1 : Int) < m := by omega
      have hm'' : ¬ 1 < m := by omega
      simp (decide := true) [K, hm', hm''] at same ⊢
      exact same
    · subst hh
      have hm1 : (1 : Int) < m := by omega
      haveI : Bd (m : Int) 10 := Bd.rng (by omega) (by omega)
      haveI : Bd (s : Int) 10 := Bd.rng (by omega) (by omega)
      haveI : Bd h4 2 := Bd.rng x4 (by omega)
      have m1 : binSem .mod (.int h3) (.int ((m : Int) - 1)) = some (.int (h3 % ((m : Int) - 1)), .sh) := bin_mod (by omega)
      have z0 : 0 ≤ h3 % ((m : Int) - 1) := Int.emod_nonneg _ (by omega)
      have z1 : h3 % ((m : Int) - 1) < (m : Int) - 1 := Int.emod_lt_of_pos _ (by omega)
      haveI : Bd (h3 % ((m : Int) - 1)) 10 := Bd.rng z0 (by omega)
      have m2 : ∀ y : Int, binSem .mod (.int y) (.int (m : Int)) = some (.int (y % (m : Int)), .sh) := fun y => bin_mod (by omega)
      have w0 : 0 ≤ ((s : Int) + 1 + h3 % ((m : Int) - 1)) % (m : Int) := Int.emod_nonneg _ (by omega)
      have w1 : ((s : Int) + 1 + h3 % ((m : Int) - 1)) % (m : Int) < m := Int.emod_lt_of_pos _ (by omega)
      obtain ⟨o, ho⟩ := Int.eq_ofNat_of_zero_le w0
      have hoM : o < M.length := by rw [hM]; omega
      have hg := List.getElem?_eq_getElem hoM
      have e1 := tv_get (s0 := true) (s := true) hg
      have hql := hMn _ (List.getElem_mem hoM)
      have hqb := he _ (List.getElem_mem hoM)
      generalize M[o] = q at *
      have cc : ∀ a, ev (R k) (.comp (.bin .mul (.bin .sub (.lit (.int 1)) (.bin .mul (.lit (.int 2)) (.idx (.var 3) (.lit (.int 4))))) (.var 15)) (.nm 15) (.seq (.idx (.var 9) (.var 12))) []) (K c c1 6 Dg n m Ws Fs V M s o6 true [none, some (.int o, false), a13, a14, a]) = some (rv true (q.map fun x => (1 - 2 * h4) * x), .fr) := fun a => comp_row (t := .sh) (by simp [K, e1, rv, pr]) (by omega) (by
        intro x hx
        haveI := (hqb x hx).up hb
        simp (decide := true) [K, turn1, i4])
      have st := set_tv (s := s) (M := M) (r := q.map fun x => (1 - 2 * h4) * x) (by omega)
      have fin : K2 c c1 6 Dg n m Ws Fs V s (b + 8) (K c c1 6 Dg n m Ws Fs V (M.set s (q.map fun x => (1 - 2 * h4) * x)) s o6 true [none, some (.int o, false), a13, a14, a15]) := by
        refine ⟨_, _, _, _, _, _, by rw [List.length_set]; exact hM, wd_set hMn (by simp [hql]), eb_set (eb_up he (by omega)) fun x hx => ?_, rfl⟩
        obtain ⟨y, hy, rfl⟩ := List.mem_map.mp hx
        haveI := hqb y hy
        haveI : Bd (1 - 2 * h4) 3 := Bd.of (by omega) (by omega)
        exact Bd.up (n := 3 + b) Bd.mul (by omega)
      simp only [K] at cc
      have hm1' : 1 < m := by omega
      simp (decide := true) [K, i3, hm1, hm1', m1, m2, ho, cc, ow_tv, st, -List.map_set]
      exact fin
  · simp (decide := true) [K, hh] at same ⊢
    exact same
end
end K01

set_option Elab.async false
set_option linter.all false
set_option maxRecDepth 100000
set_option exponentiation.threshold 10000
namespace K01
open PySem Mn Mn.S Mn.S.Tw Mn.S.Tx
section
variable {k : Nat} {c c1 w : Int} {Dg : List MV} {n m : Nat} {Ws Fs : List Int} {V : List (List Int)} {s : Nat} {σ : MS} {h3 h4 : Int}
def K3 (c c1 w : Int) (Dg : List MV) (n m : Nat) (Ws Fs : List Int) (V : List (List Int)) (s b : Nat) (σ : MS) : Prop := ∃ M tg a12 a13 a14 a15, M.length = m ∧ (∀ r ∈ M, r.length = n) ∧ EB b M ∧ tg.length = n ∧ EL b tg ∧ σ = K c c1 w Dg n m Ws Fs V M s false true [some (rv true tg, true), a12, a13, a14, a15]
theorem set_rv {i : Nat} {l : List Int} {x : Int} (h : i < l.length) : setSem (l.map MV.int) (.int (i : Int)) (.int x) = some ((l.set i x).map MV.int) := by
  simp [setSem, L2.ixN, h, List.map_set]
theorem ow_rv {l : List Int} {r : MS} : ownL (some (rv true l, true) :: r) 0 = some (l.map MV.int) := rfl
theorem K_end (hk : 1 ≤ k) (n1 : 1 ≤ n) (n4 : n ≤ 4) (m4 : m ≤ 4) (hW : Ws.length = 4) (hWb : EL 3 Ws) (hF : Fs.length = 4) (hFb : EL 3 Fs) (i3 : idxSem (.lst Dg) (.int 3) = some (.int h3)) (i4 : idxSem (.lst Dg) (.int 4) = some (.int h4)) (x4 : 0 ≤ h4) (y4 : h4 < 2) (j : K2 c c1 w Dg n m Ws Fs V s 120 σ) :
    W (R k) LL (b__law_drawn_system.drop 14) σ (fun fl => OB (resOf fl) Good) := by
  simp only [b__law_drawn_system, List.drop_succ_cons, List.drop_zero]
  obtain ⟨M, o6, a12, a13, a14, a15, hM, hMn, he, rfl⟩ := j
  have hr := rngOk_n (n := m) (by omega)
  refine W.split 2 (K3 c c1 w Dg n m Ws Fs V s 128) ?_ ?_
  · obtain ⟨l, e, hl, hlb⟩ := R_sum (k := k) hk (V := M) (Ws := Ws) (n := n) (b := 120) (-1) (by omega) n4 hMn (by decide) he (by omega) hWb
    have fin : K3 c c1 w Dg n m Ws Fs V s 128 (K c c1 w Dg n m Ws Fs V M s false true [some (rv true l, true), a12, a13, a14, a15]) := ⟨M, l, _, _, _, _, hM, hMn, eb_up he (by omega), hl, hlb, rfl⟩
    simp only [List.take_succ_cons, List.take_zero]
    cases o6 <;> simp (decide := true) [K, e, free_rv, isLst_rv] <;> exact fin
  · rintro σ j
    simp only [List.drop_succ_cons, List.drop_zero]
    refine W.step (I := K3 c c1 w Dg n m Ws Fs V s 140) ?_ ?_
    · obtain ⟨M, tg, a12, a13, a14, a15, hM, hMn, he, hl, hlb, rfl⟩ := j
      by_cases hh : w = 2
      · subst hh
        simp (decide := true) [K]
        refine W.for (rngM 0 m) (fun i σ => ∃ M a13 a15, M.length = m ∧ (∀ r ∈ M, r.length = n) ∧ EB (128 + 3 * i) M ∧ σ = K c c1 2 Dg n m Ws Fs V M s false true [some (rv true tg, true), a12, a13, a14, a15]) (by simp [hr]) ⟨M, a13, a15, hM, hMn, he, rfl⟩ ?_ ?_
        · rintro i v σ hv ⟨M, a13, a15, hM, hMn, he, rfl⟩
          obtain ⟨hi, rfl⟩ := rngM_at hv
          have hiM : i < M.length := by omega
          have hg := List.getElem?_eq_getElem hiM
          have e1 := tv_get (s0 := true) (s := true) hg
          have hql := hMn _ (List.getElem_mem hiM)
          have hqb := he _ (List.getElem_mem hiM)
          generalize M[i] = q at *
          have e2 := rv_at (s := true) (l := Fs) (i := i) (by omega)
          have hfb := gd_bd hFb (i := i) (by omega)
          haveI := hfb
          have cc : ∀ a, ev (R k) (.comp (.bin .mul (.idx (.var 7) (.var 13)) (.var 15)) (.nm 15) (.seq (.idx (.var 9) (.var 13))) []) (K c c1 2 Dg n m Ws Fs V M s false true [some (rv true tg, true), a12, some (.int i, false), a14, a]) = some (rv true (q.map fun x => gd Fs i * x), .fr) := fun a => comp_row (t := .sh) (by simp [K, e1, rv, pr]) (by omega) (by
            intro x hx
            haveI := (hqb x hx).up (show 128 + 3 * i ≤ 200 by omega)
            simp (decide := true) [K, turn1, e2])
          have st := set_tv (s := i) (M := M) (r := q.map fun x => gd Fs i * x) (by omega)
          have fin : ∃ M' b13 b15, M'.length = m ∧ (∀ r ∈ M', r.length = n) ∧ EB (128 + 3 * (i + 1)) M' ∧ (K c c1 2 Dg n m Ws Fs V (M.set i (q.map fun x => gd Fs i * x)) s false true [some (rv true tg, true), a12, some (.int i, false), a14, a15]) = K c c1 2 Dg n m Ws Fs V M' s false true [some (rv true tg, true), a12, b13, a14, b15] := by
            refine ⟨_, _, _, by rw [List.length_set]; exact hM, wd_set hMn (by simp [hql]), eb_set (eb_up he (by omega)) fun x hx => ?_, rfl⟩
            obtain ⟨y, hy, rfl⟩ := List.mem_map.mp hx
            haveI := hqb y hy
            exact Bd.up (n := 3 + (128 + 3 * i)) Bd.mul (by omega)
          simp only [K] at cc fin
          simp (decide := true) only [K]
          simp (decide := true) [cc, ow_tv, st, -List.map_set]
          simpa [tv, pr, -List.map_set] using fin
        · rintro σ ⟨M, a13, a15, hM, hMn, he, rfl⟩
          rw [rngM_len] at he
          exact W_nil.mpr ⟨M, tg, _, _, _, _, hM, hMn, eb_up he (by omega), hl, el_up hlb (by omega), rfl⟩
      · simp (decide := true) [K, hh]
        exact ⟨M, tg, _, _, _, _, hM, hMn, eb_up he (by omega), hl, el_up hlb (by omega), rfl⟩
    · rintro σ j
      refine W.step (I := K3 c c1 w Dg n m Ws Fs V s 160) ?_ ?_
      · obtain ⟨M, tg, a12, a13, a14, a15, hM, hMn, he, hl, hlb, rfl⟩ := j
        by_cases hh : w = 4
        · subst hh
          have m1 : binSem .mod (.int h3) (.int (n : Int)) = some (.int (h3 % (n : Int)), .sh) := bin_mod (by omega)
          have z0 : 0 ≤ h3 % (n : Int) := Int.emod_nonneg _ (by omega)
          have z1 : h3 % (n : Int) < (n : Int) := Int.emod_lt_of_pos _ (by omega)
          obtain ⟨o, ho⟩ := Int.eq_ofNat_of_zero_le z0
          have hol : o < tg.length := by omega
          have e := rv_at (s := true) hol
          haveI := gd_bd hlb hol
          haveI : Bd h4 2 := Bd.rng x4 (by omega)
          have st := set_rv (x := gd tg o + 1 - 2 * h4) hol
          have fin : K3 c c1 4 Dg n m Ws Fs V s 160 (K c c1 4 Dg n m Ws Fs V M s false true [some (rv true (tg.set o (gd tg o + 1 - 2 * h4)), true), a12, a13, some (.int o, false), a15]) := by
            refine ⟨M, _, _, _, _, _, hM, hMn, eb_up he (by omega), by rw [List.length_set]; exact hl, fun x hx => ?_, rfl⟩
            rcases List.mem_or_eq_of_mem_set hx with hx | rfl
            · exact (hlb x hx).up (by omega)
            · have : Bd (gd tg o + 1 - 2 * h4) _ := inferInstance
              exact this.up (by decide)
          simp (decide := true) [K, i3, i4, m1, ho, e, ow_rv, st, -List.map_set]
          exact fin
        · simp (decide := true) [K, hh]
          exact ⟨M, tg, _, _, _, _, hM, hMn, eb_up he (by omega), hl, el_up hlb (by omega), rfl⟩
      · rintro σ ⟨M, tg, a12, a13, a14, a15, hM, hMn, he, hl, hlb, rfl⟩
        simp (decide := true) [K, isLst_rv, isLst_tv]
        exact ⟨M, tg, by omega, by omega, eb_up he (by omega), el_up hlb (by omega), fun c hc => by rw [hMn c hc, hl], rfl⟩
end
end K01

set_option Elab.async false
set_option linter.all false
set_option maxRecDepth 100000
set_option exponentiation.threshold 10000
namespace K01
open PySem Mn Mn.S Mn.S.Tw Mn.S.Tx
theorem R_drawn_system {k : Nat} (hk : 5 ≤ k) (c c1 w : Int) : ∃ (cols : List (List Int)) (tg : List Int), cols.length ≤ 4 ∧ tg.length ≤ 4 ∧ EB 200 cols ∧ EL 200 tg ∧ (∀ c ∈ cols, c.length = tg.length) ∧ R k 20 [.int c, .int c1, .int w] = some (.lst [tv true true cols, rv true tg], true) := by
  obtain ⟨k, rfl⟩ : ∃ j, k = j + 1 := ⟨k - 1, by omega⟩
  suffices key : OB (R (k + 1) 20 [.int c, .int c1, .int w]) Good by
    obtain ⟨v, e, cols, tg, a1, a2, a3, a4, a5, rfl⟩ := key
    exact ⟨cols, tg, a1, a2, a3, a4, a5, e⟩
  refine R_drawn_head (k := k) (by omega) c c1 w ?_
  intro _ Dg n m Ws Fs V s h3 h4 P n1 n4 m4 hw5 hW hWb hF hFb hV hVn hVb hs i3 i4 x4 y4 sl hP hPb x3
  have hmV : m < V.length := by omega
  have hg := List.getElem?_eq_getElem hmV
  have e1 := tv_get (s0 := true) (s := true) hg
  have hql := hVn _ (List.getElem_mem hmV)
  have hqb := hVb _ (List.getElem_mem hmV)
  generalize V[m] = q at *
  have hT : (V.take m).length = m := by rw [List.length_take]; omega
  have hTn : ∀ r ∈ V.take m, r.length = n := fun r hr => hVn r (List.mem_of_mem_take hr)
  have hTb : EB 100 (V.take m) := fun r hr => hVb r (List.mem_of_mem_take hr)
  by_cases w0 : w = 0
  · subst w0
    have fin : Good (.lst [tv true true (V.take m), rv true q], true) := ⟨_, q, by omega, by omega, eb_up hTb (by omega), el_up hqb (by omega), fun c hc => by rw [hTn c hc, hql], rfl⟩
    simp only [b__law_drawn_system, List.drop_succ_cons, List.drop_zero]
    simp (decide := true) [K, e1]
    exact fin
  by_cases w5 : w = 5
  · subst w5
    obtain ⟨S, e, hS, hSn, hSb⟩ := R_scattered (k := k) (by omega) (N := Fs) (P := P) (m := m) (n := n) (hw5 rfl) n4 (by omega) (by omega) (el_up hFb (by omega)) hPb
    haveI : Bd h4 2 := Bd.rng x4 (by omega)
    have cc : ev (R k) (.comp (.bin .mul (.var 15) (.idx (.var 3) (.lit (.int 4)))) (.nm 15) (.seq (.idx (.var 8) (.var 5))) []) (K c c1 5 Dg n m Ws Fs V (V.take m) s true false [none, none, none, none, none]) = some (rv true (q.map fun x => x * h4), .fr) := comp_row (t := .sh) (by simp [K, e1, rv, pr]) (by omega) (by
      intro x hx
      haveI := hqb x hx
      simp (decide := true) [K, turn1, i4])
    have fin : Good (.lst [tv true true S, rv true (q.map fun x => x * h4)], true) := by
      refine ⟨S, _, by omega, by simp; omega, eb_up hSb (by omega), fun x hx => ?_, fun c hc => by rw [hSn c hc]; simp [hql], rfl⟩
      obtain ⟨y, hy, rfl⟩ := List.mem_map.mp hx
      haveI := hqb y hy
      exact Bd.up (n := 100 + 2) Bd.mul (by decide)
    simp only [K] at cc
    simp only [b__law_drawn_system, List.drop_succ_cons, List.drop_zero]
    simp (decide := true) [K, sl, e, cc, Mn.freeOf, MV.noLst]
    exact fin
  by_cases w7 : w = 7
  · subst w7
    have cc : ev (R k) (.comp (.lit (.int 0)) (.nm 13) (.rng1 (.var 4)) []) (K c c1 7 Dg n m Ws Fs V (V.take m) s true true [none, none, none, none, none]) = some (rv true ((List.range n).map fun _ => 0), .fr) := comp_rng (t := .sh) (by simp [K, rngOk_n (n := n) (by omega)]) (by omega) (by
      intro j hj
      simp [turn1, K])
    have cc2 : ev (R k) (.comp (.lit (.int 0)) (.nm 13) (.rng1 (.var 4)) []) (K c c1 7 Dg n m Ws Fs V (V.take m) s true true [none, none, none, none, none]) = some (rv true ((List.range n).map fun _ => 0), .fr) := cc
    have cc3 : ∀ o, ev (R k) (.comp (.lit (.int 0)) (.nm 13) (.rng1 (.var 4)) []) [some (.int c, false), some (.int c1, false), some (.int 7, false), some (.lst Dg, true), some (.int n, false), some (.int m, false), some (rv true Ws, true), some (rv true Fs, true), some (tv true true V, true), some (tv true true (V.take m), o), some (.int s, false), none, none, none, none, none] = some (rv true ((List.range n).map fun _ => 0), .fr) := fun o => comp_rng (t := .sh) (by simp [rngOk_n (n := n) (by omega)]) (by omega) (by
      intro j hj
      simp [turn1])
    have fin : Good (.lst [tv true true (V.take m), rv true ((List.range n).map fun _ => 0)], true) := by
      refine ⟨_, _, by omega, by simp; omega, eb_up hTb (by omega), fun x hx => ?_, fun c hc => by rw [hTn c hc]; simp, rfl⟩
      obtain ⟨y, hy, rfl⟩ := List.mem_map.mp hx
      exact ⟨by decide⟩
    simp only [b__law_drawn_system, List.drop_succ_cons, List.drop_zero]
    simp (decide := true) [K, cc3]
    simpa using fin
  refine W.split 3 (K2 c c1 w Dg n m Ws Fs V s 100) ?_ ?_
  · simp only [b__law_drawn_system, List.drop_succ_cons, List.drop_zero, List.take_succ_cons, List.take_zero]
    simp (decide := true) [K, w0, w5, w7]
    exact ⟨V.take m, true, none, none, none, none, hT, hTn, hTb, rfl⟩
  · intro σ j
    simp only [b__law_drawn_system, List.drop_succ_cons, List.drop_zero]
    refine K_sum (by omega) n4 m4 hs hW hWb (by decide) j fun σ j => ?_
    refine K_copy n4 m4 hs i3 i4 x4 y4 (by decide) j fun σ j => ?_
    obtain ⟨M, o6, a12, a13, a14, a15, hM, hMn, he, rfl⟩ := j
    have j : K2 c c1 w Dg n m Ws Fs V s 120 _ := ⟨M, o6, a12, a13, a14, a15, hM, hMn, eb_up he (by omega), rfl⟩
    have := K_end (k := k) (by omega) n1 n4 m4 hW hWb hF hFb i3 i4 x4 y4 j
    simp only [b__law_drawn_system, List.drop_succ_cons, List.drop_zero] at this
    exact this
end K01

set_option Elab.async false
set_option linter.all false
set_option maxRecDepth 100000
set_option exponentiation.threshold 10000
namespace K01
open PySem Mn Mn.S Mn.S.Tw Mn.S.Tx
theorem chosen_at {h : Int} (h0 : 0 ≤ h) (h1 : h < 3) : ∃ m : Int, atM [.int 3, .int 4, .int 6] h = some (.int m) := by
  rcases (by omega : h = 0 ∨ h = 1 ∨ h = 2) with rfl | rfl | rfl <;> exact ⟨_, rfl⟩
theorem law_holds : ∀ ns : List Int, ns.length ≤ 63 → ∃ own, Mn.run (T.map (·.d)) LL NN F_law [.lst (ns.map Mn.MV.int)] = some (.bl true, own) := by
  intro ns hn
  refine ⟨false, ?_⟩
  show R (199 + 1) 25 _ = _
  generalize hk : 199 = k
  have hk' : 100 ≤ k := by omega
  clear hk
  refine R_eq (d := ⟨1, 7, b_law⟩) rfl rfl ?_
  obtain ⟨c0, z0⟩ := R_cell (k := k) (by omega) ns 0 (by omega) (by omega)
  obtain ⟨ds, hd, bd⟩ := digits_ok (L := LL) HD (k := k) (by omega) c0 [2, 3, 8, 8, 8, 2, 2, 2, 2, 2, 2, 2, 2] (by decide) (by
    intro s hs
    simp only [List.mem_cons, List.not_mem_nil, or_false] at hs
    rcases hs with rfl | rfl | rfl | rfl | rfl | rfl | rfl | rfl | rfl | rfl | rfl | rfl | rfl <;> exact ⟨by decide, Bd.up (n := 200) ⟨by decide⟩ (by decide)⟩)
  have hlen := bd.len
  have hds : ∀ i : Nat, i < 13 → idxSem (.lst (ds.map MV.int)) (.int (i : Int)) = some (.int (gd ds i)) := fun i hi => rv_at (s := true) (by rw [hlen]; exact hi)
  obtain ⟨h0, _, rfl, x0, y0, bd⟩ := bd.c
  obtain ⟨h1, d2, rfl, x1, y1, bd⟩ := bd.c
  have hds8 : Bd (gd (h0 :: h1 :: d2) 8) 4 := by
    obtain ⟨h2, _, rfl, x2, y2, bd⟩ := bd.c
    obtain ⟨h3, _, rfl, x3, y3, bd⟩ := bd.c
    obtain ⟨h4, _, rfl, x4, y4, bd⟩ := bd.c
    obtain ⟨h5, _, rfl, x5, y5, bd⟩ := bd.c
    obtain ⟨h6, _, rfl, x6, y6, bd⟩ := bd.c
    obtain ⟨h7, _, rfl, x7, y7, bd⟩ := bd.c
    obtain ⟨h8, _, rfl, x8, y8, bd⟩ := bd.c
    show Bd h8 4
    exact Bd.rng x8 (by omega)
  have hd' : R k 8 [.int c0, .lst [.int 2, .int 3, .int 8, .int 8, .int 8, .int 2, .int 2, .int 2, .int 2, .int 2, .int 2, .int 2, .int 2]] = some (.lst ((h0 :: h1 :: d2).map MV.int), true) := hd
  have i0 : idxSem (.lst ((h0 :: h1 :: d2).map MV.int)) (.int 0) = some (.int h0) := hds 0 (by decide)
  have i1 : idxSem (.lst ((h0 :: h1 :: d2).map MV.int)) (.int 1) = some (.int h1) := hds 1 (by decide)
  generalize h0 :: h1 :: d2 = ds at *
  have i2 : idxSem (.lst (ds.map MV.int)) (.int 2) = some (.int (gd ds 2)) := hds 2 (by decide)
  have i3 : idxSem (.lst (ds.map MV.int)) (.int 3) = some (.int (gd ds 3)) := hds 3 (by decide)
  have i4 : idxSem (.lst (ds.map MV.int)) (.int 4) = some (.int (gd ds 4)) := hds 4 (by decide)
  have i8 : idxSem (.lst (ds.map MV.int)) (.int 8) = some (.int (gd ds 8)) := hds 8 (by decide)
  obtain ⟨ch, hch⟩ := chosen_at x1 y1
  haveI : Bd h0 4 := Bd.rng x0 (by omega)
  haveI := hds8
  have hr3 : rngOk 3 = true := rngOk_n (n := 3) (by decide)
  have hr5 : rngOk 5 = true := rngOk_n (n := 5) (by decide)
  generalize hDg : ds.map MV.int = Dg at *
  refine W.split 2 (fun σ => σ = [some (.lst (ns.map MV.int), false), some (.lst Dg, true), some (rv true [1 + h0, ch, gd ds 2, gd ds 3, gd ds 4], true), none, none, none, none]) ?_ ?_
  · simp (decide := true) only [b_law, startM, List.take_succ_cons, List.take_zero, List.map_cons, List.map_nil, List.length_cons, List.length_nil, List.replicate, List.cons_append, List.nil_append]
    simp (decide := true) [z0, hd', i0, i1, i2, i3, i4, hch, Mn.freeOf, MV.noLst, MV.noLsts, -atM_of, -List.map_map]
    rfl
  · rintro σ rfl
    simp only [b_law, List.drop_succ_cons, List.drop_zero]
    refine W.split 1 (fun σ => ∃ a b, σ = [some (.lst (ns.map MV.int), false), some (.lst Dg, true), some (rv true [1 + h0, ch, gd ds 2, gd ds 3, gd ds 4], true), a, none, b, none]) ?_ ?_
    · simp only [List.take_succ_cons, List.take_zero]
      refine W.for (rngM 0 3) (fun i σ => ∃ a b, σ = [some (.lst (ns.map MV.int), false), some (.lst Dg, true), some (rv true [1 + h0, ch, gd ds 2, gd ds 3, gd ds 4], true), a, none, b, none]) (by simp [hr3]) ⟨none, none, rfl⟩ ?_ (fun σ h => W_nil.mpr h)
      rintro i v σ hv ⟨a, b, rfl⟩
      obtain ⟨hi, rfl⟩ := rngM_at hv
      obtain ⟨ca, za⟩ := R_cell (k := k) (by omega) ns (1 + 2 * (i : Int)) (by omega) (by omega)
      obtain ⟨cb, zb⟩ := R_cell (k := k) (by omega) ns (2 + 2 * (i : Int)) (by omega) (by omega)
      obtain ⟨n, M, n1, n4, hq, he, e⟩ := R_drawn_table (k := k) (by omega) ca cb
      have e2 := R_table_right (k := k) (by omega) n1 n4 hq he (gd ds (5 + i))
      have e3 := hds (5 + i) (by omega)
      rw [Int.natCast_add] at e3
      haveI : Bd (i : Int) 10 := Bd.rng (by omega) (by omega)
      have e3' : idxSem (.lst Dg) (.int (5 + (i : Int))) = some (.int (gd ds (5 + i))) := e3
      simp (decide := true) [za, zb, e, e2, e3', isLst_tv, Mn.freeOf, MV.noLst, -List.map_map]
    · rintro σ ⟨a, b, rfl⟩
      simp only [List.drop_succ_cons, List.drop_zero]
      refine W.split 1 (fun σ => ∃ a b d, σ = [some (.lst (ns.map MV.int), false), some (.lst Dg, true), some (rv true [1 + h0, ch, gd ds 2, gd ds 3, gd ds 4], true), a, none, b, d]) ?_ ?_
      · simp only [List.take_succ_cons, List.take_zero]
        refine W.for (rngM 0 5) (fun i σ => ∃ a b d, σ = [some (.lst (ns.map MV.int), false), some (.lst Dg, true), some (rv true [1 + h0, ch, gd ds 2, gd ds 3, gd ds 4], true), a, none, b, d]) (by simp [hr5]) ⟨a, b, none, rfl⟩ ?_ (fun σ h => W_nil.mpr h)
        rintro i v σ hv ⟨a, b, d, rfl⟩
        obtain ⟨hi, rfl⟩ := rngM_at hv
        obtain ⟨ca, za⟩ := R_cell (k := k) (by omega) ns (7 + 2 * (i : Int)) (by omega) (by omega)
        obtain ⟨cb, zb⟩ := R_cell (k := k) (by omega) ns (8 + 2 * (i : Int)) (by omega) (by omega)
        have ec := rv_at (s := true) (l := [1 + h0, ch, gd ds 2, gd ds 3, gd ds 4]) (i := i) (by simpa using hi)
        obtain ⟨cols, tg, a1, a2, a3, a4, a5, e⟩ := R_drawn_system (k := k) (by omega) ca cb (gd [1 + h0, ch, gd ds 2, gd ds 3, gd ds 4] i)
        have e2 := R_system_right (k := k) (by omega) a1 a2 a3 a4 a5 (gd ds (8 + i))
        have e3 := hds (8 + i) (by omega)
        rw [Int.natCast_add] at e3
        haveI : Bd (i : Int) 10 := Bd.rng (by omega) (by omega)
        have e3' : idxSem (.lst Dg) (.int (8 + (i : Int))) = some (.int (gd ds (8 + i))) := e3
        simp (decide := true) [za, zb, e, e2, e3', ec, Mn.freeOf, MV.noLst, -List.map_map]
      · rintro σ ⟨a, b, d, rfl⟩
        simp only [List.drop_succ_cons, List.drop_zero]
        obtain ⟨ca, za⟩ := R_cell (k := k) (by omega) ns 7 (by omega) (by omega)
        obtain ⟨cb, zb⟩ := R_cell (k := k) (by omega) ns 8 (by omega) (by omega)
        have ec : idxSem (rv true [1 + h0, ch, gd ds 2, gd ds 3, gd ds 4]) (.int 0) = some (.int (1 + h0)) := rv_at (s := true) (l := [1 + h0, ch, gd ds 2, gd ds 3, gd ds 4]) (i := 0) (by simp)
        obtain ⟨cols, tg, a1, a2, a3, a4, a5, e⟩ := R_drawn_system (k := k) (by omega) ca cb (1 + h0)
        have e2 := R_system_right (k := k) (by omega) a1 a2 a3 a4 a5 (1 - gd ds 8)
        simp (decide := true) [za, zb, e, e2, i8, ec, Mn.freeOf, MV.noLst, -List.map_map]
end K01

open PySem PySem.W PyProof.Rows Mn
set_option maxRecDepth 100000 in
set_option maxHeartbeats 0 in
theorem PySem.Challenge.cw_heldnear_k01_small_systems_holds : PySem.Challenge.rw_heldnear_k01_small_systems.Holds := by
  w_on; o_law; k_head; (case hw => w_witness2)
  k_fill
  refine Mn.walk (l := PySem.Challenge.rw_heldnear_k01_small_systems) (C := K01.C) (T := K01.T) (i := 25) (L := K01.LL) (n := K01.NN) rfl rfl (by decide) rfl rfl rfl (fun w h Y => PySem.W.kIn_of Y) ?qqM K01.law_holds
  intro w mg h KX G
  refine' ⟨⟨rfl, K01.text_ok, Mn.forall_cons ?qqs0 (Mn.forall_cons ?qqs1 (Mn.forall_cons ?qqs2 (Mn.forall_cons ?qqs3 (Mn.forall_cons ?qqs4 (Mn.forall_cons ?qqs5 (Mn.forall_cons ?qqs6 (Mn.forall_cons ?qqs7 (Mn.forall_cons ?qqs8 (Mn.forall_cons ?qqs9 (Mn.forall_cons ?qqs10 (Mn.forall_cons ?qqs11 (Mn.forall_cons ?qqs12 (Mn.forall_cons ?qqs13 (Mn.forall_cons ?qqs14 (Mn.forall_cons ?qqs15 (Mn.forall_cons ?qqs16 (Mn.forall_cons ?qqs17 (Mn.forall_cons ?qqs18 (Mn.forall_cons ?qqs19 (Mn.forall_cons ?qqs20 (Mn.forall_cons ?qqs21 (Mn.forall_cons ?qqs22 (Mn.forall_cons ?qqs23 (Mn.forall_cons ?qqs24 (Mn.forall_cons ?qqs25 (Mn.forall_nil)))))))))))))))))))))))))), Mn.bis_mk KX G ?qqbis, ?qqimp⟩, ?qqnl⟩
  case qqs0 =>
    refine' Mn.stands_mk (x := "ratio") (st := K01.top 2) KX G ?a ?l ?c ?k (fun _ _ _ _ _ _ us hl => match us, hl with | [_, _], _ => rfl)
    (case a => k_is); (case l => k_is); (case c => k_is); (case k => k_is)
  case qqs1 =>
    refine' Mn.stands_mk (x := "_without") (st := K01.top 4) KX G ?a ?l ?c ?k (fun _ _ _ _ _ _ us hl => match us, hl with | [_, _], _ => rfl)
    (case a => k_is); (case l => k_is); (case c => k_is); (case k => k_is)
  case qqs2 =>
    refine' Mn.stands_mk (x := "determinant") (st := K01.top 5) KX G ?a ?l ?c ?k (fun _ _ _ _ _ _ us hl => match us, hl with | [_], _ => rfl)
    (case a => k_is); (case l => k_is); (case c => k_is); (case k => k_is)
  case qqs3 =>
    refine' Mn.stands_mk (x := "_pivot") (st := K01.top 6) KX G ?a ?l ?c ?k (fun _ _ _ _ _ _ us hl => match us, hl with | [_, _], _ => rfl)
    (case a => k_is); (case l => k_is); (case c => k_is); (case k => k_is)
  case qqs4 =>
    refine' Mn.stands_mk (x := "_cleared") (st := K01.top 7) KX G ?a ?l ?c ?k (fun _ _ _ _ _ _ us hl => match us, hl with | [_, _], _ => rfl)
    (case a => k_is); (case l => k_is); (case c => k_is); (case k => k_is)
  case qqs5 =>
    refine' Mn.stands_mk (x := "solved") (st := K01.top 8) KX G ?a ?l ?c ?k (fun _ _ _ _ _ _ us hl => match us, hl with | [_, _], _ => rfl)
    (case a => k_is); (case l => k_is); (case c => k_is); (case k => k_is)
  case qqs6 =>
    refine' Mn.stands_mk (x := "_law_whole") (st := K01.top 10) KX G ?a ?l ?c ?k (fun _ _ _ _ _ _ us hl => match us, hl with | [_], _ => rfl)
    (case a => k_is); (case l => k_is); (case c => k_is); (case k => k_is)
  case qqs7 =>
    refine' Mn.stands_mk (x := "_law_cell") (st := K01.top 11) KX G ?a ?l ?c ?k (fun _ _ _ _ _ _ us hl => match us, hl with | [_, _], _ => rfl)
    (case a => k_is); (case l => k_is); (case c => k_is); (case k => k_is)
  case qqs8 =>
    refine' Mn.stands_mk (x := "_law_digits") (st := K01.top 12) KX G ?a ?l ?c ?k (fun _ _ _ _ _ _ us hl => match us, hl with | [_, _], _ => rfl)
    (case a => k_is); (case l => k_is); (case c => k_is); (case k => k_is)
  case qqs9 =>
    refine' Mn.stands_mk (x := "_law_common") (st := K01.top 13) KX G ?a ?l ?c ?k (fun _ _ _ _ _ _ us hl => match us, hl with | [_, _], _ => rfl)
    (case a => k_is); (case l => k_is); (case c => k_is); (case k => k_is)
  case qqs10 =>
    refine' Mn.stands_mk (x := "_law_same") (st := K01.top 14) KX G ?a ?l ?c ?k (fun _ _ _ _ _ _ us hl => match us, hl with | [_, _], _ => rfl)
    (case a => k_is); (case l => k_is); (case c => k_is); (case k => k_is)
  case qqs11 =>
    refine' Mn.stands_mk (x := "_law_det") (st := K01.top 15) KX G ?a ?l ?c ?k (fun _ _ _ _ _ _ us hl => match us, hl with | [_], _ => rfl)
    (case a => k_is); (case l => k_is); (case c => k_is); (case k => k_is)
  case qqs12 =>
    refine' Mn.stands_mk (x := "_law_subsets") (st := K01.top 16) KX G ?a ?l ?c ?k (fun _ _ _ _ _ _ us hl => match us, hl with | [_, _], _ => rfl)
    (case a => k_is); (case l => k_is); (case c => k_is); (case k => k_is)
  case qqs13 =>
    refine' Mn.stands_mk (x := "_law_fit") (st := K01.top 17) KX G ?a ?l ?c ?k (fun _ _ _ _ _ _ us hl => match us, hl with | [_, _], _ => rfl)
    (case a => k_is); (case l => k_is); (case c => k_is); (case k => k_is)
  case qqs14 =>
    refine' Mn.stands_mk (x := "_law_due") (st := K01.top 18) KX G ?a ?l ?c ?k (fun _ _ _ _ _ _ us hl => match us, hl with | [_, _], _ => rfl)
    (case a => k_is); (case l => k_is); (case c => k_is); (case k => k_is)
  case qqs15 =>
    refine' Mn.stands_mk (x := "_law_entries") (st := K01.top 19) KX G ?a ?l ?c ?k (fun _ _ _ _ _ _ us hl => match us, hl with | [_, _], _ => rfl)
    (case a => k_is); (case l => k_is); (case c => k_is); (case k => k_is)
  case qqs16 =>
    refine' Mn.stands_mk (x := "_law_vectors") (st := K01.top 20) KX G ?a ?l ?c ?k (fun _ _ _ _ _ _ us hl => match us, hl with | [_, _, _], _ => rfl)
    (case a => k_is); (case l => k_is); (case c => k_is); (case k => k_is)
  case qqs17 =>
    refine' Mn.stands_mk (x := "_law_sum") (st := K01.top 21) KX G ?a ?l ?c ?k (fun _ _ _ _ _ _ us hl => match us, hl with | [_, _, _, _], _ => rfl)
    (case a => k_is); (case l => k_is); (case c => k_is); (case k => k_is)
  case qqs18 =>
    refine' Mn.stands_mk (x := "_law_scattered") (st := K01.top 22) KX G ?a ?l ?c ?k (fun _ _ _ _ _ _ us hl => match us, hl with | [_, _, _, _], _ => rfl)
    (case a => k_is); (case l => k_is); (case c => k_is); (case k => k_is)
  case qqs19 =>
    refine' Mn.stands_mk (x := "_law_drawn_table") (st := K01.top 23) KX G ?a ?l ?c ?k (fun _ _ _ _ _ _ us hl => match us, hl with | [_, _], _ => rfl)
    (case a => k_is); (case l => k_is); (case c => k_is); (case k => k_is)
  case qqs20 =>
    refine' Mn.stands_mk (x := "_law_drawn_system") (st := K01.top 24) KX G ?a ?l ?c ?k (fun _ _ _ _ _ _ us hl => match us, hl with | [_, _, _], _ => rfl)
    (case a => k_is); (case l => k_is); (case c => k_is); (case k => k_is)
  case qqs21 =>
    refine' Mn.stands_mk (x := "_law_passed") (st := K01.top 25) KX G ?a ?l ?c ?k (fun _ _ _ _ _ _ us hl => match us, hl with | [_, _], _ => rfl)
    (case a => k_is); (case l => k_is); (case c => k_is); (case k => k_is)
  case qqs22 =>
    refine' Mn.stands_mk (x := "_law_stays") (st := K01.top 26) KX G ?a ?l ?c ?k (fun _ _ _ _ _ _ us hl => match us, hl with | [_, _], _ => rfl)
    (case a => k_is); (case l => k_is); (case c => k_is); (case k => k_is)
  case qqs23 =>
    refine' Mn.stands_mk (x := "_law_table_right") (st := K01.top 27) KX G ?a ?l ?c ?k (fun _ _ _ _ _ _ us hl => match us, hl with | [_, _], _ => rfl)
    (case a => k_is); (case l => k_is); (case c => k_is); (case k => k_is)
  case qqs24 =>
    refine' Mn.stands_mk (x := "_law_system_right") (st := K01.top 28) KX G ?a ?l ?c ?k (fun _ _ _ _ _ _ us hl => match us, hl with | [_, _, _], _ => rfl)
    (case a => k_is); (case l => k_is); (case c => k_is); (case k => k_is)
  case qqs25 =>
    refine' Mn.stands_mk (x := "law") (st := K01.top 29) KX G ?a ?l ?c ?k (fun _ _ _ _ _ _ us hl => match us, hl with | [_], _ => rfl)
    (case a => k_is); (case l => k_is); (case c => k_is); (case k => k_is)
  case qqbis =>
    refine' Mn.forall_cons ?qqz0 (Mn.forall_cons ?qqz1 (Mn.forall_cons ?qqz2 (Mn.forall_cons ?qqz3 (Mn.forall_cons ?qqz4 (Mn.forall_cons ?qqz5 (Mn.forall_cons ?qqz6 (Mn.forall_cons ?qqz7 (Mn.forall_cons ?qqz8 (Mn.forall_cons ?qqz9 (Mn.forall_cons ?qqz10 (Mn.forall_nil)))))))))))
    (case qqz0 => k_is)
    (case qqz1 => k_is)
    (case qqz2 => k_is)
    (case qqz3 => k_is)
    (case qqz4 => k_is)
    (case qqz5 => k_is)
    (case qqz6 => k_is)
    (case qqz7 => k_is)
    (case qqz8 => k_is)
    (case qqz9 => k_is)
    (case qqz10 => k_is)
  case qqimp =>
    intro x hx
    cases List.mem_singleton.mp hx
    refine' PySem.W.mg_of KX G ?g
    (case g => k_is)
  case qqnl => first | rfl | decide +kernel | k_is

