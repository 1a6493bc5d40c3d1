import PyProof.Rows.All
import Wide.All
import OpenK.AllK
import Wide.FinOn
import HandS.ForMost
import HandS.IsInst
import HandS.TupAny
import HandS.TupMul
import HandS.SetFor
import HandS.Defaults
import HandS.Codes
import HandS.Flow
import HandS.HeadEnd
import HandS.Head0
import HandS.Head1
import HandS.Head2
import HandS.HeadHook1
import HandS.HeadHook2
import KE.KStateDown
import Lean
import HandS.More
import HandS.WordsExc
import PySem.Challenge.RW_setpoints_k12_whole_turns
set_option Elab.async false
set_option linter.all false
set_option maxRecDepth 100000
set_option maxHeartbeats 4000000
/-! ## The evaluator: values, store, core language -/
namespace Ev
open PySem

/-- a plain value: tuples are trees, lists, dicts, instances stand in the store -/
inductive Val where
  | none
  | bool (b : Bool)
  | int (i : Int)
  | str (s : Str)
  | tup (xs : List Val)
  | ref (n : Nat)
  deriving Inhabited

inductive Cell where
  | lst (xs : List Val)
  | ro (xs : List Val)
  | dict (kvs : List (Sum Int Str × Val))
  | inst (c : Str) (fs : List (Str × Val))

abbrev Store := List Cell

inductive Res (α : Type) where
  | ok (a : α) (s : Store)
  | exc (c : Str) (v : Val) (s : Store)
  | stuck

def Res.bind {α β : Type} (r : Res α) (f : α → Store → Res β) : Res β :=
  match r with
  | .ok a s => f a s
  | .exc c v s => .exc c v s
  | .stuck => .stuck
@[simp] theorem bind_ok {α β : Type} (a : α) (s : Store) (f : α → Store → Res β) : (Res.ok a s).bind f = f a s := rfl
@[simp] theorem bind_stuck {α β : Type} (f : α → Store → Res β) : (Res.stuck : Res α).bind f = .stuck := rfl
@[simp] theorem bind_exc {α β : Type} (c : Str) (v : Val) (s : Store) (f : α → Store → Res β) : (Res.exc c v s : Res α).bind f = .exc c v s := rfl
theorem bind_eq_ok {α β : Type} {r : Res α} {f : α → Store → Res β} {b : β} {s : Store} (h : r.bind f = .ok b s) : ∃ a s1, r = .ok a s1 ∧ f a s1 = .ok b s := by
  cases r with
  | ok a s1 => exact ⟨a, s1, rfl, h⟩
  | exc c v s1 => cases h
  | stuck => cases h

/-- a guard -/
def need {α : Type} (p : Prop) [Decidable p] (r : Res α) : Res α := if p then r else .stuck
@[simp] theorem need_pos {α : Type} {p : Prop} [Decidable p] {r : Res α} (h : p) : need p r = r := if_pos h
theorem need_ok {α : Type} {p : Prop} [Decidable p] {r : Res α} {a : α} {s : Store} (h : need p r = .ok a s) : p ∧ r = .ok a s := by
  unfold need at h
  split at h
  · exact ⟨‹_›, h⟩
  · cases h

mutual
/-- no reference at or above n -/
def Val.lowB (n : Nat) : Val → Bool
  | .tup xs => lowL n xs
  | .ref m => decide (m < n)
  | .none => true
  | .bool _ => true
  | .int _ => true
  | .str _ => true
def lowL (n : Nat) : List Val → Bool
  | [] => true
  | x :: xs => x.lowB n && lowL n xs
end

/-- a list cell whose items have no reference at or above n -/
def Cell.lowC (n : Nat) : Cell → Bool
  | .lst xs => lowL n xs
  | .ro _ => false
  | .dict _ => false
  | .inst _ _ => false

open Classical in
/-- the old part of a store behind a run: each cell as it was, or a list of old things -/
noncomputable def mergeS (n : Nat) : Store → Store → Option Store
  | [], _ => some []
  | c :: cs, d :: ds => if c = d ∨ d.lowC n = true then (mergeS n cs ds).map (d :: ·) else none
  | _ :: _, [] => none

/-- at a call's end what is no longer reached is let go -/
noncomputable def gc (old : Store) (v : Val) (st : Store) : Res Val :=
  match mergeS old.length old st with
  | some s2 => if v.lowB old.length then .ok v s2 else
    (match v with
    | .ref r => (match st[r]? with
      | some (.lst xs) => if old.length ≤ r ∧ lowL old.length xs = true then .ok (.ref old.length) (s2 ++ [.lst xs]) else .ok v st
      | _ => .ok v st)
    | _ => .ok v st)
  | none => .ok v st

/-! ### operations on values -/
inductive Bop where | add | sub | mul | fdiv | mod | pow
  deriving DecidableEq
inductive Cop where | eq | ne | lt | le | gt | ge | isin | notin | is_ | isnot
  deriving DecidableEq
inductive Ty where | int | bool | str | tuple | list
  deriving DecidableEq
inductive Bi where | len | abs | max | min | sum | all | int | str | list | tuple
  deriving DecidableEq
inductive Mt where | append | extend | pop | count | index | get
  deriving DecidableEq
inductive Src where | seq | range
  deriving DecidableEq

/-- the items of a list in the store -/
def listAt (st : Store) (n : Nat) : Option (List Val) :=
  match st[n]? with
  | some (.lst xs) => some xs
  | some (.ro xs) => some xs
  | _ => none

/-- deep data of a value -/
def toD (st : Store) : Nat → Val → Option PyData
  | _, .none => some .none
  | _, .bool b => some (.bool b)
  | _, .int i => some (.int i)
  | _, .str s => some (.str s)
  | 0, .tup _ => none
  | k + 1, .tup xs => (xs.mapM (toD st k)).map PyData.tuple
  | 0, .ref _ => none
  | k + 1, .ref n => (listAt st n).bind fun xs => (xs.mapM (toD st k)).map PyData.list

def scalB : Val → Val → Option Bool
  | .none, .none => some true
  | .none, .int _ => some false
  | .int _, .none => some false
  | .none, .bool _ => some false
  | .bool _, .none => some false
  | .none, .str _ => some false
  | .str _, .none => some false
  | .int i, .int j => some (decide (i = j))
  | .bool a, .bool b => some (decide (a = b))
  | .str a, .str b => some (decide (a = b))
  | .int _, .str _ => some false
  | .str _, .int _ => some false
  | .bool _, .str _ => some false
  | .str _, .bool _ => some false
  | _, _ => none

/-- how deep == looks -/
def eqDeep : Nat := 24
def eqM (st : Store) (a b : Val) : Option Bool :=
  match scalB a b with
  | some r => some r
  | none => (match toD st eqDeep a, toD st eqDeep b with
    | some d, some e => if SeqAt.shaped d = true ∧ SeqAt.shaped e = true then some (PyData.eqv d e) else none
    | _, _ => none)

def flatB : Val → Bool
  | .none => true
  | .bool _ => true
  | .int _ => true
  | .str _ => true
  | .tup _ => false
  | .ref _ => false
def flatEq : Val → Val → Bool
  | .none, .none => true
  | .bool a, .bool b => a == b
  | .bool a, .int b => (if a then 1 else 0) == b
  | .int a, .bool b => a == (if b then 1 else 0)
  | .int a, .int b => a == b
  | .str a, .str b => a == b
  | _, _ => false

def seqItems (st : Store) : Val → Option (List Val)
  | .tup xs => some xs
  | .ref n => listAt st n
  | _ => none

def inM (st : Store) (a b : Val) : Option Bool :=
  (seqItems st b).bind fun xs => if flatB a = true ∧ xs.all flatB = true then some (xs.any fun y => flatEq y a) else none

def optB (o : Option Bool) (neg : Bool) (st : Store) : Res Val :=
  match o with
  | some b => .ok (.bool (if neg then !b else b)) st
  | none => .stuck

def cmpop (op : Cop) (a b : Val) (st : Store) : Res Val :=
  match op with
  | .eq => optB (eqM st a b) false st
  | .ne => optB (eqM st a b) true st
  | .lt => (match a, b with | .int i, .int j => .ok (.bool (decide (i < j))) st | _, _ => .stuck)
  | .le => (match a, b with | .int i, .int j => .ok (.bool (decide (i ≤ j))) st | _, _ => .stuck)
  | .gt => (match a, b with | .int i, .int j => .ok (.bool (decide (j < i))) st | _, _ => .stuck)
  | .ge => (match a, b with | .int i, .int j => .ok (.bool (decide (j ≤ i))) st | _, _ => .stuck)
  | .isin => optB (inM st a b) false st
  | .notin => optB (inM st a b) true st
  | .is_ => (match b with | .none => .ok (.bool (match a with | .none => true | _ => false)) st | _ => .stuck)
  | .isnot => (match b with | .none => .ok (.bool (match a with | .none => false | _ => true)) st | _ => .stuck)

def binop (op : Bop) (a b : Val) (st : Store) : Res Val :=
  match op, a, b with
  | .add, .int i, .int j => .ok (.int (i + j)) st
  | .add, .str x, .str y => need (x.length + y.length ≤ sizeLine) (.ok (.str (x ++ y)) st)
  | .add, .tup xs, .tup ys => need (xs.length + ys.length ≤ sizeLine) (.ok (.tup (xs ++ ys)) st)
  | .add, .ref n, .ref m => (match st[n]?, st[m]? with
    | some (.lst xs), some (.lst ys) => need (xs.length + ys.length ≤ sizeLine) (.ok (.ref st.length) (st ++ [.lst (xs ++ ys)]))
    | _, _ => .stuck)
  | .sub, .int i, .int j => .ok (.int (i - j)) st
  | .mul, .int i, .int j => need ((-(2 ^ 64) < i ∧ i < 2 ^ 64) ∨ (-(2 ^ 64) < j ∧ j < 2 ^ 64)) (.ok (.int (i * j)) st)
  | .mul, .tup xs, .int k => need (xs ≠ [] ∧ 2 ≤ k ∧ k ≤ 1000 ∧ xs.length ≤ 1000) (.ok (.tup (List.replicate k.toNat xs).flatten) st)
  | .mul, .ref n, .int k => (match st[n]? with
    | some (.lst xs) => need (-(2 ^ 63) ≤ k ∧ k < 2 ^ 63 ∧ xs.length * k.toNat ≤ sizeLine) (.ok (.ref st.length) (st ++ [.lst (List.replicate k.toNat xs).flatten]))
    | _ => .stuck)
  | .fdiv, .int i, .int j => need (0 < j ∧ j < 1073741824) (.ok (.int (i / j)) st)
  | .mod, .int i, .int j => need (0 < j) (.ok (.int (i % j)) st)
  | .pow, .int i, .int j => need (0 ≤ j ∧ j ≤ 1000000 ∧ i.natAbs < 2 ^ 64) (.ok (.int (i ^ j.toNat)) st)
  | _, _, _ => .stuck

def truth (st : Store) : Val → Option Bool
  | .none => some false
  | .bool b => some b
  | .int i => some (i != 0)
  | .str s => if s.length ≤ sizeLine then some ((s.length : Int) != 0) else none
  | .tup xs => some (!xs.isEmpty)
  | .ref n => (listAt st n).map fun xs => !xs.isEmpty

/-! dicts with int and text keys -/
def keyOf : Val → Option (Sum Int Str)
  | .int i => some (.inl i)
  | .str s => some (.inr s)
  | _ => none
def valK (kvs : List (Sum Int Str × Val)) (k : Sum Int Str) : Option Val := (kvs.find? fun kv => decide (kv.1 = k)).map (·.2)
def putKV (kvs : List (Sum Int Str × Val)) (k : Sum Int Str) (v : Val) : List (Sum Int Str × Val) :=
  if (kvs.any fun kv => decide (kv.1 = k)) = true then kvs.map (fun kv => if kv.1 = k then (kv.1, v) else kv) else kvs ++ [(k, v)]
def mergeKV (kvs more : List (Sum Int Str × Val)) : List (Sum Int Str × Val) := more.foldl (fun acc kv => putKV acc kv.1 kv.2) kvs
def toPairs : List Val → Option (List (Sum Int Str × Val))
  | [] => some []
  | k :: v :: r => (keyOf k).bind fun x => (toPairs r).map ((x, v) :: ·)
  | _ => none

def ixCell (c : Cell) (i : Val) : Option Val :=
  match c with
  | .lst xs => (match i with | .int k => L2.atI xs k | _ => none)
  | .ro xs => (match i with | .int k => L2.atI xs k | _ => none)
  | .dict kvs => (keyOf i).bind (valK kvs)
  | .inst _ _ => none
def ixop (a i : Val) (st : Store) : Res Val :=
  match a, i with
  | .tup xs, .int k => (match L2.atI xs k with | some v => .ok v st | none => .stuck)
  | .str s, .int k => (match L2.atI s.cps.toList k with | some c => need (s.length ≤ sizeLine) (.ok (.str ⟨#[c]⟩) st) | none => .stuck)
  | .ref n, i => (match (st[n]?).bind fun c => ixCell c i with | some v => .ok v st | none => .stuck)
  | _, _ => .stuck

/-- a bound of a slice: left out, or an int -/
def part (v : Val) (st : Store) : Res (Option Int) := match v with | .int i => .ok (some i) st | _ => .stuck
def cut {α : Type} (xs : List α) (lo hi : Option Int) : List α := (xs.drop (HT.sIx xs.length 0 lo)).take (HT.sIx xs.length xs.length hi - HT.sIx xs.length 0 lo)
def sliceop (a : Val) (l h : Option Int) (st : Store) : Res Val :=
  match a with
  | .tup xs => .ok (.tup (cut xs l h)) st
  | .ref n => (match listAt st n with
    | some xs => .ok (.ref st.length) (st ++ [.lst (cut xs l h)])
    | none => .stuck)
  | _ => .stuck

def isInst (t : Ty) (st : Store) : Val → Option Bool
  | .none => some false
  | .bool _ => some (decide (t = .int) || decide (t = .bool))
  | .int _ => some (decide (t = .int))
  | .str _ => some (decide (t = .str))
  | .tup _ => some (decide (t = .tuple))
  | .ref n => (match st[n]? with
    | some (.lst _) => some (decide (t = .list))
    | _ => none)

def allInts : List Val → Option (List Int)
  | [] => some []
  | .int i :: r => (allInts r).map (i :: ·)
  | _ :: _ => none
def allBools : List Val → Option (List Bool)
  | [] => some []
  | .bool b :: r => (allBools r).map (b :: ·)
  | _ :: _ => none
def maxI : List Int → Option Int
  | [] => none
  | x :: xs => some (xs.foldl (fun a b => if b > a then b else a) x)
def minI : List Int → Option Int
  | [] => none
  | x :: xs => some (xs.foldl (fun a b => if b < a then b else a) x)

def imax (a b : Int) : Int := if b > a then b else a
def imin (a b : Int) : Int := if b < a then b else a
def iabs (a : Int) : Int := if a < 0 then -a else a
def bifn (b : Bi) (vs : List Val) (st : Store) : Res Val :=
  match b, vs with
  | .len, [.tup xs] => .ok (.int xs.length) st
  | .len, [.str s] => need (s.length ≤ sizeLine) (.ok (.int s.length) st)
  | .len, [.ref n] => (match listAt st n with | some xs => .ok (.int xs.length) st | none => .stuck)
  | .abs, [.int i] => .ok (.int (iabs i)) st
  | .max, [.int i, .int j] => .ok (.int (imax i j)) st
  | .min, [.int i, .int j] => .ok (.int (imin i j)) st
  | .max, [.ref n] => (match (listAt st n).bind fun xs => (allInts xs).bind maxI with | some m => .ok (.int m) st | none => .stuck)
  | .min, [.ref n] => (match (listAt st n).bind fun xs => (allInts xs).bind minI with | some m => .ok (.int m) st | none => .stuck)
  | .sum, [.ref n] => (match (listAt st n).bind allInts with | some ns => .ok (.int ns.sum) st | none => .stuck)
  | .all, [.ref n] => (match (listAt st n).bind allBools with | some bs => .ok (.bool (bs.all id)) st | none => .stuck)
  | .int, [.int i] => .ok (.int i) st
  | .int, [.bool b] => .ok (.int (if b then 1 else 0)) st
  | .int, [.str s] => (match PySem.intText? s with | some n => need (s.length ≤ 640) (.ok (.int n) st) | none => .stuck)
  | .list, [.tup xs] => .ok (.ref st.length) (st ++ [.lst xs])
  | .list, [.ref n] => (match listAt st n with | some xs => .ok (.ref st.length) (st ++ [.lst xs]) | none => .stuck)
  | .tuple, [.tup xs] => .ok (.tup xs) st
  | .tuple, [.ref n] => (match listAt st n with | some xs => .ok (.tup xs) st | none => .stuck)
  | _, _ => .stuck


def metop (m : Mt) (o : Val) (vs : List Val) (st : Store) : Res Val :=
  match m, o, vs with
  | .append, .ref n, [y] => (match st[n]? with
    | some (.lst xs) => need (xs.length < sizeLine) (.ok .none (st.set n (.lst (xs ++ [y]))))
    | _ => .stuck)
  | .count, .ref n, [.int k] => (match (listAt st n).bind allInts with | some ns => .ok (.int (ns.count k : Nat)) st | none => .stuck)
  | .pop, .ref n, [] => (match st[n]? with
    | some (.lst xs) => (match xs.getLast? with | some y => .ok y (st.set n (.lst xs.dropLast)) | none => .stuck)
    | _ => .stuck)
  | .get, .ref n, [k, d] => (match st[n]?, keyOf k with
    | some (.dict kvs), some x => .ok ((valK kvs x).getD d) st
    | _, _ => .stuck)
  | _, _, _ => .stuck

/-- the receiver's kind, ahead of the arguments -/
def mtOk (m : Mt) (o : Val) (st : Store) : Bool :=
  match o with
  | .ref n => (match m with
    | .get => (match st[n]? with | some (.dict _) => true | _ => false)
    | _ => (listAt st n).isSome)
  | _ => false

/-! ### the core language -/
inductive CE where
  | var (i : Nat)
  | none_
  | bool_ (b : Bool)
  | int_ (i : Int)
  | str_ (s : Str)
  | glob (x : Str)
  | nil
  | cons (a r : CE)
  | tup (args : CE)
  | lst (args : CE)
  | bin (op : Bop) (a b : CE)
  | neg (a : CE)
  | cmp (op : Cop) (a b : CE)
  | chain (op op' : Cop) (a b c : CE)
  | and1 (a : CE)
  | and2 (a r : CE)
  | or1 (a : CE)
  | or2 (a r : CE)
  | not_ (a : CE)
  | ifx (c a b : CE)
  | ix (a i : CE)
  | slice (a lo hi : CE)
  | call (f : Str) (args : CE)
  | bi (b : Bi) (args : CE)
  | isi (t : Ty) (a : CE)
  | meth (m : Mt) (o args : CE)
  | comp (k : Src) (i : Nat) (src cond elt : CE)
  | kv (k v r : CE)
  | dict (ps : CE)

abbrev Env := List (Option Val)
def isNil : CE → Bool
  | .nil => true
  | _ => false

/-- a loop's items, and the list that must stay as it is -/
def srcItems (k : Src) (v : Val) (st : Store) : Option (List Val) :=
  match k, v with
  | .seq, .tup xs => some xs
  | .seq, .ref n => listAt st n
  | .range, .tup [.int n] => if n < 2 ^ 62 ∧ -(2 ^ 62) ≤ n then some ((List.range n.toNat).map fun (j : Nat) => Val.int (j : Int)) else none
  | _, _ => none
def stays (k : Src) (v : Val) (xs : List Val) (st : Store) : Prop :=
  match k, v with
  | .seq, .ref n => listAt st n = some xs
  | _, _ => True

open Classical in
noncomputable def compLoop (f : Val → Store → Res (Option Val)) (ok : Store → Prop) (D : Nat) : List Val → Store → Res Val
  | [], st => if ok st then .ok (.ref D) st else .stuck
  | x :: xs, st => if ok st then ((f x st).bind fun o st1 => match o with
    | none => compLoop f ok D xs st1
    | some y => (match st1[D]? with
      | some (.lst acc) => if acc.length < sizeLine then compLoop f ok D xs (st1.set D (.lst (acc ++ [y]))) else .stuck
      | _ => .stuck)) else .stuck

def testV (v : Val) (st : Store) : Res Bool := match truth st v with | some b => .ok b st | none => .stuck

structure Fns where
  fn : Str → List Val → Store → Res Val
  glob : Str → Option Val
  fuel : Nat

noncomputable def evalE (F : Fns) : CE → Env → Store → Res Val
  | .var i, env, st => (match env[i]? with | some (some v) => .ok v st | _ => .stuck)
  | .none_, _, st => .ok .none st
  | .bool_ b, _, st => .ok (.bool b) st
  | .int_ i, _, st => .ok (.int i) st
  | .str_ s, _, st => .ok (.str s) st
  | .glob x, _, st => (match F.glob x with | some v => .ok v st | none => .stuck)
  | .nil, _, st => .ok (.tup []) st
  | .cons a r, env, st => (evalE F a env st).bind fun v s1 => (evalE F r env s1).bind fun w s2 => match w with | .tup vs => .ok (.tup (v :: vs)) s2 | _ => .stuck
  | .tup args, env, st => (evalE F args env st).bind fun w s1 => match w with | .tup vs => need (vs.length ≤ sizeLine) (.ok (.tup vs) s1) | _ => .stuck
  | .lst args, env, st => (evalE F args env st).bind fun w s1 => match w with | .tup vs => need (vs.length ≤ sizeLine) (.ok (.ref s1.length) (s1 ++ [.lst vs])) | _ => .stuck
  | .bin op a b, env, st => (evalE F a env st).bind fun x s1 => (evalE F b env s1).bind fun y s2 => binop op x y s2
  | .neg a, env, st => (evalE F a env st).bind fun x s1 => match x with | .int i => .ok (.int (-i)) s1 | _ => .stuck
  | .cmp op a b, env, st => (evalE F a env st).bind fun x s1 => (evalE F b env s1).bind fun y s2 => cmpop op x y s2
  | .chain op op' a b c, env, st => (evalE F a env st).bind fun x s1 => (evalE F b env s1).bind fun y s2 => (cmpop op x y s2).bind fun r s3 => match r with
    | .bool d => if d = true then (evalE F c env s3).bind fun z s4 => cmpop op' y z s4 else .ok (.bool false) s3
    | _ => .stuck
  | .and1 a, env, st => evalE F a env st
  | .and2 a r, env, st => (evalE F a env st).bind fun x s1 => match x with
    | .bool d => if d = true then evalE F r env s1 else .ok (.bool false) s1
    | _ => .stuck
  | .or1 a, env, st => evalE F a env st
  | .or2 a r, env, st => (evalE F a env st).bind fun x s1 => match x with
    | .bool d => if d = true then .ok (.bool true) s1 else evalE F r env s1
    | _ => .stuck
  | .not_ a, env, st => (evalE F a env st).bind fun x s1 => (testV x s1).bind fun b s2 => .ok (.bool (!b)) s2
  | .ifx c a b, env, st => (evalE F c env st).bind fun x s1 => (testV x s1).bind fun t s2 => if t = true then evalE F a env s2 else evalE F b env s2
  | .ix a i, env, st => (evalE F a env st).bind fun x s1 => (evalE F i env s1).bind fun y s2 => ixop x y s2
  | .slice a lo hi, env, st => (evalE F a env st).bind fun x s1 =>
    (if isNil lo = true then Res.ok none s1 else (evalE F lo env s1).bind part).bind fun l s2 =>
    (if isNil hi = true then Res.ok none s2 else (evalE F hi env s2).bind part).bind fun h s3 => sliceop x l h s3
  | .call f args, env, st => (evalE F args env st).bind fun w s1 => match w with | .tup vs => F.fn f vs s1 | _ => .stuck
  | .bi b args, env, st => (evalE F args env st).bind fun w s1 => match w with | .tup vs => bifn b vs s1 | _ => .stuck
  | .isi t a, env, st => (evalE F a env st).bind fun x s1 => match isInst t s1 x with | some b => .ok (.bool b) s1 | none => .stuck
  | .meth m o args, env, st => (evalE F o env st).bind fun x s1 => need (mtOk m x s1 = true) <| (evalE F args env s1).bind fun w s2 => match w with | .tup vs => metop m x vs s2 | _ => .stuck
  | .comp k i src cond elt, env, st => (evalE F src env st).bind fun v s1 => match srcItems k v s1 with
    | some xs => compLoop (fun x s => if isNil cond = true then (evalE F elt (env.set i (some x)) s).bind fun y s3 => .ok (some y) s3
        else (evalE F cond (env.set i (some x)) s).bind fun t s2 => (testV t s2).bind fun b s3 => if b = true then (evalE F elt (env.set i (some x)) s3).bind fun y s4 => .ok (some y) s4 else .ok none s3) (stays k v xs) s1.length xs (s1 ++ [.lst []])
    | none => .stuck
  | .kv k v r, env, st => (evalE F k env st).bind fun x s1 => (evalE F v env s1).bind fun y s2 => (evalE F r env s2).bind fun w s3 => match w with | .tup vs => .ok (.tup (x :: y :: vs)) s3 | _ => .stuck
  | .dict ps, env, st => (evalE F ps env (st ++ [.dict []])).bind fun w s1 => match w with
    | .tup vs => (match s1[st.length]?, toPairs vs with
      | some (.dict []), some kvs => need (kvs.length ≤ 15) (.ok (.ref st.length) (s1.set st.length (.dict (mergeKV [] kvs))))
      | _, _ => .stuck)
    | _ => .stuck

inductive CS where
  | skip
  | seq (s r : CS)
  | expr (e : CE)
  | ret (e : CE)
  | retN
  | pass
  | brk
  | cont
  | set (i : Nat) (e : CE)
  | tset (is : List Nat) (e : CE)
  | sub (o i e : CE)
  | if_ (c : CE) (a b : CS)
  | while_ (c : CE) (a : CS)
  | for_ (k : Src) (is : List Nat) (src : CE) (a : CS)
  | never

inductive Flow where
  | next | brk | cont | ret (v : Val)

def setAll : List Nat → List Val → Env → Option Env
  | [], [], env => some env
  | i :: is, v :: vs, env => setAll is vs (env.set i (some v))
  | _, _, _ => none
/-- a loop's target: one name, or several for a tuple -/
def bindTo : List Nat → Val → Env → Option Env
  | [i], v, env => some (env.set i (some v))
  | is, .tup vs, env => setAll is vs env
  | _, _, _ => none

def subStore (o i v : Val) (st : Store) : Res Unit :=
  match o, i with
  | .ref n, .int k => (match st[n]? with
    | some (.lst xs) => (match L2.ixN xs.length k with | some j => .ok () (st.set n (.lst (xs.set j v))) | none => .stuck)
    | _ => .stuck)
  | _, _ => .stuck

noncomputable def whileLoop (c : Env → Store → Res Bool) (b : Env → Store → Res (Flow × Env)) : Nat → Env → Store → Res (Flow × Env)
  | 0, _, _ => .stuck
  | n + 1, env, st => (c env st).bind fun t s1 => if t = true then ((b env s1).bind fun p s2 => match p.1 with
      | .next => whileLoop c b n p.2 s2
      | .cont => whileLoop c b n p.2 s2
      | .brk => .ok (.next, p.2) s2
      | .ret v => .ok (.ret v, p.2) s2) else .ok (.next, env) s1

open Classical in
noncomputable def forLoop (is : List Nat) (ok : Store → Prop) (b : Env → Store → Res (Flow × Env)) : List Val → Env → Store → Res (Flow × Env)
  | [], env, st => if ok st then .ok (.next, env) st else .stuck
  | x :: xs, env, st => if ok st then (match bindTo is x env with
    | some env1 => (b env1 st).bind fun p s2 => (match p.1 with
      | .next => forLoop is ok b xs p.2 s2
      | .cont => forLoop is ok b xs p.2 s2
      | .brk => .ok (.next, p.2) s2
      | .ret v => .ok (.ret v, p.2) s2)
    | none => .stuck) else .stuck

noncomputable def evalS (F : Fns) : CS → Env → Store → Res (Flow × Env)
  | .skip, env, st => .ok (.next, env) st
  | .seq s r, env, st => (evalS F s env st).bind fun p s1 => match p.1 with
    | .next => evalS F r p.2 s1
    | f => .ok (f, p.2) s1
  | .expr e, env, st => (evalE F e env st).bind fun _ s1 => .ok (.next, env) s1
  | .ret e, env, st => (evalE F e env st).bind fun v s1 => .ok (.ret v, env) s1
  | .retN, env, st => .ok (.ret .none, env) st
  | .pass, env, st => .ok (.next, env) st
  | .brk, env, st => .ok (.brk, env) st
  | .cont, env, st => .ok (.cont, env) st
  | .set i e, env, st => (evalE F e env st).bind fun v s1 => .ok (.next, env.set i (some v)) s1
  | .tset is e, env, st => (evalE F e env st).bind fun v s1 => match v with
    | .tup vs => (match setAll is vs env with | some env1 => .ok (.next, env1) s1 | none => .stuck)
    | _ => .stuck
  | .sub o i e, env, st => (evalE F e env st).bind fun v s1 => (evalE F o env s1).bind fun x s2 => (evalE F i env s2).bind fun y s3 => (subStore x y v s3).bind fun _ s4 => .ok (.next, env) s4
  | .if_ c a b, env, st => (evalE F c env st).bind fun x s1 => (testV x s1).bind fun t s2 => if t = true then evalS F a env s2 else evalS F b env s2
  | .while_ c a, env, st => whileLoop (fun env s => (evalE F c env s).bind fun x s1 => testV x s1) (fun env s => evalS F a env s) F.fuel env st
  | .for_ k is src a, env, st => (evalE F src env st).bind fun v s1 => match srcItems k v s1 with
    | some xs => forLoop is (stays k v xs) (fun env s => evalS F a env s) xs env s1
    | none => .stuck
  | .never, _, _ => .stuck

/-! ### functions -/
structure Def where
  params : Nat
  names : List Str
  body : CS
abbrev Tab := List (Str × Def)

noncomputable def runBody (F : Fns) (d : Def) (args : List Val) (st : Store) : Res Val :=
  if args.length = d.params then
    (evalS F d.body (args.map some ++ List.replicate (d.names.length - args.length) none) st).bind fun p s1 => match p.1 with
      | .ret v => gc st v s1
      | .next => gc st .none s1
      | _ => .stuck
  else .stuck
noncomputable def callN (T : Tab) (gl : Str → Option Val) (W : Nat) : Nat → Str → List Val → Store → Res Val
  | 0, _, _, _ => .stuck
  | n + 1, f, args, st => match T.lookup f with
    | some d => runBody ⟨callN T gl W n, gl, W⟩ d args st
    | none => .stuck
end Ev

set_option Elab.async false
set_option linter.all false
set_option maxRecDepth 100000
set_option maxHeartbeats 4000000
/-! ## How plain values and the store stand in the abstract heap -/
namespace Ev
open PySem PySem.Spec PyProof.Rows L2

mutual
inductive RV (K : PySem.W.Frag) (ρ : List Addr) (H : Hp) : Val → V → Prop
  | none : RV K ρ H .none .non
  | bool (b : Bool) : RV K ρ H (.bool b) (.bl b)
  | int (i : Int) : RV K ρ H (.int i) (.int i)
  | str (s : Str) : RV K ρ H (.str s) (.str s)
  | tup {xs : List Val} {a : Addr} {vs : List V} : SqT K H a vs → RVs K ρ H xs vs → RV K ρ H (.tup xs) (.ref a)
  | ref {n : Nat} {a : Addr} : ρ[n]? = some a → RV K ρ H (.ref n) (.ref a)
inductive RVs (K : PySem.W.Frag) (ρ : List Addr) (H : Hp) : List Val → List V → Prop
  | nil : RVs K ρ H [] []
  | cons {x : Val} {v : V} {xs : List Val} {vs : List V} : RV K ρ H x v → RVs K ρ H xs vs → RVs K ρ H (x :: xs) (v :: vs)
end

/-- tuples stay -/
def Gr (K : PySem.W.Frag) (H H' : Hp) : Prop := ∀ a vs, SqT K H a vs → SqT K H' a vs
theorem Gr.refl {K : PySem.W.Frag} {H : Hp} : Gr K H H := fun _ _ h => h
theorem Gr.trans {K : PySem.W.Frag} {H H1 H2 : Hp} (a : Gr K H H1) (b : Gr K H1 H2) : Gr K H H2 := fun x vs h => b x vs (a x vs h)
/-- more names of cells -/
def Ex (ρ ρ' : List Addr) : Prop := ∃ m, ρ' = ρ ++ m
theorem Ex.refl {ρ : List Addr} : Ex ρ ρ := ⟨[], by simp⟩
theorem Ex.trans {a b c : List Addr} (h : Ex a b) (h' : Ex b c) : Ex a c := by
  obtain ⟨m, rfl⟩ := h; obtain ⟨m', rfl⟩ := h'; exact ⟨m ++ m', by simp⟩
theorem Ex.get {ρ ρ' : List Addr} (h : Ex ρ ρ') {n : Nat} {a : Addr} (e : ρ[n]? = some a) : ρ'[n]? = some a := by
  obtain ⟨m, rfl⟩ := h
  rw [List.getElem?_append_left (List.getElem?_eq_some_iff.mp e).1]; exact e

section
variable {K : PySem.W.Frag} {ρ ρ' : List Addr} {H H' : Hp}
mutual
theorem RV.mono (hx : Ex ρ ρ') (hg : Gr K H H') : ∀ (x : Val) (v : V), RV K ρ H x v → RV K ρ' H' x v
  | .none, _, h => by cases h; exact .none
  | .bool _, _, h => by cases h; exact .bool _
  | .int _, _, h => by cases h; exact .int _
  | .str _, _, h => by cases h; exact .str _
  | .tup xs, _, h => by
    cases h with
    | tup a b => exact .tup (hg _ _ a) (RVs.mono hx hg xs _ b)
  | .ref _, _, h => by
    cases h with
    | ref a => exact .ref (hx.get a)
theorem RVs.mono (hx : Ex ρ ρ') (hg : Gr K H H') : ∀ (xs : List Val) (vs : List V), RVs K ρ H xs vs → RVs K ρ' H' xs vs
  | [], _, h => by cases h; exact .nil
  | x :: xs, _, h => by
    cases h with
    | cons a b => exact .cons (RV.mono hx hg x _ a) (RVs.mono hx hg xs _ b)
end
/-- what has no reference beyond ρ -/
theorem RV.cutTo {m : List Addr} : ∀ (x : Val) (v : V), x.lowB ρ.length = true → RV K (ρ ++ m) H x v → RV K ρ H x v := by
  intro x
  refine Val.rec (motive_1 := fun x => ∀ (v : V), x.lowB ρ.length = true → RV K (ρ ++ m) H x v → RV K ρ H x v) (motive_2 := fun xs => ∀ (vs : List V), lowL ρ.length xs = true → RVs K (ρ ++ m) H xs vs → RVs K ρ H xs vs) ?_ ?_ ?_ ?_ ?_ ?_ ?_ ?_ x
  · intro v _ h; cases h; exact .none
  · intro b v _ h; cases h; exact .bool _
  · intro b v _ h; cases h; exact .int _
  · intro b v _ h; cases h; exact .str _
  · intro xs ih v hb h
    cases h with
    | tup a b => exact .tup a (ih _ hb b)
  · intro n v hb h
    cases h with
    | ref a =>
      have : n < ρ.length := of_decide_eq_true hb
      rw [List.getElem?_append_left this] at a
      exact .ref a
  · intro vs _ h; cases h; exact .nil
  · intro x xs ih1 ih2 vs hb h
    cases h with
    | cons a b =>
      have hb : (x.lowB ρ.length && lowL ρ.length xs) = true := hb
      obtain ⟨h1, h2⟩ := Bool.and_eq_true_iff.mp hb
      exact .cons (ih1 _ h1 a) (ih2 _ h2 b)
theorem RVs.cutTo {m : List Addr} : ∀ (xs : List Val) (vs : List V), lowL ρ.length xs = true → RVs K (ρ ++ m) H xs vs → RVs K ρ H xs vs
  | [], _, _, h => by cases h; exact .nil
  | x :: xs, _, hb, h => by
    cases h with
    | cons a b =>
      have hb : (x.lowB ρ.length && lowL ρ.length xs) = true := hb
      obtain ⟨h1, h2⟩ := Bool.and_eq_true_iff.mp hb
      exact .cons (RV.cutTo _ _ h1 a) (RVs.cutTo xs _ h2 b)
/-- .. and what stands over ρ has none -/
theorem RV.low : ∀ (x : Val) (v : V), RV K ρ H x v → x.lowB ρ.length = true := by
  intro x
  refine Val.rec (motive_1 := fun x => ∀ (v : V), RV K ρ H x v → x.lowB ρ.length = true) (motive_2 := fun xs => ∀ (vs : List V), RVs K ρ H xs vs → lowL ρ.length xs = true) ?_ ?_ ?_ ?_ ?_ ?_ ?_ ?_ x
  · intro v h; rfl
  · intro b v h; rfl
  · intro b v h; rfl
  · intro b v h; rfl
  · intro xs ih v h
    cases h with
    | tup a b => exact ih _ b
  · intro n v h
    cases h with
    | ref a => exact decide_eq_true (List.getElem?_eq_some_iff.mp a).1
  · intro vs h; rfl
  · intro x xs ih1 ih2 vs h
    cases h with
    | cons a b =>
      show (x.lowB ρ.length && lowL ρ.length xs) = true
      rw [ih1 _ a, ih2 _ b]; rfl
theorem RVs.low : ∀ (xs : List Val) (vs : List V), RVs K ρ H xs vs → lowL ρ.length xs = true
  | [], _, _ => rfl
  | x :: xs, _, h => by
    cases h with
    | cons a b =>
      show (x.lowB ρ.length && lowL ρ.length xs) = true
      rw [RV.low _ _ a, RVs.low _ _ b]; rfl
theorem RVs.length : ∀ {xs : List Val} {vs : List V}, RVs K ρ H xs vs → xs.length = vs.length
  | _, _, .nil => rfl
  | _, _, .cons _ b => by rw [List.length_cons, List.length_cons, RVs.length b]
theorem RVs.get : ∀ {xs : List Val} {vs : List V} {i : Nat} {x : Val}, RVs K ρ H xs vs → xs[i]? = some x → ∃ v, vs[i]? = some v ∧ RV K ρ H x v
  | _, _, i, _, .nil, e => by simp at e
  | _, _, 0, _, .cons a _, e => by simp at e; subst e; exact ⟨_, rfl, a⟩
  | _, _, i + 1, _, .cons _ b, e => by
    obtain ⟨v, h1, h2⟩ := RVs.get (i := i) b (by simpa using e)
    exact ⟨v, by simpa using h1, h2⟩
theorem RVs.append : ∀ {xs ys : List Val} {vs us : List V}, RVs K ρ H xs vs → RVs K ρ H ys us → RVs K ρ H (xs ++ ys) (vs ++ us)
  | _, _, _, _, .nil, h => h
  | _, _, _, _, .cons a b, h => .cons a (b.append h)
theorem RVs.drop : ∀ {xs : List Val} {vs : List V} (n : Nat), RVs K ρ H xs vs → RVs K ρ H (xs.drop n) (vs.drop n)
  | _, _, 0, h => h
  | _, _, _ + 1, .nil => .nil
  | _, _, n + 1, .cons _ b => b.drop n
theorem RVs.take : ∀ {xs : List Val} {vs : List V} (n : Nat), RVs K ρ H xs vs → RVs K ρ H (xs.take n) (vs.take n)
  | _, _, 0, h => .nil
  | _, _, _ + 1, .nil => .nil
  | _, _, n + 1, .cons a b => .cons a (b.take n)
theorem RVs.set {x : Val} {v : V} (r : RV K ρ H x v) : ∀ {xs : List Val} {vs : List V} (i : Nat), RVs K ρ H xs vs → RVs K ρ H (xs.set i x) (vs.set i v)
  | _, _, _, .nil => .nil
  | _, _, 0, .cons _ t => .cons r t
  | _, _, i + 1, .cons q t => .cons q (RVs.set r i t)
theorem RVs.rep {xs : List Val} {vs : List V} (h : RVs K ρ H xs vs) : ∀ n : Nat, RVs K ρ H (List.replicate n xs).flatten (List.replicate n vs).flatten
  | 0 => .nil
  | n + 1 => by
    rw [List.replicate_succ, List.replicate_succ, List.flatten_cons, List.flatten_cons]
    exact h.append (h.rep n)
theorem RVs.ints : ∀ {xs : List Val} {vs : List V} {ns : List Int}, RVs K ρ H xs vs → allInts xs = some ns → vs = ns.map V.int
  | _, _, ns, .nil, e => by cases e; rfl
  | _, _, ns, .cons a b, e => by
    cases a with
    | int i =>
      rename_i xs vs
      have e : (allInts xs).map (i :: ·) = some ns := e
      cases q : allInts xs with
      | none => rw [q] at e; cases e
      | some ms => rw [q] at e; cases e; rw [RVs.ints b q]; rfl
    | _ => cases e
theorem RVs.bools : ∀ {xs : List Val} {vs : List V} {ns : List Bool}, RVs K ρ H xs vs → allBools xs = some ns → vs = ns.map V.bl
  | _, _, ns, .nil, e => by cases e; rfl
  | _, _, ns, .cons a b, e => by
    cases a with
    | bool i =>
      rename_i xs vs
      have e : (allBools xs).map (i :: ·) = some ns := e
      cases q : allBools xs with
      | none => rw [q] at e; cases e
      | some ms => rw [q] at e; cases e; rw [RVs.bools b q]; rfl
    | _ => cases e
theorem RVs.of_ints : ∀ (ns : List Int), RVs K ρ H (ns.map Val.int) (ns.map V.int)
  | [] => .nil
  | n :: ns => .cons (.int n) (RVs.of_ints ns)
theorem RVs.flat : ∀ {xs : List Val} {vs : List V}, RVs K ρ H xs vs → xs.all flatB = true → vs.all flatV = true
  | _, _, .nil, _ => rfl
  | _, _, .cons a b, h => by
    simp only [List.all_cons, Bool.and_eq_true] at h ⊢
    refine ⟨?_, b.flat h.2⟩
    cases a <;> first | rfl | exact absurd h.1 (by simp [flatB])
theorem RV.flat {x : Val} {v : V} (h : RV K ρ H x v) (f : flatB x = true) : flatV v = true := by
  cases h <;> first | rfl | exact absurd f (by simp [flatB])
theorem RV.flatEq {x y : Val} {v u : V} (h : RV K ρ H x v) (h' : RV K ρ H y u) (f : flatB x = true) (f' : flatB y = true) : eqV v u = Ev.flatEq x y := by
  cases h <;> first | (cases h' <;> first | rfl | cases f') | cases f
theorem RVs.inV {y : Val} {u : V} (h' : RV K ρ H y u) (f' : flatB y = true) : ∀ {xs : List Val} {vs : List V}, RVs K ρ H xs vs → xs.all flatB = true → L2.inV u vs = xs.any fun x => Ev.flatEq x y
  | _, _, .nil, _ => rfl
  | _, _, .cons a b, h => by
    simp only [List.all_cons, Bool.and_eq_true] at h
    have ih := RVs.inV h' f' b h.2
    unfold L2.inV at ih ⊢
    rw [List.any_cons, List.any_cons, ih, RV.flatEq a h' h.1 f']
theorem RVs.isEmpty {xs : List Val} {vs : List V} (h : RVs K ρ H xs vs) : xs.isEmpty = vs.isEmpty := by cases h <;> rfl
theorem RVs.cut {xs : List Val} {vs : List V} (h : RVs K ρ H xs vs) (lo hi : Option Int) : RVs K ρ H (Ev.cut xs lo hi) (cutV vs lo hi) := by
  unfold Ev.cut cutV
  rw [h.length]
  exact (h.drop _).take _
theorem RVs.at_ {xs : List Val} {vs : List V} {i : Int} {x : Val} (h : RVs K ρ H xs vs) (e : L2.atI xs i = some x) : ∃ v, L2.atI vs i = some v ∧ RV K ρ H x v := by
  unfold L2.atI at e ⊢
  rw [← h.length]
  cases q : L2.ixN xs.length i with
  | none => rw [q] at e; cases e
  | some j => rw [q] at e; exact h.get e
end

/-! ### the store -/
section
variable (K : PySem.W.Frag) (ρ : List Addr) (H : Hp)
inductive KVs : List (Sum Int Str × Val) → List (Key × V) → Prop
  | nil : KVs [] []
  | cons {k : Sum Int Str} {x : Val} {v : V} {xs : List (Sum Int Str × Val)} {vs : List (Key × V)} : RV K ρ H x v → KVs xs vs → KVs ((k, x) :: xs) ((k, v) :: vs)
/-- a list that nothing changes -/
def Fro (a : Addr) (vs : List V) : Prop := (∃ o, H a = some (.frz o (.lst vs))) ∨
  ∃ (o : Obj) (its : Array Value) (n : Nat), K.lookup a = some o ∧ o.cls = .type "list" ∧ o.dict = none ∧ o.data = .seq its n ∧ its.size ≤ sizeLine ∧ Vals vs its.toList
def RC (c : Cell) (a : Addr) : Prop :=
  match c with
  | .lst xs => ∃ vs, H a = some (.lst vs) ∧ RVs K ρ H xs vs
  | .ro xs => ∃ vs, Fro K H a vs ∧ RVs K ρ H xs vs
  | .dict kvs => ∃ ws, H a = some (.dK ws) ∧ KVs K ρ H kvs ws
  | .inst _ _ => False
def mutB : Cell → Bool
  | .ro _ => false
  | _ => true
structure RS (st : Store) : Prop where
  len : ρ.length = st.length
  sep : ∀ (n m : Nat) (c d : Cell) (a : Addr), st[n]? = some c → st[m]? = some d → mutB c = true → mutB d = true → ρ[n]? = some a → ρ[m]? = some a → n = m
  cell : ∀ (n : Nat) (c : Cell) (a : Addr), st[n]? = some c → ρ[n]? = some a → RC K ρ H c a
end
section
variable {K : PySem.W.Frag} {ρ ρ' : List Addr} {H H' : Hp} {st : Store}
theorem KVs.mono (hx : Ex ρ ρ') (hg : Gr K H H') : ∀ {xs : List (Sum Int Str × Val)} {vs : List (Key × V)}, KVs K ρ H xs vs → KVs K ρ' H' xs vs
  | _, _, .nil => .nil
  | _, _, .cons a b => .cons (RV.mono hx hg _ _ a) (b.mono hx hg)
theorem KVs.length : ∀ {xs : List (Sum Int Str × Val)} {vs : List (Key × V)}, KVs K ρ H xs vs → xs.length = vs.length
  | _, _, .nil => rfl
  | _, _, .cons _ b => by rw [List.length_cons, List.length_cons, b.length]
theorem KVs.val {k : Sum Int Str} : ∀ {xs : List (Sum Int Str × Val)} {vs : List (Key × V)}, KVs K ρ H xs vs →
    (valK xs k = none ∧ valV vs k = none) ∨ ∃ x v, valK xs k = some x ∧ valV vs k = some v ∧ RV K ρ H x v
  | _, _, .nil => .inl ⟨rfl, rfl⟩
  | _, _, .cons (k := k') (x := x) (v := v) (xs := xs) (vs := vs) a b => by
    by_cases e : k' = k
    · exact .inr ⟨x, v, by simp [valK, List.find?_cons, e], by simp [valV, List.find?_cons, e], a⟩
    · have e1 : valK ((k', x) :: xs) k = valK xs k := by simp [valK, List.find?_cons, e]
      have e2 : valV ((k', v) :: vs) k = valV vs k := by simp [valV, List.find?_cons, e]
      rw [e1, e2]
      exact b.val
theorem KVs.any {k : Sum Int Str} : ∀ {xs : List (Sum Int Str × Val)} {vs : List (Key × V)}, KVs K ρ H xs vs → (xs.any fun kv => decide (kv.1 = k)) = vs.any fun kv => decide (kv.1 = k)
  | _, _, .nil => rfl
  | _, _, .cons a b => by rw [List.any_cons, List.any_cons, b.any]
theorem KVs.mapPut {k : Sum Int Str} {x : Val} {v : V} (r : RV K ρ H x v) : ∀ {xs : List (Sum Int Str × Val)} {vs : List (Key × V)}, KVs K ρ H xs vs → KVs K ρ H (xs.map fun kv => if kv.1 = k then (kv.1, x) else kv) (vs.map fun kv => if kv.1 = k then (kv.1, v) else kv)
  | _, _, .nil => .nil
  | _, _, .cons (k := k') a b => by
    rw [List.map_cons, List.map_cons]
    by_cases e : k' = k
    · rw [if_pos (show k' = k from e), if_pos (show k' = k from e)]
      exact .cons r (b.mapPut r)
    · rw [if_neg (show ¬ k' = k from e), if_neg (show ¬ k' = k from e)]
      exact .cons a (b.mapPut r)
theorem KVs.append : ∀ {xs ys : List (Sum Int Str × Val)} {vs us : List (Key × V)}, KVs K ρ H xs vs → KVs K ρ H ys us → KVs K ρ H (xs ++ ys) (vs ++ us)
  | _, _, _, _, .nil, h => h
  | _, _, _, _, .cons a b, h => .cons a (b.append h)
theorem KVs.put {k : Sum Int Str} {x : Val} {v : V} (r : RV K ρ H x v) {xs : List (Sum Int Str × Val)} {vs : List (Key × V)} (h : KVs K ρ H xs vs) : KVs K ρ H (putKV xs k x) (putK vs k v) := by
  unfold putKV putK
  rw [h.any]
  split
  · exact h.mapPut r
  · exact h.append (.cons r .nil)
theorem KVs.merge : ∀ {more : List (Sum Int Str × Val)} {ms : List (Key × V)} {xs : List (Sum Int Str × Val)} {vs : List (Key × V)}, KVs K ρ H more ms → KVs K ρ H xs vs → KVs K ρ H (mergeKV xs more) (mergeK vs ms)
  | _, _, _, _, .nil, h => h
  | (k, x) :: more, (_, v) :: ms, xs, vs, .cons a b, h => show KVs K ρ H (mergeKV (putKV xs k x) more) (mergeK (putK vs k v) ms) from KVs.merge b (h.put a)

theorem RC.mono {c : Cell} {a : Addr} (hx : Ex ρ ρ') (hg : Gr K H H') (ha : H a = H' a ∨ mutB c = false) (hf : ∀ o vs, H a = some (.frz o (.lst vs)) → H' a = some (.frz o (.lst vs))) (h : RC K ρ H c a) : RC K ρ' H' c a := by
  cases c with
  | lst xs =>
    obtain ⟨vs, e, r⟩ := h
    rcases ha with ha | ha
    · exact ⟨vs, ha ▸ e, RVs.mono hx hg _ _ r⟩
    · cases ha
  | ro xs =>
    obtain ⟨vs, e, r⟩ := h
    refine ⟨vs, ?_, RVs.mono hx hg _ _ r⟩
    rcases e with ⟨o, e⟩ | e
    · exact .inl ⟨o, hf _ _ e⟩
    · exact .inr e
  | dict kvs =>
    obtain ⟨vs, e, r⟩ := h
    rcases ha with ha | ha
    · exact ⟨vs, ha ▸ e, r.mono hx hg⟩
    · cases ha
  | inst c fs => exact h.elim
/-- a cell's address is held -/
theorem RC.some {c : Cell} {a : Addr} (h : RC K ρ H c a) (m : mutB c = true) : H a ≠ none := by
  cases c with
  | lst xs => obtain ⟨vs, e, r⟩ := h; rw [e]; simp
  | ro xs => cases m
  | dict kvs => obtain ⟨vs, e, r⟩ := h; rw [e]; simp
  | inst c fs => exact h.elim
theorem Gr.new {p : Addr} {o : HO} (h : H p = none) : Gr K H (upd H p o) := fun a vs s => by
  rcases s with (s | ⟨x, s⟩) | s
  · exact .inl (.inl (by rw [upd_ne (ne_of_none s h)]; exact s))
  · exact .inl (.inr ⟨x, by rw [upd_ne (ne_of_none s h)]; exact s⟩)
  · exact .inr s
theorem Gr.write {p : Addr} {o u : HO} (h : H p = some u) (h1 : ∀ xs, u ≠ .tup xs) (h2 : ∀ x y, u ≠ .frz x y) : Gr K H (upd H p o) := fun a vs s => by
  rcases s with (s | ⟨x, s⟩) | s
  · exact .inl (.inl (by rw [upd_ne (fun e => by subst e; rw [h] at s; cases s; exact h1 _ rfl)]; exact s))
  · exact .inl (.inr ⟨x, by rw [upd_ne (fun e => by subst e; rw [h] at s; cases s; exact h2 _ _ rfl)]; exact s⟩)
  · exact .inr s
/-- a new tuple, or anything that is no cell -/
theorem RS.other {p : Addr} {o : HO} (r : RS K ρ H st) (h : H p = none) : RS K ρ (upd H p o) st := by
  refine ⟨r.len, r.sep, fun n c a e1 e2 => ?_⟩
  have q := r.cell n c a e1 e2
  refine q.mono Ex.refl (Gr.new h) ?_ fun ob vs e => by rw [upd_ne (ne_of_none e h)]; exact e
  cases m : mutB c with
  | false => exact .inr rfl
  | true =>
    left
    rw [upd_ne]
    intro z
    subst z
    exact q.some m h
/-- a new cell -/
theorem RS.alloc {p : Addr} {o : HO} {c : Cell} (r : RS K ρ H st) (h : H p = none) (new : RC K (ρ ++ [p]) (upd H p o) c p) : RS K (ρ ++ [p]) (upd H p o) (st ++ [c]) := by
  have r1 : RS K ρ (upd H p o) st := r.other h
  have out : ∀ (n : Nat) (d : Cell) (a : Addr), (st ++ [c])[n]? = some d → (ρ ++ [p])[n]? = some a → (st[n]? = some d ∧ ρ[n]? = some a) ∨ (n = st.length ∧ d = c ∧ a = p) := fun n d a e1 e2 => by
    by_cases hn : n < st.length
    · rw [List.getElem?_append_left hn] at e1
      rw [List.getElem?_append_left (by rw [r.len]; exact hn)] at e2
      exact .inl ⟨e1, e2⟩
    · have hn2 : n < (st ++ [c]).length := (List.getElem?_eq_some_iff.mp e1).1
      have hn3 : n = st.length := by simp at hn2; omega
      subst hn3
      rw [List.getElem?_append_right (Nat.le_refl _)] at e1
      rw [← r.len, List.getElem?_append_right (Nat.le_refl _)] at e2
      simp at e1 e2
      exact .inr ⟨rfl, e1.symm, e2.symm⟩
  refine ⟨by simp [r.len], fun n m c1 c2 a e1 e2 m1 m2 e3 e4 => ?_, fun n d a e1 e2 => ?_⟩
  · rcases out n c1 a e1 e3 with ⟨x1, x2⟩ | ⟨x1, x2, x3⟩
    · rcases out m c2 a e2 e4 with ⟨y1, y2⟩ | ⟨y1, y2, y3⟩
      · exact r.sep n m c1 c2 a x1 y1 m1 m2 x2 y2
      · subst y3; exact absurd h ((r.cell n c1 a x1 x2).some m1)
    · rcases out m c2 a e2 e4 with ⟨y1, y2⟩ | ⟨y1, y2, y3⟩
      · subst x3; exact absurd h ((r.cell m c2 a y1 y2).some m2)
      · rw [x1, y1]
  · rcases out n d a e1 e2 with ⟨x1, x2⟩ | ⟨x1, x2, x3⟩
    · exact (r1.cell n d a x1 x2).mono ⟨[p], rfl⟩ Gr.refl (.inl rfl) fun _ _ e => e
    · subst x2 x3; exact new
/-- a cell is written -/
theorem RS.write {n : Nat} {a : Addr} {c c' : Cell} {o : HO} (r : RS K ρ H st) (e1 : st[n]? = some c) (e2 : ρ[n]? = some a) (m : mutB c = true) (m' : mutB c' = true) (hg : Gr K H (upd H a o)) (new : RC K ρ (upd H a o) c' a) : RS K ρ (upd H a o) (st.set n c') := by
  have hn : n < st.length := (List.getElem?_eq_some_iff.mp e1).1
  have out : ∀ (k : Nat) (d : Cell), (st.set n c')[k]? = some d → (k = n ∧ d = c') ∨ (k ≠ n ∧ st[k]? = some d) := fun k d e => by
    by_cases hk : k = n
    · subst hk; rw [List.getElem?_set_self hn] at e; cases e; exact .inl ⟨rfl, rfl⟩
    · rw [List.getElem?_set_ne (Ne.symm hk)] at e; exact .inr ⟨hk, e⟩
  refine ⟨by rw [r.len, List.length_set], fun k j c1 c2 b x1 x2 m1 m2 y1 y2 => ?_, fun k d b x1 x2 => ?_⟩
  · rcases out k c1 x1 with ⟨z1, z2⟩ | ⟨z1, z2⟩
    · rcases out j c2 x2 with ⟨w1, w2⟩ | ⟨w1, w2⟩
      · rw [z1, w1]
      · subst z1; exact r.sep k j c c2 b e1 w2 m m2 y1 y2
    · rcases out j c2 x2 with ⟨w1, w2⟩ | ⟨w1, w2⟩
      · subst w1; exact r.sep k j c1 c b z2 e1 m1 m y1 y2
      · exact r.sep k j c1 c2 b z2 w2 m1 m2 y1 y2
  · rcases out k d x1 with ⟨z1, z2⟩ | ⟨z1, z2⟩
    · subst z1 z2; rw [e2] at x2; cases x2; exact new
    · have q := r.cell k d b z2 x2
      cases md : mutB d with
      | false =>
        refine q.mono Ex.refl hg (.inr md) fun ob vs e => ?_
        rw [upd_ne]
        · exact e
        · intro z; subst z
          have q2 := r.cell n c b e1 e2
          cases c with
          | lst xs => obtain ⟨_, e', _⟩ := q2; rw [e] at e'; cases e'
          | ro xs => cases m
          | dict xs => obtain ⟨_, e', _⟩ := q2; rw [e] at e'; cases e'
          | inst _ _ => exact q2.elim
      | true =>
        have hb : b ≠ a := fun z => by subst z; exact z1 (r.sep k n d c b z2 e1 md m x2 e2)
        exact q.mono Ex.refl hg (.inl (by rw [upd_ne hb])) fun ob vs e => by rw [upd_ne hb]; exact e
theorem RS.at_ {n : Nat} {c : Cell} {a : Addr} (r : RS K ρ H st) (e1 : st[n]? = some c) (e2 : ρ[n]? = some a) : RC K ρ H c a := r.cell n c a e1 e2
/-- a list in the store, to be read -/
theorem RS.list {n : Nat} {xs : List Val} {a : Addr} (r : RS K ρ H st) (e1 : listAt st n = some xs) (e2 : ρ[n]? = some a) : ∃ vs, SqL K H a vs ∧ RVs K ρ H xs vs := by
  unfold listAt at e1
  split at e1
  · cases e1
    obtain ⟨vs, h, q⟩ := r.cell n _ a (by assumption) e2
    exact ⟨vs, SqL.of h, q⟩
  · cases e1
    obtain ⟨vs, h, q⟩ := r.cell n _ a (by assumption) e2
    refine ⟨vs, ?_, q⟩
    rcases h with ⟨o, h⟩ | h
    · exact .inl (.inr ⟨o, h⟩)
    · exact .inr h
  · cases e1
end

/-! ### names -/
structure RE (K : PySem.W.Frag) (ρ : List Addr) (H : Hp) (env : Env) (σ : L2.St) : Prop where
  len : env.length = σ.length
  at_ : ∀ (i : Nat) (v : Val), env[i]? = some (some v) → ∃ u, σ[i]? = some (some u) ∧ RV K ρ H v u
section
variable {K : PySem.W.Frag} {ρ ρ' : List Addr} {H H' : Hp} {env : Env} {σ : L2.St}
theorem RE.mono (r : RE K ρ H env σ) (hx : Ex ρ ρ') (hg : Gr K H H') : RE K ρ' H' env σ :=
  ⟨r.len, fun i v e => let ⟨u, a, b⟩ := r.at_ i v e; ⟨u, a, RV.mono hx hg _ _ b⟩⟩
theorem RE.set {i : Nat} {v : Val} {u : V} (r : RE K ρ H env σ) (h : RV K ρ H v u) : RE K ρ H (env.set i (some v)) (σ.set i (some u)) := by
  refine ⟨by rw [List.length_set, List.length_set, r.len], fun j w e => ?_⟩
  by_cases hj : i = j
  · subst hj
    have hi : i < env.length := by
      have := (List.getElem?_eq_some_iff.mp e).1
      simpa using this
    rw [List.getElem?_set_self hi] at e
    cases e
    exact ⟨u, List.getElem?_set_self (by rw [← r.len]; exact hi), h⟩
  · rw [List.getElem?_set_ne hj] at e ⊢
    exact r.at_ j w e
theorem RE.wipe {is : List Nat} {σ' : L2.St} (r : RE K ρ H env σ) : ∀ (is : List Nat), (∀ i ∈ is, ∀ v, env[i]? ≠ some (some v)) → RE K ρ H env (L2.wipe σ is)
  | [], _ => r
  | i :: is, h => by
    have q := RE.wipe (σ' := σ') (is := is) r is fun j hj => h j (List.mem_cons_of_mem _ hj)
    refine ⟨by show env.length = ((L2.wipe σ is).set i none).length; rw [List.length_set]; exact q.len, fun j v e => ?_⟩
    obtain ⟨u, a, b⟩ := q.at_ j v e
    refine ⟨u, ?_, b⟩
    show ((L2.wipe σ is).set i none)[j]? = _
    rw [List.getElem?_set_ne (fun z => by subst z; exact h _ List.mem_cons_self v e)]
    exact a
theorem RE.start {args : List Val} {vs : List V} (N : List Str) (h : RVs K ρ H args vs) : RE K ρ H (args.map some ++ List.replicate (N.length - args.length) none) (L2.start N vs) := by
  have hl := h.length
  refine ⟨by unfold L2.start; simp [hl], fun i v e => ?_⟩
  by_cases hi : i < args.length
  · rw [List.getElem?_append_left (by simpa using hi), List.getElem?_map] at e
    cases q : args[i]? with
    | none => rw [q] at e; cases e
    | some x =>
      rw [q] at e; cases e
      obtain ⟨u, a, b⟩ := h.get q
      refine ⟨u, ?_, b⟩
      unfold L2.start
      rw [List.getElem?_append_left (by simpa [← hl] using hi), List.getElem?_map, a]; rfl
  · rw [List.getElem?_append_right (by simpa using hi), List.getElem?_replicate] at e
    split at e <;> cases e
end

/-! ### data, for == -/
section
variable {K : PySem.W.Frag} {ρ : List Addr} {H : Hp} {st : Store}
theorem toD_all {st : Store} (r : RS K ρ H st) {k : Nat} (ih : ∀ (x : Val) (v : V) (d : PyData), RV K ρ H x v → toD st k x = some d → Dp K H v d) :
    ∀ (xs : List Val) (vs : List V) (ds : List PyData), RVs K ρ H xs vs → xs.mapM (toD st k) = some ds → DpAll K H vs ds
  | [], _, ds, .nil, e => by
    have : ds = [] := by simpa using e.symm
    subst this; exact .nil
  | x :: xs, _, ds, .cons a b, e => by
    rw [List.mapM_cons] at e
    cases q : toD st k x with
    | none => rw [q] at e; cases e
    | some d =>
      rw [q] at e
      cases q2 : xs.mapM (toD st k) with
      | none => rw [q2] at e; cases e
      | some es =>
        rw [q2] at e
        cases e
        exact .cons (ih _ _ _ a q) (toD_all r ih xs _ es b q2)
theorem toD_dp (r : RS K ρ H st) : ∀ (k : Nat) (x : Val) (v : V) (d : PyData), RV K ρ H x v → toD st k x = some d → Dp K H v d := by
  intro k
  induction k with
  | zero =>
    intro x v d h e
    cases h with
    | none => cases e; exact .non
    | bool b => cases e; exact .bl b
    | int i => cases e; exact .int i
    | str s => cases e; exact .str s
    | tup a b => cases e
    | ref a => cases e
  | succ k ih =>
    intro x v d h e
    cases h with
    | none => cases e; exact .non
    | bool b => cases e; exact .bl b
    | int i => cases e; exact .int i
    | str s => cases e; exact .str s
    | @tup xs a vs hs b =>
      have e : (xs.mapM (toD st k)).map PyData.tuple = some d := e
      cases q : xs.mapM (toD st k) with
      | none => rw [q] at e; cases e
      | some ds => rw [q] at e; cases e; exact .tup hs (toD_all r ih xs vs ds b q)
    | @ref n a hn =>
      have e : ((listAt st n).bind fun xs => (xs.mapM (toD st k)).map PyData.list) = some d := e
      cases q0 : listAt st n with
      | none => rw [q0] at e; cases e
      | some xs =>
        rw [q0] at e
        have e : (xs.mapM (toD st k)).map PyData.list = some d := e
        obtain ⟨vs, hs, b⟩ := r.list q0 hn
        cases q : xs.mapM (toD st k) with
        | none => rw [q] at e; cases e
        | some ds => rw [q] at e; cases e; exact .lst hs (toD_all r ih xs vs ds b q)
end
end Ev

set_option Elab.async false
set_option linter.all false
set_option maxRecDepth 100000
set_option maxHeartbeats 4000000
/-! ## Operations: what the evaluator answers, the model answers -/
namespace Ev
open PySem PySem.Spec PyProof.Rows L2

/-! ### weakest readings -/
def WE (X : Cx) (e : Expr) : TE := fun σ H Q => ∀ (pins : List (Addr × Obj)) (s : Shared), Inv X pins σ H s → wpAny (model X.prog X.w) X.A (eval e X.env) (EP X pins σ Q) X.xe s
def WT (X : Cx) (e : Expr) : TT := fun σ H Q => ∀ (pins : List (Addr × Obj)) (s : Shared), Inv X pins σ H s → wpAny (model X.prog X.w) X.A (isTrue e X.env (eval e X.env)) (TP X pins σ Q) X.xe s
def WW (X : Cx) (e : Expr) : TT := fun σ H Q => ∀ (whole : Sem Value) (pins : List (Addr × Obj)) (s : Shared), Inv X pins σ H s → wpAny (model X.prog X.w) X.A (isTrue e X.env whole) (TP X pins σ Q) X.xe s
def WA (X : Cx) (es : List Expr) : TA := fun σ H Q => ∀ (pos : Pos) (pins : List (Addr × Obj)) (s : Shared), Inv X pins σ H s → wpAny (model X.prog X.w) X.A (spliced (backTo pos (starEach es X.env))) (AP X pins σ Q) X.xe s
def WSt (X : Cx) (st : Stmt) : TS := fun D σ H => ∀ (pins : List (Addr × Obj)) (s : Shared), Inv X pins σ H s → wpAny (model X.prog X.w) X.A (exec st X.env) (SP X pins D) X.xe s
def WSs (X : Cx) (st : List Stmt) : TS := fun D σ H => ∀ (pins : List (Addr × Obj)) (s : Shared), Inv X pins σ H s → wpAny (model X.prog X.w) X.A (execs st X.env) (SP X pins D) X.xe s
def WOp (X : Cx) (f : Value → Value → Sem Value) : R2 := fun x y H Q => ∀ (pins : List (Addr × Obj)) (s : Shared) (σ : L2.St) (v u : Value), Inv X pins σ H s → RelV x v → RelV y u → wpAny (model X.prog X.w) X.A (f v u) (EP X pins σ Q) X.xe s
def WCall (X : Cx) (f : Value) : List V → Hp → VK → Prop := fun xs H Q => ∀ (pins : List (Addr × Obj)) (s : Shared) (σ : L2.St) (us : List Value), Inv X pins σ H s → Vals xs us → wpAny (model X.prog X.w) X.A (call f us) (EP X pins σ Q) X.xe s
section
variable {X : Cx} {e : Expr} {σ : L2.St} {H : Hp}
theorem WE.pe : PE X e (WE X e) := ⟨fun pins s _ _ _ I h => h pins s I⟩
theorem WT.pt : PT X e (WT X e) := ⟨fun pins s _ _ _ I h => h pins s I⟩
theorem WW.pw : PW X e (WW X e) := ⟨fun wh pins s _ _ _ I h => h wh pins s I⟩
theorem WA.pa {es : List Expr} : PA X es (WA X es) := ⟨fun pos pins s _ _ _ I h => h pos pins s I⟩
theorem WSt.ps {st : Stmt} : PS X st (WSt X st) := ⟨fun pins s _ _ _ I h => h pins s I⟩
theorem WSs.pss {st : List Stmt} : PSs X st (WSs X st) := ⟨fun pins s _ _ _ I h => h pins s I⟩
theorem WOp.r {f : Value → Value → Sem Value} : OpR X f (WOp X f) := fun pins s σ _ _ _ v u _ I rx ry h => h pins s σ v u I rx ry
theorem WCall.r {f : Value} : CallR X f (WCall X f) := fun pins s σ _ _ us _ I r h => h pins s σ us I r
theorem of_pe {t : TE} {Q : VK} (h : PE X e t) (q : t σ H Q) : WE X e σ H Q := fun pins s I => h.run pins s σ H Q I q
theorem of_pt {t : TT} {Q : Bool → Hp → Prop} (h : PT X e t) (q : t σ H Q) : WT X e σ H Q := fun pins s I => h.run pins s σ H Q I q
theorem of_pw {t : TT} {Q : Bool → Hp → Prop} (h : PW X e t) (q : t σ H Q) : WW X e σ H Q := fun wh pins s I => h.run wh pins s σ H Q I q
theorem of_pa {es : List Expr} {t : TA} {Q : List V → Hp → Prop} (h : PA X es t) (q : t σ H Q) : WA X es σ H Q := fun pos pins s I => h.run pos pins s σ H Q I q
theorem of_ps {st : Stmt} {t : TS} {D : Ends} (h : PS X st t) (q : t D σ H) : WSt X st D σ H := fun pins s I => h.run pins s σ H D I q
theorem of_pss {st : List Stmt} {t : TS} {D : Ends} (h : PSs X st t) (q : t D σ H) : WSs X st D σ H := fun pins s I => h.run pins s σ H D I q
theorem of_op {f : Value → Value → Sem Value} {r : R2} {x y : V} {Q : VK} (h : OpR X f r) (q : r x y H Q) : WOp X f x y H Q := fun pins s σ v u I rx ry => h pins s σ H x y v u Q I rx ry q
theorem of_call {f : Value} {r : List V → Hp → VK → Prop} {xs : List V} {Q : VK} (h : CallR X f r) (q : r xs H Q) : WCall X f xs H Q := fun pins s σ us I r' => h pins s σ H xs us Q I r' q
end

/-! ### what is wanted of a result -/
def PostV (K : PySem.W.Frag) (ρ : List Addr) (H : Hp) (r : Res Val) (Q : VK) : Prop :=
  match r with
  | .ok v st => ∀ (V : V) (H' : Hp) (ρ' : List Addr), Ex ρ ρ' → Gr K H H' → RS K ρ' H' st → RV K ρ' H' v V → Q V H'
  | _ => False
def PostB (K : PySem.W.Frag) (ρ : List Addr) (H : Hp) (r : Res Bool) (Q : Bool → Hp → Prop) : Prop :=
  match r with
  | .ok b st => ∀ (H' : Hp) (ρ' : List Addr), Ex ρ ρ' → Gr K H H' → RS K ρ' H' st → Q b H'
  | _ => False
def PostL (K : PySem.W.Frag) (ρ : List Addr) (H : Hp) (r : Res Val) (Q : List V → Hp → Prop) : Prop :=
  match r with
  | .ok (.tup xs) st => ∀ (vs : List V) (H' : Hp) (ρ' : List Addr), Ex ρ ρ' → Gr K H H' → RS K ρ' H' st → RVs K ρ' H' xs vs → Q vs H'
  | _ => False
def PostF (K : PySem.W.Frag) (ρ : List Addr) (H : Hp) (r : Res (Flow × Env)) (D : Ends) : Prop :=
  match r with
  | .ok (f, env) st => ∀ (σ' : L2.St) (H' : Hp) (ρ' : List Addr), Ex ρ ρ' → Gr K H H' → RS K ρ' H' st → RE K ρ' H' env σ' → (match f with
    | .next => D.nx σ' H'
    | .brk => D.bk σ' H'
    | .cont => D.ct σ' H'
    | .ret v => ∀ V, RV K ρ' H' v V → D.rt V H')
  | _ => False
section
variable {K : PySem.W.Frag} {ρ ρ' : List Addr} {H H' : Hp}
theorem PostV.mono {r : Res Val} {Q : VK} (h : PostV K ρ H r Q) (hx : Ex ρ ρ') (hg : Gr K H H') : PostV K ρ' H' r Q := by
  cases r with
  | ok v st => exact fun V H2 ρ2 a b c d => h V H2 ρ2 (hx.trans a) (hg.trans b) c d
  | exc _ _ _ => exact h
  | stuck => exact h
theorem PostB.mono {r : Res Bool} {Q : Bool → Hp → Prop} (h : PostB K ρ H r Q) (hx : Ex ρ ρ') (hg : Gr K H H') : PostB K ρ' H' r Q := by
  cases r with
  | ok v st => exact fun H2 ρ2 a b c => h H2 ρ2 (hx.trans a) (hg.trans b) c
  | exc _ _ _ => exact h
  | stuck => exact h
theorem PostL.mono {r : Res Val} {Q : List V → Hp → Prop} (h : PostL K ρ H r Q) (hx : Ex ρ ρ') (hg : Gr K H H') : PostL K ρ' H' r Q := by
  cases r with
  | ok v st =>
    cases v with
    | tup xs => exact fun V H2 ρ2 a b c d => h V H2 ρ2 (hx.trans a) (hg.trans b) c d
    | _ => exact h
  | exc _ _ _ => exact h
  | stuck => exact h
theorem PostF.mono {r : Res (Flow × Env)} {D : Ends} (h : PostF K ρ H r D) (hx : Ex ρ ρ') (hg : Gr K H H') : PostF K ρ' H' r D := by
  cases r with
  | ok p st => exact fun σ2 H2 ρ2 a b c d => h σ2 H2 ρ2 (hx.trans a) (hg.trans b) c d
  | exc _ _ _ => exact h
  | stuck => exact h
theorem PostV.bnd {α : Type} {r : Res α} {f : α → Store → Res Val} {Q : VK} (h : PostV K ρ H (r.bind f) Q) : ∃ a s1, r = .ok a s1 ∧ PostV K ρ H (f a s1) Q := by
  cases r with
  | ok a s1 => exact ⟨a, s1, rfl, h⟩
  | exc _ _ _ => exact h.elim
  | stuck => exact h.elim
theorem PostB.bnd {α : Type} {r : Res α} {f : α → Store → Res Bool} {Q : Bool → Hp → Prop} (h : PostB K ρ H (r.bind f) Q) : ∃ a s1, r = .ok a s1 ∧ PostB K ρ H (f a s1) Q := by
  cases r with
  | ok a s1 => exact ⟨a, s1, rfl, h⟩
  | exc _ _ _ => exact h.elim
  | stuck => exact h.elim
theorem PostL.bnd {α : Type} {r : Res α} {f : α → Store → Res Val} {Q : List V → Hp → Prop} (h : PostL K ρ H (r.bind f) Q) : ∃ a s1, r = .ok a s1 ∧ PostL K ρ H (f a s1) Q := by
  cases r with
  | ok a s1 => exact ⟨a, s1, rfl, h⟩
  | exc _ _ _ => exact h.elim
  | stuck => exact h.elim
theorem PostF.bnd {α : Type} {r : Res α} {f : α → Store → Res (Flow × Env)} {D : Ends} (h : PostF K ρ H (r.bind f) D) : ∃ a s1, r = .ok a s1 ∧ PostF K ρ H (f a s1) D := by
  cases r with
  | ok a s1 => exact ⟨a, s1, rfl, h⟩
  | exc _ _ _ => exact h.elim
  | stuck => exact h.elim
theorem PostV.need {p : Prop} [Decidable p] {r : Res Val} {Q : VK} (h : PostV K ρ H (Ev.need p r) Q) : p ∧ PostV K ρ H r Q := by
  unfold Ev.need at h
  split at h
  · exact ⟨‹_›, h⟩
  · exact h.elim
/-- the value as it is, the store as it is -/
theorem PostV.here {v : Val} {st : Store} {Q : VK} {u : V} (h : PostV K ρ H (.ok v st) Q) (r : RS K ρ H st) (q : RV K ρ H v u) : Q u H := h u H ρ Ex.refl Gr.refl r q
/-- a new list -/
theorem PostV.newL {xs : List Val} {vs : List V} {st : Store} {Q : VK} {p : Addr} (h : PostV K ρ H (.ok (.ref st.length) (st ++ [.lst xs])) Q) (r : RS K ρ H st) (q : RVs K ρ H xs vs) (hp : H p = none) : Q (.ref p) (upd H p (.lst vs)) := by
  have hg : Gr K H (upd H p (.lst vs)) := Gr.new hp
  refine h _ _ (ρ ++ [p]) ⟨[p], rfl⟩ hg (r.alloc hp ⟨vs, upd_same, RVs.mono ⟨[p], rfl⟩ hg _ _ q⟩) (.ref ?_)
  rw [← r.len, List.getElem?_append_right (Nat.le_refl _)]; simp
/-- a new tuple -/
theorem PostV.newT {xs : List Val} {vs : List V} {st : Store} {Q : VK} {p : Addr} (h : PostV K ρ H (.ok (.tup xs) st) Q) (r : RS K ρ H st) (q : RVs K ρ H xs vs) (hp : H p = none) : Q (.ref p) (upd H p (.tup vs)) := by
  have hg : Gr K H (upd H p (.tup vs)) := Gr.new hp
  exact h _ _ ρ Ex.refl hg (r.other hp) (.tup (SqT.of upd_same) (RVs.mono Ex.refl hg _ _ q))
end

/-! ### operators -/
def opOf : Bop → Operator
  | .add => .Add | .sub => .Sub | .mul => .Mult | .fdiv => .FloorDiv | .mod => .Mod | .pow => .Pow
def cmpOf : Cop → CmpOp
  | .eq => .Eq | .ne => .NotEq | .lt => .Lt | .le => .LtE | .gt => .Gt | .ge => .GtE | .isin => .In | .notin => .NotIn | .is_ => .Is | .isnot => .IsNot
section
variable {X : Cx} {ρ : List Addr} {H : Hp} {st : Store} {Q : VK}
theorem bin_ok {op : Bop} {x y : Val} {v u : V} (rs : RS X.K ρ H st) (rx : RV X.K ρ H x v) (ry : RV X.K ρ H y u) (h : PostV X.K ρ H (binop op x y st) Q) : WOp X (binaryOp (opOf op)) v u H Q := by
  cases op with
  | add =>
    cases rx with
    | int i =>
      cases ry with
      | int j => exact of_op op_add ⟨i, j, rfl, rfl, h.here rs (.int _)⟩
      | _ => exact h.elim
    | str a =>
      cases ry with
      | str b =>
        obtain ⟨hl, h⟩ := PostV.need h
        exact of_op op_add_str ⟨a, b, rfl, rfl, hl, h.here rs (.str _)⟩
      | _ => exact h.elim
    | @tup xs a vs hs hv =>
      cases ry with
      | @tup ys b us hs' hu =>
        obtain ⟨hl, h⟩ := PostV.need h
        have hl' : vs.length + us.length ≤ sizeLine := by rw [← hv.length, ← hu.length]; exact hl
        by_cases hx : vs = []
        · subst hx
          cases hv
          exact of_op op_catA ⟨a, b, _, _, rfl, rfl, hs, hs', hl', fun _ => h.here rs (.tup hs' hu), fun z => absurd rfl z, fun z => absurd rfl z⟩
        · refine of_op op_catT ⟨a, b, _, _, rfl, rfl, hs, hs', hx, hl', fun z => ?_, fun _ p hp => h.newT rs (hv.append hu) hp⟩
          subst z
          cases hu
          rw [List.append_nil] at h
          exact h.here rs (.tup hs hv)
      | _ => exact h.elim
    | @ref n a hn =>
      cases ry with
      | @ref m b hm =>
        have h : PostV X.K ρ H (match st[n]?, st[m]? with
          | some (.lst xs), some (.lst ys) => need (xs.length + ys.length ≤ sizeLine) (.ok (.ref st.length) (st ++ [.lst (xs ++ ys)]))
          | _, _ => .stuck) Q := h
        split at h
        · rename_i xs ys e1 e2
          obtain ⟨hl, h⟩ := PostV.need h
          obtain ⟨vs, h1, q1⟩ := rs.at_ e1 hn
          obtain ⟨us, h2, q2⟩ := rs.at_ e2 hm
          exact of_op op_cat ⟨a, b, vs, us, rfl, rfl, h1, h2, by rw [← q1.length, ← q2.length]; exact hl, fun p hp => h.newL rs (q1.append q2) hp⟩
        · exact h.elim
      | _ => exact h.elim
    | _ => exact h.elim
  | sub =>
    cases rx with
    | int i =>
      cases ry with
      | int j => exact of_op op_sub ⟨i, j, rfl, rfl, h.here rs (.int _)⟩
      | _ => exact h.elim
    | _ => exact h.elim
  | mul =>
    cases rx with
    | int i =>
      cases ry with
      | int j =>
        obtain ⟨hl, h⟩ := PostV.need h
        exact of_op op_mul ⟨i, j, rfl, rfl, hl, h.here rs (.int _)⟩
      | _ => exact h.elim
    | @tup xs a vs hs hv =>
      cases ry with
      | int k =>
        obtain ⟨⟨h1, h2, h3, h4⟩, h⟩ := PostV.need h
        refine of_op op_repT ⟨a, k, vs, rfl, rfl, hs, fun z => ?_, h2, h3, by rw [← hv.length]; exact h4, fun p hp => h.newT rs (hv.rep _) hp⟩
        subst z; cases hv; exact h1 rfl
      | _ => exact h.elim
    | @ref n a hn =>
      cases ry with
      | int k =>
        have h : PostV X.K ρ H (match st[n]? with
          | some (.lst xs) => need (-(2 ^ 63) ≤ k ∧ k < 2 ^ 63 ∧ xs.length * k.toNat ≤ sizeLine) (.ok (.ref st.length) (st ++ [.lst (List.replicate k.toNat xs).flatten]))
          | _ => .stuck) Q := h
        split at h
        · rename_i xs e1
          obtain ⟨⟨h1, h2, h3⟩, h⟩ := PostV.need h
          obtain ⟨vs, h4, q1⟩ := rs.at_ e1 hn
          exact of_op op_rep ⟨a, k, vs, rfl, rfl, h4, h1, h2, by rw [← q1.length]; exact h3, fun p hp => h.newL rs (q1.rep _) hp⟩
        · exact h.elim
      | _ => exact h.elim
    | _ => exact h.elim
  | fdiv =>
    cases rx with
    | int i =>
      cases ry with
      | int j =>
        obtain ⟨hl, h⟩ := PostV.need h
        exact of_op op_fdiv ⟨i, j, rfl, rfl, hl, h.here rs (.int _)⟩
      | _ => exact h.elim
    | _ => exact h.elim
  | mod =>
    cases rx with
    | int i =>
      cases ry with
      | int j =>
        obtain ⟨hl, h⟩ := PostV.need h
        exact of_op op_mod ⟨i, j, rfl, rfl, hl, h.here rs (.int _)⟩
      | _ => exact h.elim
    | _ => exact h.elim
  | pow =>
    cases rx with
    | int i =>
      cases ry with
      | int j =>
        obtain ⟨hl, h⟩ := PostV.need h
        exact of_op op_pow ⟨i, j, rfl, rfl, hl, h.here rs (.int _)⟩
      | _ => exact h.elim
    | _ => exact h.elim
theorem scalB_ok {x y : Val} {v u : V} {b : Bool} (rx : RV X.K ρ H x v) (ry : RV X.K ρ H y u) (h : scalB x y = some b) : scal v u = true ∧ decide (v = u) = b := by
  cases rx <;> cases ry <;> first | (cases h; done) | (cases h; refine ⟨rfl, ?_⟩; first | rfl | exact decide_eq_false (fun z => nomatch z) | simp)
theorem eqM_ok {neg : Bool} {x y : Val} {v u : V} (hu : X.A.units + 64 < cLine) (rs : RS X.K ρ H st) (rx : RV X.K ρ H x v) (ry : RV X.K ρ H y u) (h : PostV X.K ρ H (optB (eqM st x y) neg st) Q) :
    WOp X (compareOp (if neg then .NotEq else .Eq)) v u H Q := by
  cases e : eqM st x y with
  | none => rw [e] at h; exact h.elim
  | some b =>
    rw [e] at h
    have q : Q (.bl (if neg then !b else b)) H := PostV.here (st := st) h rs (.bool _)
    unfold eqM at e
    cases e1 : scalB x y with
    | some r =>
      rw [e1] at e
      cases e
      obtain ⟨s1, s2⟩ := scalB_ok rx ry e1
      cases neg with
      | false => exact of_op op_eq ⟨s1, by rw [s2]; exact q⟩
      | true => exact of_op op_ne ⟨s1, by rw [s2]; exact q⟩
    | none =>
      rw [e1] at e
      simp only at e
      split at e
      · rename_i d d' e2 e3
        split at e
        · rename_i hs
          cases e
          have q1 := toD_dp rs _ _ _ _ rx e2
          have q2 := toD_dp rs _ _ _ _ ry e3
          cases neg with
          | false => exact of_op (op_eqD hu) ⟨d, d', q1, q2, hs.1, hs.2, q⟩
          | true => exact of_op (op_neD hu) ⟨d, d', q1, q2, hs.1, hs.2, q⟩
        · cases e
      · cases e
theorem inM_ok {neg : Bool} {x y : Val} {v u : V} (rs : RS X.K ρ H st) (rx : RV X.K ρ H x v) (ry : RV X.K ρ H y u) (h : PostV X.K ρ H (optB (inM st x y) neg st) Q) :
    WOp X (compareOp (if neg then .NotIn else .In)) v u H Q := by
  cases e : inM st x y with
  | none => rw [e] at h; exact h.elim
  | some b =>
    rw [e] at h
    have q : Q (.bl (if neg then !b else b)) H := PostV.here (st := st) h rs (.bool _)
    unfold inM at e
    cases e1 : seqItems st y with
    | none => rw [e1] at e; cases e
    | some xs =>
      rw [e1] at e
      have e : (if flatB x = true ∧ xs.all flatB = true then some (xs.any fun y => flatEq y x) else none) = some b := e
      split at e
      · rename_i hf
        cases e
        obtain ⟨p, vs, rfl, hs, hv⟩ : ∃ p vs, u = .ref p ∧ (SqL X.K H p vs ∨ SqT X.K H p vs) ∧ RVs X.K ρ H xs vs := by
          cases ry with
          | tup a b => cases e1; exact ⟨_, _, rfl, .inr a, b⟩
          | ref hn =>
            obtain ⟨vs, h1, h2⟩ := rs.list e1 hn
            exact ⟨_, _, rfl, .inl h1, h2⟩
          | _ => cases e1
        have i1 := RVs.inV rx hf.1 hv hf.2
        cases neg with
        | false => exact of_op op_in_seq ⟨p, vs, rfl, hs, rx.flat hf.1, hv.flat hf.2, by rw [i1]; exact q⟩
        | true => exact of_op op_notIn_seq ⟨p, vs, rfl, hs, rx.flat hf.1, hv.flat hf.2, by rw [i1]; exact q⟩
      · cases e
theorem cmp_ok {op : Cop} {x y : Val} {v u : V} (hu : X.A.units + 64 < cLine) (rs : RS X.K ρ H st) (rx : RV X.K ρ H x v) (ry : RV X.K ρ H y u) (h : PostV X.K ρ H (cmpop op x y st) Q) : WOp X (compareOp (cmpOf op)) v u H Q := by
  cases op with
  | eq => exact eqM_ok (neg := false) hu rs rx ry h
  | ne => exact eqM_ok (neg := true) hu rs rx ry h
  | isin => exact inM_ok (neg := false) rs rx ry h
  | notin => exact inM_ok (neg := true) rs rx ry h
  | lt =>
    cases rx with
    | int i =>
      cases ry with
      | int j => exact of_op op_lt ⟨i, j, rfl, rfl, h.here rs (.bool _)⟩
      | _ => exact h.elim
    | _ => exact h.elim
  | le =>
    cases rx with
    | int i =>
      cases ry with
      | int j => exact of_op op_le ⟨i, j, rfl, rfl, h.here rs (.bool _)⟩
      | _ => exact h.elim
    | _ => exact h.elim
  | gt =>
    cases rx with
    | int i =>
      cases ry with
      | int j => exact of_op op_gt ⟨i, j, rfl, rfl, h.here rs (.bool _)⟩
      | _ => exact h.elim
    | _ => exact h.elim
  | ge =>
    cases rx with
    | int i =>
      cases ry with
      | int j => exact of_op op_ge ⟨i, j, rfl, rfl, h.here rs (.bool _)⟩
      | _ => exact h.elim
    | _ => exact h.elim
  | is_ =>
    cases ry with
    | none =>
      refine of_op op_isN ⟨rfl, ?_⟩
      cases rx <;> exact PostV.here (st := st) h rs (.bool _)
    | _ => exact h.elim
  | isnot =>
    cases ry with
    | none =>
      refine of_op op_notN ⟨rfl, ?_⟩
      cases rx <;> exact PostV.here (st := st) h rs (.bool _)
    | _ => exact h.elim
/-- a value's truth -/
theorem truth_ok {x : Val} {v : V} {b : Bool} (rs : RS X.K ρ H st) (rx : RV X.K ρ H x v) (h : truth st x = some b) : TruV X.K v H b := by
  cases rx with
  | none => cases h; rfl
  | bool c => cases h; rfl
  | int i => cases h; rfl
  | str s =>
    have h : (if s.length ≤ sizeLine then some ((s.length : Int) != 0) else none) = some b := h
    split at h
    · cases h; exact ⟨by assumption, rfl⟩
    · cases h
  | tup a c => cases h; exact .inr (.inl ⟨_, a, by rw [c.isEmpty]⟩)
  | @ref n a hn =>
    have h : (listAt st n).map (fun xs => !xs.isEmpty) = some b := h
    cases e : listAt st n with
    | none => rw [e] at h; cases h
    | some xs =>
      rw [e] at h
      cases h
      obtain ⟨vs, h1, h2⟩ := rs.list e hn
      exact .inl ⟨vs, h1, congrArg not h2.isEmpty⟩
end
end Ev

set_option Elab.async false
set_option linter.all false
set_option maxRecDepth 100000
set_option maxHeartbeats 4000000
/-! ## Subscripts, built-in functions, methods -/
namespace Ev
open PySem PySem.Spec PyProof.Rows L2

def WIx (X : Cx) : R2 := fun x y H Q => ∀ (value slice : Expr) (pins : List (Addr × Obj)) (s : Shared) (σ : L2.St) (v u : Value), Inv X pins σ H s → RelV x v → RelV y u →
    subscripted slice false v u = operate [v, u] (getItem v u) → wpAny (model X.prog X.w) X.A (subscriptTail value slice v u) (EP X pins σ Q) X.xe s
theorem WIx.r {X : Cx} : IxR X (WIx X) := fun value slice pins s σ _ _ _ v u _ I rx ry h hs => h value slice pins s σ v u I rx ry hs
theorem of_ix {X : Cx} {r : R2} {x y : V} {H : Hp} {Q : VK} (h : IxR X r) (q : r x y H Q) : WIx X x y H Q := fun value slice pins s σ v u I rx ry hs => h value slice pins s σ H x y v u Q I rx ry q hs
def WSl (X : Cx) : V → Option Int → Option Int → Hp → VK → Prop := fun x lo hi H Q => ∀ (pins : List (Addr × Obj)) (s : Shared) (σ : L2.St) (v vl vu : Value) (sl : Addr), Inv X pins σ H s → RelV x v → s.heap.IsSliceOf sl vl vu .none → IsPart vl lo → IsPart vu hi →
    ∃ T id, typeLookup (.type T) "__getitem__" = pure (some (.builtin id)) ∧ s.TypeIs v T ∧ wpAny (model X.prog X.w) X.A (getItem v (.ref sl)) (EP X pins σ Q) X.xe s
theorem WSl.r {X : Cx} : SlR X (WSl X) := fun pins s σ _ _ v vl vu _ _ sl _ I rx hs pl pu h => h pins s σ v vl vu sl I rx hs pl pu
theorem of_sl {X : Cx} {r : V → Option Int → Option Int → Hp → VK → Prop} {x : V} {lo hi : Option Int} {H : Hp} {Q : VK} (h : SlR X r) (q : r x lo hi H Q) : WSl X x lo hi H Q := fun pins s σ v vl vu sl I rx hs pl pu => h pins s σ H x v vl vu lo hi sl Q I rx hs pl pu q
def WMt (X : Cx) (id : String) : V → List V → Hp → VK → Prop := fun x xs H Q => ∀ (pins : List (Addr × Obj)) (s : Shared) (σ : L2.St) (v : Value) (us : List Value), Inv X pins σ H s → RelV x v → Vals xs us → wpAny (model X.prog X.w) X.A (call (.builtin id) (v :: us)) (EP X pins σ Q) X.xe s
theorem WMt.r {X : Cx} {id : String} : MtR X id (WMt X id) := fun pins s σ _ _ _ v us _ I rx rs h => h pins s σ v us I rx rs
theorem of_mt {X : Cx} {id : String} {r : V → List V → Hp → VK → Prop} {x : V} {xs : List V} {H : Hp} {Q : VK} (h : MtR X id r) (q : r x xs H Q) : WMt X id x xs H Q := fun pins s σ v us I rx rs => h pins s σ H x xs v us Q I rx rs q

section
variable {X : Cx} {ρ : List Addr} {H : Hp} {st : Store} {Q : VK}
/-- d[k] -/
theorem ix_dict (hu : X.A.units + 1 < cLine) : IxR X (fun x y H Q => ∃ a v, x = .ref a ∧ DGet H a y (some v) ∧ Q v H) := by
  intro value slice pins s σ H x y v u Q I rx ry h hs
  obtain ⟨a, w, rfl, g, q⟩ := h
  obtain rfl : v = Value.ref a := rx
  exact tail_any (dict_typeIs I g) PySem.F.slot_dict_getitem.lookup (d_getItem hu I g ry fun w' s3 I3 rw' => ⟨w, H, I3, rw', q⟩) hs
theorem keyOf_ok {x : Val} {v : V} {k : Sum Int Str} (rx : RV X.K ρ H x v) (h : keyOf x = some k) : v = kV k := by
  cases rx <;> first | (cases h; done) | (cases h; rfl)
theorem ix_ok {x y : Val} {v u : V} (hu : X.A.units + 64 < cLine) (rs : RS X.K ρ H st) (rx : RV X.K ρ H x v) (ry : RV X.K ρ H y u) (h : PostV X.K ρ H (ixop x y st) Q) : WIx X v u H Q := by
  cases rx with
  | @tup xs a vs hs hv =>
    cases ry with
    | int k =>
      replace h : PostV X.K ρ H (match L2.atI xs k with | some v => .ok v st | none => .stuck) Q := h
      cases e : L2.atI xs k with
      | none => rw [e] at h; exact h.elim
      | some z =>
        rw [e] at h
        obtain ⟨w, h1, h2⟩ := hv.at_ e
        exact of_ix ix_tup ⟨a, vs, k, w, rfl, rfl, hs, h1, h.here rs h2⟩
    | _ => exact h.elim
  | str s =>
    cases ry with
    | int k =>
      replace h : PostV X.K ρ H (match L2.atI s.cps.toList k with | some c => need (s.length ≤ sizeLine) (.ok (.str ⟨#[c]⟩) st) | none => .stuck) Q := h
      cases e : L2.atI s.cps.toList k with
      | none => rw [e] at h; exact h.elim
      | some c =>
        rw [e] at h
        obtain ⟨hl, h⟩ := PostV.need h
        exact of_ix ix_str ⟨s, k, c, rfl, rfl, hl, e, h.here rs (.str _)⟩
    | _ => exact h.elim
  | @ref n a hn =>
    replace h : PostV X.K ρ H (match (st[n]?).bind fun c => ixCell c y with | some v => .ok v st | none => .stuck) Q := h
    cases e1 : st[n]? with
    | none => rw [e1] at h; exact h.elim
    | some c =>
      rw [e1] at h
      replace h : PostV X.K ρ H (match ixCell c y with | some v => .ok v st | none => .stuck) Q := h
      cases e : ixCell c y with
      | none => rw [e] at h; exact h.elim
      | some z =>
        rw [e] at h
        cases c with
        | lst xs =>
          cases ry with
          | int k =>
            obtain ⟨vs, h1, hv⟩ := rs.at_ e1 hn
            obtain ⟨w, h2, h3⟩ := hv.at_ e
            exact of_ix ix_list ⟨a, vs, k, w, rfl, rfl, SqL.of h1, h2, h.here rs h3⟩
          | _ => cases e
        | ro xs =>
          cases ry with
          | int k =>
            obtain ⟨vs, h1, hv⟩ := rs.list (st := st) (n := n) (xs := xs) (by unfold listAt; rw [e1]) hn
            obtain ⟨w, h2, h3⟩ := hv.at_ e
            exact of_ix ix_list ⟨a, vs, k, w, rfl, rfl, h1, h2, h.here rs h3⟩
          | _ => cases e
        | dict kvs =>
          have e : (keyOf y).bind (valK kvs) = some z := e
          cases ek : keyOf y with
          | none => rw [ek] at e; cases e
          | some kk =>
            rw [ek] at e
            have e : valK kvs kk = some z := e
            obtain ⟨ws, h1, hv⟩ := rs.at_ e1 hn
            rcases hv.val (k := kk) with ⟨z1, _⟩ | ⟨x', w, z1, z2, z3⟩
            · rw [z1] at e; cases e
            · rw [z1] at e; cases e
              have := keyOf_ok ry ek
              subst this
              exact of_ix (ix_dict (by omega)) ⟨a, w, rfl, by rw [← z2]; exact DGet.k h1, h.here rs z3⟩
        | inst _ _ => cases e
  | _ => exact h.elim
theorem sl_ok {x : Val} {v : V} {lo hi : Option Int} (rs : RS X.K ρ H st) (rx : RV X.K ρ H x v)
    (h : PostV X.K ρ H (sliceop x lo hi st) Q) : WSl X v lo hi H Q := by
  cases rx with
  | @tup xs a vs hs hv =>
    refine of_sl sl_tupA ⟨a, vs, rfl, hs, fun z => ?_, fun z p hp => PostV.newT (st := st) h rs (hv.cut lo hi) hp⟩
    have e : cut xs lo hi = xs := by
      unfold cut
      rw [hv.length, z.1, z.2, List.drop_zero, Nat.sub_zero, ← hv.length, List.take_length]
    replace h : PostV X.K ρ H (.ok (.tup (cut xs lo hi)) st) Q := h
    rw [e] at h
    exact h.here rs (.tup hs hv)
  | @ref n a hn =>
    replace h : PostV X.K ρ H (match listAt st n with
      | some xs => .ok (.ref st.length) (st ++ [.lst (cut xs lo hi)])
      | none => .stuck) Q := h
    cases e : listAt st n with
    | none => rw [e] at h; exact h.elim
    | some xs =>
      rw [e] at h
      obtain ⟨vs, h1, hv⟩ := rs.list e hn
      exact of_sl sl_list ⟨a, vs, rfl, h1, fun p hp => h.newL rs (hv.cut lo hi) hp⟩
  | _ => exact h.elim

/-! ### built-in functions -/
def biName : Bi → Str
  | .len => "len" | .abs => "abs" | .max => "max" | .min => "min" | .sum => "sum" | .all => "all" | .int => "int" | .str => "str" | .list => "list" | .tuple => "tuple"
def biVal : Bi → Value
  | .len => .builtin "len" | .abs => .builtin "abs" | .max => .builtin "max" | .min => .builtin "min" | .sum => .builtin "sum" | .all => .builtin "all" | .int => .type "int" | .str => .type "str" | .list => .type "list" | .tuple => .type "tuple"
theorem maxI_ok : ∀ {ns : List Int} {m k : Int}, maxI ns = some m → k ∈ ns → (∀ y ∈ ns, y ≤ k) → k = m := by
  intro ns m k h hk hl
  cases ns with
  | nil => cases h
  | cons x xs =>
    cases h
    have key : ∀ (xs : List Int) (a : Int), (∀ y ∈ a :: xs, y ≤ xs.foldl (fun a b => if b > a then b else a) a) ∧ xs.foldl (fun a b => if b > a then b else a) a ∈ a :: xs := by
      intro xs
      induction xs with
      | nil => intro a; simp
      | cons z zs ih =>
        intro a
        rw [List.foldl_cons]
        obtain ⟨i1, i2⟩ := ih (if z > a then z else a)
        refine ⟨fun y hy => ?_, ?_⟩
        · have i0 := i1 _ List.mem_cons_self
          have i3 : (if z > a then z else a) ≥ a ∧ (if z > a then z else a) ≥ z := by split <;> omega
          simp only [List.mem_cons] at hy
          rcases hy with e | e | e
          · subst e; omega
          · subst e; omega
          · exact i1 y (List.mem_cons_of_mem _ e)
        · simp only [List.mem_cons] at i2 ⊢
          rcases i2 with e | e
          · rw [e]; split
            · exact .inr (.inl rfl)
            · exact .inl rfl
          · exact .inr (.inr e)
    obtain ⟨k1, k2⟩ := key xs x
    have a1 := k1 k hk
    have a2 := hl _ k2
    omega
theorem minI_ok : ∀ {ns : List Int} {m k : Int}, minI ns = some m → k ∈ ns → (∀ y ∈ ns, k ≤ y) → k = m := by
  intro ns m k h hk hl
  cases ns with
  | nil => cases h
  | cons x xs =>
    cases h
    have key : ∀ (xs : List Int) (a : Int), (∀ y ∈ a :: xs, xs.foldl (fun a b => if b < a then b else a) a ≤ y) ∧ xs.foldl (fun a b => if b < a then b else a) a ∈ a :: xs := by
      intro xs
      induction xs with
      | nil => intro a; simp
      | cons z zs ih =>
        intro a
        rw [List.foldl_cons]
        obtain ⟨i1, i2⟩ := ih (if z < a then z else a)
        refine ⟨fun y hy => ?_, ?_⟩
        · have i0 := i1 _ List.mem_cons_self
          have i3 : (if z < a then z else a) ≤ a ∧ (if z < a then z else a) ≤ z := by split <;> omega
          simp only [List.mem_cons] at hy
          rcases hy with e | e | e
          · subst e; omega
          · subst e; omega
          · exact i1 y (List.mem_cons_of_mem _ e)
        · simp only [List.mem_cons] at i2 ⊢
          rcases i2 with e | e
          · rw [e]; split
            · exact .inr (.inl rfl)
            · exact .inl rfl
          · exact .inr (.inr e)
    obtain ⟨k1, k2⟩ := key xs x
    have a1 := k1 k hk
    have a2 := hl _ k2
    omega
theorem bi_ok {b : Bi} {xs : List Val} {vs : List V} (hc : X.calm = true) (rs : RS X.K ρ H st) (rx : RVs X.K ρ H xs vs) (h : PostV X.K ρ H (bifn b xs st) Q) : WCall X (biVal b) vs H Q := by
  cases rx with
  | nil => cases b <;> exact h.elim
  | @cons x v xs' vs' r1 rx' =>
    cases rx' with
    | cons r2 rx'' =>
      cases rx'' with
      | cons _ _ => cases b <;> first | exact h.elim | (cases r1 <;> first | exact h.elim | (cases r2 <;> exact h.elim))
      | nil =>
        cases b with
        | max =>
          cases r1 with
          | int i =>
            cases r2 with
            | int j => exact of_call (call_max2 hc) ⟨i, j, rfl, h.here rs (.int _)⟩
            | _ => exact h.elim
          | _ => exact h.elim
        | min =>
          cases r1 with
          | int i =>
            cases r2 with
            | int j => exact of_call (call_min2 hc) ⟨i, j, rfl, h.here rs (.int _)⟩
            | _ => exact h.elim
          | _ => exact h.elim
        | _ => cases r1 <;> first | exact h.elim | (cases r2 <;> exact h.elim)
    | nil =>
      cases b with
      | len =>
        cases r1 with
        | @tup xs a vs hs hv =>
          replace h : PostV X.K ρ H (.ok (.int xs.length) st) Q := h
          rw [hv.length] at h
          exact of_call call_len_seq ⟨a, vs, rfl, .inr hs, h.here rs (.int _)⟩
        | str s =>
          obtain ⟨hl, h⟩ := PostV.need h
          exact of_call call_len ⟨.str s, s.length, rfl, ⟨hl, rfl⟩, h.here rs (.int _)⟩
        | @ref n a hn =>
          replace h : PostV X.K ρ H (match listAt st n with | some xs => .ok (.int xs.length) st | none => .stuck) Q := h
          cases e : listAt st n with
          | none => rw [e] at h; exact h.elim
          | some xs =>
            rw [e] at h
            obtain ⟨vs, h1, hv⟩ := rs.list e hn
            replace h : PostV X.K ρ H (.ok (.int xs.length) st) Q := h
            rw [hv.length] at h
            exact of_call call_len_seq ⟨a, vs, rfl, .inl h1, h.here rs (.int _)⟩
        | _ => exact h.elim
      | abs =>
        cases r1 with
        | int i => exact of_call call_abs ⟨i, rfl, h.here rs (.int _)⟩
        | _ => exact h.elim
      | max =>
        cases r1 with
        | @ref n a hn =>
          replace h : PostV X.K ρ H (match (listAt st n).bind fun xs => (allInts xs).bind maxI with | some m => .ok (.int m) st | none => .stuck) Q := h
          cases e : listAt st n with
          | none => rw [e] at h; exact h.elim
          | some xs =>
            rw [e] at h
            replace h : PostV X.K ρ H (match (allInts xs).bind maxI with | some m => .ok (.int m) st | none => .stuck) Q := h
            cases e2 : allInts xs with
            | none => rw [e2] at h; exact h.elim
            | some ns =>
              rw [e2] at h
              replace h : PostV X.K ρ H (match maxI ns with | some m => .ok (.int m) st | none => .stuck) Q := h
              obtain ⟨vs, h1, hv⟩ := rs.list e hn
              cases e3 : maxI ns with
              | none => rw [e3] at h; exact h.elim
              | some m =>
                rw [e3] at h
                have hv2 := hv.ints e2
                subst hv2
                refine of_call (cr_max hc) ⟨a, ns, rfl, h1, ?_, fun k hk hl => ?_⟩
                · cases ns with
                  | nil => cases e3
                  | cons _ _ => simp
                · rw [maxI_ok e3 hk hl]; exact h.here rs (.int _)
        | _ => exact h.elim
      | min =>
        cases r1 with
        | @ref n a hn =>
          replace h : PostV X.K ρ H (match (listAt st n).bind fun xs => (allInts xs).bind minI with | some m => .ok (.int m) st | none => .stuck) Q := h
          cases e : listAt st n with
          | none => rw [e] at h; exact h.elim
          | some xs =>
            rw [e] at h
            replace h : PostV X.K ρ H (match (allInts xs).bind minI with | some m => .ok (.int m) st | none => .stuck) Q := h
            cases e2 : allInts xs with
            | none => rw [e2] at h; exact h.elim
            | some ns =>
              rw [e2] at h
              replace h : PostV X.K ρ H (match minI ns with | some m => .ok (.int m) st | none => .stuck) Q := h
              obtain ⟨vs, h1, hv⟩ := rs.list e hn
              cases e3 : minI ns with
              | none => rw [e3] at h; exact h.elim
              | some m =>
                rw [e3] at h
                have hv2 := hv.ints e2
                subst hv2
                refine of_call (cr_min hc) ⟨a, ns, rfl, h1, ?_, fun k hk hl => ?_⟩
                · cases ns with
                  | nil => cases e3
                  | cons _ _ => simp
                · rw [minI_ok e3 hk hl]; exact h.here rs (.int _)
        | _ => exact h.elim
      | sum =>
        cases r1 with
        | @ref n a hn =>
          replace h : PostV X.K ρ H (match (listAt st n).bind allInts with | some ns => .ok (.int ns.sum) st | none => .stuck) Q := h
          cases e : listAt st n with
          | none => rw [e] at h; exact h.elim
          | some xs =>
            rw [e] at h
            replace h : PostV X.K ρ H (match allInts xs with | some ns => .ok (.int ns.sum) st | none => .stuck) Q := h
            cases e2 : allInts xs with
            | none => rw [e2] at h; exact h.elim
            | some ns =>
              rw [e2] at h
              obtain ⟨vs, h1, hv⟩ := rs.list e hn
              have hv2 := hv.ints e2
              subst hv2
              exact of_call (cr_sum hc) ⟨a, ns, rfl, h1, h.here rs (.int _)⟩
        | _ => exact h.elim
      | all =>
        cases r1 with
        | @ref n a hn =>
          replace h : PostV X.K ρ H (match (listAt st n).bind allBools with | some ns => .ok (.bool (ns.all id)) st | none => .stuck) Q := h
          cases e : listAt st n with
          | none => rw [e] at h; exact h.elim
          | some xs =>
            rw [e] at h
            replace h : PostV X.K ρ H (match allBools xs with | some ns => .ok (.bool (ns.all id)) st | none => .stuck) Q := h
            cases e2 : allBools xs with
            | none => rw [e2] at h; exact h.elim
            | some ns =>
              rw [e2] at h
              obtain ⟨vs, h1, hv⟩ := rs.list e hn
              have hv2 := hv.bools e2
              subst hv2
              exact of_call (cr_all hc) ⟨a, ns, rfl, h1, h.here rs (.bool _)⟩
        | _ => exact h.elim
      | int =>
        cases r1 with
        | int i => exact of_call call_int1 (.inl ⟨i, rfl, h.here rs (.int _)⟩)
        | bool i => exact of_call call_int1 (.inr ⟨i, rfl, h.here rs (.int _)⟩)
        | str s =>
          replace h : PostV X.K ρ H (match PySem.intText? s with | some n => need (s.length ≤ 640) (.ok (.int n) st) | none => .stuck) Q := h
          cases e : PySem.intText? s with
          | none => rw [e] at h; exact h.elim
          | some n =>
            rw [e] at h
            obtain ⟨hl, h⟩ := PostV.need h
            exact of_call call_int_str ⟨s, n, rfl, e, hl, h.here rs (.int _)⟩
        | _ => exact h.elim
      | str => cases r1 <;> exact h.elim
      | list =>
        cases r1 with
        | @tup xs a vs hs hv => exact of_call call_list_of ⟨a, vs, rfl, .inr hs, fun l hl => PostV.newL h rs hv hl⟩
        | @ref n a hn =>
          replace h : PostV X.K ρ H (match listAt st n with | some xs => .ok (.ref st.length) (st ++ [.lst xs]) | none => .stuck) Q := h
          cases e : listAt st n with
          | none => rw [e] at h; exact h.elim
          | some xs =>
            rw [e] at h
            obtain ⟨vs, h1, hv⟩ := rs.list e hn
            exact of_call call_list_of ⟨a, vs, rfl, .inl h1, fun l hl => h.newL rs hv hl⟩
        | _ => exact h.elim
      | tuple =>
        cases r1 with
        | @tup xs a vs hs hv => exact of_call call_tuple_of ⟨a, vs, rfl, .inr ⟨hs, h.here rs (.tup hs hv)⟩⟩
        | @ref n a hn =>
          replace h : PostV X.K ρ H (match listAt st n with | some xs => .ok (.tup xs) st | none => .stuck) Q := h
          cases e : listAt st n with
          | none => rw [e] at h; exact h.elim
          | some xs =>
            rw [e] at h
            obtain ⟨vs, h1, hv⟩ := rs.list e hn
            exact of_call call_tuple_of ⟨a, vs, rfl, .inl ⟨h1, fun l hl => h.newT rs hv hl⟩⟩
        | _ => exact h.elim

/-! ### isinstance -/
def tyStr : Ty → Str
  | .int => "int" | .bool => "bool" | .str => "str" | .tuple => "tuple" | .list => "list"
def tyNm : Ty → String
  | .int => "int" | .bool => "bool" | .str => "str" | .tuple => "tuple" | .list => "list"
theorem tyX_tup {a : Addr} {vs : List V} (h : SqT X.K H a vs) : TyX X.K H (.ref a) (.type "tuple") := by
  rcases h with (h | ⟨o, h⟩) | ⟨o, its, n, h1, h2, _⟩
  · exact .base (.tup h)
  · exact .fTuple h
  · exact .kTuple h1 h2
theorem isi_ok {t : Ty} {x : Val} {v : V} {b : Bool} (rs : RS X.K ρ H st) (rx : RV X.K ρ H x v) (h : isInst t st x = some b) (q : Q (.bl b) H) : rIsi X.K [v, .ty (tyNm t)] H Q := by
  cases rx with
  | none => cases h; exact ⟨_, _, _, _, false, rfl, .ty _, .base .non, kit_ty (by cases t <;> decide +kernel), q⟩
  | bool c => cases h; exact ⟨_, _, _, _, _, rfl, .ty _, .base (.bl c), kit_ty (by cases t <;> decide +kernel), q⟩
  | int c => cases h; exact ⟨_, _, _, _, _, rfl, .ty _, .base (.int c), kit_ty (by cases t <;> decide +kernel), q⟩
  | str c => cases h; exact ⟨_, _, _, _, _, rfl, .ty _, .base (.str c), kit_ty (by cases t <;> decide +kernel), q⟩
  | tup hs hv => cases h; exact ⟨_, _, _, _, _, rfl, .ty _, tyX_tup hs, kit_ty (by cases t <;> decide +kernel), q⟩
  | @ref n a hn =>
    replace h : (match st[n]? with
      | some (.lst _) => some (decide (t = .list))
      | _ => none) = some b := h
    split at h
    · rename_i xs e
      cases h
      obtain ⟨vs, h1, _⟩ := rs.at_ e hn
      exact ⟨_, _, _, _, _, rfl, .ty _, .base (.lst h1), kit_ty (by cases t <;> decide +kernel), q⟩
    · cases h

/-! ### methods -/
def mtName : Mt → Str
  | .append => "append" | .extend => "extend" | .pop => "pop" | .count => "count" | .index => "index" | .get => "get"
def mtId : Mt → String
  | .append => "list.append" | .extend => "list.extend" | .pop => "list.pop" | .count => "list.count" | .index => "list.index" | .get => "dict.get"
def mtTy : Mt → String
  | .get => "dict"
  | _ => "list"
theorem mt_get (hu : X.A.units + 1 < cLine) : MtR X "dict.get" (fun x xs H Q => ∃ a y z o, x = .ref a ∧ xs = [y, z] ∧ DGet H a y o ∧ Q (o.getD z) H) := by
  intro pins s σ H x xs v us Q I rx rs h
  obtain ⟨a, y, z, o, rfl, rfl, g, q⟩ := h
  obtain rfl : v = Value.ref a := rx
  cases rs with
  | cons r1 rs =>
    cases rs with
    | cons r2 rs =>
      cases rs
      exact d_get2 hu I g r1 r2 fun w' s4 I4 rw' => ⟨_, H, I4, rw', q⟩
/-- the receiver is of the method's type -/
theorem mt_ty {m : Mt} {x : Val} {v : V} (rs : RS X.K ρ H st) (rx : RV X.K ρ H x v) (h : mtOk m x st = true) : tyV X.K (mtTy m) v H := by
  cases rx with
  | @ref n a hn =>
    have key : ∀ T, (listAt st n).isSome = true → T = "list" → tyV X.K T (.ref a) H := fun T h e => by
      obtain ⟨xs, e1⟩ := Option.isSome_iff_exists.mp h
      obtain ⟨vs, h1, _⟩ := rs.list e1 hn
      exact .inl ⟨e, vs, h1⟩
    cases m with
    | get =>
      have h : (match st[n]? with | some (.dict _) => true | _ => false) = true := h
      split at h
      · rename_i kvs e
        obtain ⟨ws, h1, _⟩ := rs.at_ e hn
        exact .inr (.inr (.inl ⟨rfl, .inl ⟨ws, h1⟩⟩))
      · cases h
    | _ => exact key _ h rfl
  | _ => cases h
theorem meth_ok {m : Mt} {x : Val} {v : V} {xs : List Val} {vs : List V} (hu : X.A.units + 64 < cLine) (rs : RS X.K ρ H st) (rx : RV X.K ρ H x v) (rl : RVs X.K ρ H xs vs) (h : PostV X.K ρ H (metop m x xs st) Q) : WMt X (mtId m) v vs H Q := by
  cases m with
  | append =>
    cases rx with
    | @ref n a hn =>
      cases rl with
      | nil => exact h.elim
      | @cons y u ys us r1 rl' =>
        cases rl' with
        | cons _ _ => exact h.elim
        | nil =>
          replace h : PostV X.K ρ H (match st[n]? with
            | some (.lst xs) => need (xs.length < sizeLine) (.ok .none (st.set n (.lst (xs ++ [y]))))
            | _ => .stuck) Q := h
          split at h
          · rename_i zs e
            obtain ⟨hl, h⟩ := PostV.need h
            obtain ⟨ws, h1, hv⟩ := rs.at_ e hn
            refine of_mt (show MtR X "list.append" rAppend from mt_append) ⟨a, ws, u, rfl, rfl, h1, by rw [← hv.length]; exact hl, ?_⟩
            have hg : Gr X.K H (upd H a (.lst (ws ++ [u]))) := Gr.write h1 (fun _ z => nomatch z) (fun _ _ z => nomatch z)
            exact h .non _ ρ Ex.refl hg (rs.write e hn rfl rfl hg ⟨_, upd_same, RVs.mono Ex.refl hg _ _ (hv.append (.cons r1 .nil))⟩) .none
          · exact h.elim
    | _ => exact h.elim
  | count =>
    cases rx with
    | @ref n a hn =>
      cases rl with
      | nil => exact h.elim
      | cons r1 rl' =>
        cases rl' with
        | cons _ _ => cases r1 <;> exact h.elim
        | nil =>
          cases r1 with
          | int k =>
            replace h : PostV X.K ρ H (match (listAt st n).bind allInts with | some ns => .ok (.int (ns.count k : Nat)) st | none => .stuck) Q := h
            cases e : listAt st n with
            | none => rw [e] at h; exact h.elim
            | some zs =>
              rw [e] at h
              replace h : PostV X.K ρ H (match allInts zs with | some ns => .ok (.int (ns.count k : Nat)) st | none => .stuck) Q := h
              cases e2 : allInts zs with
              | none => rw [e2] at h; exact h.elim
              | some ns =>
                rw [e2] at h
                obtain ⟨ws, h1, hv⟩ := rs.list e hn
                have hv2 := hv.ints e2
                subst hv2
                exact of_mt mt_lcount ⟨a, ns, k, rfl, rfl, h1, h.here rs (.int _)⟩
          | _ => exact h.elim
    | _ => exact h.elim
  | pop =>
    cases rx with
    | @ref n a hn =>
      cases rl with
      | cons _ _ => exact h.elim
      | nil =>
        replace h : PostV X.K ρ H (match st[n]? with
          | some (.lst xs) => (match xs.getLast? with | some y => .ok y (st.set n (.lst xs.dropLast)) | none => .stuck)
          | _ => .stuck) Q := h
        split at h
        · rename_i zs e
          cases e2 : zs.getLast? with
          | none => rw [e2] at h; exact h.elim
          | some y =>
            rw [e2] at h
            obtain ⟨ws, h1, hv⟩ := rs.at_ e hn
            rw [List.getLast?_eq_getElem?] at e2
            obtain ⟨u, h2, h3⟩ := hv.get e2
            refine of_mt (show MtR X "list.pop" rPop from mt_pop) ⟨a, ws, u, rfl, rfl, h1, by rw [← hv.length]; exact h2, ?_⟩
            have hg : Gr X.K H (upd H a (.lst ws.dropLast)) := Gr.write h1 (fun _ z => nomatch z) (fun _ _ z => nomatch z)
            have hd : RVs X.K ρ H zs.dropLast ws.dropLast := by
              rw [List.dropLast_eq_take, List.dropLast_eq_take, hv.length]
              exact hv.take _
            exact h u _ ρ Ex.refl hg (rs.write e hn rfl rfl hg ⟨_, upd_same, RVs.mono Ex.refl hg _ _ hd⟩) (RV.mono Ex.refl hg _ _ h3)
        · exact h.elim
    | _ => exact h.elim
  | get =>
    cases rx with
    | @ref n a hn =>
      cases rl with
      | nil => exact h.elim
      | @cons y u ys us r1 rl' =>
        cases rl' with
        | nil => exact h.elim
        | @cons z t zs ts r2 rl'' =>
          cases rl'' with
          | cons _ _ => exact h.elim
          | nil =>
            replace h : PostV X.K ρ H (match st[n]?, keyOf y with
              | some (.dict kvs), some x => .ok ((valK kvs x).getD z) st
              | _, _ => .stuck) Q := h
            split at h
            · rename_i kvs k e1 e2
              obtain ⟨ws, h1, hv⟩ := rs.at_ e1 hn
              have := keyOf_ok r1 e2
              subst this
              refine of_mt (mt_get (by omega)) ⟨a, kV k, t, _, rfl, rfl, DGet.k h1, ?_⟩
              rcases hv.val (k := k) with ⟨z1, z2⟩ | ⟨x', w, z1, z2, z3⟩
              · rw [z2]; rw [z1] at h; exact h.here rs r2
              · rw [z2]; rw [z1] at h; exact h.here rs z3
            · exact h.elim
    | _ => exact h.elim
  | extend => cases rx <;> exact h.elim
  | index => cases rx <;> exact h.elim
end
end Ev

set_option Elab.async false
set_option linter.all false
set_option maxRecDepth 100000
set_option maxHeartbeats 4000000
/-! ## A core expression stands for a text -/
namespace Ev
open PySem PySem.Spec PyProof.Rows L2

def visB (sc : Scope) (x : Str) : Bool := match sc.names.lookup x with | some .local => true | some .cell => true | some .free => true | _ => false
def locB (sc : Scope) (x : Str) : Bool := match sc.names.lookup x with | some .local => true | some .cell => true | _ => false
def glB (sc : Scope) (x : Str) : Bool := match sc.names.lookup x with | some .globalImplicit => true | _ => false
def okNm (x : Str) : Bool := !(x == ("__debug__" : Str)) && (!(x == ("__classdict__" : Str)) && !(x == ("__name__" : Str)))
/-- what may stand as an argument, a subscript -/
def plainX : Expr → Bool
  | .Starred _ _ => false
  | .Slice _ _ _ _ => false
  | .Set _ _ _ => false
  | _ => true
/-- what may stand ahead of a method's dot -/
def noSuper : Expr → Bool
  | .Call _ _ _ _ => false
  | _ => true
def isAndC : CE → Bool
  | .and1 _ => true
  | .and2 _ _ => true
  | _ => false
def isOrC : CE → Bool
  | .or1 _ => true
  | .or2 _ _ => true
  | _ => false

def isOpt (b : Bool) (f : Expr → Bool) : Option Expr → Bool
  | none => b
  | some e => f e
mutual
def isE (N : List Str) : CE → Scope → Expr → Bool
  | .var i, sc, e => (match e with | .Name x _ => decide (N[i]? = some x) && (visB sc x && okNm x) | _ => false)
  | .none_, _, e => (match e with | .Constant .none _ _ => true | _ => false)
  | .bool_ b, _, e => (match e with | .Constant (.bool c) _ _ => decide (b = c) | _ => false)
  | .int_ i, _, e => (match e with | .Constant (.int j) _ _ => decide (i = j) | _ => false)
  | .str_ s, _, e => (match e with | .Constant (.str t) _ _ => decide (s = t) | _ => false)
  | .glob x, sc, e => (match e with | .Name y _ => decide (x = y) && (glB sc y && okNm y) | _ => false)
  | .nil, _, _ => false
  | .cons _ _, _, _ => false
  | .kv _ _ _, _, _ => false
  | .tup args, sc, e => (match e with | .Tuple es _ _ => isEs N args sc es | _ => false)
  | .lst args, sc, e => (match e with | .List es _ => isEs N args sc es | _ => false)
  | .bin op a b, sc, e => (match e with | .BinOp x o y _ => decide (o = opOf op) && (isE N a sc x && isE N b sc y) | _ => false)
  | .neg a, sc, e => (match e with | .UnaryOp .USub x _ => isE N a sc x | _ => false)
  | .cmp op a b, sc, e => (match e with | .Compare x [o] [y] _ => decide (o = cmpOf op) && (plainX y && (isE N a sc x && isE N b sc y)) | _ => false)
  | .chain op op' a b c, sc, e => (match e with | .Compare x [o, o'] [y, z] _ => decide (o = cmpOf op) && (decide (o' = cmpOf op') && (plainX z && (isE N a sc x && (isE N b sc y && isE N c sc z)))) | _ => false)
  | .and1 a, sc, e => (match e with | .BoolOp .And [x] _ => isE N a sc x | _ => false)
  | .and2 a r, sc, e => (match e with | .BoolOp .And (x :: y :: rest) pos => isAndC r && (isE N a sc x && isE N r sc (.BoolOp .And (y :: rest) pos)) | _ => false)
  | .or1 a, sc, e => (match e with | .BoolOp .Or [x] _ => isE N a sc x | _ => false)
  | .or2 a r, sc, e => (match e with | .BoolOp .Or (x :: y :: rest) pos => isOrC r && (isE N a sc x && isE N r sc (.BoolOp .Or (y :: rest) pos)) | _ => false)
  | .not_ a, sc, e => (match e with | .UnaryOp .Not x _ => isE N a sc x | _ => false)
  | .ifx c a b, sc, e => (match e with | .IfExp z x y _ => isE N c sc z && (isE N a sc x && isE N b sc y) | _ => false)
  | .ix a i, sc, e => (match e with | .Subscript x y _ => plainX y && (isE N a sc x && isE N i sc y) | _ => false)
  | .slice a lo hi, sc, e => (match e with
    | .Subscript x (.Slice l h none _) _ => isE N a sc x && (isOpt (isNil lo) (isE N lo sc) l && isOpt (isNil hi) (isE N hi sc) h)
    | _ => false)
  | .call f args, sc, e => (match e with | .Call (.Name x _) es [] _ => decide (x = f) && (glB sc x && (okNm x && isEs N args sc es)) | _ => false)
  | .bi b args, sc, e => (match e with | .Call (.Name x _) es [] _ => decide (x = biName b) && (glB sc x && (!es.isEmpty && isEs N args sc es)) | _ => false)
  | .isi t a, sc, e => (match e with | .Call (.Name x _) [y, .Name z _] [] _ => decide (x = "isinstance") && (glB sc x && (decide (z = tyStr t) && (glB sc z && (plainX y && isE N a sc y)))) | _ => false)
  | .meth m o args, sc, e => (match e with | .Call (.Attribute x nm ap) es [] cp => decide (nm = mtName m) && ((ap.endLine == cp.line) && (noSuper x && (decide (es.length < 20) && (isE N o sc x && isEs N args sc es)))) | _ => false)
  | .comp k i src cond elt, sc, e => (match e with
    | .ListComp el [⟨.Name y _, it, ifs, 0⟩] scope _ => blkC N sc scope [(y, i)] && (decide (N[i]? = some y) && (decide ((relS scope sc).names.lookup y = some .local) && (plainX it && ((match k with
        | .seq => isE N src sc it
        | .range => (match it with | .Call (.Name x _) [z] [] _ => decide (x = "range") && (glB sc x && isEs N src sc [z]) | _ => false)) && ((match ifs with
        | [] => isNil cond
        | [t] => isE N cond (relS scope sc) t
        | _ => false) && isE N elt (relS scope sc) el)))))
    | _ => false)
  | .dict ps, sc, e => (match e with | .Dict ks vs _ => decide (ks ≠ []) && (decide (ks.length ≤ 15) && isPs N ps sc ks vs) | _ => false)
def isEs (N : List Str) : CE → Scope → List Expr → Bool
  | .nil, _, es => es.isEmpty
  | .cons a r, sc, es => (match es with | x :: es => plainX x && (isE N a sc x && isEs N r sc es) | [] => false)
  | _, _, _ => false
def isPs (N : List Str) : CE → Scope → List (Option Expr) → List Expr → Bool
  | .nil, _, ks, vs => ks.isEmpty && vs.isEmpty
  | .kv k v r, sc, ks, vs => (match ks, vs with | some x :: ks, y :: vs => isE N k sc x && (isE N v sc y && isPs N r sc ks vs) | _, _ => false)
  | _, _, _, _ => false
end

/-! ### the context -/
/-- what a def promises: what the evaluator answers -/
def spOf (K : PySem.W.Frag) (F : Fns) (f : Str) : Sp := fun vs H Q _ => ∃ (args : List Val) (st : Store) (ρ : List Addr), RVs K ρ H args vs ∧ RS K ρ H st ∧ PostV K ρ H (F.fn f args st) Q
def freeNames : List Str := ["len", "abs", "max", "min", "sum", "all", "int", "str", "list", "tuple", "isinstance", "bool", "range"]
structure Good (X : Cx) (N : List Str) (sc : Scope) (F : Fns) (k : Nat) : Prop where
  hN : X.N = N
  hsc : X.env.scope = sc
  nd : N.Nodup
  calm : X.calm = true
  room : Room k X.A
  nox : X.xe = fun _ _ => False
  fns : ∀ f, (∃ args st v s', F.fn f args st = .ok v s') → ∃ (a : Addr) (fd : FuncData) (ps : List Str), X.mg f = some (.ref a) ∧ PySem.W.keepIn X.K (.ref a) = true ∧ Binds X.K fd ps [] ∧ FnOk X.prog X.w X.K X.mg X.base CX0 k a fd ps (spOf X.K F f)
  gl : ∀ x v, F.glob x = some v → ∃ (u : V) (w : Value), X.mg x = some w ∧ RelV u w ∧ ∀ ρ H, RV X.K ρ H v u
  free : ∀ x ∈ freeNames, X.mg x = none

section
variable {X : Cx} {N : List Str} {sc : Scope} {F : Fns} {k : Nat}
theorem Good.units (G : Good X N sc F k) : X.A.units + 64 < cLine := G.room.units
theorem Good.vis (G : Good X N sc F k) {x : Str} (h : visB sc x = true) : Vis X.env.scope x := by
  unfold Vis
  rw [G.hsc]
  unfold visB at h
  split at h
  · exact .inl (by assumption)
  · exact .inr (.inl (by assumption))
  · exact .inr (.inr (by assumption))
  · cases h
theorem Good.loc (G : Good X N sc F k) {x : Str} (h : locB sc x = true) : L2.Loc X.env.scope x := by
  unfold L2.Loc
  rw [G.hsc]
  unfold locB at h
  split at h
  · exact .inl (by assumption)
  · exact .inr (by assumption)
  · cases h
theorem Good.glo (G : Good X N sc F k) {x : Str} (h : glB sc x = true) : Gl X x := by
  show X.env.scope.names.lookup x = some .globalImplicit
  rw [G.hsc]
  unfold glB at h
  split at h
  · assumption
  · cases h
theorem okNm1 {x : Str} (h : okNm x = true) : (x == ("__debug__" : Str)) = false := by
  unfold okNm at h
  simp only [Bool.and_eq_true, Bool.not_eq_true'] at h
  exact h.1
theorem okNm2 {x : Str} (h : okNm x = true) : (x == ("__classdict__" : Str)) = false := by
  unfold okNm at h
  simp only [Bool.and_eq_true, Bool.not_eq_true'] at h
  exact h.2.1
theorem Good.blk (G : Good X N sc F k) {scope : Scope} (s : Shared) (H : Hp) (C : Addr) (cl : List (Str × Addr)) (fp : List Addr) (i : Nat) (y : Str) (hb : blkC N sc scope [(y, i)] = true) :
    Good (X.blk s H scope (compEnvC scope cl C X.env) fp) N (relS scope sc) F k := by
  refine ⟨G.hN, ?_, G.nd, G.calm, G.room, rfl, G.fns, G.gl, G.free⟩
  show relS scope X.env.scope = _
  rw [G.hsc]
end

/-! ### soundness of expressions -/
def SE (X : Cx) (F : Fns) (c : CE) (e : Expr) : Prop := ∀ (env : Env) (st : Store) (σ : L2.St) (H : Hp) (ρ : List Addr) (Q : VK), RE X.K ρ H env σ → RS X.K ρ H st → PostV X.K ρ H (evalE F c env st) Q → WE X e σ H Q
def STs (X : Cx) (F : Fns) (c : CE) (e : Expr) : Prop := ∀ (env : Env) (st : Store) (σ : L2.St) (H : Hp) (ρ : List Addr) (Q : Bool → Hp → Prop), RE X.K ρ H env σ → RS X.K ρ H st → PostB X.K ρ H ((evalE F c env st).bind testV) Q → WT X e σ H Q
def SW (X : Cx) (F : Fns) (c : CE) (e : Expr) : Prop := ∀ (env : Env) (st : Store) (σ : L2.St) (H : Hp) (ρ : List Addr) (Q : Bool → Hp → Prop), RE X.K ρ H env σ → RS X.K ρ H st → PostB X.K ρ H ((evalE F c env st).bind testV) Q → WW X e σ H Q
def SA (X : Cx) (F : Fns) (c : CE) (es : List Expr) : Prop := ∀ (env : Env) (st : Store) (σ : L2.St) (H : Hp) (ρ : List Addr) (Q : List V → Hp → Prop), RE X.K ρ H env σ → RS X.K ρ H st → PostL X.K ρ H (evalE F c env st) Q → WA X es σ H Q
def SPr (X : Cx) (F : Fns) (c : CE) (ks : List (Option Expr)) (vs : List Expr) : Prop := ∀ (pos : Pos), ∃ trs, PPs X pos ks vs trs ∧ ∀ (env : Env) (st : Store) (σ : L2.St) (H : Hp) (ρ : List Addr) (Q : List (V × V) → Hp → Prop), RE X.K ρ H env σ → RS X.K ρ H st →
  (match evalE F c env st with
  | .ok (.tup xs) st' => ∀ (ps : List (V × V)) (H' : Hp) (ρ' : List Addr), Ex ρ ρ' → Gr X.K H H' → RS X.K ρ' H' st' → RVs X.K ρ' H' xs (ps.flatMap fun p => [p.1, p.2]) → Q ps H'
  | _ => False) → tPairs trs σ H Q

section
variable {X : Cx} {N : List Str} {sc : Scope} {F : Fns} {k : Nat} {c : CE} {e : Expr}
theorem testV_ok {K : PySem.W.Frag} {ρ : List Addr} {H : Hp} {v : Val} {st : Store} {Q : Bool → Hp → Prop} (h : PostB K ρ H (testV v st) Q) : ∃ b, truth st v = some b ∧ PostB K ρ H (.ok b st) Q := by
  unfold testV at h
  split at h
  · exact ⟨_, by assumption, h⟩
  · exact h.elim
theorem se_st (h : SE X F c e) (he : ∀ whole, isTrue e X.env whole = (do let v ← whole; standAt e.pos; holding [v] (truthy v))) : STs X F c e := by
  intro env st σ H ρ Q re rs hp
  obtain ⟨v, s1, e1, hp⟩ := hp.bnd
  obtain ⟨b, e2, hp⟩ := testV_ok hp
  refine of_pt (pt_truth WE.pe he) (h env st σ H ρ _ re rs ?_)
  rw [e1]
  exact fun V H' ρ' a b' c' d => ⟨b, truth_ok c' d e2, hp H' ρ' a b' c'⟩
/-- use of an expression: its value, then what follows -/
theorem se_use (h : SE X F c e) {env : Env} {st s1 : Store} {v : Val} {σ : L2.St} {H : Hp} {ρ : List Addr} {Q : VK} (re : RE X.K ρ H env σ) (rs : RS X.K ρ H st) (e1 : evalE F c env st = .ok v s1)
    (hq : ∀ V H' ρ', Ex ρ ρ' → Gr X.K H H' → RS X.K ρ' H' s1 → RE X.K ρ' H' env σ → RV X.K ρ' H' v V → Q V H') : WE X e σ H Q := by
  refine h env st σ H ρ Q re rs ?_
  rw [e1]
  exact fun V H' ρ' a b c d => hq V H' ρ' a b c (re.mono a b) d
theorem sa_use {es : List Expr} (h : SA X F c es) {env : Env} {st s1 : Store} {xs : List Val} {σ : L2.St} {H : Hp} {ρ : List Addr} {Q : List V → Hp → Prop} (re : RE X.K ρ H env σ) (rs : RS X.K ρ H st) (e1 : evalE F c env st = .ok (.tup xs) s1)
    (hq : ∀ vs H' ρ', Ex ρ ρ' → Gr X.K H H' → RS X.K ρ' H' s1 → RE X.K ρ' H' env σ → RVs X.K ρ' H' xs vs → Q vs H') : WA X es σ H Q := by
  refine h env st σ H ρ Q re rs ?_
  rw [e1]
  exact fun V H' ρ' a b c d => hq V H' ρ' a b c (re.mono a b) d
theorem st_use (h : STs X F c e) {env : Env} {st s1 : Store} {v : Val} {b : Bool} {σ : L2.St} {H : Hp} {ρ : List Addr} {Q : Bool → Hp → Prop} (re : RE X.K ρ H env σ) (rs : RS X.K ρ H st) (e1 : evalE F c env st = .ok v s1) (e2 : truth s1 v = some b)
    (hq : ∀ H' ρ', Ex ρ ρ' → Gr X.K H H' → RS X.K ρ' H' s1 → RE X.K ρ' H' env σ → Q b H') : WT X e σ H Q := by
  refine h env st σ H ρ Q re rs ?_
  rw [e1]
  show PostB X.K ρ H (testV v s1) Q
  unfold testV
  rw [e2]
  exact fun H' ρ' a b c => hq H' ρ' a b c (re.mono a b)
theorem plain_star {x : Expr} {es : List Expr} {env : PySem.Env} (h : plainX x = true) : starEach (x :: es) env = (false, eval x env) :: starEach es env := by
  cases x <;> first | rfl | cases h
theorem isEs_plain : ∀ {args : CE} {es : List Expr}, isEs N args sc es = true → es.all plainX = true
  | .nil, es, h => by
    cases es with
    | nil => rfl
    | cons _ _ => cases h
  | .cons a r, es, h => by
    cases es with
    | nil => cases h
    | cons x es =>
      have h : (plainX x && (isE N a sc x && isEs N r sc es)) = true := h
      simp only [Bool.and_eq_true] at h
      rw [List.all_cons, h.1, isEs_plain h.2.2]; rfl
  | .var _, _, h | .none_, _, h | .bool_ _, _, h | .int_ _, _, h | .str_ _, _, h | .glob _, _, h | .tup _, _, h | .lst _, _, h | .bin _ _ _, _, h | .neg _, _, h | .cmp _ _ _, _, h | .chain _ _ _ _ _, _, h | .and1 _, _, h | .and2 _ _, _, h | .or1 _, _, h | .or2 _ _, _, h | .not_ _, _, h | .ifx _ _ _, _, h | .ix _ _, _, h | .slice _ _ _, _, h | .call _ _, _, h | .bi _ _, _, h | .isi _ _, _, h | .meth _ _ _, _, h | .comp _ _ _ _ _, _, h | .kv _ _ _, _, h | .dict _, _, h => by
    simp [isEs] at h
theorem plain_any {env : PySem.Env} {pos : Pos} : ∀ {es : List Expr}, es.all plainX = true → (backTo pos (starEach es env)).any (·.1) = false
  | [], _ => rfl
  | x :: es, h => by
    rw [List.all_cons, Bool.and_eq_true] at h
    rw [plain_star h.1]
    show (false || (backTo pos (starEach es env)).any (·.1)) = false
    rw [plain_any h.2]; rfl
theorem plain_all {env : PySem.Env} {pos : Pos} : ∀ {es : List Expr}, es.all plainX = true → (backTo pos (starEach es env)).all (fun x => !x.1) = true
  | [], _ => rfl
  | x :: es, h => by
    rw [List.all_cons, Bool.and_eq_true] at h
    rw [plain_star h.1]
    show (true && (backTo pos (starEach es env)).all (fun x => !x.1)) = true
    rw [plain_all h.2]; rfl
theorem plain_ix {x : Expr} (h : plainX x = true) : PlainIx x := by
  intro o i
  cases x <;> first | rfl | cases h
theorem plain_mark {x : Expr} {op : CmpOp} (h : plainX x = true) : behindInMarks op x = false := by
  cases x <;> first | rfl | cases h
theorem plain_fold {x : Expr} {env : PySem.Env} (h : plainX x = true) : ∀ v, foldedSetIterable x env v = pure v := by
  intro v
  cases x <;> first | rfl | cases h
theorem noSuper_base {x : Expr} {nm : Str} {env : PySem.Env} {w : Sem Value} (h : noSuper x = true) : attributeBase x nm env w = w := by
  cases x <;> first | rfl | cases h
end
end Ev

set_option Elab.async false
set_option linter.all false
set_option maxRecDepth 100000
set_option maxHeartbeats 4000000
/-! ## Soundness of expressions, construct by construct -/
namespace Ev
open PySem PySem.Spec PyProof.Rows L2

structure Snd (F : Fns) (k : Nat) (c : CE) : Prop where
  e : ∀ {X : Cx} {N : List Str} {sc : Scope} (G : Good X N sc F k) {x : Expr}, isE N c sc x = true → SE X F c x
  t : ∀ {X : Cx} {N : List Str} {sc : Scope} (G : Good X N sc F k) {x : Expr}, isE N c sc x = true → STs X F c x
  w : ∀ {X : Cx} {N : List Str} {sc : Scope} (G : Good X N sc F k) {x : Expr}, isE N c sc x = true → (isAndC c || isOrC c) = true → SW X F c x
  a : ∀ {X : Cx} {N : List Str} {sc : Scope} (G : Good X N sc F k) {es : List Expr}, isEs N c sc es = true → SA X F c es
  p : ∀ {X : Cx} {N : List Str} {sc : Scope} (G : Good X N sc F k) {ks : List (Option Expr)} {vs : List Expr}, isPs N c sc ks vs = true → SPr X F c ks vs ∧ ks.all (·.isSome) = true ∧ ks.length = vs.length

section
variable {F : Fns} {k : Nat}
/-- an expression whose test is its value's truth -/
theorem snd_val {c : CE} (he : ∀ {X : Cx} {N : List Str} {sc : Scope} (G : Good X N sc F k) {x : Expr}, isE N c sc x = true → SE X F c x)
    (ht : ∀ (N : List Str) (sc : Scope) (x : Expr) (env : PySem.Env), isE N c sc x = true → ∀ whole, isTrue x env whole = (do let v ← whole; standAt x.pos; holding [v] (truthy v)))
    (hw : (isAndC c || isOrC c) = false) (ha : ∀ N sc es, isEs N c sc es = false) (hp : ∀ N sc ks vs, isPs N c sc ks vs = false) : Snd F k c where
  e := he
  t := fun {_ _ _} G {_} h => se_st (he G h) (ht _ _ _ _ h)
  w := fun {_ _ _} G {_} h z => by rw [hw] at z; cases z
  a := fun {_ _ _} G {_} h => by rw [ha] at h; cases h
  p := fun {_ _ _} G {_ _} h => by rw [hp] at h; cases h

theorem s_var (i : Nat) : Snd F k (.var i) := by
  refine snd_val (fun {X N sc} G {x} h => ?_) (fun N sc x env h => by cases x <;> first | (intro _; rfl) | cases h) rfl (fun _ _ _ => rfl) (fun _ _ _ _ => rfl)
  intro env st σ H ρ Q re rs hp
  cases x with
  | Name y p =>
    have h : (decide (N[i]? = some y) && (visB sc y && okNm y)) = true := h
    simp only [Bool.and_eq_true, decide_eq_true_eq] at h
    obtain ⟨h1, h2, h3⟩ := h
    have hp : PostV X.K ρ H (match env[i]? with | some (some v) => .ok v st | _ => .stuck) Q := hp
    split at hp
    · rename_i v e
      obtain ⟨u, e1, e2⟩ := re.at_ i v e
      exact of_pe (pe_var (i := i) (by rw [G.hN]; exact h1) (G.vis h2) (okNm1 h3) (okNm2 h3)) ⟨u, e1, hp.here rs e2⟩
    · exact hp.elim
  | _ => cases h
theorem s_none : Snd F k .none_ := by
  refine snd_val (fun {X N sc} G {x} h => ?_) (fun N sc x env h => by cases x <;> first | (intro _; rfl) | cases h) rfl (fun _ _ _ => rfl) (fun _ _ _ _ => rfl)
  intro env st σ H ρ Q re rs hp
  cases x with
  | Constant c j p =>
    cases c with
    | none => exact of_pe pe_non (PostV.here hp rs .none)
    | _ => cases h
  | _ => cases h
theorem s_bool (b : Bool) : Snd F k (.bool_ b) := by
  refine snd_val (fun {X N sc} G {x} h => ?_) (fun N sc x env h => by cases x <;> first | (intro _; rfl) | cases h) rfl (fun _ _ _ => rfl) (fun _ _ _ _ => rfl)
  intro env st σ H ρ Q re rs hp
  cases x with
  | Constant c j p =>
    cases c with
    | bool d =>
      have h : decide (b = d) = true := h
      have h := of_decide_eq_true h
      subst h
      exact of_pe pe_bl (PostV.here hp rs (.bool _))
    | _ => cases h
  | _ => cases h
theorem s_int (i : Int) : Snd F k (.int_ i) := by
  refine snd_val (fun {X N sc} G {x} h => ?_) (fun N sc x env h => by cases x <;> first | (intro _; rfl) | cases h) rfl (fun _ _ _ => rfl) (fun _ _ _ _ => rfl)
  intro env st σ H ρ Q re rs hp
  cases x with
  | Constant c j p =>
    cases c with
    | int d =>
      have h : decide (i = d) = true := h
      have h := of_decide_eq_true h
      subst h
      exact of_pe pe_int (PostV.here hp rs (.int _))
    | _ => cases h
  | _ => cases h
theorem s_str (s : Str) : Snd F k (.str_ s) := by
  refine snd_val (fun {X N sc} G {x} h => ?_) (fun N sc x env h => by cases x <;> first | (intro _; rfl) | cases h) rfl (fun _ _ _ => rfl) (fun _ _ _ _ => rfl)
  intro env st σ H ρ Q re rs hp
  cases x with
  | Constant c j p =>
    cases c with
    | str d =>
      have h : decide (s = d) = true := h
      have h := of_decide_eq_true h
      subst h
      exact of_pe pe_str (PostV.here hp rs (.str _))
    | _ => cases h
  | _ => cases h
theorem s_glob (y : Str) : Snd F k (.glob y) := by
  refine snd_val (fun {X N sc} G {x} h => ?_) (fun N sc x env h => by cases x <;> first | (intro _; rfl) | cases h) rfl (fun _ _ _ => rfl) (fun _ _ _ _ => rfl)
  intro env st σ H ρ Q re rs hp
  cases x with
  | Name z p =>
    have h : (decide (y = z) && (glB sc z && okNm z)) = true := h
    simp only [Bool.and_eq_true, decide_eq_true_eq] at h
    obtain ⟨h1, h2, h3⟩ := h
    subst h1
    have hp : PostV X.K ρ H (match F.glob y with | some v => .ok v st | none => .stuck) Q := hp
    cases e : F.glob y with
    | none => rw [e] at hp; exact hp.elim
    | some v =>
      rw [e] at hp
      obtain ⟨u, w, g1, g2, g3⟩ := G.gl y v e
      exact of_pe (pe_glob (G.glo h2) g1 g2 (okNm1 h3)) (PostV.here hp rs (g3 ρ H))
  | _ => cases h
/-- arguments -/
theorem s_nil : Snd F k .nil where
  e := fun {_ _ _} G {_} h => by cases h
  t := fun {_ _ _} G {_} h => by cases h
  w := fun {_ _ _} G {_} h z => by cases z
  a := fun {X N sc} G {es} h => by
    intro env st σ H ρ Q re rs hp
    cases es with
    | nil => exact of_pa pa_nil (hp [] H ρ Ex.refl Gr.refl rs .nil)
    | cons _ _ => cases h
  p := fun {X N sc} G {ks vs} h => by
    cases ks with
    | cons _ _ => cases h
    | nil =>
      cases vs with
      | cons _ _ => cases h
      | nil =>
        refine ⟨fun pos => ⟨[], pps_nil, fun env st σ H ρ Q re rs hp => ?_⟩, rfl, rfl⟩
        exact hp [] H ρ Ex.refl Gr.refl rs .nil
theorem s_cons {a r : CE} (ha : Snd F k a) (hr : Snd F k r) : Snd F k (.cons a r) where
  e := fun {_ _ _} G {_} h => by cases h
  t := fun {_ _ _} G {_} h => by cases h
  w := fun {_ _ _} G {_} h z => by cases z
  a := fun {X N sc} G {es} h => by
    intro env st σ H ρ Q re rs hp
    cases es with
    | nil => cases h
    | cons x es =>
      have h : (plainX x && (isE N a sc x && isEs N r sc es)) = true := h
      simp only [Bool.and_eq_true] at h
      obtain ⟨v, s1, e1, hp⟩ := PostL.bnd (r := evalE F a env st) hp
      obtain ⟨w, s2, e2, hp⟩ := PostL.bnd (r := evalE F r env s1) hp
      cases w with
      | tup xs =>
        refine of_pa (pa_cons WE.pe WA.pa (plain_star h.1)) ?_
        refine se_use (ha.e G h.2.1) re rs e1 fun V H1 ρ1 x1 g1 rs1 re1 rv1 => ?_
        refine sa_use (hr.a G h.2.2) re1 rs1 e2 fun vs H2 ρ2 x2 g2 rs2 re2 rv2 => ?_
        exact hp (V :: vs) H2 ρ2 (x1.trans x2) (g1.trans g2) rs2 (.cons (RV.mono x2 g2 _ _ rv1) rv2)
      | _ => exact hp.elim
  p := fun {_ _ _} G {_ _} h => by cases h
theorem RVs.flat2 {K : PySem.W.Frag} {ρ : List Addr} {H : Hp} {x y : Val} {v u : V} {xs : List Val} {ps : List (V × V)} (a : RV K ρ H x v) (b : RV K ρ H y u) (c : RVs K ρ H xs (ps.flatMap fun p => [p.1, p.2])) :
    RVs K ρ H (x :: y :: xs) (((v, u) :: ps).flatMap fun p => [p.1, p.2]) := .cons a (.cons b c)
theorem s_kv {a b r : CE} (ha : Snd F k a) (hb : Snd F k b) (hr : Snd F k r) : Snd F k (.kv a b r) where
  e := fun {_ _ _} G {_} h => by cases h
  t := fun {_ _ _} G {_} h => by cases h
  w := fun {_ _ _} G {_} h z => by cases z
  a := fun {_ _ _} G {_} h => by cases h
  p := fun {X N sc} G {ks vs} h => by
    cases ks with
    | nil => cases h
    | cons x ks =>
      cases x with
      | none => cases h
      | some x =>
        cases vs with
        | nil => cases h
        | cons y vs =>
          have h : (isE N a sc x && (isE N b sc y && isPs N r sc ks vs)) = true := h
          simp only [Bool.and_eq_true] at h
          obtain ⟨h1, h2, h3⟩ := hr.p G h.2.2
          refine ⟨fun pos => ?_, by rw [List.all_cons, h2]; rfl, by rw [List.length_cons, List.length_cons, h3]⟩
          obtain ⟨trs, q1, q2⟩ := h1 pos
          refine ⟨_, pps_cons WE.pe WE.pe q1, fun env st σ H ρ Q re rs hp => ?_⟩
          have hp2 : match (evalE F a env st).bind fun x s1 => (evalE F b env s1).bind fun y s2 => (evalE F r env s2).bind fun w s3 => match w with | .tup vs => Res.ok (Val.tup (x :: y :: vs)) s3 | _ => .stuck with
            | .ok (Val.tup xs) st' => ∀ (ps : List (V × V)) (H' : Hp) (ρ' : List Addr), Ex ρ ρ' → Gr X.K H H' → RS X.K ρ' H' st' → RVs X.K ρ' H' xs (ps.flatMap fun p => [p.1, p.2]) → Q ps H'
            | _ => False := hp
          clear hp
          cases e1 : evalE F a env st with
          | ok v s1 =>
            rw [e1, bind_ok] at hp2
            cases e2 : evalE F b env s1 with
            | ok u s2 =>
              rw [e2, bind_ok] at hp2
              cases e3 : evalE F r env s2 with
              | ok w s3 =>
                rw [e3, bind_ok] at hp2
                cases w with
                | tup xs =>
                  refine se_use (ha.e G h.1) re rs e1 fun V H1 ρ1 x1 g1 rs1 re1 rv1 => ?_
                  refine se_use (hb.e G h.2.1) re1 rs1 e2 fun U H2 ρ2 x2 g2 rs2 re2 rv2 => ?_
                  refine q2 env s2 σ H2 ρ2 _ re2 rs2 ?_
                  rw [e3]
                  intro ps H3 ρ3 x3 g3 rs3 rv3
                  exact hp2 ((V, U) :: ps) H3 ρ3 (x1.trans (x2.trans x3)) (g1.trans (g2.trans g3)) rs3 (RVs.flat2 (RV.mono (x2.trans x3) (g2.trans g3) _ _ rv1) (RV.mono x3 g3 _ _ rv2) rv3)
                | _ => exact hp2.elim
              | _ => rw [e3] at hp2; exact hp2.elim
            | _ => rw [e2] at hp2; exact hp2.elim
          | _ => rw [e1] at hp2; exact hp2.elim

theorem s_tup {args : CE} (ha : Snd F k args) : Snd F k (.tup args) := by
  refine snd_val (fun {X N sc} G {x} h => ?_) (fun N sc x env h => by cases x <;> first | (intro _; rfl) | cases h) rfl (fun _ _ _ => rfl) (fun _ _ _ _ => rfl)
  intro env st σ H ρ Q re rs hp
  cases x with
  | Tuple es j p =>
    have h : isEs N args sc es = true := h
    obtain ⟨w, s1, e1, hp⟩ := PostV.bnd (r := evalE F args env st) hp
    cases w with
    | tup xs =>
      obtain ⟨hl, hp⟩ := PostV.need hp
      refine of_pe (pe_tup WA.pa) (sa_use (ha.a G h) re rs e1 fun vs H1 ρ1 x1 g1 rs1 re1 rv1 => ⟨by rw [← rv1.length]; exact hl, fun q hq => ?_⟩)
      exact PostV.newT (PostV.mono hp x1 g1) rs1 rv1 hq
    | _ => exact hp.elim
  | _ => cases h
theorem s_lst {args : CE} (ha : Snd F k args) : Snd F k (.lst args) := by
  refine snd_val (fun {X N sc} G {x} h => ?_) (fun N sc x env h => by cases x <;> first | (intro _; rfl) | cases h) rfl (fun _ _ _ => rfl) (fun _ _ _ _ => rfl)
  intro env st σ H ρ Q re rs hp
  cases x with
  | List es p =>
    have h : isEs N args sc es = true := h
    obtain ⟨w, s1, e1, hp⟩ := PostV.bnd (r := evalE F args env st) hp
    cases w with
    | tup xs =>
      obtain ⟨hl, hp⟩ := PostV.need hp
      refine of_pe (pe_lst WA.pa) (sa_use (ha.a G h) re rs e1 fun vs H1 ρ1 x1 g1 rs1 re1 rv1 => ⟨by rw [← rv1.length]; exact hl, fun q hq => ?_⟩)
      exact PostV.newL (PostV.mono hp x1 g1) rs1 rv1 hq
    | _ => exact hp.elim
  | _ => cases h
theorem s_bin {op : Bop} {a b : CE} (ha : Snd F k a) (hb : Snd F k b) : Snd F k (.bin op a b) := by
  refine snd_val (fun {X N sc} G {x} h => ?_) (fun N sc x env h => by cases x <;> first | (intro _; rfl) | cases h) rfl (fun _ _ _ => rfl) (fun _ _ _ _ => rfl)
  intro env st σ H ρ Q re rs hp
  cases x with
  | BinOp y o z p =>
    have h : (decide (o = opOf op) && (isE N a sc y && isE N b sc z)) = true := h
    simp only [Bool.and_eq_true, decide_eq_true_eq] at h
    obtain ⟨h1, h2, h3⟩ := h
    subst h1
    obtain ⟨v, s1, e1, hp⟩ := PostV.bnd (r := evalE F a env st) hp
    obtain ⟨u, s2, e2, hp⟩ := PostV.bnd (r := evalE F b env s1) hp
    refine of_pe (pe_op WOp.r WE.pe WE.pe) (se_use (ha.e G h2) re rs e1 fun V H1 ρ1 x1 g1 rs1 re1 rv1 => ?_)
    refine se_use (hb.e G h3) re1 rs1 e2 fun U H2 ρ2 x2 g2 rs2 re2 rv2 => ?_
    exact bin_ok rs2 (RV.mono x2 g2 _ _ rv1) rv2 (hp.mono (x1.trans x2) (g1.trans g2))
  | _ => cases h
theorem s_neg {a : CE} (ha : Snd F k a) : Snd F k (.neg a) := by
  refine snd_val (fun {X N sc} G {x} h => ?_) (fun N sc x env h => ?_) rfl (fun _ _ _ => rfl) (fun _ _ _ _ => rfl)
  · intro env st σ H ρ Q re rs hp
    cases x with
    | UnaryOp o y p =>
      cases o with
      | USub =>
        have h : isE N a sc y = true := h
        obtain ⟨v, s1, e1, hp⟩ := PostV.bnd (r := evalE F a env st) hp
        refine of_pe (pe_un un_neg WE.pe) (se_use (ha.e G h) re rs e1 fun V H1 ρ1 x1 g1 rs1 re1 rv1 => ?_)
        cases rv1 with
        | int i => exact ⟨i, rfl, PostV.here (PostV.mono hp x1 g1) rs1 (.int _)⟩
        | _ => exact hp.elim
      | _ => cases h
    | _ => cases h
  · cases x with
    | UnaryOp o y p =>
      cases o with
      | USub => intro _; rfl
      | _ => cases h
    | _ => cases h
theorem s_cmp {op : Cop} {a b : CE} (ha : Snd F k a) (hb : Snd F k b) : Snd F k (.cmp op a b) := by
  have main : ∀ {X : Cx} {N : List Str} {sc : Scope} (G : Good X N sc F k) {x : Expr}, isE N (.cmp op a b) sc x = true → ∃ y z p, x = .Compare y [cmpOf op] [z] p ∧ plainX z = true ∧ isE N a sc y = true ∧ isE N b sc z = true := by
    intro X N sc G x h
    cases x with
    | Compare y os zs p =>
      match os, zs, h with
      | [o], [z], h =>
        have h : (decide (o = cmpOf op) && (plainX z && (isE N a sc y && isE N b sc z))) = true := h
        simp only [Bool.and_eq_true, decide_eq_true_eq] at h
        obtain ⟨h1, h2, h3, h4⟩ := h
        subst h1
        exact ⟨y, z, p, rfl, h2, h3, h4⟩
      | [], _, h => cases h
      | _ :: _ :: _, _, h => cases h
      | [_], [], h => cases h
      | [_], _ :: _ :: _, h => cases h
    | _ => cases h
  refine ⟨fun {X N sc} G {x} h => ?_, fun {X N sc} G {x} h => ?_, fun {_ _ _} G {_} h z => (by cases z), fun {_ _ _} G {_} h => (by cases h), fun {_ _ _} G {_ _} h => (by cases h)⟩
  · obtain ⟨y, z, p, rfl, h2, h3, h4⟩ := main G h
    intro env st σ H ρ Q re rs hp
    obtain ⟨v, s1, e1, hp⟩ := PostV.bnd (r := evalE F a env st) hp
    obtain ⟨u, s2, e2, hp⟩ := PostV.bnd (r := evalE F b env s1) hp
    refine of_pe (pe_cmpR WOp.r WE.pe WE.pe (plain_mark h2)) (se_use (ha.e G h3) re rs e1 fun V H1 ρ1 x1 g1 rs1 re1 rv1 => ?_)
    refine se_use (hb.e G h4) re1 rs1 e2 fun U H2 ρ2 x2 g2 rs2 re2 rv2 => ?_
    exact cmp_ok G.units rs2 (RV.mono x2 g2 _ _ rv1) rv2 (hp.mono (x1.trans x2) (g1.trans g2))
  · obtain ⟨y, z, p, rfl, h2, h3, h4⟩ := main G h
    intro env st σ H ρ Q re rs hp
    obtain ⟨r, s3, e0, hp⟩ := hp.bnd
    obtain ⟨v, s1, e1, e0⟩ := bind_eq_ok (r := evalE F a env st) e0
    obtain ⟨u, s2, e2, e0⟩ := bind_eq_ok (r := evalE F b env s1) e0
    refine of_pt (pt_cmpR WOp.r WE.pe WE.pe (plain_mark h2)) (se_use (ha.e G h3) re rs e1 fun V H1 ρ1 x1 g1 rs1 re1 rv1 => ?_)
    refine se_use (hb.e G h4) re1 rs1 e2 fun U H2 ρ2 x2 g2 rs2 re2 rv2 => ?_
    refine cmp_ok G.units rs2 (RV.mono x2 g2 _ _ rv1) rv2 ?_
    rw [e0]
    obtain ⟨c, t1, hp⟩ := testV_ok hp
    intro W H3 ρ3 x3 g3 rs3 rv3
    have cb : ∃ d, r = .bool d := by
      have q : cmpop op v u s2 = .ok r s3 := e0
      unfold cmpop optB at q
      repeat' split at q
      all_goals first | (cases q; done) | (cases q; exact ⟨_, rfl⟩)
    obtain ⟨d, rfl⟩ := cb
    cases rv3
    cases t1
    exact ⟨_, rfl, hp H3 ρ3 (x1.trans (x2.trans x3)) (g1.trans (g2.trans g3)) rs3⟩
theorem cmp_bool {op : Cop} {v u r : Val} {s2 s3 : Store} (q : cmpop op v u s2 = .ok r s3) : ∃ d, r = .bool d := by
  unfold cmpop optB at q
  repeat' split at q
  all_goals first | (cases q; done) | (cases q; exact ⟨_, rfl⟩)
theorem s_chain {op op' : Cop} {a b c : CE} (ha : Snd F k a) (hb : Snd F k b) (hc : Snd F k c) : Snd F k (.chain op op' a b c) := by
  have main : ∀ {X : Cx} {N : List Str} {sc : Scope} (G : Good X N sc F k) {x : Expr}, isE N (.chain op op' a b c) sc x = true → ∃ y z w p, x = .Compare y [cmpOf op, cmpOf op'] [z, w] p ∧ plainX w = true ∧ isE N a sc y = true ∧ isE N b sc z = true ∧ isE N c sc w = true := by
    intro X N sc G x h
    cases x with
    | Compare y os zs p =>
      match os, zs, h with
      | [o, o'], [z, w], h =>
        have h : (decide (o = cmpOf op) && (decide (o' = cmpOf op') && (plainX w && (isE N a sc y && (isE N b sc z && isE N c sc w))))) = true := h
        simp only [Bool.and_eq_true, decide_eq_true_eq] at h
        obtain ⟨h1, h1', h2, h3, h4, h5⟩ := h
        subst h1 h1'
        exact ⟨y, z, w, p, rfl, h2, h3, h4, h5⟩
      | [], _, h => cases h
      | [_], _, h => cases h
      | _ :: _ :: _ :: _, _, h => cases h
      | [_, _], [], h => cases h
      | [_, _], [_], h => cases h
      | [_, _], _ :: _ :: _ :: _, h => cases h
    | _ => cases h
  refine ⟨fun {X N sc} G {x} h => ?_, fun {X N sc} G {x} h => ?_, fun {_ _ _} G {_} h z => (by cases z), fun {_ _ _} G {_} h => (by cases h), fun {_ _ _} G {_ _} h => (by cases h)⟩
  · obtain ⟨y, z, w, p, rfl, h2, h3, h4, h5⟩ := main G h
    intro env st σ H ρ Q re rs hp
    obtain ⟨v, s1, e1, hp⟩ := PostV.bnd (r := evalE F a env st) hp
    obtain ⟨u, s2, e2, hp⟩ := PostV.bnd (r := evalE F b env s1) hp
    obtain ⟨r, s3, e3, hp⟩ := PostV.bnd (r := cmpop op v u s2) hp
    refine of_pe (pe_chain WOp.r WOp.r WE.pe WE.pe WE.pe (plain_mark h2)) (se_use (ha.e G h3) re rs e1 fun V H1 ρ1 x1 g1 rs1 re1 rv1 => ?_)
    refine se_use (hb.e G h4) re1 rs1 e2 fun U H2 ρ2 x2 g2 rs2 re2 rv2 => ?_
    refine cmp_ok G.units rs2 (RV.mono x2 g2 _ _ rv1) rv2 ?_
    rw [e3]
    intro W H3 ρ3 x3 g3 rs3 rv3
    obtain ⟨d, rfl⟩ := cmp_bool e3
    cases rv3
    refine ⟨d, rfl, ?_⟩
    cases d with
    | false => exact PostV.here (PostV.mono hp (x1.trans (x2.trans x3)) (g1.trans (g2.trans g3))) rs3 (.bool _)
    | true =>
      obtain ⟨t, s4, e4, hp⟩ := PostV.bnd (r := evalE F c env s3) hp
      show WE X w σ H3 _
      refine se_use (hc.e G h5) (re2.mono x3 g3) rs3 e4 fun T H4 ρ4 x4 g4 rs4 re4 rv4 => ?_
      exact cmp_ok G.units rs4 (RV.mono (x3.trans x4) (g3.trans g4) _ _ rv2) rv4 (hp.mono (x1.trans (x2.trans (x3.trans x4))) (g1.trans (g2.trans (g3.trans g4))))
  · obtain ⟨y, z, w, p, rfl, h2, h3, h4, h5⟩ := main G h
    intro env st σ H ρ Q re rs hp
    obtain ⟨r0, s5, e0, hp⟩ := hp.bnd
    obtain ⟨v, s1, e1, e0⟩ := bind_eq_ok (r := evalE F a env st) e0
    obtain ⟨u, s2, e2, e0⟩ := bind_eq_ok (r := evalE F b env s1) e0
    obtain ⟨r, s3, e3, e0⟩ := bind_eq_ok (r := cmpop op v u s2) e0
    refine of_pt (pt_chain WOp.r WOp.r WE.pe WE.pe WE.pe (plain_mark h2)) (se_use (ha.e G h3) re rs e1 fun V H1 ρ1 x1 g1 rs1 re1 rv1 => ?_)
    refine se_use (hb.e G h4) re1 rs1 e2 fun U H2 ρ2 x2 g2 rs2 re2 rv2 => ?_
    refine cmp_ok G.units rs2 (RV.mono x2 g2 _ _ rv1) rv2 ?_
    rw [e3]
    intro W H3 ρ3 x3 g3 rs3 rv3
    obtain ⟨d, rfl⟩ := cmp_bool e3
    cases rv3
    refine ⟨d, rfl, ?_⟩
    cases d with
    | false =>
      cases e0
      obtain ⟨c', t1, hp⟩ := testV_ok hp
      cases t1
      exact ⟨false, rfl, hp H3 ρ3 (x1.trans (x2.trans x3)) (g1.trans (g2.trans g3)) rs3⟩
    | true =>
      obtain ⟨t, s4, e4, e0⟩ := bind_eq_ok (r := evalE F c env s3) e0
      show WE X w σ H3 _
      refine se_use (hc.e G h5) (re2.mono x3 g3) rs3 e4 fun T H4 ρ4 x4 g4 rs4 re4 rv4 => ?_
      refine cmp_ok G.units rs4 (RV.mono (x3.trans x4) (g3.trans g4) _ _ rv2) rv4 ?_
      rw [e0]
      obtain ⟨d', rfl⟩ := cmp_bool e0
      obtain ⟨c', t1, hp⟩ := testV_ok hp
      cases t1
      intro W5 H5 ρ5 x5 g5 rs5 rv5
      cases rv5
      exact ⟨d', rfl, hp H5 ρ5 (x1.trans (x2.trans (x3.trans (x4.trans x5)))) (g1.trans (g2.trans (g3.trans (g4.trans g5)))) rs5⟩
end
end Ev

set_option Elab.async false
set_option linter.all false
set_option maxRecDepth 100000
set_option maxHeartbeats 4000000
/-! ## Soundness of expressions, further constructs -/
namespace Ev
open PySem PySem.Spec PyProof.Rows L2
section
variable {F : Fns} {k : Nat}
theorem s_and1 {a : CE} (ha : Snd F k a) : Snd F k (.and1 a) := by
  have main : ∀ {N : List Str} {sc : Scope} {x : Expr}, isE N (.and1 a) sc x = true → ∃ y p, x = .BoolOp .And [y] p ∧ isE N a sc y = true := by
    intro N sc x h
    cases x with
    | BoolOp o ys p =>
      match o, ys, h with
      | .And, [y], h => exact ⟨y, p, rfl, h⟩
      | .And, [], h => cases h
      | .And, _ :: _ :: _, h => cases h
      | .Or, _, h => cases h
    | _ => cases h
  have w : ∀ {X : Cx} {N : List Str} {sc : Scope} (G : Good X N sc F k) {x : Expr}, isE N (.and1 a) sc x = true → SW X F (.and1 a) x := by
    intro X N sc G x h
    obtain ⟨y, p, rfl, h1⟩ := main h
    intro env st σ H ρ Q re rs hp
    exact of_pw (pw_and1 WT.pt) (ha.t G h1 env st σ H ρ Q re rs hp)
  refine ⟨fun {X N sc} G {x} h => ?_, fun {X N sc} G {x} h env st σ H ρ Q re rs hp => of_pt (WW.pw.pt) (w G h env st σ H ρ Q re rs hp), fun {X N sc} G {x} h _ => w G h, fun {_ _ _} G {_} h => (by cases h), fun {_ _ _} G {_ _} h => (by cases h)⟩
  obtain ⟨y, p, rfl, h1⟩ := main h
  intro env st σ H ρ Q re rs hp
  exact of_pe (pe_one WE.pe) (ha.e G h1 env st σ H ρ Q re rs hp)
theorem s_or1 {a : CE} (ha : Snd F k a) : Snd F k (.or1 a) := by
  have main : ∀ {N : List Str} {sc : Scope} {x : Expr}, isE N (.or1 a) sc x = true → ∃ y p, x = .BoolOp .Or [y] p ∧ isE N a sc y = true := by
    intro N sc x h
    cases x with
    | BoolOp o ys p =>
      match o, ys, h with
      | .Or, [y], h => exact ⟨y, p, rfl, h⟩
      | .Or, [], h => cases h
      | .Or, _ :: _ :: _, h => cases h
      | .And, _, h => cases h
    | _ => cases h
  have w : ∀ {X : Cx} {N : List Str} {sc : Scope} (G : Good X N sc F k) {x : Expr}, isE N (.or1 a) sc x = true → SW X F (.or1 a) x := by
    intro X N sc G x h
    obtain ⟨y, p, rfl, h1⟩ := main h
    intro env st σ H ρ Q re rs hp
    exact of_pw (pw_or1 WT.pt) (ha.t G h1 env st σ H ρ Q re rs hp)
  refine ⟨fun {X N sc} G {x} h => ?_, fun {X N sc} G {x} h env st σ H ρ Q re rs hp => of_pt (WW.pw.pt) (w G h env st σ H ρ Q re rs hp), fun {X N sc} G {x} h _ => w G h, fun {_ _ _} G {_} h => (by cases h), fun {_ _ _} G {_ _} h => (by cases h)⟩
  obtain ⟨y, p, rfl, h1⟩ := main h
  intro env st σ H ρ Q re rs hp
  exact of_pe (pe_one WE.pe) (ha.e G h1 env st σ H ρ Q re rs hp)
theorem s_and2 {a r : CE} (ha : Snd F k a) (hr : Snd F k r) : Snd F k (.and2 a r) := by
  have main : ∀ {N : List Str} {sc : Scope} {x : Expr}, isE N (.and2 a r) sc x = true → ∃ y z rest p, x = .BoolOp .And (y :: z :: rest) p ∧ isAndC r = true ∧ isE N a sc y = true ∧ isE N r sc (.BoolOp .And (z :: rest) p) = true := by
    intro N sc x h
    cases x with
    | BoolOp o ys p =>
      match o, ys, h with
      | .And, y :: z :: rest, h =>
        have h : (isAndC r && (isE N a sc y && isE N r sc (.BoolOp .And (z :: rest) p))) = true := h
        simp only [Bool.and_eq_true] at h
        exact ⟨y, z, rest, p, rfl, h.1, h.2.1, h.2.2⟩
      | .And, [], h => cases h
      | .And, [_], h => cases h
      | .Or, _, h => cases h
    | _ => cases h
  have w : ∀ {X : Cx} {N : List Str} {sc : Scope} (G : Good X N sc F k) {x : Expr}, isE N (.and2 a r) sc x = true → SW X F (.and2 a r) x := by
    intro X N sc G x h
    obtain ⟨y, z, rest, p, rfl, h1, h2, h3⟩ := main h
    intro env st σ H ρ Q re rs hp
    obtain ⟨v0, s0, e0, hp⟩ := hp.bnd
    obtain ⟨v, s1, e1, e0⟩ := bind_eq_ok (r := evalE F a env st) e0
    refine of_pw (pw_and WT.pt WW.pw) ?_
    cases v with
    | bool c =>
      refine st_use (ha.t G h2) re rs e1 (b := c) rfl fun H1 ρ1 x1 g1 rs1 re1 => ?_
      cases c with
      | true =>
        have e0 : evalE F r env s1 = .ok v0 s0 := e0
        show WW X _ σ H1 Q
        refine hr.w G h3 (by rw [h1]; rfl) env s1 σ H1 ρ1 Q re1 rs1 ?_
        rw [e0]
        exact hp.mono x1 g1
      | false =>
        cases e0
        obtain ⟨b, t1, hp⟩ := testV_ok hp
        cases t1
        exact hp H1 ρ1 x1 g1 rs1
    | _ => cases e0
  refine ⟨fun {X N sc} G {x} h => ?_, fun {X N sc} G {x} h env st σ H ρ Q re rs hp => of_pt (WW.pw.pt) (w G h env st σ H ρ Q re rs hp), fun {X N sc} G {x} h _ => w G h, fun {_ _ _} G {_} h => (by cases h), fun {_ _ _} G {_ _} h => (by cases h)⟩
  obtain ⟨y, z, rest, p, rfl, h1, h2, h3⟩ := main h
  intro env st σ H ρ Q re rs hp
  obtain ⟨v, s1, e1, hp⟩ := PostV.bnd (r := evalE F a env st) hp
  refine of_pe (pe_and WE.pe WE.pe) (se_use (ha.e G h2) re rs e1 fun V H1 ρ1 x1 g1 rs1 re1 rv1 => ?_)
  cases rv1 with
  | bool c =>
    refine ⟨c, rfl, ?_⟩
    cases c with
    | true => exact hr.e G h3 env s1 σ H1 ρ1 Q re1 rs1 (PostV.mono hp x1 g1)
    | false => exact PostV.here (PostV.mono hp x1 g1) rs1 (.bool _)
  | _ => exact hp.elim
theorem s_or2 {a r : CE} (ha : Snd F k a) (hr : Snd F k r) : Snd F k (.or2 a r) := by
  have main : ∀ {N : List Str} {sc : Scope} {x : Expr}, isE N (.or2 a r) sc x = true → ∃ y z rest p, x = .BoolOp .Or (y :: z :: rest) p ∧ isOrC r = true ∧ isE N a sc y = true ∧ isE N r sc (.BoolOp .Or (z :: rest) p) = true := by
    intro N sc x h
    cases x with
    | BoolOp o ys p =>
      match o, ys, h with
      | .Or, y :: z :: rest, h =>
        have h : (isOrC r && (isE N a sc y && isE N r sc (.BoolOp .Or (z :: rest) p))) = true := h
        simp only [Bool.and_eq_true] at h
        exact ⟨y, z, rest, p, rfl, h.1, h.2.1, h.2.2⟩
      | .Or, [], h => cases h
      | .Or, [_], h => cases h
      | .And, _, h => cases h
    | _ => cases h
  have w : ∀ {X : Cx} {N : List Str} {sc : Scope} (G : Good X N sc F k) {x : Expr}, isE N (.or2 a r) sc x = true → SW X F (.or2 a r) x := by
    intro X N sc G x h
    obtain ⟨y, z, rest, p, rfl, h1, h2, h3⟩ := main h
    intro env st σ H ρ Q re rs hp
    obtain ⟨v0, s0, e0, hp⟩ := hp.bnd
    obtain ⟨v, s1, e1, e0⟩ := bind_eq_ok (r := evalE F a env st) e0
    refine of_pw (pw_or WT.pt WW.pw) ?_
    cases v with
    | bool c =>
      refine st_use (ha.t G h2) re rs e1 (b := c) rfl fun H1 ρ1 x1 g1 rs1 re1 => ?_
      cases c with
      | false =>
        have e0 : evalE F r env s1 = .ok v0 s0 := e0
        show WW X _ σ H1 Q
        refine hr.w G h3 (by rw [h1, Bool.or_true]) env s1 σ H1 ρ1 Q re1 rs1 ?_
        rw [e0]
        exact hp.mono x1 g1
      | true =>
        cases e0
        obtain ⟨b, t1, hp⟩ := testV_ok hp
        cases t1
        exact hp H1 ρ1 x1 g1 rs1
    | _ => cases e0
  refine ⟨fun {X N sc} G {x} h => ?_, fun {X N sc} G {x} h env st σ H ρ Q re rs hp => of_pt (WW.pw.pt) (w G h env st σ H ρ Q re rs hp), fun {X N sc} G {x} h _ => w G h, fun {_ _ _} G {_} h => (by cases h), fun {_ _ _} G {_ _} h => (by cases h)⟩
  obtain ⟨y, z, rest, p, rfl, h1, h2, h3⟩ := main h
  intro env st σ H ρ Q re rs hp
  obtain ⟨v, s1, e1, hp⟩ := PostV.bnd (r := evalE F a env st) hp
  refine of_pe (pe_or WE.pe WE.pe) (se_use (ha.e G h2) re rs e1 fun V H1 ρ1 x1 g1 rs1 re1 rv1 => ?_)
  cases rv1 with
  | bool c =>
    refine ⟨c, rfl, ?_⟩
    cases c with
    | false => exact hr.e G h3 env s1 σ H1 ρ1 Q re1 rs1 (PostV.mono hp x1 g1)
    | true => exact PostV.here (PostV.mono hp x1 g1) rs1 (.bool _)
  | _ => exact hp.elim
theorem testV_eq {v : Val} {s1 s2 : Store} {b : Bool} (e2 : testV v s1 = .ok b s2) : truth s1 v = some b ∧ s2 = s1 := by
  unfold testV at e2
  split at e2
  · cases e2; exact ⟨by assumption, rfl⟩
  · cases e2
theorem s_not {a : CE} (ha : Snd F k a) : Snd F k (.not_ a) := by
  have main : ∀ {N : List Str} {sc : Scope} {x : Expr}, isE N (.not_ a) sc x = true → ∃ y p, x = .UnaryOp .Not y p ∧ isE N a sc y = true := by
    intro N sc x h
    cases x with
    | UnaryOp o y p =>
      cases o with
      | Not => exact ⟨y, p, rfl, h⟩
      | _ => cases h
    | _ => cases h
  refine ⟨fun {X N sc} G {x} h => ?_, fun {X N sc} G {x} h => ?_, fun {_ _ _} G {_} h z => (by cases z), fun {_ _ _} G {_} h => (by cases h), fun {_ _ _} G {_ _} h => (by cases h)⟩
  · obtain ⟨y, p, rfl, h1⟩ := main h
    intro env st σ H ρ Q re rs hp
    obtain ⟨v, s1, e1, hp1⟩ := PostV.bnd (r := evalE F a env st) hp
    obtain ⟨b, s2, e2, hp2⟩ := PostV.bnd (r := testV v s1) hp1
    obtain ⟨e3, e4⟩ := testV_eq e2
    rw [e4] at hp2
    refine of_pe (pe_notT (WE.pe (e := y))) (se_use (ha.e G h1) re rs e1 fun V H1 ρ1 x1 g1 rs1 re1 rv1 => ?_)
    exact ⟨b, truth_ok rs1 rv1 e3, PostV.here (PostV.mono hp2 x1 g1) rs1 (.bool _)⟩
  · obtain ⟨y, p, rfl, h1⟩ := main h
    intro env st σ H ρ Q re rs hp
    obtain ⟨w, s0, e0, hp1⟩ := hp.bnd
    obtain ⟨v, s1, e1, e00⟩ := bind_eq_ok (r := evalE F a env st) e0
    obtain ⟨b, s2, e2, e01⟩ := bind_eq_ok (r := testV v s1) e00
    obtain ⟨e3, e4⟩ := testV_eq e2
    cases e01
    obtain ⟨c, t1, hp2⟩ := testV_ok hp1
    cases t1
    rw [e4] at hp2
    refine of_pt (pt_not WT.pt) (st_use (ha.t G h1) re rs e1 e3 fun H1 ρ1 x1 g1 rs1 re1 => ?_)
    exact hp2 H1 ρ1 x1 g1 rs1
theorem pt_ifExp {X : Cx} {c a b : Expr} {p : Pos} {tc ta tb : TT} (hc : PT X c tc) (ha : PT X a ta) (hb : PT X b tb) : PT X (.IfExp c a b p) (fun σ H Q => tc σ H fun d H1 => if d = true then ta σ H1 Q else tb σ H1 Q) := by
  refine ⟨fun pins s σ H Q I h => ?_⟩
  refine isTrue_IfExp (thn (hc.run pins s σ H _ I h) fun d s1 ⟨H1, I1, q1⟩ => ?_)
  cases d with
  | true => exact ha.run pins s1 σ H1 Q I1 q1
  | false => exact hb.run pins s1 σ H1 Q I1 q1
theorem s_ifx {c a b : CE} (hc : Snd F k c) (ha : Snd F k a) (hb : Snd F k b) : Snd F k (.ifx c a b) := by
  have main : ∀ {N : List Str} {sc : Scope} {x : Expr}, isE N (.ifx c a b) sc x = true → ∃ z y w p, x = .IfExp z y w p ∧ isE N c sc z = true ∧ isE N a sc y = true ∧ isE N b sc w = true := by
    intro N sc x h
    cases x with
    | IfExp z y w p =>
      have h : (isE N c sc z && (isE N a sc y && isE N b sc w)) = true := h
      simp only [Bool.and_eq_true] at h
      exact ⟨z, y, w, p, rfl, h.1, h.2.1, h.2.2⟩
    | _ => cases h
  refine ⟨fun {X N sc} G {x} h => ?_, fun {X N sc} G {x} h => ?_, fun {_ _ _} G {_} h z => (by cases z), fun {_ _ _} G {_} h => (by cases h), fun {_ _ _} G {_ _} h => (by cases h)⟩
  · obtain ⟨z, y, w, p, rfl, h1, h2, h3⟩ := main h
    intro env st σ H ρ Q re rs hp
    obtain ⟨v, s1, e1, hp⟩ := PostV.bnd (r := evalE F c env st) hp
    obtain ⟨t, s2, e2, hp⟩ := PostV.bnd (r := testV v s1) hp
    obtain ⟨e3, rfl⟩ := testV_eq e2
    refine of_pe (pe_ifExp WT.pt WE.pe WE.pe) (st_use (hc.t G h1) re rs e1 e3 fun H1 ρ1 x1 g1 rs1 re1 => ?_)
    cases t with
    | true => exact ha.e G h2 env _ σ H1 ρ1 Q re1 rs1 (PostV.mono hp x1 g1)
    | false => exact hb.e G h3 env _ σ H1 ρ1 Q re1 rs1 (PostV.mono hp x1 g1)
  · obtain ⟨z, y, w, p, rfl, h1, h2, h3⟩ := main h
    intro env st σ H ρ Q re rs hp
    obtain ⟨u, s0, e0, hp⟩ := hp.bnd
    obtain ⟨v, s1, e1, e0⟩ := bind_eq_ok (r := evalE F c env st) e0
    obtain ⟨t, s2, e2, e0⟩ := bind_eq_ok (r := testV v s1) e0
    obtain ⟨e3, rfl⟩ := testV_eq e2
    refine of_pt (pt_ifExp WT.pt WT.pt WT.pt) (st_use (hc.t G h1) re rs e1 e3 fun H1 ρ1 x1 g1 rs1 re1 => ?_)
    cases t with
    | true =>
      have e0 : evalE F a env _ = .ok u s0 := e0
      refine ha.t G h2 env _ σ H1 ρ1 Q re1 rs1 ?_
      rw [e0]; exact hp.mono x1 g1
    | false =>
      have e0 : evalE F b env _ = .ok u s0 := e0
      refine hb.t G h3 env _ σ H1 ρ1 Q re1 rs1 ?_
      rw [e0]; exact hp.mono x1 g1
theorem s_ix {a i : CE} (ha : Snd F k a) (hi : Snd F k i) : Snd F k (.ix a i) := by
  refine snd_val (fun {X N sc} G {x} h => ?_) (fun N sc x env h => by cases x <;> first | (intro _; rfl) | cases h) rfl (fun _ _ _ => rfl) (fun _ _ _ _ => rfl)
  intro env st σ H ρ Q re rs hp
  cases x with
  | Subscript y z p =>
    have h : (plainX z && (isE N a sc y && isE N i sc z)) = true := h
    simp only [Bool.and_eq_true] at h
    obtain ⟨h1, h2, h3⟩ := h
    obtain ⟨v, s1, e1, hp⟩ := PostV.bnd (r := evalE F a env st) hp
    obtain ⟨u, s2, e2, hp⟩ := PostV.bnd (r := evalE F i env s1) hp
    refine of_pe (pe_ix WIx.r WE.pe WE.pe (plain_ix h1)) (se_use (ha.e G h2) re rs e1 fun V H1 ρ1 x1 g1 rs1 re1 rv1 => ?_)
    refine se_use (hi.e G h3) re1 rs1 e2 fun U H2 ρ2 x2 g2 rs2 re2 rv2 => ?_
    exact ix_ok G.units rs2 (RV.mono x2 g2 _ _ rv1) rv2 (hp.mono (x1.trans x2) (g1.trans g2))
  | _ => cases h
/-- a slice's bound -/
theorem part_use {X : Cx} {N : List Str} {sc : Scope} (G : Good X N sc F k) {c : CE} (hc : Snd F k c) {l : Option Expr}
    (h : isOpt (isNil c) (isE N c sc) l = true) {env : Env} {st s1 : Store} {i : Option Int} {σ : L2.St} {H : Hp} {ρ : List Addr} {Q : Option Int → Hp → Prop}
    (re : RE X.K ρ H env σ) (rs : RS X.K ρ H st) (e1 : (if isNil c = true then Res.ok none st else (evalE F c env st).bind part) = .ok i s1)
    (hq : ∀ H' ρ', Ex ρ ρ' → Gr X.K H H' → RS X.K ρ' H' s1 → RE X.K ρ' H' env σ → Q i H') : ∃ t, PO X l t ∧ t σ H Q := by
  cases l with
  | none =>
    have h : isNil c = true := h
    rw [if_pos h] at e1
    cases e1
    exact ⟨_, po_none, hq H ρ Ex.refl Gr.refl rs re⟩
  | some l =>
    have h : isE N c sc l = true := h
    have e2 : (evalE F c env st).bind part = .ok i s1 := by
      cases c with
      | nil => cases h
      | _ => exact e1
    obtain ⟨v, s2, e3, e4⟩ := bind_eq_ok e2
    refine ⟨_, po_some WE.pe, se_use (hc.e G h) re rs e3 fun V H1 ρ1 x1 g1 rs1 re1 rv1 => ?_⟩
    cases rv1 with
    | int j => cases e4; exact ⟨j, rfl, hq H1 ρ1 x1 g1 rs1 re1⟩
    | _ => cases e4
/-- the weakest reading of a bound -/
def WO (X : Cx) (e : Option Expr) : TO := fun σ H Q => ∃ t, PO X e t ∧ t σ H Q
theorem WO.po {X : Cx} {e : Option Expr} : PO X e (WO X e) := ⟨fun pins s σ H Q I h => by obtain ⟨t, p, q⟩ := h; exact p.run pins s σ H Q I q⟩
theorem s_slice {a lo hi : CE} (ha : Snd F k a) (hl : Snd F k lo) (hh : Snd F k hi) : Snd F k (.slice a lo hi) := by
  refine snd_val (fun {X N sc} G {x} h => ?_) (fun N sc x env h => by cases x <;> first | (intro _; rfl) | cases h) rfl (fun _ _ _ => rfl) (fun _ _ _ _ => rfl)
  intro env st σ H ρ Q re rs hp
  cases x with
  | Subscript y z p =>
    cases z with
    | Slice l u stp q =>
      cases stp with
      | none =>
        have h : (isE N a sc y && (isOpt (isNil lo) (isE N lo sc) l && isOpt (isNil hi) (isE N hi sc) u)) = true := h
        simp only [Bool.and_eq_true] at h
        obtain ⟨h1, h2, h3⟩ := h
        obtain ⟨v, s1, e1, hp⟩ := PostV.bnd (r := evalE F a env st) hp
        obtain ⟨i, s2, e2, hp⟩ := PostV.bnd (r := (if isNil lo = true then Res.ok none s1 else (evalE F lo env s1).bind part)) hp
        obtain ⟨j, s3, e3, hp⟩ := PostV.bnd (r := (if isNil hi = true then Res.ok none s2 else (evalE F hi env s2).bind part)) hp
        refine of_pe (pe_slice WSl.r WE.pe WO.po WO.po) (se_use (ha.e G h1) re rs e1 fun V H1 ρ1 x1 g1 rs1 re1 rv1 => ?_)
        refine part_use G hl h2 re1 rs1 e2 fun H2 ρ2 x2 g2 rs2 re2 => ?_
        refine part_use G hh h3 re2 rs2 e3 fun H3 ρ3 x3 g3 rs3 re3 => ?_
        exact sl_ok rs3 (RV.mono (x2.trans x3) (g2.trans g3) _ _ rv1) (PostV.mono hp (x1.trans (x2.trans x3)) (g1.trans (g2.trans g3)))
      | some _ => cases h
    | _ => cases h
  | _ => cases h
theorem s_call {f : Str} {args : CE} (ha : Snd F k args) : Snd F k (.call f args) := by
  have main : ∀ {N : List Str} {sc : Scope} {x : Expr}, isE N (.call f args) sc x = true → ∃ p es q, x = .Call (.Name f p) es [] q ∧ glB sc f = true ∧ okNm f = true ∧ isEs N args sc es = true := by
    intro N sc x h
    cases x with
    | Call fn es kw q =>
      match fn, kw, h with
      | .Name y p, [], h =>
        have h : (decide (y = f) && (glB sc y && (okNm y && isEs N args sc es))) = true := h
        simp only [Bool.and_eq_true, decide_eq_true_eq] at h
        obtain ⟨h1, h2, h3, h4⟩ := h
        subst h1
        exact ⟨p, es, q, rfl, h2, h3, h4⟩
      | .Name _ _, _ :: _, h => cases h
      | .BoolOp _ _ _, _, h | .NamedExpr _ _ _, _, h | .BinOp _ _ _ _, _, h | .UnaryOp _ _ _, _, h | .Lambda _ _ _ _, _, h | .IfExp _ _ _ _, _, h | .Dict _ _ _, _, h | .Set _ _ _, _, h | .ListComp _ _ _ _, _, h | .SetComp _ _ _ _, _, h | .DictComp _ _ _ _ _, _, h | .GeneratorExp _ _ _ _, _, h | .Await _ _, _, h | .Yield _ _, _, h | .YieldFrom _ _, _, h | .Compare _ _ _ _, _, h | .Call _ _ _ _, _, h | .FormattedValue _ _ _ _, _, h | .JoinedStr _ _, _, h | .Constant _ _ _, _, h | .Attribute _ _ _, _, h | .Subscript _ _ _, _, h | .Starred _ _, _, h | .List _ _, _, h | .Tuple _ _ _, _, h | .Slice _ _ _ _, _, h => cases h
    | _ => cases h
  refine snd_val (fun {X N sc} G {x} h => ?_) (fun N sc x env h => by obtain ⟨p, es, q, rfl, _⟩ := main h; intro _; rfl) rfl (fun _ _ _ => rfl) (fun _ _ _ _ => rfl)
  obtain ⟨p, es, q, rfl, h2, h3, h4⟩ := main h
  intro env st σ H ρ Q re rs hp
  obtain ⟨w, s1, e1, hp⟩ := PostV.bnd (r := evalE F args env st) hp
  cases w with
  | tup xs =>
    have hp : PostV X.K ρ H (F.fn f xs s1) Q := hp
    have hok : ∃ args st v s', F.fn f args st = .ok v s' := by
      cases e : F.fn f xs s1 with
      | ok v s' => exact ⟨xs, s1, v, s', e⟩
      | _ => rw [e] at hp; exact hp.elim
    obtain ⟨a, fd, ps, m1, m2, m3, m4⟩ := G.fns f hok
    have pl := isEs_plain h4
    have use : WA X es σ H (fun vs H1 => spOf X.K F f (vs ++ []) H1 Q E0) := by
      refine sa_use (ha.a G h4) re rs e1 fun vs H1 ρ1 x1 g1 rs1 re1 rv1 => ?_
      rw [List.append_nil]
      exact ⟨xs, s1, ρ1, rv1, rs1, hp.mono x1 g1⟩
    cases es with
    | nil =>
      refine of_pe (pe_call0 m4 G.room (G.glo h2) m1 m2 m3 .nil pass0 (okNm1 h3)) ?_
      have := use
      cases args with
      | nil =>
        cases e1
        show spOf X.K F f ([] ++ []) H Q E0
        exact ⟨[], st, ρ, .nil, rs, hp⟩
      | cons _ _ => cases h4
      | _ => exact absurd h4 (by simp [isEs])
    | cons y es =>
      rw [List.all_cons, Bool.and_eq_true] at pl
      exact of_pe (pe_call m4 G.room (G.glo h2) m1 m2 m3 .nil pass0 WA.pa (okNm1 h3) (plain_star pl.1) (plain_any pl.2)) use
  | _ => exact hp.elim
theorem s_bi {b : Bi} {args : CE} (ha : Snd F k args) : Snd F k (.bi b args) := by
  have main : ∀ {N : List Str} {sc : Scope} {x : Expr}, isE N (.bi b args) sc x = true → ∃ p e es q, x = .Call (.Name (biName b) p) (e :: es) [] q ∧ glB sc (biName b) = true ∧ isEs N args sc (e :: es) = true := by
    intro N sc x h
    cases x with
    | Call fn es kw q =>
      match fn, kw, h with
      | .Name y p, [], h =>
        have h : (decide (y = biName b) && (glB sc y && (!es.isEmpty && isEs N args sc es))) = true := h
        simp only [Bool.and_eq_true, decide_eq_true_eq] at h
        obtain ⟨h1, h2, h3, h4⟩ := h
        subst h1
        cases es with
        | nil => cases h3
        | cons e es => exact ⟨p, e, es, q, rfl, h2, h4⟩
      | .Name _ _, _ :: _, h => cases h
      | .BoolOp _ _ _, _, h | .NamedExpr _ _ _, _, h | .BinOp _ _ _ _, _, h | .UnaryOp _ _ _, _, h | .Lambda _ _ _ _, _, h | .IfExp _ _ _ _, _, h | .Dict _ _ _, _, h | .Set _ _ _, _, h | .ListComp _ _ _ _, _, h | .SetComp _ _ _ _, _, h | .DictComp _ _ _ _ _, _, h | .GeneratorExp _ _ _ _, _, h | .Await _ _, _, h | .Yield _ _, _, h | .YieldFrom _ _, _, h | .Compare _ _ _ _, _, h | .Call _ _ _ _, _, h | .FormattedValue _ _ _ _, _, h | .JoinedStr _ _, _, h | .Constant _ _ _, _, h | .Attribute _ _ _, _, h | .Subscript _ _ _, _, h | .Starred _ _, _, h | .List _ _, _, h | .Tuple _ _ _, _, h | .Slice _ _ _ _, _, h => cases h
    | _ => cases h
  refine snd_val (fun {X N sc} G {x} h => ?_) (fun N sc x env h => by obtain ⟨p, e, es, q, rfl, _⟩ := main h; intro _; rfl) rfl (fun _ _ _ => rfl) (fun _ _ _ _ => rfl)
  obtain ⟨p, e, es, q, rfl, h2, h4⟩ := main h
  intro env st σ H ρ Q re rs hp
  obtain ⟨w, s1, e1, hp⟩ := PostV.bnd (r := evalE F args env st) hp
  cases w with
  | tup xs =>
    have pl := isEs_plain h4
    rw [List.all_cons, Bool.and_eq_true] at pl
    have use : WA X (e :: es) σ H (fun vs H1 => WCall X (biVal b) vs H1 Q) := by
      refine sa_use (ha.a G h4) re rs e1 fun vs H1 ρ1 x1 g1 rs1 re1 rv1 => ?_
      exact bi_ok G.calm rs1 rv1 (PostV.mono hp x1 g1)
    cases b with
    | len => exact of_pe (pe_callB (id := "len") WCall.r (G.glo h2) (G.free _ (by decide)) PySem.boot_len WA.pa (by decide) (by decide) (plain_star pl.1) (plain_any pl.2)) use
    | abs => exact of_pe (pe_callB (id := "abs") WCall.r (G.glo h2) (G.free _ (by decide)) (by decide +kernel) WA.pa (by decide) (by decide) (plain_star pl.1) (plain_any pl.2)) use
    | max => exact of_pe (pe_callB (id := "max") WCall.r (G.glo h2) (G.free _ (by decide)) (by decide +kernel) WA.pa (by decide) (by decide) (plain_star pl.1) (plain_any pl.2)) use
    | min => exact of_pe (pe_callB (id := "min") WCall.r (G.glo h2) (G.free _ (by decide)) (by decide +kernel) WA.pa (by decide) (by decide) (plain_star pl.1) (plain_any pl.2)) use
    | sum => exact of_pe (pe_callB (id := "sum") WCall.r (G.glo h2) (G.free _ (by decide)) (by decide +kernel) WA.pa (by decide) (by decide) (plain_star pl.1) (plain_any pl.2)) use
    | all => exact of_pe (pe_callB (id := "all") WCall.r (G.glo h2) (G.free _ (by decide)) (by decide +kernel) WA.pa (by decide) (by decide) (plain_star pl.1) (plain_any pl.2)) use
    | int => exact of_pe (pe_callTy (T := "int") WCall.r (G.glo h2) (G.free _ (by decide)) (by decide +kernel) WA.pa (by decide) (by decide) (plain_star pl.1) (plain_any pl.2)) use
    | str => exact of_pe (pe_callTy (T := "str") WCall.r (G.glo h2) (G.free _ (by decide)) (by decide +kernel) WA.pa (by decide) (by decide) (plain_star pl.1) (plain_any pl.2)) use
    | list => exact of_pe (pe_callTy (T := "list") WCall.r (G.glo h2) (G.free _ (by decide)) (by decide +kernel) WA.pa (by decide) (by decide) (plain_star pl.1) (plain_any pl.2)) use
    | tuple => exact of_pe (pe_callTy (T := "tuple") WCall.r (G.glo h2) (G.free _ (by decide)) (by decide +kernel) WA.pa (by decide) (by decide) (plain_star pl.1) (plain_any pl.2)) use
  | _ => exact hp.elim
theorem s_isi {t : Ty} {a : CE} (ha : Snd F k a) : Snd F k (.isi t a) := by
  have main : ∀ {N : List Str} {sc : Scope} {x : Expr}, isE N (.isi t a) sc x = true → ∃ p y p2 q, x = .Call (.Name "isinstance" p) [y, .Name (tyStr t) p2] [] q ∧ glB sc "isinstance" = true ∧ glB sc (tyStr t) = true ∧ plainX y = true ∧ isE N a sc y = true := by
    intro N sc x h
    unfold isE at h
    split at h
    · rename_i x' p y z p2 q
      simp only [Bool.and_eq_true, decide_eq_true_eq] at h
      obtain ⟨h1, h2, h3, h4, h5, h6⟩ := h
      subst h1 h3
      exact ⟨p, y, p2, q, rfl, h2, h4, h5, h6⟩
    · cases h
  refine snd_val (fun {X N sc} G {x} h => ?_) (fun N sc x env h => by obtain ⟨p, y, p2, q, rfl, _⟩ := main h; intro _; rfl) rfl (fun _ _ _ => rfl) (fun _ _ _ _ => rfl)
  obtain ⟨p, y, p2, q, rfl, h1, h2, h3, h4⟩ := main h
  intro env st σ H ρ Q re rs hp
  obtain ⟨v, s1, e1, hp⟩ := PostV.bnd (r := evalE F a env st) hp
  have ty : PE X (.Name (tyStr t) p2) (tC (.ty (tyNm t))) := by
    cases t with
    | int => exact pe_bltn (G.glo h2) (G.free _ (by decide)) (u := .type "int") (by decide +kernel) rfl (by decide) (by decide)
    | bool => exact pe_bltn (G.glo h2) (G.free _ (by decide)) (u := .type "bool") (by decide +kernel) rfl (by decide) (by decide)
    | str => exact pe_bltn (G.glo h2) (G.free _ (by decide)) (u := .type "str") (by decide +kernel) rfl (by decide) (by decide)
    | tuple => exact pe_bltn (G.glo h2) (G.free _ (by decide)) (u := .type "tuple") (by decide +kernel) rfl (by decide) (by decide)
    | list => exact pe_bltn (G.glo h2) (G.free _ (by decide)) (u := .type "list") (by decide +kernel) rfl (by decide) (by decide)
  refine of_pe (pe_callB (id := "isinstance") call_isi (G.glo h1) (G.free _ (by decide)) (by decide +kernel) (pa_cons WE.pe (pa_cons ty pa_nil) (plain_star h3)) (by decide) (by decide) (plain_star h3) (by rfl)) ?_
  refine se_use (ha.e G h4) re rs e1 fun V H1 ρ1 x1 g1 rs1 re1 rv1 => ?_
  cases e2 : isInst t s1 v with
  | none => rw [e2] at hp; exact hp.elim
  | some b =>
    rw [e2] at hp
    exact isi_ok rs1 rv1 e2 (PostV.here (PostV.mono hp x1 g1) rs1 (.bool _))
theorem mt_facts (m : Mt) : PlainAttrs (mtTy m) ∧ Slot (mtTy m) (mtName m) (mtId m) ∧ typeOf (.builtin (mtId m)) = pure (.type "method_descriptor") := by
  cases m with
  | append => exact ⟨PySem.F.plainAttrs_list, PySem.F.slot_list_append, PySem.F.type_list_append⟩
  | extend => exact ⟨PySem.F.plainAttrs_list, PySem.F.slot_list_extend, PySem.F.type_list_extend⟩
  | pop => exact ⟨PySem.F.plainAttrs_list, PySem.F.slot_list_pop, PySem.F.type_list_pop⟩
  | count => exact ⟨PySem.F.plainAttrs_list, PySem.F.slot_list_count, PySem.F.type_list_count⟩
  | index => exact ⟨PySem.F.plainAttrs_list, PySem.F.slot_list_index, PySem.F.type_list_index⟩
  | get => exact ⟨PySem.F.plainAttrs_dict, PySem.F.slot_dict_get, PySem.F.type_dict_get⟩
theorem s_meth {m : Mt} {o args : CE} (ho : Snd F k o) (ha : Snd F k args) : Snd F k (.meth m o args) := by
  have main : ∀ {N : List Str} {sc : Scope} {x : Expr}, isE N (.meth m o args) sc x = true → ∃ y ap es cp, x = .Call (.Attribute y (mtName m) ap) es [] cp ∧ (ap.endLine == cp.line) = true ∧ noSuper y = true ∧ es.length < 20 ∧ isE N o sc y = true ∧ isEs N args sc es = true := by
    intro N sc x h
    unfold isE at h
    split at h
    · rename_i y nm ap es cp
      simp only [Bool.and_eq_true, decide_eq_true_eq] at h
      obtain ⟨h1, h2, h3, h4, h5, h6⟩ := h
      subst h1
      exact ⟨y, ap, es, cp, rfl, h2, h3, h4, h5, h6⟩
    · cases h
  refine snd_val (fun {X N sc} G {x} h => ?_) (fun N sc x env h => by obtain ⟨y, ap, es, cp, rfl, _⟩ := main h; intro _; rfl) rfl (fun _ _ _ => rfl) (fun _ _ _ _ => rfl)
  obtain ⟨y, ap, es, cp, rfl, h1, h2, h3, h4, h5⟩ := main h
  intro env st σ H ρ Q re rs hp
  obtain ⟨v, s1, e1, hp⟩ := PostV.bnd (r := evalE F o env st) hp
  obtain ⟨hk, hp⟩ := PostV.need hp
  obtain ⟨w, s2, e2, hp⟩ := PostV.bnd (r := evalE F args env s1) hp
  obtain ⟨f1, f2, f3⟩ := mt_facts m
  cases w with
  | tup xs =>
    have hp : PostV X.K ρ H (metop m v xs s2) Q := hp
    have pl := isEs_plain h5
    cases es with
    | nil =>
      refine of_pe (pe_bm0 f1 f2 f3 WMt.r WE.pe (noSuper_base h2) h1) (se_use (ho.e G h4) re rs e1 fun V H1 ρ1 x1 g1 rs1 re1 rv1 => ⟨mt_ty rs1 rv1 hk, ?_⟩)
      cases args with
      | nil =>
        cases e2
        exact meth_ok G.units rs1 rv1 .nil (hp.mono x1 g1)
      | cons _ _ => cases h5
      | _ => exact absurd h5 (by simp [isEs])
    | cons e es =>
      have pl0 := pl
      rw [List.all_cons, Bool.and_eq_true] at pl
      refine of_pe (pe_bm f1 f2 f3 WMt.r WE.pe WA.pa (noSuper_base h2) ?_ h1 (plain_star pl.1) (plain_any pl.2)) (se_use (ho.e G h4) re rs e1 fun V H1 ρ1 x1 g1 rs1 re1 rv1 => ⟨mt_ty rs1 rv1 hk, ?_⟩)
      · rw [plain_all pl0]
        show (true && true && decide ((e :: es).length + 0 + 0 < 30)) = true
        rw [decide_eq_true (by omega)]; rfl
      · refine sa_use (ha.a G h5) re1 rs1 e2 fun vs H2 ρ2 x2 g2 rs2 re2 rv2 => ?_
        exact meth_ok G.units rs2 (RV.mono x2 g2 _ _ rv1) rv2 (hp.mono (x1.trans x2) (g1.trans g2))
  | _ => exact hp.elim
theorem pairs_keys {K : PySem.W.Frag} {ρ : List Addr} {H : Hp} : ∀ {xs : List Val} {ps : List (V × V)} {kvs : List (Sum Int Str × Val)}, RVs K ρ H xs (ps.flatMap fun p => [p.1, p.2]) → toPairs xs = some kvs → ∃ ws : List (Key × V), ps = ws.map (fun kv => (kV kv.1, kv.2)) ∧ KVs K ρ H kvs ws
  | xs, [], kvs, h, e => by
    cases h
    cases e
    exact ⟨[], rfl, .nil⟩
  | xs, (a, b) :: ps, kvs, h, e => by
    have h : RVs K ρ H xs (a :: b :: ps.flatMap fun p => [p.1, p.2]) := h
    cases h with
    | @cons x _ xs _ h1 h =>
      cases h with
      | @cons y _ xs _ h2 h3 =>
        have e : ((keyOf x).bind fun z => (toPairs xs).map ((z, y) :: ·)) = some kvs := e
        cases q : keyOf x with
        | none => rw [q] at e; cases e
        | some z =>
          rw [q] at e
          have e : (toPairs xs).map ((z, y) :: ·) = some kvs := e
          cases q2 : toPairs xs with
          | none => rw [q2] at e; cases e
          | some ks =>
            rw [q2] at e
            cases e
            obtain ⟨ws, w1, w2⟩ := pairs_keys h3 q2
            refine ⟨(z, b) :: ws, ?_, .cons h2 w2⟩
            rw [List.map_cons, ← w1]
            have : a = kV z := by
              cases h1 <;> first | (cases q; done) | (cases q; rfl)
            rw [this]
theorem s_dict {ps : CE} (hs : Snd F k ps) : Snd F k (.dict ps) := by
  refine snd_val (fun {X N sc} G {x} h => ?_) (fun N sc x env h => by cases x <;> first | (intro _; rfl) | cases h) rfl (fun _ _ _ => rfl) (fun _ _ _ _ => rfl)
  intro env st σ H ρ Q re rs hp
  cases x with
  | Dict ks vs p =>
    have h : (decide (ks ≠ []) && (decide (ks.length ≤ 15) && isPs N ps sc ks vs)) = true := h
    simp only [Bool.and_eq_true, decide_eq_true_eq] at h
    obtain ⟨h1, h2, h3⟩ := h
    obtain ⟨q1, q2, q3⟩ := hs.p G h3
    obtain ⟨trs, p1, p2⟩ := q1 p
    obtain ⟨w, s1, e1, hp⟩ := PostV.bnd (r := evalE F ps env (st ++ [.dict []])) hp
    cases w with
    | tup xs =>
      have hp : PostV X.K ρ H (match s1[st.length]?, toPairs xs with
        | some (.dict []), some kvs => need (kvs.length ≤ 15) (.ok (.ref st.length) (s1.set st.length (.dict (mergeKV [] kvs))))
        | _, _ => .stuck) Q := hp
      split at hp
      · rename_i kvs d1 d2
        obtain ⟨hl, hp⟩ := PostV.need hp
        refine of_pe (pe_disp p1 q2 q3 h1 h2) fun a ha => ?_
        have hg : Gr X.K H (upd H a (.dK [])) := Gr.new ha
        have rs0 : RS X.K (ρ ++ [a]) (upd H a (.dK [])) (st ++ [.dict []]) := rs.alloc ha ⟨[], upd_same, .nil⟩
        have x0 : Ex ρ (ρ ++ [a]) := ⟨[a], rfl⟩
        refine p2 env (st ++ [.dict []]) σ _ (ρ ++ [a]) _ (re.mono x0 hg) rs0 ?_
        rw [e1]
        intro prs H2 ρ2 x2 g2 rs2 rv2
        have ea : ρ2[st.length]? = some a := x2.get (by rw [← rs.len, List.getElem?_append_right (Nat.le_refl _)]; simp)
        obtain ⟨ws, w1, w2⟩ := pairs_keys rv2 d2
        obtain ⟨ws0, c1, c2⟩ := rs2.at_ d1 ea
        have c3 : H2 a = some (.dK []) := by cases c2; exact c1
        refine ⟨c3, ws, w1, by rw [← w2.length]; exact hl, ?_⟩
        have hg3 : Gr X.K H2 (upd H2 a (.dK (mergeK [] ws))) := Gr.write c3 (fun _ z => nomatch z) (fun _ _ z => nomatch z)
        exact hp (.ref a) _ ρ2 (x0.trans x2) (hg.trans (g2.trans hg3)) (rs2.write d1 ea rfl rfl hg3 ⟨_, upd_same, KVs.mono Ex.refl hg3 (KVs.merge w2 .nil)⟩) (.ref ea)
      · exact hp.elim
    | _ => exact hp.elim
  | _ => cases h
end
end Ev

set_option Elab.async false
set_option linter.all false
set_option maxRecDepth 100000
set_option maxHeartbeats 4000000
/-! ## What is walked; comprehensions; all expressions -/
namespace Ev
open PySem PySem.Spec PyProof.Rows L2

def WI (X : Cx) (tg iter : Expr) : TI := fun σ H R => ∀ (pins : List (Addr × Obj)) (s : Shared), Inv X pins σ H s → wpAny (model X.prog X.w) X.A (eval iter X.env) (fun v s1 => wpAny (model X.prog X.w) X.A (pyIter v) (PIE X pins σ tg R) X.xe s1) X.xe s
theorem WI.pi {X : Cx} {tg iter : Expr} : PI X tg iter (WI X tg iter) := ⟨fun pins s _ _ _ I h => h pins s I⟩
theorem of_pi {X : Cx} {tg iter : Expr} {wi : TI} {σ : L2.St} {H : Hp} {R : It → Hp → Prop} (h : PI X tg iter wi) (q : wi σ H R) : WI X tg iter σ H R := fun pins s I => h.run pins s σ H R I q
def JOk (K : PySem.W.Frag) (ρ1 : List Addr) (H1 : Hp) (J : It) (k : Src) (v : Val) (xs : List Val) : Prop :=
  ∀ (ρ' : List Addr) (Hc : Hp) (st' : Store), Ex ρ1 ρ' → Gr K H1 Hc → RS K ρ' Hc st' → stays k v xs st' → ∀ i, (i < xs.length → J.go i Hc) ∧ (∀ x H' y, xs[i]? = some y → J.yld i Hc x H' → H' = Hc ∧ RV K ρ' Hc y x) ∧ (xs.length ≤ i → J.stop i Hc)
def isSrc (N : List Str) (k : Src) (src : CE) (sc : Scope) (it : Expr) : Bool := match k with
  | .seq => isE N src sc it
  | .range => (match it with | .Call (.Name x _) [z] [] _ => decide (x = "range") && (glB sc x && isEs N src sc [z]) | _ => false)
section
variable {F : Fns} {k : Nat}
theorem src_use {X : Cx} {N : List Str} {sc : Scope} (G : Good X N sc F k) {kd : Src} {src : CE} (hs : Snd F k src) {tg it : Expr} (h : isSrc N kd src sc it = true) {env : Env} {st s1 : Store} {v : Val} {xs : List Val} {σ : L2.St} {H : Hp} {ρ : List Addr} {R : It → Hp → Prop}
    (re : RE X.K ρ H env σ) (rs : RS X.K ρ H st) (e1 : evalE F src env st = .ok v s1) (e2 : srcItems kd v s1 = some xs)
    (hq : ∀ J H1 ρ1, Ex ρ ρ1 → Gr X.K H H1 → RS X.K ρ1 H1 s1 → RE X.K ρ1 H1 env σ → JOk X.K ρ1 H1 J kd v xs → R J H1) : WI X tg it σ H R := by
  cases kd with
  | seq =>
    have h : isE N src sc it = true := h
    cases v with
    | tup ys =>
      cases e2
      refine of_pi (pi_tup WE.pe) (se_use (hs.e G h) re rs e1 fun V H1 ρ1 x1 g1 rs1 re1 rv1 => ?_)
      cases rv1 with
      | @tup _ a vs hs hv =>
        refine ⟨a, rfl, ⟨vs, hs⟩, hq _ H1 ρ1 x1 g1 rs1 re1 fun ρ' Hc st' x2 g2 rs2 _ i => ?_⟩
        have hs2 := g2 _ _ hs
        have hv2 := RVs.mono x2 g2 _ _ hv
        refine ⟨fun hi => ?_, fun x H' y hy hx => ?_, fun hi => ⟨vs, hs2, by rw [← hv2.length]; exact hi⟩⟩
        · obtain ⟨w, w1, _⟩ := hv2.get (List.getElem?_eq_getElem hi)
          exact ⟨vs, w, hs2, w1⟩
        · obtain ⟨e3, e4⟩ := hx
          obtain ⟨w, w1, w2⟩ := hv2.get hy
          have := e4 vs hs2
          rw [w1] at this
          cases this
          exact ⟨e3, w2⟩
    | ref n =>
      have e2 : listAt s1 n = some xs := e2
      refine of_pi (pi_list WE.pe) (se_use (hs.e G h) re rs e1 fun V H1 ρ1 x1 g1 rs1 re1 rv1 => ?_)
      cases rv1 with
      | @ref _ a hn =>
        obtain ⟨vs, hs, hv⟩ := rs1.list e2 hn
        refine ⟨a, rfl, ⟨vs, hs⟩, hq _ H1 ρ1 x1 g1 rs1 re1 fun ρ' Hc st' x2 g2 rs2 hst i => ?_⟩
        have hst : listAt st' n = some xs := hst
        obtain ⟨vs2, hs2, hv2⟩ := rs2.list hst (x2.get hn)
        refine ⟨fun hi => ?_, fun x H' y hy hx => ?_, fun hi => ⟨vs2, hs2, by rw [← hv2.length]; exact hi⟩⟩
        · obtain ⟨w, w1, _⟩ := hv2.get (List.getElem?_eq_getElem hi)
          exact ⟨vs2, w, hs2, w1⟩
        · obtain ⟨e3, e4⟩ := hx
          obtain ⟨w, w1, w2⟩ := hv2.get hy
          have := e4 vs2 hs2
          rw [w1] at this
          cases this
          exact ⟨e3, w2⟩
    | _ => cases e2
  | range =>
    unfold isSrc at h
    simp only at h
    split at h
    · rename_i x p z q
      simp only [Bool.and_eq_true, decide_eq_true_eq] at h
      obtain ⟨h1, h2, h3⟩ := h
      subst h1
      have pl := isEs_plain h3
      rw [List.all_cons, Bool.and_eq_true] at pl
      have : ∃ n : Int, v = .tup [.int n] ∧ (n < 2 ^ 62 ∧ -(2 ^ 62) ≤ n) ∧ xs = (List.range n.toNat).map fun (j : Nat) => Val.int (j : Int) := by
        unfold srcItems at e2
        split at e2
        · rename_i h0; cases h0
        · rename_i h0; cases h0
        · rename_i w n hz
          split at e2
          · cases e2; exact ⟨n, rfl, by assumption, rfl⟩
          · cases e2
        · cases e2
      obtain ⟨n, rfl, hb, rfl⟩ := this
      refine of_pi (pi_range1 (G.glo h2) (G.free _ (by decide)) WA.pa (plain_star pl.1)) (sa_use (hs.a G h3) re rs e1 fun vs H1 ρ1 x1 g1 rs1 re1 rv1 => ?_)
      cases rv1 with
      | cons r1 r2 =>
        cases r2
        cases r1
        refine ⟨n, rfl, hb.2, hb.1, hq _ H1 ρ1 x1 g1 rs1 re1 fun ρ' Hc st' x2 g2 rs2 hst i => ?_⟩
        refine ⟨fun hi => ?_, fun x H' y hy hx => ?_, fun hi => ?_⟩
        · rw [List.length_map, List.length_range] at hi; exact hi
        rotate_left
        · rw [List.length_map, List.length_range] at hi; exact hi
        obtain ⟨e3, e4⟩ := hx
        subst e4
        rw [List.getElem?_map] at hy
        cases q2 : (List.range n.toNat)[i]? with
        | none => rw [q2] at hy; cases hy
        | some j =>
          rw [q2] at hy
          have hj : i = j := by
            have := List.getElem?_eq_some_iff.mp q2
            obtain ⟨h5, h6⟩ := this
            rw [List.getElem_range] at h6
            exact h6
          subst hj
          cases hy
          refine ⟨e3, ?_⟩
          rw [Int.zero_add]
          exact .int _
    · cases h

/-! ### comprehensions -/
def WTs (X : Cx) (ifs : List Expr) : TT := fun σ H Q => ∃ t, PTs X ifs t ∧ t σ H Q
theorem WTs.pts {X : Cx} {ifs : List Expr} : PTs X ifs (WTs X ifs) := ⟨fun pins s σ H Q I h => by obtain ⟨t, p, q⟩ := h; exact p.run pins s σ H Q I q⟩
/-- the readings of a block, whatever its frame -/
def tElt (X : Cx) (scope : Scope) (el : Expr) : TE := fun σ H Q => ∀ (s : Shared) (H0 : Hp) (C : Addr) (cl : List (Str × Addr)) (fp : List Addr), WE (X.blk s H0 scope (compEnvC scope cl C X.env) fp) el σ H Q
def tIfs (X : Cx) (scope : Scope) (ifs : List Expr) : TT := fun σ H Q => ∀ (s : Shared) (H0 : Hp) (C : Addr) (cl : List (Str × Addr)) (fp : List Addr), WTs (X.blk s H0 scope (compEnvC scope cl C X.env) fp) ifs σ H Q
theorem isE_comp {N : List Str} {kd : Src} {i : Nat} {src cond elt : CE} {sc : Scope} {x : Expr} (h : isE N (.comp kd i src cond elt) sc x = true) :
    ∃ el y p it ifs scope q, x = .ListComp el [⟨.Name y p, it, ifs, 0⟩] scope q ∧ blkC N sc scope [(y, i)] = true ∧ N[i]? = some y ∧ (relS scope sc).names.lookup y = some .local ∧ plainX it = true ∧ isSrc N kd src sc it = true ∧
      ((ifs = [] ∧ isNil cond = true) ∨ ∃ t, ifs = [t] ∧ isE N cond (relS scope sc) t = true) ∧ isE N elt (relS scope sc) el = true := by
  unfold isE at h
  split at h
  · rename_i el y p it ifs scope q
    simp only [Bool.and_eq_true, decide_eq_true_eq] at h
    obtain ⟨h1, h2, h3, h4, h5, h6, h7⟩ := h
    refine ⟨el, y, p, it, ifs, scope, q, rfl, h1, h2, h3, h4, ?_, ?_, h7⟩
    · unfold isSrc
      exact h5
    · split at h6
      · exact .inl ⟨rfl, h6⟩
      · exact .inr ⟨_, rfl, h6⟩
      · cases h6
  · cases h
theorem RE.comp {K : PySem.W.Frag} {ρ : List Addr} {H : Hp} {env : Env} {σ : L2.St} {i : Nat} {y : Val} {x : V} (r : RE K ρ H env σ) (h : RV K ρ H y x) : RE K ρ H (env.set i (some y)) ((L2.wipe σ [i]).set i (some x)) := by
  have e : (L2.wipe σ [i]).set i (some x) = σ.set i (some x) := by
    show (σ.set i none).set i (some x) = _
    rw [List.set_set]
  rw [e]
  exact r.set h
theorem comp_read {X : Cx} {N : List Str} {sc : Scope} (G : Good X N sc F k) {kd : Src} {i : Nat} {src cond elt : CE} (hs : Snd F k src) (hc : Snd F k cond) (he : Snd F k elt)
    {el it tg : Expr} {ifs : List Expr} {scope : Scope} {y : Str} (hb : blkC N sc scope [(y, i)] = true) (h1 : isSrc N kd src sc it = true)
    (h2 : (ifs = [] ∧ isNil cond = true) ∨ ∃ t, ifs = [t] ∧ isE N cond (relS scope sc) t = true) (h3 : isE N elt (relS scope sc) el = true)
    {env : Env} {st : Store} {σ : L2.St} {H : Hp} {ρ : List Addr} {Q : VK} (re : RE X.K ρ H env σ) (rs : RS X.K ρ H st) (hp : PostV X.K ρ H (evalE F (.comp kd i src cond elt) env st) Q) :
    tLc (WI X tg it) (gName i) (tIfs X scope ifs) (tElt X scope el) [i] σ H Q := by
  obtain ⟨v, s1, e1, hp⟩ := PostV.bnd (r := evalE F src env st) hp
  cases e2 : srcItems kd v s1 with
  | none => rw [e2] at hp; exact hp.elim
  | some xs =>
    rw [e2] at hp
    refine src_use G hs h1 re rs e1 e2 fun J H1 ρ1 x1 g1 rs1 re1 jok => ?_
    intro D hD
    have hp1 := PostV.mono hp x1 g1
    clear hp
    generalize hf : (fun (x : Val) (s : Store) => if isNil cond = true then (evalE F elt (env.set i (some x)) s).bind fun y s3 => Res.ok (some y) s3
        else (evalE F cond (env.set i (some x)) s).bind fun t s2 => (testV t s2).bind fun b s3 => if b = true then (evalE F elt (env.set i (some x)) s3).bind fun y s4 => .ok (some y) s4 else .ok none s3) = f at hp1
    have xD : Ex ρ1 (ρ1 ++ [D]) := ⟨[D], rfl⟩
    have gD : Gr X.K H1 (upd H1 D (.lst [])) := Gr.new hD
    have iD : (ρ1 ++ [D])[s1.length]? = some D := by rw [← rs1.len, List.getElem?_append_right (Nat.le_refl _)]; simp
    have rsD : RS X.K (ρ1 ++ [D]) (upd H1 D (.lst [])) (s1 ++ [.lst []]) := rs1.alloc hD ⟨[], upd_same, .nil⟩
    have inv0 : ∃ ρ' st', Ex (ρ1 ++ [D]) ρ' ∧ Gr X.K H1 (upd H1 D (.lst [])) ∧ RS X.K ρ' (upd H1 D (.lst [])) st' ∧ PostV X.K ρ' (upd H1 D (.lst [])) (compLoop f (stays kd v xs) s1.length (xs.drop 0) st') Q :=
      ⟨ρ1 ++ [D], s1 ++ [Cell.lst []], Ex.refl, gD, rsD, PostV.mono (r := compLoop f (stays kd v xs) s1.length xs (s1 ++ [Cell.lst []])) hp1 xD gD⟩
    refine ⟨fun j m Hc => m = xs.length - j ∧ j ≤ xs.length ∧ ∃ ρ' st', Ex (ρ1 ++ [D]) ρ' ∧ Gr X.K H1 Hc ∧ RS X.K ρ' Hc st' ∧ PostV X.K ρ' Hc (compLoop f (stays kd v xs) s1.length (xs.drop j) st') Q, ⟨xs.length, by simp, Nat.zero_le _, inv0⟩, ?_⟩
    rintro j m Hc ⟨rfl, hj, ρ', st', x2, g2, rs2, hp2⟩
    have fD : ρ'[s1.length]? = some D := x2.get iD
    by_cases hlt : j < xs.length
    · obtain ⟨z, hz⟩ : ∃ z, xs[j]? = some z := ⟨_, List.getElem?_eq_getElem hlt⟩
      have hdr : xs.drop j = z :: xs.drop (j + 1) := by
        rw [List.drop_eq_getElem_cons hlt]
        rw [List.getElem?_eq_getElem hlt] at hz
        cases hz; rfl
      rw [hdr] at hp2
      unfold compLoop at hp2
      split at hp2
      · rename_i hst
        obtain ⟨j1, j2, _⟩ := jok ρ' Hc st' (xD.trans x2) g2 rs2 hst j
        refine .inr ⟨j1 hlt, fun Hc => ∃ ρ' st', Ex (ρ1 ++ [D]) ρ' ∧ Gr X.K H1 Hc ∧ RS X.K ρ' Hc st' ∧ PostV X.K ρ' Hc (compLoop f (stays kd v xs) s1.length (xs.drop (j + 1)) st') Q, fun H' nx => ⟨xs.length - (j + 1), by omega, rfl, hlt, nx⟩, fun x H' yl => ?_⟩
        obtain ⟨eH, rvx⟩ := j2 x H' z hz yl
        subst eH
        have re2 : RE X.K ρ' H' env σ := re1.mono (xD.trans x2) g2
        have re3 := RE.comp (i := i) re2 rvx
        refine ⟨?_, ?_⟩
        · show ((L2.wipe σ [i]).set i (some x)).set i none = σ.set i none
          show ((σ.set i none).set i (some x)).set i none = σ.set i none
          rw [List.set_set, List.set_set]
        · obtain ⟨o, s3, e3, hp3⟩ := PostV.bnd hp2
          -- what follows an element
          have fin : ∀ (yv : V) (y' : Val) (s4 : Store) (H4 : Hp) (ρ4 : List Addr), Ex ρ' ρ4 → Gr X.K H' H4 → RS X.K ρ4 H4 s4 → RV X.K ρ4 H4 y' yv →
              PostV X.K ρ' H' (match s4[s1.length]? with
                | some (.lst acc) => if acc.length < sizeLine then compLoop f (stays kd v xs) s1.length (xs.drop (j + 1)) (s4.set s1.length (.lst (acc ++ [y']))) else .stuck
                | _ => .stuck) Q →
              ∃ acc, H4 D = some (.lst acc) ∧ acc.length < sizeLine ∧ ∃ ρ' st', Ex (ρ1 ++ [D]) ρ' ∧ Gr X.K H1 (upd H4 D (.lst (acc ++ [yv]))) ∧ RS X.K ρ' (upd H4 D (.lst (acc ++ [yv]))) st' ∧ PostV X.K ρ' (upd H4 D (.lst (acc ++ [yv]))) (compLoop f (stays kd v xs) s1.length (xs.drop (j + 1)) st') Q := by
            intro yv y' s4 H4 ρ4 x4 g4 rs4 rv4 hq
            split at hq
            · rename_i acc ea
              split at hq
              · rename_i hl
                obtain ⟨ws, c1, c2⟩ := rs4.at_ ea (x4.get fD)
                have hg : Gr X.K H4 (upd H4 D (.lst (ws ++ [yv]))) := Gr.write c1 (fun _ z => nomatch z) (fun _ _ z => nomatch z)
                refine ⟨ws, c1, by rw [← c2.length]; exact hl, ρ4, _, x2.trans x4, g2.trans (g4.trans hg), rs4.write (c' := .lst (acc ++ [y'])) ea (x4.get fD) rfl rfl hg ⟨_, upd_same, RVs.mono Ex.refl hg _ _ (c2.append (.cons rv4 .nil))⟩, hq.mono x4 (g4.trans hg)⟩
              · exact hq.elim
            · exact hq.elim
          have e3' : f z st' = .ok o s3 := e3
          rw [← hf] at e3'
          simp only at e3'
          rcases h2 with ⟨rfl, hn⟩ | ⟨t, rfl, ht⟩
          · rw [if_pos hn] at e3'
            obtain ⟨y', s4, e4, e5⟩ := bind_eq_ok e3'
            cases e5
            intro s0 H0 C cl fp
            refine ⟨_, pts_nil, ?_⟩
            show tElt X scope el _ _ _
            intro s0 H0 C cl fp
            refine se_use (X := X.blk s0 H0 scope (compEnvC scope cl C X.env) fp) (he.e (G.blk s0 H0 C cl fp i y hb) h3) re3 rs2 e4 fun V H4 ρ4 x4 g4 rs4 re4 rv4 => ?_
            exact fin V y' s3 H4 ρ4 x4 g4 rs4 rv4 hp3
          · have hnn : ¬ isNil cond = true := by
              intro hn
              cases cond <;> first | (cases hn; done) | (cases ht; done)
            rw [if_neg hnn] at e3'
            obtain ⟨tv, s4, e4, e5⟩ := bind_eq_ok e3'
            obtain ⟨b, s5, e6, e7⟩ := bind_eq_ok e5
            obtain ⟨t1, t2⟩ := testV_eq e6
            intro s0 H0 C cl fp
            refine ⟨_, pts_one WT.pt, ?_⟩
            refine st_use (X := X.blk s0 H0 scope (compEnvC scope cl C X.env) fp) (hc.t (G.blk s0 H0 C cl fp i y hb) ht) re3 rs2 e4 t1 fun H4 ρ4 x4 g4 rs4 re4 => ?_
            rw [← t2] at rs4
            cases b with
            | false =>
              cases e7
              have hp3 : PostV X.K ρ' H' (compLoop f (stays kd v xs) s1.length (xs.drop (j + 1)) s3) Q := hp3
              show ∃ ρ' st', _
              exact ⟨ρ4, s3, x2.trans x4, g2.trans g4, rs4, hp3.mono x4 g4⟩
            | true =>
              obtain ⟨y', s6, e8, e9⟩ := bind_eq_ok e7
              cases e9
              show tElt X scope el _ _ _
              intro s0 H0 C cl fp
              refine se_use (X := X.blk s0 H0 scope (compEnvC scope cl C X.env) fp) (he.e (G.blk s0 H0 C cl fp i y hb) h3) re4 rs4 e8 fun V H5 ρ5 x5 g5 rs5 re5 rv5 => ?_
              exact fin V y' s3 H5 ρ5 (x4.trans x5) (g4.trans g5) rs5 rv5 hp3
      · exact hp2.elim
    · have ej : j = xs.length := by omega
      subst ej
      rw [List.drop_length] at hp2
      unfold compLoop at hp2
      split at hp2
      · rename_i hst
        obtain ⟨_, _, j3⟩ := jok ρ' Hc st' (xD.trans x2) g2 rs2 hst xs.length
        exact .inl ⟨j3 (Nat.le_refl _), PostV.here hp2 rs2 (.ref fD)⟩
      · exact hp2.elim
theorem s_comp {kd : Src} {i : Nat} {src cond elt : CE} (hs : Snd F k src) (hc : Snd F k cond) (he : Snd F k elt) : Snd F k (.comp kd i src cond elt) := by
  refine snd_val (fun {X N sc} G {x} h => ?_) (fun N sc x env h => by obtain ⟨_, _, _, _, _, _, _, rfl, _⟩ := isE_comp h; intro _; rfl) rfl (fun _ _ _ => rfl) (fun _ _ _ _ => rfl)
  obtain ⟨el, y, p, it, ifs, scope, q, rfl, h1, h2, h3, h4, h5, h6, h7⟩ := isE_comp h
  intro env st σ H ρ Q re rs hp
  refine of_pe (pe_lc (own := [(y, i)]) (g := gName i) (tt := tIfs X scope ifs) (te := tElt X scope el) G.calm (by rw [G.hN]; exact G.nd) WI.pi (blkOk_by (by rw [G.hN, G.hsc]; exact h1)) (fun s H0 C cl fp => ?_) (fun s H0 C cl fp => ?_) (fun s H0 C cl fp => ?_) (plain_fold h4)) (comp_read G hs hc he h1 h5 h6 h7 re rs hp)
  · have G2 := G.blk s H0 C cl fp i y h1
    exact pg_name (by rw [G2.hN]; exact G2.nd) (by rw [G2.hN]; exact h2) (.inl (by rw [G2.hsc]; exact h3)) (.inr (by rw [G2.hsc]; exact h3))
  · exact ⟨fun pins s' σ' H' Q' I h => WTs.pts.run pins s' σ' H' Q' I (h s H0 C cl fp)⟩
  · exact ⟨fun pins s' σ' H' Q' I h => (h s H0 C cl fp) pins s' I⟩
/-- ALL EXPRESSIONS -/
theorem snd_all : ∀ c : CE, Snd F k c := by
  intro c
  induction c with
  | var i => exact s_var i
  | none_ => exact s_none
  | bool_ b => exact s_bool b
  | int_ i => exact s_int i
  | str_ s => exact s_str s
  | glob x => exact s_glob x
  | nil => exact s_nil
  | cons a r ha hr => exact s_cons ha hr
  | tup a ha => exact s_tup ha
  | lst a ha => exact s_lst ha
  | bin op a b ha hb => exact s_bin ha hb
  | neg a ha => exact s_neg ha
  | cmp op a b ha hb => exact s_cmp ha hb
  | chain op op' a b c ha hb hc => exact s_chain ha hb hc
  | and1 a ha => exact s_and1 ha
  | and2 a r ha hr => exact s_and2 ha hr
  | or1 a ha => exact s_or1 ha
  | or2 a r ha hr => exact s_or2 ha hr
  | not_ a ha => exact s_not ha
  | ifx c a b hc ha hb => exact s_ifx hc ha hb
  | ix a i ha hi => exact s_ix ha hi
  | slice a lo hi ha hl hh => exact s_slice ha hl hh
  | call f a ha => exact s_call ha
  | bi b a ha => exact s_bi ha
  | isi t a ha => exact s_isi ha
  | meth m o a ho ha => exact s_meth ho ha
  | comp kd i s c e hs hc he => exact s_comp hs hc he
  | kv a b r ha hb hr => exact s_kv ha hb hr
  | dict p hp => exact s_dict hp
end
end Ev

set_option Elab.async false
set_option linter.all false
set_option maxRecDepth 100000
set_option maxHeartbeats 4000000
/-! ## Statements -/
namespace Ev
open PySem PySem.Spec PyProof.Rows L2

/-- no comprehension -/
def noLC : Expr → Bool
  | .ListComp _ _ _ _ => false
  | .SetComp _ _ _ _ => false
  | .DictComp _ _ _ _ _ => false
  | _ => true
/-- .. and no tuple display -/
def noTL : Expr → Bool
  | .Tuple _ _ _ => false
  | e => noLC e
/-- a list of names as targets -/
def isNames (N : List Str) (sc : Scope) : List Nat → List Expr → Bool
  | [], ts => ts.isEmpty
  | i :: is, ts => (match ts with | .Name y _ :: ts => decide (N[i]? = some y) && (locB sc y && isNames N sc is ts) | _ => false)
/-- a for's target -/
def isTgt (N : List Str) (sc : Scope) (is : List Nat) (tg : Expr) : Bool :=
  match tg with
  | .Name y _ => (match is with | [i] => decide (N[i]? = some y) && locB sc y | _ => false)
  | .Tuple ts _ _ => decide (2 ≤ is.length) && isNames N sc is ts
  | _ => false
mutual
def isS (N : List Str) (sc : Scope) : CS → Stmt → Bool
  | .skip, _ => false
  | .seq _ _, _ => false
  | .expr e, st => (match st with | .Expr x _ => noLC x && isE N e sc x | _ => false)
  | .ret e, st => (match st with | .Return (some x) _ => isE N e sc x | _ => false)
  | .retN, st => (match st with | .Return none _ => true | _ => false)
  | .pass, st => (match st with | .Pass _ => true | _ => false)
  | .brk, st => (match st with | .Break _ => true | _ => false)
  | .cont, st => (match st with | .Continue _ => true | _ => false)
  | .set i e, st => (match st with | .Assign [.Name y _] x _ => decide (N[i]? = some y) && (locB sc y && isE N e sc x) | _ => false)
  | .tset is e, st => (match st with | .Assign [.Tuple ts _ _] x _ => noTL x && (isNames N sc is ts && isE N e sc x) | _ => false)
  | .sub o i e, st => (match st with | .Assign [.Subscript y z _] x _ => noLC x && (plainX z && (isE N o sc y && (isE N i sc z && isE N e sc x))) | _ => false)
  | .if_ c a b, st => (match st with | .If x as bs _ => isE N c sc x && (isSs N sc a as && isSs N sc b bs) | _ => false)
  | .while_ c a, st => (match st with | .While x as [] _ => isE N c sc x && isSs N sc a as | _ => false)
  | .for_ k is src a, st => (match st with | .For tg it as [] _ => isTgt N sc is tg && (plainX it && (isSrc N k src sc it && isSs N sc a as)) | _ => false)
  | .never, _ => true
def isSs (N : List Str) (sc : Scope) : CS → List Stmt → Bool
  | .skip, sts => sts.isEmpty
  | .seq s r, sts => (match sts with | st :: sts => isS N sc s st && isSs N sc r sts | [] => false)
  | .never, _ => true
  | _, _ => false
end

structure GoodS (X : Cx) (N : List Str) (sc : Scope) (F : Fns) (k : Nat) : Prop extends Good X N sc F k where
  fn1 : X.fn = fun _ => true
  kind : sc.kind = .function
def SSt (X : Cx) (F : Fns) (c : CS) (st : Stmt) : Prop := ∀ (env : Env) (s : Store) (σ : L2.St) (H : Hp) (ρ : List Addr) (D : Ends), RE X.K ρ H env σ → RS X.K ρ H s → PostF X.K ρ H (evalS F c env s) D → WSt X st D σ H
def SSs (X : Cx) (F : Fns) (c : CS) (sts : List Stmt) : Prop := ∀ (env : Env) (s : Store) (σ : L2.St) (H : Hp) (ρ : List Addr) (D : Ends), RE X.K ρ H env σ → RS X.K ρ H s → PostF X.K ρ H (evalS F c env s) D → WSs X sts D σ H
structure SndS (F : Fns) (k : Nat) (c : CS) : Prop where
  s : ∀ {X : Cx} {N : List Str} {sc : Scope} (G : GoodS X N sc F k) {st : Stmt}, isS N sc c st = true → SSt X F c st
  ss : ∀ {X : Cx} {N : List Str} {sc : Scope} (G : GoodS X N sc F k) {sts : List Stmt}, isSs N sc c sts = true → SSs X F c sts
section
variable {X : Cx} {N : List Str} {sc : Scope} {F : Fns} {k : Nat}
theorem noLC_swap {x : Expr} {t : Option Expr} {l : Nat} {env : PySem.Env} (h : noLC x = true) : swapsWith x t l env = pure false := by
  cases x <;> first | rfl | cases h
theorem noTL_lc {x : Expr} (h : noTL x = true) : noLC x = true := by
  cases x <;> first | rfl | cases h
theorem noTL_stores {x : Expr} {ts : List Expr} {j : Nat} {p : Pos} {env : PySem.Env} (h : noTL x = true) : swappedStores [.Tuple ts j p] x env = pure none := by
  cases x <;> first | rfl | cases h
theorem GoodS.hf (G : GoodS X N sc F k) (y : Str) : X.fn y = true ∨ X.env.scope.names.lookup y = some .local := .inl (by rw [G.fn1])
theorem PostF.here {K : PySem.W.Frag} {ρ : List Addr} {H : Hp} {env : Env} {st : Store} {D : Ends} {σ : L2.St} (h : PostF K ρ H (.ok (.next, env) st) D) (rs : RS K ρ H st) (re : RE K ρ H env σ) : D.nx σ H := h σ H ρ Ex.refl Gr.refl rs re
/-- several names are set -/
theorem names_set (G : GoodS X N sc F k) : ∀ {is : List Nat} {ts : List Expr}, isNames N sc is ts = true → ∃ g : TGs, PGs X ts g ∧ (assignEach ts X.env).length = is.length ∧ (assignEach ts X.env).findIdx? (·.1) = none ∧
    ∀ (xs : List Val) (vs : List V) (env env1 : Env) (σ : L2.St) (H : Hp) (ρ : List Addr) (Q : L2.St → Hp → Prop), setAll is xs env = some env1 → RVs X.K ρ H xs vs → RE X.K ρ H env σ → (∀ σ', RE X.K ρ H env1 σ' → Q σ' H) → g vs σ H Q
  | [], ts, h => by
    cases ts with
    | cons _ _ => cases h
    | nil =>
      refine ⟨_, pgs_nil, rfl, rfl, fun xs vs env env1 σ H ρ Q e rv re hq => ?_⟩
      cases xs with
      | cons _ _ => cases e
      | nil =>
        cases rv
        cases e
        exact ⟨rfl, hq σ re⟩
  | i :: is, ts, h => by
    unfold isNames at h
    split at h
    · rename_i y p ts
      simp only [Bool.and_eq_true, decide_eq_true_eq] at h
      obtain ⟨h1, h2, h3⟩ := h
      obtain ⟨g, g1, g2, g3, g4⟩ := names_set G h3
      have pn : PG X (.Name y p) (gName i) := pg_name (by rw [G.hN]; exact G.nd) (by rw [G.hN]; exact h1) (G.loc h2) (G.hf y)
      refine ⟨_, pgs_cons pn g1, ?_, ?_, fun xs vs env env1 σ H ρ Q e rv re hq => ?_⟩
      · show (assignEach ts X.env).length + 1 = _
        rw [g2]; rfl
      · show (((false, _) :: assignEach ts X.env).findIdx? (·.1)) = none
        rw [List.findIdx?_cons]
        simp only [Bool.false_eq_true, if_false, g3]
        rfl
      · cases xs with
        | nil => cases e
        | cons x xs =>
          cases rv with
          | cons r1 r2 =>
            refine ⟨_, _, rfl, ?_⟩
            exact g4 xs _ (env.set i (some x)) env1 _ H ρ Q e r2 (re.set r1) hq
    · cases h
theorem ss_of {c : CS} (h : ∀ {X : Cx} {N : List Str} {sc : Scope} (G : GoodS X N sc F k) {st : Stmt}, isS N sc c st = true → SSt X F c st) (h2 : ∀ N sc sts, isSs N sc c sts = false) : SndS F k c := ⟨h, fun {_ _ _} G {_} e => by rw [h2] at e; cases e⟩

theorem t_skip : SndS F k .skip := ⟨fun {_ _ _} G {_} h => (by cases h), fun {X N sc} G {sts} h => by
  intro env s σ H ρ D re rs hp
  cases sts with
  | nil => exact of_pss pss_nil (PostF.here hp rs re)
  | cons _ _ => cases h⟩
theorem t_seq {a r : CS} (ha : SndS F k a) (hr : SndS F k r) : SndS F k (.seq a r) := ⟨fun {_ _ _} G {_} h => (by cases h), fun {X N sc} G {sts} h => by
  intro env s σ H ρ D re rs hp
  cases sts with
  | nil => cases h
  | cons st sts =>
    have h : (isS N sc a st && isSs N sc r sts) = true := h
    simp only [Bool.and_eq_true] at h
    refine of_pss (pss_cons WSt.ps WSs.pss) ?_
    refine ha.s G h.1 env s σ H ρ _ re rs ?_
    obtain ⟨p, s1, e1, hp⟩ := PostF.bnd (r := evalS F a env s) hp
    rw [e1]
    obtain ⟨f, env1⟩ := p
    intro σ' H' ρ' x1 g1 rs1 re1
    cases f with
    | next => exact hr.ss G h.2 env1 s1 σ' H' ρ' D re1 rs1 (PostF.mono hp x1 g1)
    | brk => exact hp σ' H' ρ' x1 g1 rs1 re1
    | cont => exact hp σ' H' ρ' x1 g1 rs1 re1
    | ret v => exact hp σ' H' ρ' x1 g1 rs1 re1⟩
theorem t_never : SndS F k .never := ⟨fun {_ _ _} G {_} h => fun env s σ H ρ D re rs hp => hp.elim, fun {_ _ _} G {_} h => fun env s σ H ρ D re rs hp => hp.elim⟩
theorem t_expr (e : CE) : SndS F k (.expr e) := by
  refine ss_of (fun {X N sc} G {st} h => ?_) (fun _ _ _ => rfl)
  intro env s σ H ρ D re rs hp
  cases st with
  | Expr x p =>
    have h : (noLC x && isE N e sc x) = true := h
    simp only [Bool.and_eq_true] at h
    obtain ⟨v, s1, e1, hp⟩ := PostF.bnd (r := evalE F e env s) hp
    refine of_ps (ps_expr WE.pe (noLC_swap h.1)) (se_use ((snd_all e).e G.toGood h.2) re rs e1 fun V H1 ρ1 x1 g1 rs1 re1 rv1 => ?_)
    exact PostF.here (PostF.mono hp x1 g1) rs1 re1
  | _ => cases h
theorem t_ret (e : CE) : SndS F k (.ret e) := by
  refine ss_of (fun {X N sc} G {st} h => ?_) (fun _ _ _ => rfl)
  intro env s σ H ρ D re rs hp
  cases st with
  | Return x p =>
    cases x with
    | none => cases h
    | some x =>
      have h : isE N e sc x = true := h
      obtain ⟨v, s1, e1, hp⟩ := PostF.bnd (r := evalE F e env s) hp
      refine of_ps (ps_ret WE.pe) (se_use ((snd_all e).e G.toGood h) re rs e1 fun V H1 ρ1 x1 g1 rs1 re1 rv1 => ?_)
      exact hp σ H1 ρ1 x1 g1 rs1 re1 V rv1
  | _ => cases h
theorem t_retN : SndS F k .retN := by
  refine ss_of (fun {X N sc} G {st} h => ?_) (fun _ _ _ => rfl)
  intro env s σ H ρ D re rs hp
  cases st with
  | Return x p =>
    cases x with
    | none => exact of_ps ps_retN (hp σ H ρ Ex.refl Gr.refl rs re .non .none)
    | some x => cases h
  | _ => cases h
theorem t_pass : SndS F k .pass := by
  refine ss_of (fun {X N sc} G {st} h => ?_) (fun _ _ _ => rfl)
  intro env s σ H ρ D re rs hp
  cases st with
  | Pass p => exact of_ps ps_pass (PostF.here hp rs re)
  | _ => cases h
theorem t_brk : SndS F k .brk := by
  refine ss_of (fun {X N sc} G {st} h => ?_) (fun _ _ _ => rfl)
  intro env s σ H ρ D re rs hp
  cases st with
  | Break p => exact of_ps ps_break (hp σ H ρ Ex.refl Gr.refl rs re)
  | _ => cases h
theorem t_cont : SndS F k .cont := by
  refine ss_of (fun {X N sc} G {st} h => ?_) (fun _ _ _ => rfl)
  intro env s σ H ρ D re rs hp
  cases st with
  | Continue p => exact of_ps ps_continue (hp σ H ρ Ex.refl Gr.refl rs re)
  | _ => cases h
/-- y = [..]: whether the model swaps -/
def lcSwap (sc : Scope) (y : Str) (py : Pos) (scope : Scope) (vp : Pos) : Bool := (sc.names.lookup y == some .local) && ((py.line == vp.line) && !(scope.names.any fun (n, k) => n == y && (k == .local || k == .cell)))
theorem lc_swaps {el : Expr} {gs : List Comprehension} {scope : Scope} {q py : Pos} {y : Str} {l : Nat} {env : PySem.Env} (hk : env.scope.kind = .function) (h : lcSwap env.scope y py scope q = false) :
    swapsWith (.ListComp el gs scope q) (some (.Name y py)) l env = pure false := by
  have hb : env.blockKind = .function := by unfold Env.blockKind; rw [hk]; rfl
  have e : (env.blockKind == .function && env.kindOf y == some .local && py.line == q.line && !(scope.names.any fun (n, k) => n == y && (k == .local || k == .cell))) = false := by
    rw [hb]
    unfold lcSwap at h
    show ((ScopeKind.function == ScopeKind.function) && (env.scope.names.lookup y == some .local) && (py.line == q.line) && _) = false
    cases a : (env.scope.names.lookup y == some NameKind.local) <;> rw [a] at h <;> cases b : (py.line == q.line) <;> rw [b] at h <;> first | rfl | (simp only [Bool.true_and] at h; rw [h]; rfl)
  unfold swapsWith
  simp only [Expr.pos]
  show (pure _ : Sem Bool) = pure false
  exact congrArg pure e
theorem t_set (i : Nat) (e : CE) : SndS F k (.set i e) := by
  refine ss_of (fun {X N sc} G {st} h => ?_) (fun _ _ _ => rfl)
  intro env s σ H ρ D re rs hp
  unfold isS at h
  split at h
  · rename_i y py x pos
    simp only [Bool.and_eq_true, decide_eq_true_eq] at h
    obtain ⟨h1, h2, h3⟩ := h
    have hN : X.N.Nodup := by rw [G.hN]; exact G.nd
    have hi : X.N[i]? = some y := by rw [G.hN]; exact h1
    have plain : swapsWith x (some (.Name y py)) pos.line X.env = pure false → WSt X (.Assign [.Name y py] x pos) D σ H := fun hsw => by
      obtain ⟨v, s1, e1, hp⟩ := PostF.bnd (r := evalE F e env s) hp
      refine of_ps (ps_set hN hi (G.loc h2) WE.pe hsw (G.hf y)) (se_use ((snd_all e).e G.toGood h3) re rs e1 fun V H1 ρ1 x1 g1 rs1 re1 rv1 => ?_)
      exact PostF.here (PostF.mono hp x1 g1) rs1 (re1.set rv1)
    by_cases hx : noLC x = true
    · exact plain (noLC_swap hx)
    · cases e with
      | comp kd ci src cond elt =>
        obtain ⟨el, z, p, it, ifs, scope, q, rfl, k1, k2, k3, k4, k5, k6, k7⟩ := isE_comp h3
        cases hs : lcSwap sc y py scope q with
        | false => exact plain (lc_swaps (by rw [G.hsc]; exact G.kind) (by rw [G.hsc]; exact hs))
        | true =>
          unfold lcSwap at hs
          simp only [Bool.and_eq_true, Bool.not_eq_true', beq_iff_eq] at hs
          obtain ⟨l1, l2, l3⟩ := hs
          have G0 := G.toGood
          refine of_ps (ps_setLc (i := i) (own := [(z, ci)]) (g := gName ci) (tt := tIfs X scope ifs) (te := tElt X scope el) G.calm hN hi (by rw [G.hsc]; exact l1) (sw_true (by rw [G.hsc]; exact G.kind) (by rw [G.hsc]; exact l1) (by rw [beq_iff_eq]; exact l2) l3) WI.pi (blkOk_by (by rw [G.hN, G.hsc]; exact k1)) (fun s H0 C cl fp => ?_) (fun s H0 C cl fp => ?_) (fun s H0 C cl fp => ?_) (plain_fold k4)) ?_
          · have G2 := G0.blk s H0 C cl fp ci z k1
            exact pg_name (by rw [G2.hN]; exact G2.nd) (by rw [G2.hN]; exact k2) (.inl (by rw [G2.hsc]; exact k3)) (.inr (by rw [G2.hsc]; exact k3))
          · exact ⟨fun pins s' σ' H' Q' I h => WTs.pts.run pins s' σ' H' Q' I (h s H0 C cl fp)⟩
          · exact ⟨fun pins s' σ' H' Q' I h => (h s H0 C cl fp) pins s' I⟩
          · show tLc (WI X _ it) (gName ci) (tIfs X scope ifs) (tElt X scope el) [ci] σ H (fun x H1 => gName i x σ H1 D.nx)
            refine comp_read G0 (snd_all src) (snd_all cond) (snd_all elt) k1 k5 k6 k7 re rs ?_
            obtain ⟨v, s1, e1, hp⟩ := PostF.bnd (r := evalE F (.comp kd ci src cond elt) env s) hp
            rw [e1]
            exact fun V H1 ρ1 x1 g1 rs1 rv1 => PostF.here (PostF.mono hp x1 g1) rs1 ((re.mono x1 g1).set rv1)
      | _ =>
        exfalso
        apply hx
        cases x <;> first | rfl | cases h3
  · cases h
theorem t_tset (is : List Nat) (e : CE) : SndS F k (.tset is e) := by
  refine ss_of (fun {X N sc} G {st} h => ?_) (fun _ _ _ => rfl)
  intro env s σ H ρ D re rs hp
  unfold isS at h
  split at h
  · rename_i ts j tp x pos
    simp only [Bool.and_eq_true] at h
    obtain ⟨h1, h2, h3⟩ := h
    obtain ⟨g, g1, g2, g3, g4⟩ := names_set G h2
    obtain ⟨v, s1, e1, hp⟩ := PostF.bnd (r := evalE F e env s) hp
    refine of_ps (ps_asg WE.pe (pg_tup (n := is.length) G.calm g1 g2 g3) (show swapsWith x (some (.Tuple ts j tp)) pos.line X.env = pure false from noLC_swap (noTL_lc h1)) (noTL_stores h1) rfl) (se_use ((snd_all e).e G.toGood h3) re rs e1 fun V H1 ρ1 x1 g1' rs1 re1 rv1 => ?_)
    cases rv1 with
    | @tup xs a vs hs hv =>
      have hp : PostF X.K ρ H (match setAll is xs env with | some env1 => .ok (.next, env1) s1 | none => .stuck) D := hp
      cases e2 : setAll is xs env with
      | none => rw [e2] at hp; exact hp.elim
      | some env1 =>
        rw [e2] at hp
        have hl : ∀ (is : List Nat) (xs : List Val) (env env1 : Env), setAll is xs env = some env1 → xs.length = is.length := by
          intro is
          induction is with
          | nil => intro xs env env1 e; cases xs with
            | nil => rfl
            | cons _ _ => cases e
          | cons i is ih => intro xs env env1 e; cases xs with
            | nil => cases e
            | cons x xs => rw [List.length_cons, List.length_cons, ih xs _ _ e]
        refine ⟨a, vs, rfl, hs, by rw [← hv.length]; exact hl is xs env env1 e2, ?_⟩
        exact g4 xs vs env env1 σ H1 ρ1 D.nx e2 hv re1 fun σ' re' => PostF.here (PostF.mono hp x1 g1') rs1 re'
    | _ => exact hp.elim
  · cases h
theorem t_sub (o i e : CE) : SndS F k (.sub o i e) := by
  refine ss_of (fun {X N sc} G {st} h => ?_) (fun _ _ _ => rfl)
  intro env s σ H ρ D re rs hp
  unfold isS at h
  split at h
  · rename_i y z q x pos
    simp only [Bool.and_eq_true] at h
    obtain ⟨h1, h2, h3, h4, h5⟩ := h
    obtain ⟨v, s1, e1, hp⟩ := PostF.bnd (r := evalE F e env s) hp
    obtain ⟨ov, s2, e2, hp⟩ := PostF.bnd (r := evalE F o env s1) hp
    obtain ⟨iv, s3, e3, hp⟩ := PostF.bnd (r := evalE F i env s2) hp
    obtain ⟨u, s4, e4, hp⟩ := PostF.bnd (r := subStore ov iv v s3) hp
    have ha : ∀ w, assign (.Subscript y z q) X.env w = (do
      let ov ← holding [w] (eval y X.env)
      let iv ← holding [w, ov] (eval z X.env)
      standAt q
      holding [w, ov, iv] (setItem ov iv w)
      release [w, ov, iv] []) := by
      intro w
      cases z <;> first | rfl | cases h2
    refine of_ps (ps_asg WE.pe (pg_sub WE.pe WE.pe set_list ha) (show swapsWith x (some (.Subscript y z q)) pos.line X.env = pure false from noLC_swap h1) (by cases x <;> rfl) rfl) (se_use ((snd_all e).e G.toGood h5) re rs e1 fun V H1 ρ1 x1 g1 rs1 re1 rv1 => ?_)
    refine se_use ((snd_all o).e G.toGood h3) re1 rs1 e2 fun O H2 ρ2 x2 g2 rs2 re2 rv2 => ?_
    refine se_use ((snd_all i).e G.toGood h4) re2 rs2 e3 fun I H3 ρ3 x3 g3 rs3 re3 rv3 => ?_
    have rv1' := RV.mono (x2.trans x3) (g2.trans g3) _ _ rv1
    have rv2' := RV.mono x3 g3 _ _ rv2
    cases rv2' with
    | @ref n a hn =>
      cases rv3 with
      | int kk =>
        have e4 : (match s3[n]? with
          | some (.lst xs) => (match L2.ixN xs.length kk with | some j => Res.ok () (s3.set n (.lst (xs.set j v))) | none => .stuck)
          | _ => .stuck) = .ok u s4 := e4
        split at e4
        · rename_i xs ex
          cases ej : L2.ixN xs.length kk with
          | none => rw [ej] at e4; cases e4
          | some j =>
            rw [ej] at e4
            cases e4
            obtain ⟨ws, c1, c2⟩ := rs3.at_ ex hn
            have hg : Gr X.K H3 (upd H3 a (.lst (ws.set j V))) := Gr.write c1 (fun _ z => nomatch z) (fun _ _ z => nomatch z)
            refine ⟨a, ws, kk, j, rfl, rfl, c1, by rw [← c2.length]; exact ej, ?_⟩
            exact PostF.here (PostF.mono hp (x1.trans (x2.trans x3)) (g1.trans (g2.trans (g3.trans hg)))) (rs3.write (c' := .lst (xs.set j v)) ex hn rfl rfl hg ⟨_, upd_same, RVs.mono Ex.refl hg _ _ (RVs.set rv1' j c2)⟩) (re3.mono Ex.refl hg)
        · cases e4
      | _ => cases e4
    | _ => cases e4
  · cases h
theorem t_if {c : CE} {a b : CS} (ha : SndS F k a) (hb : SndS F k b) : SndS F k (.if_ c a b) := by
  refine ss_of (fun {X N sc} G {st} h => ?_) (fun _ _ _ => rfl)
  intro env s σ H ρ D re rs hp
  cases st with
  | If x as bs p =>
    have h : (isE N c sc x && (isSs N sc a as && isSs N sc b bs)) = true := h
    simp only [Bool.and_eq_true] at h
    obtain ⟨v, s1, e1, hp1⟩ := PostF.bnd (r := evalE F c env s) hp
    obtain ⟨t, s2, e2, hp2⟩ := PostF.bnd (r := testV v s1) hp1
    obtain ⟨e3, e4⟩ := testV_eq e2
    rw [e4] at hp2
    refine of_ps (ps_if WT.pt WSs.pss WSs.pss) (st_use ((snd_all c).t G.toGood h.1) re rs e1 e3 fun H1 ρ1 x1 g1 rs1 re1 => ?_)
    cases t with
    | true => exact ha.ss G h.2.1 env s1 σ H1 ρ1 D re1 rs1 (PostF.mono hp2 x1 g1)
    | false => exact hb.ss G h.2.2 env s1 σ H1 ρ1 D re1 rs1 (PostF.mono hp2 x1 g1)
  | _ => cases h
theorem GoodS.pass (G : GoodS X N sc F k) : PassesOwn (model X.prog X.w) X.A X.env X.xe := by
  rw [G.nox]; exact PassesOwn.never
theorem t_while {c : CE} {a : CS} (ha : SndS F k a) : SndS F k (.while_ c a) := by
  refine ss_of (fun {X N sc} G {st} h => ?_) (fun _ _ _ => rfl)
  intro env s σ H ρ D re rs hp
  cases st with
  | While x as os p =>
    cases os with
    | cons _ _ => cases h
    | nil =>
      have h : (isE N c sc x && isSs N sc a as) = true := h
      simp only [Bool.and_eq_true] at h
      refine of_ps (ps_while G.pass WT.pt WSs.pss) ?_
      have hp : PostF X.K ρ H (whileLoop (fun env s => (evalE F c env s).bind fun x s1 => testV x s1) (fun env s => evalS F a env s) F.fuel env s) D := hp
      refine ⟨fun m σ H => ∃ env st ρ', Ex ρ ρ' ∧ RS X.K ρ' H st ∧ RE X.K ρ' H env σ ∧ PostF X.K ρ' H (whileLoop (fun env s => (evalE F c env s).bind fun x s1 => testV x s1) (fun env s => evalS F a env s) m env st) D, ⟨F.fuel, env, s, ρ, Ex.refl, rs, re, hp⟩, ?_⟩
      rintro m σ H ⟨env, st, ρ', x0, rs, re, hp⟩
      cases m with
      | zero => exact hp.elim
      | succ m =>
        unfold whileLoop at hp
        obtain ⟨t, s2, e2, hp1⟩ := PostF.bnd hp
        obtain ⟨v, s1, e1, e3⟩ := bind_eq_ok e2
        obtain ⟨e4, e5⟩ := testV_eq e3
        rw [e5] at hp1
        refine st_use ((snd_all c).t G.toGood h.1) re rs e1 e4 fun H1 ρ1 x1 g1 rs1 re1 => ?_
        cases t with
        | false => exact PostF.here (PostF.mono hp1 x1 g1) rs1 re1
        | true =>
          refine ⟨fun σ H => ∃ env st ρ', Ex ρ ρ' ∧ RS X.K ρ' H st ∧ RE X.K ρ' H env σ ∧ PostF X.K ρ' H (whileLoop (fun env s => (evalE F c env s).bind fun x s1 => testV x s1) (fun env s => evalS F a env s) m env st) D, fun σ' H' q => ⟨m, Nat.lt_succ_self m, q⟩, ?_⟩
          refine ha.ss G h.2 env s1 σ H1 ρ1 _ re1 rs1 ?_
          obtain ⟨p, s6, e6, hp2⟩ := PostF.bnd (r := evalS F a env s1) hp1
          rw [e6]
          obtain ⟨f, env1⟩ := p
          intro σ' H' ρ2 x2 g2 rs2 re2
          cases f with
          | next => exact ⟨env1, s6, ρ2, x0.trans (x1.trans x2), rs2, re2, PostF.mono hp2 (x1.trans x2) (g1.trans g2)⟩
          | cont => exact ⟨env1, s6, ρ2, x0.trans (x1.trans x2), rs2, re2, PostF.mono hp2 (x1.trans x2) (g1.trans g2)⟩
          | brk => exact PostF.here (PostF.mono hp2 (x1.trans x2) (g1.trans g2)) rs2 re2
          | ret v => exact hp2 σ' H' ρ2 (x1.trans x2) (g1.trans g2) rs2 re2
  | _ => cases h
/-- a for's target -/
theorem tgt_ok (G : GoodS X N sc F k) {is : List Nat} {tg : Expr} (h : isTgt N sc is tg = true) : ∃ g : TG, PG X tg g ∧
    ∀ (x : Val) (v : V) (env env1 : Env) (σ : L2.St) (H : Hp) (ρ : List Addr) (Q : L2.St → Hp → Prop), bindTo is x env = some env1 → RV X.K ρ H x v → RE X.K ρ H env σ → (∀ σ', RE X.K ρ H env1 σ' → Q σ' H) → g v σ H Q := by
  cases tg with
  | Name y p =>
    unfold isTgt at h
    simp only at h
    split at h
    · rename_i i
      simp only [Bool.and_eq_true, decide_eq_true_eq] at h
      refine ⟨_, pg_name (by rw [G.hN]; exact G.nd) (by rw [G.hN]; exact h.1) (G.loc h.2) (G.hf y), fun x v env env1 σ H ρ Q e rv re hq => ?_⟩
      cases e
      exact hq _ (re.set rv)
    · cases h
  | Tuple ts j p =>
    have h : (decide (2 ≤ is.length) && isNames N sc is ts) = true := h
    simp only [Bool.and_eq_true, decide_eq_true_eq] at h
    obtain ⟨g, g1, g2, g3, g4⟩ := names_set G h.2
    refine ⟨_, pg_tup (n := is.length) G.calm g1 g2 g3, fun x v env env1 σ H ρ Q e rv re hq => ?_⟩
    have e' : ∃ xs, x = .tup xs ∧ setAll is xs env = some env1 := by
      unfold bindTo at e
      split at e
      · rename_i hl; simp at h
      · exact ⟨_, rfl, e⟩
      · cases e
    obtain ⟨xs, rfl, e2⟩ := e'
    cases rv with
    | @tup _ a vs hs hv =>
      have hl : ∀ (is : List Nat) (xs : List Val) (env env1 : Env), setAll is xs env = some env1 → xs.length = is.length := by
        intro is
        induction is with
        | nil => intro xs env env1 e; cases xs with
          | nil => rfl
          | cons _ _ => cases e
        | cons i is ih => intro xs env env1 e; cases xs with
          | nil => cases e
          | cons x xs => rw [List.length_cons, List.length_cons, ih xs _ _ e]
      exact ⟨a, vs, rfl, hs, by rw [← hv.length]; exact hl is xs env env1 e2, g4 xs vs env env1 σ H ρ Q e2 hv re hq⟩
  | _ => cases h
theorem t_for {kd : Src} {is : List Nat} {src : CE} {a : CS} (ha : SndS F k a) : SndS F k (.for_ kd is src a) := by
  refine ss_of (fun {X N sc} G {st} h => ?_) (fun _ _ _ => rfl)
  intro env s σ H ρ D re rs hp
  cases st with
  | For tg it as os p =>
    cases os with
    | cons _ _ => cases h
    | nil =>
      have h : (isTgt N sc is tg && (plainX it && (isSrc N kd src sc it && isSs N sc a as))) = true := h
      simp only [Bool.and_eq_true] at h
      obtain ⟨h1, h2, h3, h4⟩ := h
      obtain ⟨g, pg, gq⟩ := tgt_ok G h1
      obtain ⟨v, s1, e1, hp⟩ := PostF.bnd (r := evalE F src env s) hp
      cases e2 : srcItems kd v s1 with
      | none => rw [e2] at hp; exact hp.elim
      | some xs =>
        rw [e2] at hp
        refine of_ps (ps_for G.pass G.calm WI.pi pg WSs.pss (plain_fold h2)) ?_
        refine src_use G.toGood (snd_all src) h3 re rs e1 e2 fun J H1 ρ1 x1 g1 rs1 re1 jok => ?_
        have hp1 : PostF X.K ρ1 H1 (forLoop is (stays kd v xs) (fun env s => evalS F a env s) xs env s1) D := PostF.mono hp x1 g1
        clear hp
        refine ⟨fun j m σ Hc => m = xs.length - j ∧ j ≤ xs.length ∧ ∃ env st' ρ', Ex ρ1 ρ' ∧ Gr X.K H1 Hc ∧ RS X.K ρ' Hc st' ∧ RE X.K ρ' Hc env σ ∧ PostF X.K ρ' Hc (forLoop is (stays kd v xs) (fun env s => evalS F a env s) (xs.drop j) env st') D,
          ⟨xs.length, by simp, Nat.zero_le _, env, s1, ρ1, Ex.refl, Gr.refl, rs1, re1, hp1⟩, ?_⟩
        rintro j m σ Hc ⟨rfl, hj, env, st', ρ', x2, g2, rs2, re2, hp2⟩
        by_cases hlt : j < xs.length
        · obtain ⟨z, hz⟩ : ∃ z, xs[j]? = some z := ⟨_, List.getElem?_eq_getElem hlt⟩
          have hdr : xs.drop j = z :: xs.drop (j + 1) := by
            rw [List.drop_eq_getElem_cons hlt]
            rw [List.getElem?_eq_getElem hlt] at hz
            cases hz; rfl
          rw [hdr] at hp2
          unfold forLoop at hp2
          split at hp2
          · rename_i hst
            obtain ⟨j1, j2, _⟩ := jok ρ' Hc st' x2 g2 rs2 hst j
            refine .inr ⟨j1 hlt, fun σ Hc => ∃ env st' ρ', Ex ρ1 ρ' ∧ Gr X.K H1 Hc ∧ RS X.K ρ' Hc st' ∧ RE X.K ρ' Hc env σ ∧ PostF X.K ρ' Hc (forLoop is (stays kd v xs) (fun env s => evalS F a env s) (xs.drop (j + 1)) env st') D, fun σ' H' nx => ⟨xs.length - (j + 1), by omega, rfl, hlt, nx⟩, fun x H' yl => ?_⟩
            obtain ⟨eH, rvx⟩ := j2 x H' z hz yl
            subst eH
            cases eb : bindTo is z env with
            | none => rw [eb] at hp2; exact hp2.elim
            | some env1 =>
              rw [eb] at hp2
              refine gq z x env env1 σ _ ρ' _ eb rvx re2 fun σ' re3 => ?_
              refine ha.ss G h4 env1 st' σ' H' ρ' _ re3 rs2 ?_
              obtain ⟨p, s6, e6, hp3⟩ := PostF.bnd (r := evalS F a env1 st') hp2
              rw [e6]
              obtain ⟨f, env2⟩ := p
              intro σ2 H2 ρ2 x3 g3 rs3 re4
              cases f with
              | next => exact ⟨env2, s6, ρ2, x2.trans x3, g2.trans g3, rs3, re4, PostF.mono hp3 x3 g3⟩
              | cont => exact ⟨env2, s6, ρ2, x2.trans x3, g2.trans g3, rs3, re4, PostF.mono hp3 x3 g3⟩
              | brk => exact PostF.here (PostF.mono hp3 x3 g3) rs3 re4
              | ret v => exact hp3 σ2 H2 ρ2 x3 g3 rs3 re4
          · exact hp2.elim
        · have ej : j = xs.length := by omega
          subst ej
          rw [List.drop_length] at hp2
          unfold forLoop at hp2
          split at hp2
          · rename_i hst
            obtain ⟨_, _, j3⟩ := jok ρ' Hc st' x2 g2 rs2 hst xs.length
            exact .inl ⟨j3 (Nat.le_refl _), PostF.here hp2 rs2 re2⟩
          · exact hp2.elim
  | _ => cases h
/-- ALL STATEMENTS -/
theorem sndS_all : ∀ c : CS, SndS F k c := by
  intro c
  induction c with
  | skip => exact t_skip
  | seq a r ha hr => exact t_seq ha hr
  | expr e => exact t_expr e
  | ret e => exact t_ret e
  | retN => exact t_retN
  | pass => exact t_pass
  | brk => exact t_brk
  | cont => exact t_cont
  | set i e => exact t_set i e
  | tset is e => exact t_tset is e
  | sub o i e => exact t_sub o i e
  | if_ c a b ha hb => exact t_if ha hb
  | while_ c a ha => exact t_while ha
  | for_ kd is src a ha => exact t_for ha
  | never => exact t_never
end
end Ev

set_option Elab.async false
set_option linter.all false
set_option maxRecDepth 100000
set_option maxHeartbeats 4000000
/-! ## Functions, and the law's end -/
namespace Ev
open PySem PySem.Spec PyProof.Rows L2

section
variable {K : PySem.W.Frag} {ρ : List Addr} {H H' : Hp} {st : Store}
theorem KVs.cutTo {m : List Addr} : ∀ {xs : List (Sum Int Str × Val)} {vs us : List (Key × V)}, KVs K ρ H' xs us → KVs K (ρ ++ m) H xs vs → KVs K ρ H xs vs
  | _, _, _, .nil, .nil => .nil
  | _, _, _, .cons a b, .cons c d => .cons (RV.cutTo _ _ (RV.low _ _ a) c) (KVs.cutTo b d)
/-- the old part of a store behind a run -/
theorem merge_take : ∀ {n : Nat} {old st s2 : Store}, mergeS n old st = some s2 → s2 = st.take old.length ∧ old.length ≤ st.length
  | n, [], st, s2, h => by cases h; simp
  | n, c :: cs, [], s2, h => by cases h
  | n, c :: cs, d :: ds, s2, h => by
    unfold mergeS at h
    split at h
    · cases e : mergeS n cs ds with
      | none => rw [e] at h; cases h
      | some s3 =>
        rw [e] at h
        cases h
        obtain ⟨h1, h2⟩ := merge_take e
        subst h1
        exact ⟨by simp, by simpa using h2⟩
    · cases h
theorem merge_at : ∀ {n : Nat} {old st s2 : Store} {i : Nat} {c d : Cell}, mergeS n old st = some s2 → old[i]? = some c → st[i]? = some d → c = d ∨ d.lowC n = true
  | n, [], st, s2, i, c, d, h, e1, e2 => by simp at e1
  | n, _ :: _, [], s2, i, c, d, h, e1, e2 => by cases h
  | n, c0 :: cs, d0 :: ds, s2, i, c, d, h, e1, e2 => by
    unfold mergeS at h
    split at h
    · rename_i hc
      cases e : mergeS n cs ds with
      | none => rw [e] at h; cases h
      | some s3 =>
        cases i with
        | zero =>
          simp at e1 e2
          subst e1 e2
          exact hc
        | succ i => exact merge_at (i := i) e (by simpa using e1) (by simpa using e2)
    · cases h
/-- the old part stands over the old names -/
theorem RS.back {m : List Addr} {s1 s2 : Store} (r0 : RS K ρ H st) (r1 : RS K (ρ ++ m) H' s1) (h : mergeS st.length st s1 = some s2) : RS K ρ H' s2 := by
  obtain ⟨e, hl⟩ := merge_take h
  subst e
  have get : ∀ (n : Nat) (c : Cell), (s1.take st.length)[n]? = some c → s1[n]? = some c ∧ n < st.length := fun n c e => by
    have hn : n < (s1.take st.length).length := (List.getElem?_eq_some_iff.mp e).1
    have hn2 : n < st.length := by rw [List.length_take] at hn; omega
    rw [List.getElem?_take_of_lt hn2] at e
    exact ⟨e, hn2⟩
  have gr : ∀ (n : Nat) (a : Addr), ρ[n]? = some a → (ρ ++ m)[n]? = some a := fun n a e => Ex.get ⟨m, rfl⟩ e
  refine ⟨by rw [List.length_take, r0.len]; omega, fun n n' c d a e1 e2 m1 m2 e3 e4 => ?_, fun n c a e1 e2 => ?_⟩
  · exact r1.sep n n' c d a (get n c e1).1 (get n' d e2).1 m1 m2 (gr n a e3) (gr n' a e4)
  · obtain ⟨e3, hn⟩ := get n c e1
    have q := r1.cell n c a e3 (gr n a e2)
    have old : st[n]? = some st[n] := List.getElem?_eq_getElem hn
    have q0 := r0.cell n _ a old e2
    have low : (c = st[n]) ∨ c.lowC st.length = true := by
      rcases merge_at h old e3 with z | z
      · exact .inl z.symm
      · exact .inr z
    cases c with
    | lst xs =>
      obtain ⟨vs, c1, c2⟩ := q
      have hx : lowL ρ.length xs = true := by
        rcases low with z | z
        · rw [← z] at q0
          obtain ⟨ws, _, d2⟩ := q0
          exact RVs.low _ _ d2
        · rw [r0.len]; exact z
      exact ⟨vs, c1, RVs.cutTo _ _ hx c2⟩
    | ro xs =>
      obtain ⟨vs, c1, c2⟩ := q
      rcases low with z | z
      · rw [← z] at q0
        obtain ⟨ws, _, d2⟩ := q0
        exact ⟨vs, c1, RVs.cutTo _ _ (RVs.low _ _ d2) c2⟩
      · cases z
    | dict kvs =>
      obtain ⟨vs, c1, c2⟩ := q
      rcases low with z | z
      · rw [← z] at q0
        obtain ⟨ws, _, d2⟩ := q0
        exact ⟨vs, c1, KVs.cutTo d2 c2⟩
      · cases z
    | inst _ _ => exact q.elim
theorem gc_ok {ρ' : List Addr} {s1 : Store} {v : Val} {u : V} {Q : VK} (r0 : RS K ρ H st) (hx : Ex ρ ρ') (hg : Gr K H H') (r1 : RS K ρ' H' s1) (rv : RV K ρ' H' v u) (h : PostV K ρ H (gc st v s1) Q) : Q u H' := by
  unfold gc at h
  cases e : mergeS st.length st s1 with
  | none =>
    rw [e] at h
    exact h u H' ρ' hx hg r1 rv
  | some s2 =>
    rw [e] at h
    simp only at h
    obtain ⟨m, rfl⟩ := hx
    have rb : RS K ρ H' s2 := r0.back r1 e
    split at h
    · rename_i hb
      rw [← r0.len] at hb
      exact h u H' ρ Ex.refl hg rb (RV.cutTo _ _ hb rv)
    · split at h
      · rename_i _ r _
        split at h
        · rename_i xs er
          split at h
          · rename_i hr
            cases rv with
            | @ref _ a hna =>
              obtain ⟨vs, c1, c2⟩ := r1.at_ er hna
              have hb : lowL ρ.length xs = true := by rw [r0.len]; exact hr.2
              have c3 : RVs K ρ H' xs vs := RVs.cutTo _ _ hb c2
              have l2 : s2.length = st.length := by
                have := rb.len
                have := r0.len
                omega
              have in2 : ∀ (n : Nat) (c : Cell), s2[n]? = some c → s1[n]? = some c ∧ n < st.length := fun n c e1 => by
                obtain ⟨e2, hl⟩ := merge_take e
                have hn : n < s2.length := (List.getElem?_eq_some_iff.mp e1).1
                rw [e2] at e1
                rw [List.getElem?_take_of_lt (by omega)] at e1
                exact ⟨e1, by omega⟩
              have out : ∀ (n : Nat) (d : Cell) (b : Addr), (s2 ++ [Cell.lst xs])[n]? = some d → (ρ ++ [a])[n]? = some b → (s2[n]? = some d ∧ ρ[n]? = some b) ∨ (n = st.length ∧ d = .lst xs ∧ b = a) := fun n d b e1 e2 => by
                by_cases hn : n < st.length
                · rw [List.getElem?_append_left (by omega)] at e1
                  rw [List.getElem?_append_left (by rw [r0.len]; exact hn)] at e2
                  exact .inl ⟨e1, e2⟩
                · have hn2 : n < (s2 ++ [Cell.lst xs]).length := (List.getElem?_eq_some_iff.mp e1).1
                  have hn3 : n = st.length := by simp at hn2; omega
                  subst hn3
                  rw [← l2, List.getElem?_append_right (Nat.le_refl _)] at e1
                  rw [← r0.len, List.getElem?_append_right (Nat.le_refl _)] at e2
                  simp at e1 e2
                  exact .inr ⟨rfl, e1.symm, e2.symm⟩
              have new : ∀ (n : Nat) (d : Cell), s2[n]? = some d → mutB d = true → ρ[n]? = some a → False := fun n d e1 md e2 => by
                obtain ⟨e3, hn⟩ := in2 n d e1
                have := r1.sep n r d (.lst xs) a e3 er md rfl (Ex.get ⟨m, rfl⟩ e2) hna
                omega
              have rsn : RS K (ρ ++ [a]) H' (s2 ++ [Cell.lst xs]) := by
                refine ⟨by simp [rb.len], fun n n' c d b e1 e2 m1 m2 e3 e4 => ?_, fun n d b e1 e2 => ?_⟩
                · rcases out n c b e1 e3 with ⟨z1, z2⟩ | ⟨z1, z2, z3⟩
                  · rcases out n' d b e2 e4 with ⟨w1, w2⟩ | ⟨w1, w2, w3⟩
                    · exact rb.sep n n' c d b z1 w1 m1 m2 z2 w2
                    · subst w3; exact (new n c z1 m1 z2).elim
                  · rcases out n' d b e2 e4 with ⟨w1, w2⟩ | ⟨w1, w2, w3⟩
                    · subst z3; exact (new n' d w1 m2 w2).elim
                    · rw [z1, w1]
                · rcases out n d b e1 e2 with ⟨z1, z2⟩ | ⟨z1, z2, z3⟩
                  · exact (rb.cell n d b z1 z2).mono ⟨[a], rfl⟩ Gr.refl (.inl rfl) fun _ _ e => e
                  · subst z2 z3
                    exact ⟨vs, c1, RVs.mono ⟨[b], rfl⟩ Gr.refl _ _ c3⟩
              refine h (.ref a) H' (ρ ++ [a]) ⟨[a], rfl⟩ hg rsn (.ref ?_)
              rw [← r0.len, List.getElem?_append_right (Nat.le_refl _)]; simp
          · exact h u H' (ρ ++ m) ⟨m, rfl⟩ hg r1 rv
        · exact h u H' (ρ ++ m) ⟨m, rfl⟩ hg r1 rv
      · exact h u H' (ρ ++ m) ⟨m, rfl⟩ hg r1 rv
end

/-! ### the table of defs -/
structure DefOk (K : PySem.W.Frag) (mg : Str → Option Value) (f : Str) (d : Def) (a : Addr) (fd : FuncData) : Prop where
  ex : ∃ (qual : Str) (params : Arguments) (body : List Stmt) (scope : Scope), FunD K f qual params body scope [] [] a fd ∧ FnScope d.names (d.names.take d.params) scope ∧ isSs d.names scope d.body body = true
  mgf : mg f = some (.ref a)
  kp : PySem.W.keepIn K (.ref a) = true
  binds : Binds K fd (d.names.take d.params) []
  fit : d.params ≤ d.names.length
section
variable {P : Program} {w : World} {K : PySem.W.Frag} {mg : Str → Option Value} {base : Heap} {T : Tab} {gl : Str → Option Val} {W : Nat}
theorem fns_ok (hT : ∀ f d, T.lookup f = some d → ∃ a fd, DefOk K mg f d a fd) (hgl : ∀ x v, gl x = some v → ∃ (u : V) (w : Value), mg x = some w ∧ RelV u w ∧ ∀ ρ H, RV K ρ H v u) (hfree : ∀ x ∈ freeNames, mg x = none) :
    ∀ (n : Nat) (f : Str) (d : Def) (a : Addr) (fd : FuncData), T.lookup f = some d → DefOk K mg f d a fd → FnOk P w K mg base CX0 n a fd (d.names.take d.params) (spOf K ⟨callN T gl W n, gl, W⟩ f) := by
  intro n
  induction n with
  | zero =>
    intro f d a fd e D
    have no : ∀ vs H Q E, ¬ spOf K ⟨callN T gl W 0, gl, W⟩ f vs H Q E := fun vs H Q E ⟨args, st, ρ, _, _, h⟩ => h
    exact ⟨fun vs H Q E h => absurd h (no vs H Q E), fun A outer s H args us vs Q E _ _ _ _ h => absurd h (no vs H Q E)⟩
  | succ n ih =>
    intro f d a fd e D
    obtain ⟨qual, params, body, scope, hF, hS, hB⟩ := D.ex
    have run : ∀ args st, callN T gl W (n + 1) f args st = runBody ⟨callN T gl W n, gl, W⟩ d args st := fun args st => by
      show (match T.lookup f with | some d => runBody ⟨callN T gl W n, gl, W⟩ d args st | none => .stuck) = _
      rw [e]
    refine hF.ok (CX := CX0) hS (fun vs H Q E h => ?_) (fun cdv A outer s H vs Q E hr h => ?_)
    · obtain ⟨args, st, ρ, h1, h2, h3⟩ := h
      rw [show (Fns.fn ⟨callN T gl W (n + 1), gl, W⟩ f args st) = runBody ⟨callN T gl W n, gl, W⟩ d args st from run args st] at h3
      unfold runBody at h3
      split at h3
      · rename_i hl
        rw [List.length_take, ← h1.length, hl]
        have := D.fit
        omega
      · exact h3.elim
    · obtain ⟨args, st, ρ, h1, h2, h3⟩ := h
      rw [show (Fns.fn ⟨callN T gl W (n + 1), gl, W⟩ f args st) = runBody ⟨callN T gl W n, gl, W⟩ d args st from run args st] at h3
      unfold runBody at h3
      split at h3
      · rename_i hl
        have G : GoodS (cxOf CX0 P w K mg base d.names qual scope a cdv A outer s H E).nox d.names scope ⟨callN T gl W n, gl, W⟩ n := by
          refine ⟨⟨rfl, rfl, hS.nd, rfl, hr, rfl, fun g hg => ?_, hgl, hfree⟩, rfl, hS.kind⟩
          obtain ⟨args', st', v', s', hg⟩ := hg
          have : ∃ d', T.lookup g = some d' := by
            cases n with
            | zero => cases hg
            | succ n =>
              cases q : T.lookup g with
              | none =>
                have hg : (match T.lookup g with | some d => runBody ⟨callN T gl W n, gl, W⟩ d args' st' | none => .stuck) = .ok v' s' := hg
                rw [q] at hg; cases hg
              | some d' => exact ⟨d', rfl⟩
          obtain ⟨d', hd'⟩ := this
          obtain ⟨a', fd', D'⟩ := hT g d' hd'
          exact ⟨a', fd', _, D'.mgf, D'.kp, D'.binds, ih g d' a' fd' hd' D'⟩
        refine ⟨WSs _ body, PSs.nox WSs.pss, ?_⟩
        refine (sndS_all d.body).ss G hB (args.map some ++ List.replicate (d.names.length - args.length) none) st (start d.names vs) H ρ _ (RE.start d.names h1) h2 ?_
        obtain ⟨p, s1, e1, h4⟩ := PostV.bnd h3
        rw [e1]
        obtain ⟨fl, env1⟩ := p
        intro σ' H' ρ' x1 g1 rs1 re1
        cases fl with
        | next => exact gc_ok h2 x1 g1 rs1 .none h4
        | ret v => exact fun V rv => gc_ok h2 x1 g1 rs1 rv h4
        | brk => exact h4.elim
        | cont => exact h4.elim
      · exact h3.elim
end

/-- every def of a table stands in the text -/
inductive AllD (K : PySem.W.Frag) (mg : Str → Option Value) : Tab → Prop
  | nil : AllD K mg []
  | cons {f : Str} {d : Def} {T : Tab} : (∃ a fd, DefOk K mg f d a fd) → AllD K mg T → AllD K mg ((f, d) :: T)
theorem AllD.at_ {K : PySem.W.Frag} {mg : Str → Option Value} : ∀ {T : Tab} {f : Str} {d : Def}, AllD K mg T → T.lookup f = some d → ∃ a fd, DefOk K mg f d a fd
  | _, f, d, .nil, e => by cases e
  | _, f, d, .cons (f := g) (d := d') (T := T) h t, e => by
    rw [List.lookup_cons] at e
    cases q : f == g with
    | true =>
      rw [q] at e
      cases e
      rw [beq_iff_eq.mp q]
      exact h
    | false =>
      rw [q] at e
      exact t.at_ e
/-- every constant of the module -/
inductive AllG (K : PySem.W.Frag) (mg : Str → Option Value) : List (Str × Val) → Prop
  | nil : AllG K mg []
  | cons {x : Str} {v : Val} {T : List (Str × Val)} : (∃ (u : V) (w : Value), mg x = some w ∧ RelV u w ∧ ∀ ρ H, RV K ρ H v u) → AllG K mg T → AllG K mg ((x, v) :: T)
theorem AllG.at_ {K : PySem.W.Frag} {mg : Str → Option Value} : ∀ {T : List (Str × Val)} {x : Str} {v : Val}, AllG K mg T → T.lookup x = some v → ∃ (u : V) (w : Value), mg x = some w ∧ RelV u w ∧ ∀ ρ H, RV K ρ H v u
  | _, f, d, .nil, e => by cases e
  | _, f, d, .cons (x := g) (T := T) h t, e => by
    rw [List.lookup_cons] at e
    cases q : f == g with
    | true =>
      rw [q] at e
      cases e
      rw [beq_iff_eq.mp q]
      exact h
    | false =>
      rw [q] at e
      exact t.at_ e

/-! ### the law -/
theorem law_sp {K : PySem.W.Frag} {F : Fns} {f : Str} {H : Hp} {a : Addr} {ns : List Int} (hO : Only H) (hS : SqL K H a (ns.map V.int)) (h : ∃ s', F.fn f [.ref 0] [.ro (ns.map Val.int)] = .ok (.bool true) s') :
    spOf K F f [.ref a] H (fun v _ => v = .bl true) fun _ _ _ => False := by
  obtain ⟨s', h⟩ := h
  refine ⟨[.ref 0], [.ro (ns.map Val.int)], [a], .cons (.ref rfl) .nil, ⟨rfl, fun n m c d b e1 e2 m1 m2 _ _ => ?_, fun n c b e1 e2 => ?_⟩, ?_⟩
  · cases n with
    | zero => cases e1; cases m1
    | succ n => simp at e1
  · cases n with
    | zero =>
      cases e1
      cases e2
      refine ⟨ns.map V.int, ?_, RVs.of_ints ns⟩
      rcases hS with (hS | ⟨o, hS⟩) | hS
      · rcases hO a with z | ⟨o, xs, z⟩
        · rw [z] at hS; cases hS
        · rw [z] at hS; cases hS
      · exact .inl ⟨o, hS⟩
      · exact .inr hS
    | succ n => simp at e1
  · rw [h]
    intro V H' ρ' _ _ _ rv
    cases rv
    rfl

/-! ### the head's facts, with tables of the top -/
abbrev AlX : Type := He.AlD × Bool
def obsX (fa : List He.Fa) (fn : List He.DefD) (ex : PySem.W.Frag → Bool) (K : PySem.W.Frag) : AlX := (He.obsD fa fn K, ex K)
def obsXG (n : Nat) (fa : List He.Fa) (fn : List He.DefD) (ex : PySem.W.Frag → Bool) (g : Addr → Option Obj) : AlX := obsX fa fn ex (He.frG g (He.asD g n))
def SaysX (fa : List He.Fa) (fn : List He.DefD) (ex : PySem.W.Frag → Bool) (K : PySem.W.Frag) : Prop := obsX fa fn ex K = (He.valD fn, true)
def hookX (n : Nat) (fa : List He.Fa) (fn : List He.DefD) (ex : PySem.W.Frag → Bool) : PySem.W.Hook where
  α := AlX
  obs := fun s => obsXG n fa fn ex s.heap.get?
  val := fun _ => (He.valD fn, true)
  says := fun _ h => ∃ K : PySem.W.Frag, K.In h ∧ SaysX fa fn ex K
  of := fun _ _ e => ⟨_, He.frG_in, e⟩
  keeps := fun _ _ _ ⟨K, hK, c⟩ k => ⟨K, PySem.W.Frag.In.keeps hK k, c⟩
theorem obsXG_eq {n : Nat} {fa : List He.Fa} {fn : List He.DefD} {ex : PySem.W.Frag → Bool} {g : Addr → Option Obj} {s : Shared} (h : ∀ a, g a = s.heap.get? a) : obsXG n fa fn ex g = (hookX n fa fn ex).obs s := by
  have e : g = s.heap.get? := funext h
  rw [e] <;> rfl
theorem SaysX.d {fa : List He.Fa} {fn : List He.DefD} {ex : PySem.W.Frag → Bool} {K : PySem.W.Frag} (c : SaysX fa fn ex K) : He.SaysD fa fn K := congrArg (fun z : AlX => z.1) c
theorem SaysX.x {fa : List He.Fa} {fn : List He.DefD} {ex : PySem.W.Frag → Bool} {K : PySem.W.Frag} (c : SaysX fa fn ex K) : ex K = true := congrArg (fun z : AlX => z.2) c
/-- a tuple of the top, of flat things -/
theorem glob_tup {K : PySem.W.Frag} {h : Heap} {mg : Str → Option Value} (X : K.In h) (G : h.Ns mainGlobals mg) {x : Str} {vs : List He.Dv} {xs : List Val} (c : (He.Fa.glo x).ok K = true) (t : He.tupB K x vs = true) (hv : ∀ ρ H, RVs K ρ H xs (vs.map (He.Dv.v K))) :
    ∃ (u : V) (w : Value), mg x = some w ∧ RelV u w ∧ ∀ ρ H, RV K ρ H (.tup xs) u :=
  ⟨.ref (He.ga K x), _, He.glo_ok X G c, rfl, fun ρ H => .tup (He.tupB_ok t H) (hv ρ H)⟩
theorem glob_int {K : PySem.W.Frag} {h : Heap} {mg : Str → Option Value} (X : K.In h) (G : h.Ns mainGlobals mg) {x : Str} {i : Int} (c : (He.Fa.int x i).ok K = true) :
    ∃ (u : V) (w : Value), mg x = some w ∧ RelV u w ∧ ∀ ρ H, RV K ρ H (.int i) u := by
  obtain ⟨t, e⟩ := He.int_ok X G c
  exact ⟨.int i, _, e, ⟨t, rfl⟩, fun ρ H => .int i⟩
/-- a def by the head's facts -/
theorem defOk_fd {K : PySem.W.Frag} {h : Heap} {mg : Str → Option Value} (X : K.In h) (G : h.Ns mainGlobals mg) {f : Str} {d : Def} {ps : List Str} {args : Arguments} {body : List Stmt} {scope : Scope} {fd : FuncData}
    (c : (He.Fa.glo f).ok K = true) (hF : FunD K f f args body scope [] [] (He.ga K f) fd) (hp : d.names.take d.params = ps) (hl : d.params ≤ d.names.length) (hS : FnScope d.names ps scope) (hB : isSs d.names scope d.body body = true)
    (hb : ∀ (kV doc pm : Value) (an : Option Addr) (cdv ct : Value) (us : List Value), us.length = ps.length → bindArgs (PySem.W.fnOf f f args body scope .none kV doc pm an cdv ct) ⟨us, []⟩ = pure (ps.zip us)) : DefOk K mg f d (He.ga K f) fd := by
  subst hp
  exact ⟨⟨f, args, body, scope, hF, hS, hB⟩, He.glo_ok X G c, hF.kp, hF.bindsN hb, hl⟩
theorem defOk_of {K : PySem.W.Frag} {h : Heap} {mg : Str → Option Value} (X : K.In h) (G : h.Ns mainGlobals mg) {f : Str} {d : Def} {ps : List Str} {args : Arguments} {body : List Stmt} {scope : Scope}
    (c : (He.Fa.glo f).ok K = true) (hd : ∃ fd, FunD K f f args body scope [] [] (He.ga K f) fd) (hp : d.names.take d.params = ps) (hl : d.params ≤ d.names.length) (hS : FnScope d.names ps scope) (hB : isSs d.names scope d.body body = true)
    (hb : ∀ (kV doc pm : Value) (an : Option Addr) (cdv ct : Value) (us : List Value), us.length = ps.length → bindArgs (PySem.W.fnOf f f args body scope .none kV doc pm an cdv ct) ⟨us, []⟩ = pure (ps.zip us)) : ∃ a fd, DefOk K mg f d a fd := by
  obtain ⟨fd, hF⟩ := hd
  subst hp
  exact ⟨_, fd, ⟨f, args, body, scope, hF, hS, hB⟩, He.glo_ok X G c, hF.kp, hF.bindsN hb, hl⟩
end Ev

set_option Elab.async false
set_option linter.all false
set_option maxRecDepth 100000
set_option maxHeartbeats 400000
/-! ## Running the evaluator on letters -/
namespace Ev
open PySem

/-- a block, a test, not yet run -/
noncomputable def runS (F : Fns) (a : CS) (env : Env) (s : Store) : Res (Flow × Env) := evalS F a env s
noncomputable def runT (F : Fns) (c : CE) (env : Env) (s : Store) : Res Bool := (evalE F c env s).bind fun x s1 => testV x s1
noncomputable def runC (F : Fns) (i : Nat) (cond elt : CE) (env : Env) (x : Val) (s : Store) : Res (Option Val) :=
  if isNil cond = true then (evalE F elt (env.set i (some x)) s).bind fun y s3 => .ok (some y) s3
  else (evalE F cond (env.set i (some x)) s).bind fun t s2 => (testV t s2).bind fun b s3 => if b = true then (evalE F elt (env.set i (some x)) s3).bind fun y s4 => .ok (some y) s4 else .ok none s3
section
variable {F : Fns} {env : Env} {st : Store}
@[simp] theorem ev_var {i : Nat} : evalE F (.var i) env st = match env[i]? with | some (some v) => .ok v st | _ => .stuck := rfl
@[simp] theorem ev_none : evalE F .none_ env st = .ok .none st := rfl
@[simp] theorem ev_bool {b : Bool} : evalE F (.bool_ b) env st = .ok (.bool b) st := rfl
@[simp] theorem ev_int {i : Int} : evalE F (.int_ i) env st = .ok (.int i) st := rfl
@[simp] theorem ev_str {s : Str} : evalE F (.str_ s) env st = .ok (.str s) st := rfl
@[simp] theorem ev_glob {x : Str} : evalE F (.glob x) env st = match F.glob x with | some v => .ok v st | none => .stuck := rfl
@[simp] theorem ev_nil : evalE F .nil env st = .ok (.tup []) st := rfl
@[simp] theorem ev_cons {a r : CE} : evalE F (.cons a r) env st = (evalE F a env st).bind fun v s1 => (evalE F r env s1).bind fun w s2 => match w with | .tup vs => .ok (.tup (v :: vs)) s2 | _ => .stuck := rfl
@[simp] theorem ev_tup {a : CE} : evalE F (.tup a) env st = (evalE F a env st).bind fun w s1 => match w with | .tup vs => need (vs.length ≤ sizeLine) (.ok (.tup vs) s1) | _ => .stuck := rfl
@[simp] theorem ev_lst {a : CE} : evalE F (.lst a) env st = (evalE F a env st).bind fun w s1 => match w with | .tup vs => need (vs.length ≤ sizeLine) (.ok (.ref s1.length) (s1 ++ [.lst vs])) | _ => .stuck := rfl
@[simp] theorem ev_bin {op : Bop} {a b : CE} : evalE F (.bin op a b) env st = (evalE F a env st).bind fun x s1 => (evalE F b env s1).bind fun y s2 => binop op x y s2 := rfl
@[simp] theorem ev_neg {a : CE} : evalE F (.neg a) env st = (evalE F a env st).bind fun x s1 => match x with | .int i => .ok (.int (-i)) s1 | _ => .stuck := rfl
@[simp] theorem ev_cmp {op : Cop} {a b : CE} : evalE F (.cmp op a b) env st = (evalE F a env st).bind fun x s1 => (evalE F b env s1).bind fun y s2 => cmpop op x y s2 := rfl
@[simp] theorem ev_chain {op op' : Cop} {a b c : CE} : evalE F (.chain op op' a b c) env st = (evalE F a env st).bind fun x s1 => (evalE F b env s1).bind fun y s2 => (cmpop op x y s2).bind fun r s3 => match r with
    | .bool d => if d = true then (evalE F c env s3).bind fun z s4 => cmpop op' y z s4 else .ok (.bool false) s3
    | _ => .stuck := rfl
@[simp] theorem ev_and1 {a : CE} : evalE F (.and1 a) env st = evalE F a env st := rfl
@[simp] theorem ev_and2 {a r : CE} : evalE F (.and2 a r) env st = (evalE F a env st).bind fun x s1 => match x with
    | .bool d => if d = true then evalE F r env s1 else .ok (.bool false) s1
    | _ => .stuck := rfl
@[simp] theorem ev_or1 {a : CE} : evalE F (.or1 a) env st = evalE F a env st := rfl
@[simp] theorem ev_or2 {a r : CE} : evalE F (.or2 a r) env st = (evalE F a env st).bind fun x s1 => match x with
    | .bool d => if d = true then .ok (.bool true) s1 else evalE F r env s1
    | _ => .stuck := rfl
@[simp] theorem ev_not {a : CE} : evalE F (.not_ a) env st = (evalE F a env st).bind fun x s1 => (testV x s1).bind fun b s2 => .ok (.bool (!b)) s2 := rfl
@[simp] theorem ev_ifx {c a b : CE} : evalE F (.ifx c a b) env st = (evalE F c env st).bind fun x s1 => (testV x s1).bind fun t s2 => if t = true then evalE F a env s2 else evalE F b env s2 := rfl
@[simp] theorem ev_ix {a i : CE} : evalE F (.ix a i) env st = (evalE F a env st).bind fun x s1 => (evalE F i env s1).bind fun y s2 => ixop x y s2 := rfl
@[simp] theorem ev_slice {a lo hi : CE} : evalE F (.slice a lo hi) env st = (evalE F a env st).bind fun x s1 =>
    (if isNil lo = true then Res.ok none s1 else (evalE F lo env s1).bind part).bind fun l s2 =>
    (if isNil hi = true then Res.ok none s2 else (evalE F hi env s2).bind part).bind fun h s3 => sliceop x l h s3 := rfl
@[simp] theorem ev_call {f : Str} {a : CE} : evalE F (.call f a) env st = (evalE F a env st).bind fun w s1 => match w with | .tup vs => F.fn f vs s1 | _ => .stuck := rfl
@[simp] theorem ev_bi {b : Bi} {a : CE} : evalE F (.bi b a) env st = (evalE F a env st).bind fun w s1 => match w with | .tup vs => bifn b vs s1 | _ => .stuck := rfl
@[simp] theorem ev_isi {t : Ty} {a : CE} : evalE F (.isi t a) env st = (evalE F a env st).bind fun x s1 => match isInst t s1 x with | some b => .ok (.bool b) s1 | none => .stuck := rfl
@[simp] theorem ev_meth {m : Mt} {o a : CE} : evalE F (.meth m o a) env st = (evalE F o env st).bind fun x s1 => need (mtOk m x s1 = true) <| (evalE F a env s1).bind fun w s2 => match w with | .tup vs => metop m x vs s2 | _ => .stuck := rfl
@[simp] theorem ev_comp {k : Src} {i : Nat} {src cond elt : CE} : evalE F (.comp k i src cond elt) env st = (evalE F src env st).bind fun v s1 => match srcItems k v s1 with
    | some xs => compLoop (runC F i cond elt env) (stays k v xs) s1.length xs (s1 ++ [.lst []])
    | none => .stuck := rfl
@[simp] theorem ev_kv {k v r : CE} : evalE F (.kv k v r) env st = (evalE F k env st).bind fun x s1 => (evalE F v env s1).bind fun y s2 => (evalE F r env s2).bind fun w s3 => match w with | .tup vs => .ok (.tup (x :: y :: vs)) s3 | _ => .stuck := rfl
@[simp] theorem ev_dict {ps : CE} : evalE F (.dict ps) env st = (evalE F ps env (st ++ [.dict []])).bind fun w s1 => match w with
    | .tup vs => (match s1[st.length]?, toPairs vs with
      | some (.dict []), some kvs => need (kvs.length ≤ 15) (.ok (.ref st.length) (s1.set st.length (.dict (mergeKV [] kvs))))
      | _, _ => .stuck)
    | _ => .stuck := rfl
/-! statements -/
@[simp] theorem es_skip : evalS F .skip env st = .ok (.next, env) st := rfl
@[simp] theorem es_seq {s r : CS} : evalS F (.seq s r) env st = (evalS F s env st).bind fun p s1 => match p.1 with
    | .next => evalS F r p.2 s1
    | f => .ok (f, p.2) s1 := rfl
@[simp] theorem es_expr {e : CE} : evalS F (.expr e) env st = (evalE F e env st).bind fun _ s1 => .ok (.next, env) s1 := rfl
@[simp] theorem es_ret {e : CE} : evalS F (.ret e) env st = (evalE F e env st).bind fun v s1 => .ok (.ret v, env) s1 := rfl
@[simp] theorem es_retN : evalS F .retN env st = .ok (.ret .none, env) st := rfl
@[simp] theorem es_pass : evalS F .pass env st = .ok (.next, env) st := rfl
@[simp] theorem es_brk : evalS F .brk env st = .ok (.brk, env) st := rfl
@[simp] theorem es_cont : evalS F .cont env st = .ok (.cont, env) st := rfl
@[simp] theorem es_set {i : Nat} {e : CE} : evalS F (.set i e) env st = (evalE F e env st).bind fun v s1 => .ok (.next, env.set i (some v)) s1 := rfl
@[simp] theorem es_tset {is : List Nat} {e : CE} : evalS F (.tset is e) env st = (evalE F e env st).bind fun v s1 => match v with
    | .tup vs => (match setAll is vs env with | some env1 => .ok (.next, env1) s1 | none => .stuck)
    | _ => .stuck := rfl
@[simp] theorem es_sub {o i e : CE} : evalS F (.sub o i e) env st = (evalE F e env st).bind fun v s1 => (evalE F o env s1).bind fun x s2 => (evalE F i env s2).bind fun y s3 => (subStore x y v s3).bind fun _ s4 => .ok (.next, env) s4 := rfl
@[simp] theorem es_if {c : CE} {a b : CS} : evalS F (.if_ c a b) env st = (evalE F c env st).bind fun x s1 => (testV x s1).bind fun t s2 => if t = true then evalS F a env s2 else evalS F b env s2 := rfl
@[simp] theorem es_while {c : CE} {a : CS} : evalS F (.while_ c a) env st = whileLoop (runT F c) (runS F a) F.fuel env st := rfl
@[simp] theorem es_for {k : Src} {is : List Nat} {src : CE} {a : CS} : evalS F (.for_ k is src a) env st = (evalE F src env st).bind fun v s1 => match srcItems k v s1 with
    | some xs => forLoop is (stays k v xs) (runS F a) xs env s1
    | none => .stuck := rfl
@[simp] theorem es_never : evalS F .never env st = .stuck := rfl
end

/-! ### operations on values -/
section
variable {st : Store}
@[simp] theorem tv_bool {b : Bool} : testV (.bool b) st = .ok b st := rfl
@[simp] theorem tv_none : testV .none st = .ok false st := rfl
@[simp] theorem tv_int {i : Int} : testV (.int i) st = .ok (i != 0) st := rfl
@[simp] theorem tv_tup {xs : List Val} : testV (.tup xs) st = .ok (!xs.isEmpty) st := rfl
@[simp] theorem b_add {i j : Int} : binop .add (.int i) (.int j) st = .ok (.int (i + j)) st := rfl
@[simp] theorem b_sub {i j : Int} : binop .sub (.int i) (.int j) st = .ok (.int (i - j)) st := rfl
@[simp] theorem b_addT {xs ys : List Val} : binop .add (.tup xs) (.tup ys) st = need (xs.length + ys.length ≤ sizeLine) (.ok (.tup (xs ++ ys)) st) := rfl
@[simp] theorem b_addS {x y : Str} : binop .add (.str x) (.str y) st = need (x.length + y.length ≤ sizeLine) (.ok (.str (x ++ y)) st) := rfl
theorem b_mul {i j : Int} (h : (-(2 ^ 64) < i ∧ i < 2 ^ 64) ∨ (-(2 ^ 64) < j ∧ j < 2 ^ 64)) : binop .mul (.int i) (.int j) st = .ok (.int (i * j)) st := if_pos h
theorem b_fdiv {i j : Int} (h : 0 < j) (h2 : j < 1073741824) : binop .fdiv (.int i) (.int j) st = .ok (.int (i / j)) st := if_pos ⟨h, h2⟩
theorem b_mod {i j : Int} (h : 0 < j) : binop .mod (.int i) (.int j) st = .ok (.int (i % j)) st := if_pos h
theorem b_pow {i j : Int} (h : 0 ≤ j ∧ j ≤ 1000000 ∧ i.natAbs < 2 ^ 64) : binop .pow (.int i) (.int j) st = .ok (.int (i ^ j.toNat)) st := if_pos h
theorem b_addL {n m : Nat} {xs ys : List Val} (h1 : st[n]? = some (.lst xs)) (h2 : st[m]? = some (.lst ys)) (h : xs.length + ys.length ≤ sizeLine) : binop .add (.ref n) (.ref m) st = Res.ok (Val.ref st.length) (st ++ [.lst (xs ++ ys)]) := by
  show (match st[n]?, st[m]? with
    | some (.lst xs), some (.lst ys) => need (xs.length + ys.length ≤ sizeLine) (Res.ok (Val.ref st.length) (st ++ [Cell.lst (xs ++ ys)]))
    | _, _ => Res.stuck) = _
  rw [h1, h2]; exact need_pos h
@[simp] theorem c_eqI {i j : Int} : cmpop .eq (.int i) (.int j) st = .ok (.bool (decide (i = j))) st := rfl
@[simp] theorem c_neI {i j : Int} : cmpop .ne (.int i) (.int j) st = .ok (.bool (!decide (i = j))) st := rfl
@[simp] theorem c_eqS {i j : Str} : cmpop .eq (.str i) (.str j) st = .ok (.bool (decide (i = j))) st := rfl
@[simp] theorem c_neS {i j : Str} : cmpop .ne (.str i) (.str j) st = .ok (.bool (!decide (i = j))) st := rfl
@[simp] theorem c_eqNI {j : Int} : cmpop .eq .none (.int j) st = .ok (.bool false) st := rfl
@[simp] theorem c_eqIN {j : Int} : cmpop .eq (.int j) .none st = .ok (.bool false) st := rfl
@[simp] theorem c_neNI {j : Int} : cmpop .ne .none (.int j) st = .ok (.bool true) st := rfl
@[simp] theorem c_neIN {j : Int} : cmpop .ne (.int j) .none st = .ok (.bool true) st := rfl
@[simp] theorem c_neNN : cmpop .ne .none .none st = .ok (.bool false) st := rfl
@[simp] theorem c_eqNN : cmpop .eq .none .none st = .ok (.bool true) st := rfl
@[simp] theorem c_neB {a b : Bool} : cmpop .ne (.bool a) (.bool b) st = .ok (.bool (!decide (a = b))) st := rfl
@[simp] theorem c_eqB {a b : Bool} : cmpop .eq (.bool a) (.bool b) st = .ok (.bool (decide (a = b))) st := rfl
@[simp] theorem c_lt {i j : Int} : cmpop .lt (.int i) (.int j) st = .ok (.bool (decide (i < j))) st := rfl
@[simp] theorem c_le {i j : Int} : cmpop .le (.int i) (.int j) st = .ok (.bool (decide (i ≤ j))) st := rfl
@[simp] theorem c_gt {i j : Int} : cmpop .gt (.int i) (.int j) st = .ok (.bool (decide (j < i))) st := rfl
@[simp] theorem c_ge {i j : Int} : cmpop .ge (.int i) (.int j) st = .ok (.bool (decide (j ≤ i))) st := rfl
@[simp] theorem c_isN : cmpop .is_ .none .none st = .ok (.bool true) st := rfl
@[simp] theorem c_isI {i : Int} : cmpop .is_ (.int i) .none st = .ok (.bool false) st := rfl
@[simp] theorem c_isT {i : List Val} : cmpop .is_ (.tup i) .none st = .ok (.bool false) st := rfl
@[simp] theorem c_inN : cmpop .isnot .none .none st = .ok (.bool false) st := rfl
@[simp] theorem c_inI {i : Int} : cmpop .isnot (.int i) .none st = .ok (.bool true) st := rfl
@[simp] theorem c_inT {i : List Val} : cmpop .isnot (.tup i) .none st = .ok (.bool true) st := rfl
@[simp] theorem i_none {t : Ty} : isInst t st .none = some false := rfl
@[simp] theorem i_bool {t : Ty} {b : Bool} : isInst t st (.bool b) = some (decide (t = .int) || decide (t = .bool)) := rfl
@[simp] theorem i_int {t : Ty} {b : Int} : isInst t st (.int b) = some (decide (t = .int)) := rfl
@[simp] theorem i_str {t : Ty} {b : Str} : isInst t st (.str b) = some (decide (t = .str)) := rfl
@[simp] theorem i_tup {t : Ty} {b : List Val} : isInst t st (.tup b) = some (decide (t = .tuple)) := rfl
theorem i_lst {t : Ty} {n : Nat} {xs : List Val} (h : st[n]? = some (.lst xs)) : isInst t st (.ref n) = some (decide (t = .list)) := by
  show (match st[n]? with | some (.lst _) => some (decide (t = Ty.list)) | _ => none) = _
  rw [h]
/-! items -/
@[simp] theorem at_0 {α : Type} {a : α} {r : List α} : L2.atI (a :: r) 0 = some a := by
  unfold L2.atI L2.ixN
  rw [if_pos (by decide), if_pos (by simp)]; rfl
theorem at_nat {α : Type} {xs : List α} {k : Nat} {v : α} (h : xs[k]? = some v) : L2.atI xs (k : Int) = some v := by
  have hk := (List.getElem?_eq_some_iff.mp h).1
  unfold L2.atI L2.ixN
  rw [if_pos (by omega), if_pos (by omega)]
  exact h
theorem at_last {α : Type} {xs : List α} {v : α} (h : xs.getLast? = some v) : L2.atI xs (-1) = some v := by
  have hne : xs ≠ [] := by intro e; subst e; simp at h
  have hl : 0 < xs.length := List.length_pos_iff.mpr hne
  unfold L2.atI L2.ixN
  rw [if_neg (by decide), if_pos (by omega)]
  rw [List.getLast?_eq_getElem?] at h
  show xs[((-1 : Int) + xs.length).toNat]? = some v
  have : ((-1 : Int) + xs.length).toNat = xs.length - 1 := by omega
  rw [this]; exact h
@[simp] theorem at_1 {α : Type} {a b : α} {r : List α} : L2.atI (a :: b :: r) 1 = some b := at_nat (k := 1) rfl
@[simp] theorem at_2 {α : Type} {a b c : α} {r : List α} : L2.atI (a :: b :: c :: r) 2 = some c := at_nat (k := 2) rfl
@[simp] theorem at_3 {α : Type} {a b c d : α} {r : List α} : L2.atI (a :: b :: c :: d :: r) 3 = some d := at_nat (k := 3) rfl
@[simp] theorem at_4 {α : Type} {a b c d e : α} {r : List α} : L2.atI (a :: b :: c :: d :: e :: r) 4 = some e := at_nat (k := 4) rfl
@[simp] theorem at_5 {α : Type} {a b c d e f : α} {r : List α} : L2.atI (a :: b :: c :: d :: e :: f :: r) 5 = some f := at_nat (k := 5) rfl
@[simp] theorem at_6 {α : Type} {a b c d e f g : α} {r : List α} : L2.atI (a :: b :: c :: d :: e :: f :: g :: r) 6 = some g := at_nat (k := 6) rfl
@[simp] theorem at_m1 {α : Type} {a : α} : L2.atI [a] (-1) = some a := at_last rfl
@[simp] theorem at_m2 {α : Type} {a b : α} : L2.atI [a, b] (-1) = some b := at_last rfl
@[simp] theorem at_m3 {α : Type} {a b c : α} : L2.atI [a, b, c] (-1) = some c := at_last rfl
@[simp] theorem at_m5 {α : Type} {a b c d e : α} : L2.atI [a, b, c, d, e] (-1) = some e := at_last rfl
@[simp] theorem at_m7 {α : Type} {a b c d e f g : α} : L2.atI [a, b, c, d, e, f, g] (-1) = some g := at_last rfl
@[simp] theorem ix_tup {xs : List Val} {k : Int} : ixop (.tup xs) (.int k) st = match L2.atI xs k with | some v => .ok v st | none => .stuck := rfl
theorem ix_lst {n : Nat} {xs : List Val} {k : Int} (h : listAt st n = some xs) : ixop (.ref n) (.int k) st = match L2.atI xs k with | some v => .ok v st | none => .stuck := by
  unfold listAt at h
  show (match (st[n]?).bind fun c => ixCell c (Val.int k) with | some v => Res.ok v st | none => Res.stuck) = _
  split at h
  · rename_i e; cases h; rw [e]; rfl
  · rename_i e; cases h; rw [e]; rfl
  · cases h
theorem listAt_lst {n : Nat} {xs : List Val} (h : st[n]? = some (.lst xs)) : listAt st n = some xs := by unfold listAt; rw [h]
theorem listAt_ro {n : Nat} {xs : List Val} (h : st[n]? = some (.ro xs)) : listAt st n = some xs := by unfold listAt; rw [h]
@[simp] theorem l_tup {xs : List Val} : bifn .len [.tup xs] st = .ok (.int xs.length) st := rfl
theorem l_ref {n : Nat} {xs : List Val} (h : listAt st n = some xs) : bifn .len [.ref n] st = .ok (.int xs.length) st := by
  show (match listAt st n with | some xs => Res.ok (Val.int xs.length) st | none => Res.stuck) = _
  rw [h]
@[simp] theorem bi_abs {i : Int} : bifn .abs [.int i] st = .ok (.int (iabs i)) st := rfl
@[simp] theorem bi_max {i j : Int} : bifn .max [.int i, .int j] st = .ok (.int (imax i j)) st := rfl
@[simp] theorem bi_min {i j : Int} : bifn .min [.int i, .int j] st = .ok (.int (imin i j)) st := rfl
@[simp] theorem bi_int {i : Int} : bifn .int [.int i] st = .ok (.int i) st := rfl
@[simp] theorem bi_intB {b : Bool} : bifn .int [.bool b] st = .ok (.int (if b then 1 else 0)) st := rfl
@[simp] theorem bi_tupT {xs : List Val} : bifn .tuple [.tup xs] st = .ok (.tup xs) st := rfl
@[simp] theorem bi_lstT {xs : List Val} : bifn .list [.tup xs] st = .ok (.ref st.length) (st ++ [.lst xs]) := rfl
theorem bi_tupL {n : Nat} {xs : List Val} (h : listAt st n = some xs) : bifn .tuple [.ref n] st = .ok (.tup xs) st := by
  show (match listAt st n with | some xs => Res.ok (Val.tup xs) st | none => Res.stuck) = _
  rw [h]
theorem bi_sum {n : Nat} {xs : List Val} {ns : List Int} (h : listAt st n = some xs) (h2 : allInts xs = some ns) : bifn .sum [.ref n] st = .ok (.int ns.sum) st := by
  show (match (listAt st n).bind allInts with | some ns => Res.ok (Val.int ns.sum) st | none => Res.stuck) = _
  rw [h]
  show (match allInts xs with | some ns => Res.ok (Val.int ns.sum) st | none => Res.stuck) = _
  rw [h2]
theorem bi_all {n : Nat} {xs : List Val} {ns : List Bool} (h : listAt st n = some xs) (h2 : allBools xs = some ns) : bifn .all [.ref n] st = .ok (.bool (ns.all id)) st := by
  show (match (listAt st n).bind allBools with | some ns => Res.ok (Val.bool (ns.all id)) st | none => Res.stuck) = _
  rw [h]
  show (match allBools xs with | some ns => Res.ok (Val.bool (ns.all id)) st | none => Res.stuck) = _
  rw [h2]
@[simp] theorem allInts_map {α : Type} {f : α → Int} : ∀ xs : List α, allInts (xs.map fun x => Val.int (f x)) = some (xs.map f)
  | [] => rfl
  | x :: xs => by
    show (allInts (xs.map fun x => Val.int (f x))).map (f x :: ·) = _
    rw [allInts_map xs]; rfl
@[simp] theorem allBools_map {α : Type} {f : α → Bool} : ∀ xs : List α, allBools (xs.map fun x => Val.bool (f x)) = some (xs.map f)
  | [] => rfl
  | x :: xs => by
    show (allBools (xs.map fun x => Val.bool (f x))).map (f x :: ·) = _
    rw [allBools_map xs]; rfl
theorem m_append {n : Nat} {xs : List Val} {y : Val} (h : st[n]? = some (.lst xs)) (hl : xs.length < sizeLine) : metop .append (.ref n) [y] st = .ok .none (st.set n (.lst (xs ++ [y]))) := by
  show (match st[n]? with
    | some (.lst xs) => need (xs.length < sizeLine) (Res.ok Val.none (st.set n (Cell.lst (xs ++ [y]))))
    | _ => Res.stuck) = _
  rw [h]; exact need_pos hl
theorem m_count {n : Nat} {xs : List Val} {ns : List Int} {k : Int} (h : listAt st n = some xs) (h2 : allInts xs = some ns) : metop .count (.ref n) [.int k] st = .ok (.int (ns.count k : Nat)) st := by
  show (match (listAt st n).bind allInts with | some ns => Res.ok (Val.int (ns.count k : Nat)) st | none => Res.stuck) = _
  rw [h]
  show (match allInts xs with | some ns => Res.ok (Val.int (ns.count k : Nat)) st | none => Res.stuck) = _
  rw [h2]
theorem mk_list {m : Mt} {n : Nat} {xs : List Val} (h : listAt st n = some xs) (hm : m ≠ .get) : mtOk m (.ref n) st = true := by
  cases m with
  | get => exact absurd rfl hm
  | _ => show (listAt st n).isSome = true; rw [h]; rfl
theorem sl_list {n : Nat} {xs : List Val} {l h : Option Int} (e : listAt st n = some xs) : sliceop (.ref n) l h st = .ok (.ref st.length) (st ++ [.lst (cut xs l h)]) := by
  show (match listAt st n with | some xs => Res.ok (Val.ref st.length) (st ++ [Cell.lst (cut xs l h)]) | none => Res.stuck) = _
  rw [e]
@[simp] theorem sl_tup {xs : List Val} {l h : Option Int} : sliceop (.tup xs) l h st = .ok (.tup (cut xs l h)) st := rfl
@[simp] theorem part_int {i : Int} : part (.int i) st = .ok (some i) st := rfl
theorem need_of {α : Type} {p : Prop} [Decidable p] {r : Res α} (h : p) : need p r = r := if_pos h
/-! a test that is open -/
@[simp] theorem ite_bind {α β : Type} {c : Prop} [Decidable c] {x y : Res α} {f : α → Store → Res β} : (if c then x else y).bind f = if c then x.bind f else y.bind f := by split <;> rfl
end

/-! ### letting go -/
section
theorem mergeS_app (n : Nat) : ∀ (st g : Store), mergeS n st (st ++ g) = some st
  | [], g => by cases g <;> rfl
  | c :: cs, g => by
    show mergeS n (c :: cs) (c :: (cs ++ g)) = _
    unfold mergeS
    rw [if_pos (.inl rfl), mergeS_app n cs g]; rfl
theorem mergeS_self (n : Nat) (st : Store) : mergeS n st st = some st := by
  have := mergeS_app n st []
  rwa [List.append_nil] at this
theorem gc_self {st : Store} {v : Val} (h : v.lowB st.length = true) : gc st v st = .ok v st := by
  unfold gc
  rw [mergeS_self]
  simp only
  rw [if_pos h]
theorem gc_app {st g : Store} {v : Val} (h : v.lowB st.length = true) : gc st v (st ++ g) = .ok v st := by
  unfold gc
  rw [mergeS_app]
  simp only
  rw [if_pos h]
/-- the one new list that comes back -/
theorem gc_new {st g : Store} {xs : List Val} {r : Nat} (hr : st.length ≤ r) (e : (st ++ g)[r]? = some (.lst xs)) (h : lowL st.length xs = true) : gc st (.ref r) (st ++ g) = .ok (.ref st.length) (st ++ [.lst xs]) := by
  unfold gc
  rw [mergeS_app]
  simp only
  rw [if_neg (by simp [Val.lowB]; exact hr), e]
  simp only
  rw [if_pos ⟨hr, h⟩]
@[simp] theorem low_none {n : Nat} : Val.none.lowB n = true := rfl
@[simp] theorem low_bool {n : Nat} {b : Bool} : (Val.bool b).lowB n = true := rfl
@[simp] theorem low_int {n : Nat} {b : Int} : (Val.int b).lowB n = true := rfl
@[simp] theorem low_str {n : Nat} {b : Str} : (Val.str b).lowB n = true := rfl
@[simp] theorem low_tup {n : Nat} {xs : List Val} : (Val.tup xs).lowB n = lowL n xs := rfl
@[simp] theorem low_ref {n m : Nat} : (Val.ref m).lowB n = decide (m < n) := rfl
@[simp] theorem lowL_nil {n : Nat} : lowL n [] = true := rfl
@[simp] theorem lowL_cons {n : Nat} {x : Val} {xs : List Val} : lowL n (x :: xs) = (x.lowB n && lowL n xs) := rfl
@[simp] theorem gc_none {st : Store} : gc st .none st = .ok .none st := gc_self rfl
@[simp] theorem gc_bool {st : Store} {b : Bool} : gc st (.bool b) st = .ok (.bool b) st := gc_self rfl
@[simp] theorem gc_int {st : Store} {b : Int} : gc st (.int b) st = .ok (.int b) st := gc_self rfl
@[simp] theorem gc_str {st : Store} {b : Str} : gc st (.str b) st = .ok (.str b) st := gc_self rfl
@[simp] theorem gc_noneA {st g : Store} : gc st .none (st ++ g) = .ok .none st := gc_app rfl
@[simp] theorem gc_boolA {st g : Store} {b : Bool} : gc st (.bool b) (st ++ g) = .ok (.bool b) st := gc_app rfl
@[simp] theorem gc_intA {st g : Store} {b : Int} : gc st (.int b) (st ++ g) = .ok (.int b) st := gc_app rfl
@[simp] theorem gc_strA {st g : Store} {b : Str} : gc st (.str b) (st ++ g) = .ok (.str b) st := gc_app rfl
theorem lowL_app {n : Nat} : ∀ {xs ys : List Val}, lowL n (xs ++ ys) = (lowL n xs && lowL n ys)
  | [], ys => by simp
  | x :: xs, ys => by rw [List.cons_append, lowL_cons, lowL_app, lowL_cons, Bool.and_assoc]
theorem lowL_all {n : Nat} : ∀ {xs : List Val}, lowL n xs = true ↔ ∀ x ∈ xs, x.lowB n = true
  | [] => by simp
  | x :: xs => by rw [lowL_cons, Bool.and_eq_true, lowL_all]; simp
theorem callN_succ {T : Tab} {gl : Str → Option Val} {W n : Nat} {f : Str} {d : Def} {args : List Val} {st : Store} (h : T.lookup f = some d) : callN T gl W (n + 1) f args st = runBody ⟨callN T gl W n, gl, W⟩ d args st := by
  show (match T.lookup f with | some d => runBody ⟨callN T gl W n, gl, W⟩ d args st | none => Res.stuck) = _
  rw [h]
/-- a def's run: its body from its parameters on, then what is no longer reached is let go -/
theorem call_of {T : Tab} {gl : Str → Option Val} {W n : Nat} {f : Str} {d : Def} {args : List Val} {st : Store} {v : Val} {s2 : Store} {r : Res Val} (h : T.lookup f = some d) (hn : 1 ≤ n) (hl : args.length = d.params)
    (hb : ∃ env1 s1, evalS ⟨callN T gl W (n - 1), gl, W⟩ d.body (args.map some ++ List.replicate (d.names.length - args.length) none) st = .ok (.ret v, env1) s1 ∧ gc st v s1 = r) : callN T gl W n f args st = r := by
  obtain ⟨m, rfl⟩ : ∃ m, n = m + 1 := ⟨n - 1, by omega⟩
  obtain ⟨env1, s1, h1, h2⟩ := hb
  rw [callN_succ h]
  unfold runBody
  rw [if_pos hl]
  have h1 : evalS ⟨callN T gl W m, gl, W⟩ d.body (args.map some ++ List.replicate (d.names.length - args.length) none) st = .ok (.ret v, env1) s1 := h1
  rw [h1]
  exact h2
end

/-! ### comprehensions -/
section
variable {f : Val → Store → Res (Option Val)} {ok : Store → Prop} {D : Nat}
open Classical in
theorem comp_nil {st : Store} : compLoop f ok D [] st = if ok st then Res.ok (.ref D) st else Res.stuck := by
  simp only [compLoop]
/-- one item more -/
theorem comp_one {x y : Val} {xs : List Val} {pre : Store} {acc : List Val} {post : Store} {st2 : Store} (h : ok (pre ++ .lst acc :: post)) (hD : D = pre.length) (hf : f x (pre ++ .lst acc :: post) = .ok (some y) st2) (h2 : st2[D]? = some (.lst acc)) (hl : acc.length < sizeLine) :
    compLoop f ok D (x :: xs) (pre ++ .lst acc :: post) = compLoop f ok D xs (st2.set D (.lst (acc ++ [y]))) := by
  simp only [compLoop]
  rw [if_pos h, hf, bind_ok]
  simp only [h2]
  rw [if_pos hl]
theorem comp_skip {x : Val} {xs : List Val} {st st2 : Store} (h : ok st) (hf : f x st = .ok none st2) : compLoop f ok D (x :: xs) st = compLoop f ok D xs st2 := by
  simp only [compLoop]
  rw [if_pos h, hf, bind_ok]
/-- every item gives one, the store stays -/
theorem comp_map {α : Type} {g : α → Val} {enc : α → Val} {pre : Store} (hD : D = pre.length) (hok : ∀ acc, ok (pre ++ [.lst acc])) :
    ∀ (xs : List α) (acc : List Val), (∀ a ∈ xs, ∀ acc, f (enc a) (pre ++ [.lst acc]) = .ok (some (g a)) (pre ++ [.lst acc])) → acc.length + xs.length ≤ sizeLine → compLoop f ok D (xs.map enc) (pre ++ [.lst acc]) = .ok (.ref D) (pre ++ [.lst (acc ++ xs.map g)])
  | [], acc, _, _ => by
    rw [List.map_nil, List.map_nil, List.append_nil, comp_nil]
    exact if_pos (hok _)
  | x :: xs, acc, hf, hl => by
    have e : (pre ++ [Cell.lst acc])[D]? = some (.lst acc) := by rw [hD, List.getElem?_append_right (Nat.le_refl _)]; simp
    have e2 : (pre ++ [Cell.lst acc]).set D (.lst (acc ++ [g x])) = pre ++ [.lst (acc ++ [g x])] := by
      rw [hD, List.set_append_right _ _ (Nat.le_refl _)]; simp
    rw [List.map_cons, comp_one (post := []) (hok _) hD (hf x List.mem_cons_self acc) e (by simp at hl; omega), e2, comp_map hD hok xs (acc ++ [g x]) (fun a ha => hf a (List.mem_cons_of_mem _ ha)) (by simp at hl ⊢; omega)]
    simp
end
theorem gc_ret {st : Store} {xs : List Val} (h : lowL st.length xs = true) : gc st (.ref st.length) (st ++ [.lst xs]) = .ok (.ref st.length) (st ++ [.lst xs]) := gc_new (Nat.le_refl _) (by simp) h
end Ev

set_option Elab.async false
set_option linter.all false
set_option maxRecDepth 100000
set_option maxHeartbeats 0
namespace Ev
open PySem
/-! ### texts of the program -/
def s_TURNS : Str := ⟨#[84, 85, 82, 78, 83]⟩
def s_MOST_LEAD : Str := ⟨#[77, 79, 83, 84, 95, 76, 69, 65, 68]⟩
def s_MOST_GOAL : Str := ⟨#[77, 79, 83, 84, 95, 71, 79, 65, 76]⟩
def s_SERIES : Str := ⟨#[83, 69, 82, 73, 69, 83]⟩
def s_series : Str := ⟨#[115, 101, 114, 105, 101, 115]⟩
def s_tied : Str := ⟨#[116, 105, 101, 100]⟩
def s_race : Str := ⟨#[114, 97, 99, 101]⟩
def s_point : Str := ⟨#[112, 111, 105, 110, 116]⟩
def s_MOST_SIZE : Str := ⟨#[77, 79, 83, 84, 95, 83, 73, 90, 69]⟩
def s_MOST_DEEP : Str := ⟨#[77, 79, 83, 84, 95, 68, 69, 69, 80]⟩
def s_MOST_POINTS : Str := ⟨#[77, 79, 83, 84, 95, 80, 79, 73, 78, 84, 83]⟩
def s_pairs : Str := ⟨#[112, 97, 105, 114, 115]⟩
def s_twos : Str := ⟨#[116, 119, 111, 115]⟩
def s_each : Str := ⟨#[101, 97, 99, 104]⟩
def s_keep : Str := ⟨#[107, 101, 101, 112]⟩
def s_on : Str := ⟨#[111, 110]⟩
def s_winner : Str := ⟨#[119, 105, 110, 110, 101, 114]⟩
def s_over : Str := ⟨#[111, 118, 101, 114]⟩
def s_0110 : Str := ⟨#[48, 49, 49, 48]⟩
def s_0011 : Str := ⟨#[48, 48, 49, 49]⟩
def s_0101 : Str := ⟨#[48, 49, 48, 49]⟩
def s_0000 : Str := ⟨#[48, 48, 48, 48]⟩
def f_is_number : Str := ⟨#[105, 115, 95, 110, 117, 109, 98, 101, 114]⟩
def f_is_turn : Str := ⟨#[105, 115, 95, 116, 117, 114, 110]⟩
def f_is_race : Str := ⟨#[105, 115, 95, 114, 97, 99, 101]⟩
def f_is_tied : Str := ⟨#[105, 115, 95, 116, 105, 101, 100]⟩
def f_is_series : Str := ⟨#[105, 115, 95, 115, 101, 114, 105, 101, 115]⟩
def f_is_shape : Str := ⟨#[105, 115, 95, 115, 104, 97, 112, 101]⟩
def f_parts : Str := ⟨#[112, 97, 114, 116, 115]⟩
def f_size_of : Str := ⟨#[115, 105, 122, 101, 95, 111, 102]⟩
def f_is_form : Str := ⟨#[105, 115, 95, 102, 111, 114, 109]⟩
def f_look_form : Str := ⟨#[108, 111, 111, 107, 95, 102, 111, 114, 109]⟩
def f_look_side : Str := ⟨#[108, 111, 111, 107, 95, 115, 105, 100, 101]⟩
def f_look_row : Str := ⟨#[108, 111, 111, 107, 95, 114, 111, 119]⟩
def f_inner_at : Str := ⟨#[105, 110, 110, 101, 114, 95, 97, 116]⟩
def f_begun : Str := ⟨#[98, 101, 103, 117, 110]⟩
def f_won_by : Str := ⟨#[119, 111, 110, 95, 98, 121]⟩
def f_served : Str := ⟨#[115, 101, 114, 118, 101, 100]⟩
def f_decided : Str := ⟨#[100, 101, 99, 105, 100, 101, 100]⟩
def f_behind : Str := ⟨#[98, 101, 104, 105, 110, 100]⟩
def f_lifted : Str := ⟨#[108, 105, 102, 116, 101, 100]⟩
def f_pushed : Str := ⟨#[112, 117, 115, 104, 101, 100]⟩
def f_pairs : Str := ⟨#[112, 97, 105, 114, 115]⟩
def f_server_of : Str := ⟨#[115, 101, 114, 118, 101, 114, 95, 111, 102]⟩
def f_winner_of : Str := ⟨#[119, 105, 110, 110, 101, 114, 95, 111, 102]⟩
def f_played : Str := ⟨#[112, 108, 97, 121, 101, 100]⟩
def f_state_of : Str := ⟨#[115, 116, 97, 116, 101, 95, 111, 102]⟩
def f_standing : Str := ⟨#[115, 116, 97, 110, 100, 105, 110, 103]⟩
def f_winner : Str := ⟨#[119, 105, 110, 110, 101, 114]⟩
def f_server : Str := ⟨#[115, 101, 114, 118, 101, 114]⟩
def f_closing : Str := ⟨#[99, 108, 111, 115, 105, 110, 103]⟩
def f_closes : Str := ⟨#[99, 108, 111, 115, 101, 115]⟩
def f__law_cell : Str := ⟨#[95, 108, 97, 119, 95, 99, 101, 108, 108]⟩
def f__law_mix : Str := ⟨#[95, 108, 97, 119, 95, 109, 105, 120]⟩
def f__law_draw : Str := ⟨#[95, 108, 97, 119, 95, 100, 114, 97, 119]⟩
def f__law_pick : Str := ⟨#[95, 108, 97, 119, 95, 112, 105, 99, 107]⟩
def f__law_turn : Str := ⟨#[95, 108, 97, 119, 95, 116, 117, 114, 110]⟩
def f__law_next : Str := ⟨#[95, 108, 97, 119, 95, 110, 101, 120, 116]⟩
def f__law_over : Str := ⟨#[95, 108, 97, 119, 95, 111, 118, 101, 114]⟩
def f__law_points : Str := ⟨#[95, 108, 97, 119, 95, 112, 111, 105, 110, 116, 115]⟩
def f_law : Str := ⟨#[108, 97, 119]⟩
/-! ### the defs of the program, as core terms -/
def c_is_number : Def := ⟨3, ["thing", "least", "most"], (.seq (.ret (.and2 (.isi .int (.var 0)) (.and2 (.not_ (.isi .bool (.var 0))) (.and1 (.chain .le .le (.var 1) (.var 0) (.var 2)))))) .skip)⟩
def c_is_turn : Def := ⟨1, ["thing"], (.seq (.ret (.and2 (.isi .str (.var 0)) (.and1 (.cmp .isin (.var 0) (.glob s_TURNS))))) .skip)⟩
def c_is_race : Def := ⟨2, ["thing", "room"], (.seq (.if_ (.or2 (.not_ (.call f_is_shape (.cons (.ix (.var 0) (.int_ 1)) (.cons (.var 1) .nil)))) (.or1 (.not_ (.call f_is_number (.cons (.ix (.var 0) (.int_ 2)) (.cons (.int_ 1) (.cons (.glob s_MOST_GOAL) .nil))))))) (.seq (.ret (.bool_ false)) .skip) .skip) (.seq (.ret (.and2 (.call f_is_number (.cons (.ix (.var 0) (.int_ 3)) (.cons (.int_ 1) (.cons (.glob s_MOST_LEAD) .nil)))) (.and1 (.call f_is_turn (.cons (.ix (.var 0) (.neg (.int_ 1))) .nil))))) .skip))⟩
def c_is_tied : Def := ⟨2, ["thing", "room"], (.seq (.if_ (.or2 (.not_ (.call f_is_race (.cons (.var 0) (.cons (.var 1) .nil)))) (.or2 (.not_ (.call f_is_number (.cons (.ix (.var 0) (.int_ 4)) (.cons (.int_ 1) (.cons (.glob s_MOST_GOAL) .nil))))) (.or1 (.not_ (.call f_is_shape (.cons (.ix (.var 0) (.int_ 5)) (.cons (.var 1) .nil))))))) (.seq (.ret (.bool_ false)) .skip) .skip) (.seq (.ret (.or2 (.cmp .gt (.ix (.var 0) (.int_ 3)) (.int_ 1)) (.or1 (.cmp .lt (.ix (.var 0) (.int_ 4)) (.ix (.var 0) (.int_ 2)))))) .skip))⟩
def c_is_series : Def := ⟨2, ["thing", "room", "one"], (.seq (.if_ (.or2 (.not_ (.isi .tuple (.ix (.var 0) (.int_ 1)))) (.or2 (.cmp .notin (.bi .len (.cons (.ix (.var 0) (.int_ 1)) .nil)) (.glob s_SERIES)) (.or1 (.not_ (.call f_is_turn (.cons (.ix (.var 0) (.int_ 2)) .nil)))))) (.seq (.ret (.bool_ false)) .skip) .skip) (.seq (.ret (.bi .all (.cons (.comp .seq 2 (.ix (.var 0) (.int_ 1)) .nil (.call f_is_shape (.cons (.var 2) (.cons (.var 1) .nil)))) .nil))) .skip))⟩
def c_is_shape : Def := ⟨2, ["thing", "room"], (.seq (.if_ (.or2 (.cmp .eq (.var 1) (.int_ 0)) (.or2 (.not_ (.isi .tuple (.var 0))) (.or2 (.cmp .eq (.var 0) (.tup .nil)) (.or1 (.not_ (.isi .str (.ix (.var 0) (.int_ 0)))))))) (.seq (.ret (.bool_ false)) .skip) .skip) (.seq (.if_ (.cmp .eq (.ix (.var 0) (.int_ 0)) (.str_ s_point)) (.seq (.ret (.cmp .eq (.bi .len (.cons (.var 0) .nil)) (.int_ 1))) .skip) .skip) (.seq (.if_ (.cmp .eq (.ix (.var 0) (.int_ 0)) (.str_ s_race)) (.seq (.ret (.and2 (.cmp .eq (.bi .len (.cons (.var 0) .nil)) (.int_ 5)) (.and1 (.call f_is_race (.cons (.var 0) (.cons (.bin .sub (.var 1) (.int_ 1)) .nil)))))) .skip) .skip) (.seq (.if_ (.cmp .eq (.ix (.var 0) (.int_ 0)) (.str_ s_tied)) (.seq (.ret (.and2 (.cmp .eq (.bi .len (.cons (.var 0) .nil)) (.int_ 7)) (.and1 (.call f_is_tied (.cons (.var 0) (.cons (.bin .sub (.var 1) (.int_ 1)) .nil)))))) .skip) .skip) (.seq (.ret (.and2 (.cmp .eq (.ix (.var 0) (.int_ 0)) (.str_ s_series)) (.and2 (.cmp .eq (.bi .len (.cons (.var 0) .nil)) (.int_ 3)) (.and1 (.call f_is_series (.cons (.var 0) (.cons (.bin .sub (.var 1) (.int_ 1)) .nil))))))) .skip)))))⟩
def c_parts : Def := ⟨1, ["form"], (.seq (.if_ (.cmp .eq (.ix (.var 0) (.int_ 0)) (.str_ s_point)) (.seq (.ret (.lst .nil)) .skip) .skip) (.seq (.if_ (.cmp .eq (.ix (.var 0) (.int_ 0)) (.str_ s_series)) (.seq (.ret (.bi .list (.cons (.ix (.var 0) (.int_ 1)) .nil))) .skip) .skip) (.seq (.ret (.ifx (.cmp .eq (.ix (.var 0) (.int_ 0)) (.str_ s_race)) (.lst (.cons (.ix (.var 0) (.int_ 1)) .nil)) (.lst (.cons (.ix (.var 0) (.int_ 1)) (.cons (.ix (.var 0) (.int_ 5)) .nil))))) .skip)))⟩
def c_size_of : Def := ⟨1, ["form", "one"], (.seq (.ret (.bin .add (.int_ 1) (.bi .sum (.cons (.comp .seq 1 (.call f_parts (.cons (.var 0) .nil)) .nil (.call f_size_of (.cons (.var 1) .nil))) .nil)))) .skip)⟩
def c_is_form : Def := ⟨1, ["thing"], (.seq (.ret (.and2 (.call f_is_shape (.cons (.var 0) (.cons (.glob s_MOST_DEEP) .nil))) (.and1 (.cmp .le (.call f_size_of (.cons (.var 0) .nil)) (.glob s_MOST_SIZE))))) .skip)⟩
def c_look_form : Def := ⟨1, ["form"], (.seq (.if_ (.not_ (.call f_is_form (.cons (.var 0) .nil))) (.seq .never .skip) .skip) .skip)⟩
def c_look_side : Def := ⟨1, ["side"], (.seq (.if_ (.not_ (.call f_is_number (.cons (.var 0) (.cons (.int_ 0) (.cons (.int_ 1) .nil))))) (.seq .never .skip) .skip) .skip)⟩
def c_look_row : Def := ⟨1, ["row", "one"], (.seq (.if_ (.or2 (.not_ (.isi .list (.var 0))) (.or2 (.cmp .gt (.bi .len (.cons (.var 0) .nil)) (.glob s_MOST_POINTS)) (.or1 (.not_ (.bi .all (.cons (.comp .seq 1 (.var 0) .nil (.call f_is_number (.cons (.var 1) (.cons (.int_ 0) (.cons (.int_ 1) .nil))))) .nil)))))) (.seq .never .skip) .skip) .skip)⟩
def c_inner_at : Def := ⟨3, ["form", "mine", "its"], (.seq (.if_ (.cmp .eq (.ix (.var 0) (.int_ 0)) (.str_ s_series)) (.seq (.ret (.ix (.ix (.var 0) (.int_ 1)) (.bin .add (.var 1) (.var 2)))) .skip) .skip) (.seq (.if_ (.and2 (.cmp .eq (.ix (.var 0) (.int_ 0)) (.str_ s_tied)) (.and1 (.chain .eq .eq (.var 1) (.var 2) (.ix (.var 0) (.int_ 4))))) (.seq (.ret (.ix (.var 0) (.int_ 5))) .skip) .skip) (.seq (.ret (.ix (.var 0) (.int_ 1))) .skip)))⟩
def c_begun : Def := ⟨2, ["form", "first"], (.seq (.if_ (.cmp .eq (.ix (.var 0) (.int_ 0)) (.str_ s_point)) (.seq (.ret (.tup (.cons (.var 0) (.cons (.var 1) .nil)))) .skip) .skip) (.seq (.ret (.tup (.cons (.var 0) (.cons (.var 1) (.cons (.int_ 0) (.cons (.int_ 0) (.cons (.call f_begun (.cons (.call f_inner_at (.cons (.var 0) (.cons (.int_ 0) (.cons (.int_ 0) .nil)))) (.cons (.var 1) .nil))) .nil))))))) .skip))⟩
def c_won_by : Def := ⟨3, ["form", "mine", "its", "goal", "lead"], (.seq (.if_ (.cmp .eq (.ix (.var 0) (.int_ 0)) (.str_ s_series)) (.seq (.set 3 (.bin .add (.bin .fdiv (.bi .len (.cons (.ix (.var 0) (.int_ 1)) .nil)) (.int_ 2)) (.int_ 1))) (.seq (.set 4 (.int_ 1)) .skip)) (.seq (.set 3 (.ix (.var 0) (.int_ 2))) (.seq (.set 4 (.ix (.var 0) (.int_ 3))) .skip))) (.seq (.if_ (.or2 (.cmp .lt (.bi .max (.cons (.var 1) (.cons (.var 2) .nil))) (.var 3)) (.or1 (.cmp .lt (.bi .abs (.cons (.bin .sub (.var 1) (.var 2)) .nil)) (.var 4)))) (.seq (.ret .none_) .skip) .skip) (.seq (.ret (.ifx (.cmp .gt (.var 1) (.var 2)) (.int_ 0) (.int_ 1))) .skip)))⟩
def c_served : Def := ⟨5, ["form", "first", "number", "winner", "tail", "turn", "same"], (.seq (.set 5 (.ix (.var 0) (.neg (.int_ 1)))) (.seq (.if_ (.cmp .eq (.var 5) (.str_ s_winner)) (.seq (.ret (.var 3)) .skip) .skip) (.seq (.if_ (.cmp .eq (.var 5) (.str_ s_on)) (.seq (.ret (.bin .sub (.int_ 1) (.var 4))) .skip) .skip) (.seq (.if_ (.cmp .eq (.var 5) (.str_ s_keep)) (.seq (.ret (.var 1)) .skip) .skip) (.seq (.set 6 (.ix (.dict (.kv (.str_ s_each) (.tup (.cons (.int_ 0) (.cons (.int_ 2) .nil))) (.kv (.str_ s_twos) (.tup (.cons (.int_ 0) (.cons (.int_ 1) .nil))) (.kv (.str_ s_pairs) (.tup (.cons (.int_ 0) (.cons (.int_ 3) .nil))) .nil)))) (.var 5))) (.seq (.ret (.ifx (.cmp .isin (.bin .mod (.var 2) (.int_ 4)) (.var 6)) (.var 1) (.bin .sub (.int_ 1) (.var 1)))) .skip))))))⟩
def c_decided : Def := ⟨4, ["form", "mine", "its", "winner", "is_last", "later"], (.seq (.set 4 (.and2 (.cmp .eq (.ix (.var 0) (.int_ 0)) (.str_ s_tied)) (.and1 (.chain .eq .eq (.var 1) (.var 2) (.ix (.var 0) (.int_ 4)))))) (.seq (.set 5 (.ifx (.cmp .eq (.var 3) (.int_ 0)) (.tup (.cons (.bin .add (.var 1) (.int_ 1)) (.cons (.var 2) .nil))) (.tup (.cons (.var 1) (.cons (.bin .add (.var 2) (.int_ 1)) .nil))))) (.seq (.ret (.tup (.cons (.var 5) (.cons (.ifx (.var 4) (.var 3) (.call f_won_by (.cons (.var 0) (.cons (.ix (.var 5) (.int_ 0)) (.cons (.ix (.var 5) (.int_ 1)) .nil))))) .nil)))) .skip)))⟩
def c_behind : Def := ⟨3, ["state", "winner", "tail", "number", "served_by", "form", "first", "mine", "its", "inner", "later", "who"], (.seq (.tset [5, 6, 7, 8, 9] (.var 0)) (.seq (.tset [10, 11] (.call f_decided (.cons (.var 5) (.cons (.var 7) (.cons (.var 8) (.cons (.var 1) .nil)))))) (.seq (.if_ (.cmp .isnot (.var 11) .none_) (.seq (.ret (.tup (.cons (.str_ s_over) (.cons (.var 11) (.cons (.ix (.var 9) (.int_ 1)) (.cons (.var 10) .nil)))))) .skip) .skip) (.seq (.set 3 (.bin .add (.ix (.var 10) (.int_ 0)) (.ix (.var 10) (.int_ 1)))) (.seq (.set 4 (.call f_served (.cons (.var 5) (.cons (.var 6) (.cons (.var 3) (.cons (.var 1) (.cons (.var 2) .nil))))))) (.seq (.ret (.tup (.cons (.var 5) (.cons (.var 6) (.cons (.ix (.var 10) (.int_ 0)) (.cons (.ix (.var 10) (.int_ 1)) (.cons (.call f_begun (.cons (.call f_inner_at (.cons (.var 5) (.cons (.ix (.var 10) (.int_ 0)) (.cons (.ix (.var 10) (.int_ 1)) .nil)))) (.cons (.var 4) .nil))) .nil))))))) .skip))))))⟩
def c_lifted : Def := ⟨3, ["state", "inner", "closed", "later"], (.seq (.if_ (.cmp .ne (.ix (.var 1) (.int_ 0)) (.str_ s_over)) (.seq (.ret (.tup (.cons (.bin .add (.slice (.var 0) .nil (.int_ 4)) (.tup (.cons (.var 1) .nil))) (.cons (.var 2) .nil)))) .skip) .skip) (.seq (.set 3 (.call f_behind (.cons (.var 0) (.cons (.ix (.var 1) (.int_ 1)) (.cons (.ix (.var 1) (.int_ 2)) .nil))))) (.seq (.ret (.tup (.cons (.var 3) (.cons (.bin .add (.var 2) (.bi .int (.cons (.cmp .eq (.ix (.var 3) (.int_ 0)) (.str_ s_over)) .nil))) .nil)))) .skip)))⟩
def c_pushed : Def := ⟨2, ["state", "side", "inner", "closed"], (.seq (.if_ (.cmp .eq (.bi .len (.cons (.var 0) .nil)) (.int_ 2)) (.seq (.ret (.tup (.cons (.tup (.cons (.str_ s_over) (.cons (.var 1) (.cons (.ix (.var 0) (.int_ 1)) (.cons .none_ .nil))))) (.cons (.int_ 0) .nil)))) .skip) .skip) (.seq (.tset [2, 3] (.call f_pushed (.cons (.ix (.var 0) (.int_ 4)) (.cons (.var 1) .nil)))) (.seq (.ret (.call f_lifted (.cons (.var 0) (.cons (.var 2) (.cons (.var 3) .nil))))) .skip)))⟩
def c_pairs : Def := ⟨1, ["state"], (.seq (.if_ (.cmp .eq (.ix (.var 0) (.int_ 0)) (.str_ s_over)) (.seq (.ret (.ifx (.cmp .is_ (.ix (.var 0) (.int_ 3)) .none_) (.tup .nil) (.tup (.cons (.ix (.var 0) (.int_ 3)) .nil)))) .skip) .skip) (.seq (.if_ (.cmp .eq (.bi .len (.cons (.var 0) .nil)) (.int_ 2)) (.seq (.ret (.tup .nil)) .skip) .skip) (.seq (.ret (.bin .add (.tup (.cons (.tup (.cons (.ix (.var 0) (.int_ 2)) (.cons (.ix (.var 0) (.int_ 3)) .nil))) .nil)) (.call f_pairs (.cons (.ix (.var 0) (.int_ 4)) .nil)))) .skip)))⟩
def c_server_of : Def := ⟨1, ["state"], (.seq (.if_ (.cmp .eq (.ix (.var 0) (.int_ 0)) (.str_ s_over)) (.seq (.ret .none_) .skip) .skip) (.seq (.ret (.ifx (.cmp .eq (.bi .len (.cons (.var 0) .nil)) (.int_ 2)) (.ix (.var 0) (.int_ 1)) (.call f_server_of (.cons (.ix (.var 0) (.int_ 4)) .nil)))) .skip))⟩
def c_winner_of : Def := ⟨1, ["state"], (.seq (.ret (.ifx (.cmp .eq (.ix (.var 0) (.int_ 0)) (.str_ s_over)) (.ix (.var 0) (.int_ 1)) .none_)) .skip)⟩
def c_played : Def := ⟨3, ["form", "first", "row", "state", "at"], (.seq (.set 3 (.call f_begun (.cons (.var 0) (.cons (.var 1) .nil)))) (.seq (.for_ .range [4] (.cons (.bi .len (.cons (.var 2) .nil)) .nil) (.seq (.if_ (.cmp .eq (.ix (.var 3) (.int_ 0)) (.str_ s_over)) (.seq .never .skip) .skip) (.seq (.set 3 (.ix (.call f_pushed (.cons (.var 3) (.cons (.ix (.var 2) (.var 4)) .nil))) (.int_ 0))) .skip))) (.seq (.ret (.var 3)) .skip)))⟩
def c_state_of : Def := ⟨3, ["form", "first", "row"], (.seq (.expr (.call f_look_form (.cons (.var 0) .nil))) (.seq (.expr (.call f_look_side (.cons (.var 1) .nil))) (.seq (.expr (.call f_look_row (.cons (.var 2) .nil))) (.seq (.ret (.call f_played (.cons (.var 0) (.cons (.var 1) (.cons (.var 2) .nil))))) .skip))))⟩
def c_standing : Def := ⟨3, ["form", "first", "row"], (.seq (.ret (.call f_pairs (.cons (.call f_state_of (.cons (.var 0) (.cons (.var 1) (.cons (.var 2) .nil)))) .nil))) .skip)⟩
def c_winner : Def := ⟨3, ["form", "first", "row"], (.seq (.ret (.call f_winner_of (.cons (.call f_state_of (.cons (.var 0) (.cons (.var 1) (.cons (.var 2) .nil)))) .nil))) .skip)⟩
def c_server : Def := ⟨3, ["form", "first", "row"], (.seq (.ret (.call f_server_of (.cons (.call f_state_of (.cons (.var 0) (.cons (.var 1) (.cons (.var 2) .nil)))) .nil))) .skip)⟩
def c_closing : Def := ⟨1, ["state"], (.seq (.if_ (.cmp .eq (.ix (.var 0) (.int_ 0)) (.str_ s_over)) (.seq (.ret .none_) .skip) .skip) (.seq (.ret (.tup (.cons (.ix (.call f_pushed (.cons (.var 0) (.cons (.int_ 0) .nil))) (.int_ 1)) (.cons (.ix (.call f_pushed (.cons (.var 0) (.cons (.int_ 1) .nil))) (.int_ 1)) .nil)))) .skip))⟩
def c_closes : Def := ⟨3, ["form", "first", "row"], (.seq (.ret (.call f_closing (.cons (.call f_state_of (.cons (.var 0) (.cons (.var 1) (.cons (.var 2) .nil)))) .nil))) .skip)⟩
def c__law_cell : Def := ⟨2, ["script", "k"], (.seq (.if_ (.var 0) (.seq (.ret (.ix (.var 0) (.bin .mod (.var 1) (.bi .len (.cons (.var 0) .nil))))) .skip) .skip) (.seq (.ret (.int_ 0)) .skip))⟩
def c__law_mix : Def := ⟨2, ["script", "k", "number"], (.seq (.set 2 (.bin .mod (.bin .add (.call f__law_cell (.cons (.var 0) (.cons (.var 1) .nil))) (.bin .mul (.int_ 104729) (.bin .add (.var 1) (.int_ 1)))) (.int_ 4294967291))) (.seq (.set 2 (.bin .mod (.bin .pow (.var 2) (.int_ 5)) (.int_ 4294967279))) (.seq (.ret (.bin .mod (.bin .add (.bin .mul (.bin .fdiv (.var 2) (.int_ 64)) (.int_ 69621)) (.var 2)) (.int_ 4294967231))) .skip)))⟩
def c__law_draw : Def := ⟨3, ["script", "town", "many"], (.seq (.expr (.meth .append (.var 1) (.cons (.int_ 0) .nil))) (.seq (.ret (.bin .mod (.bin .fdiv (.call f__law_mix (.cons (.var 0) (.cons (.bi .len (.cons (.var 1) .nil)) .nil))) (.int_ 8)) (.var 2))) .skip))⟩
def c__law_pick : Def := ⟨3, ["script", "town", "some"], (.seq (.ret (.ix (.var 2) (.call f__law_draw (.cons (.var 0) (.cons (.var 1) (.cons (.bi .len (.cons (.var 2) .nil)) .nil)))))) .skip)⟩
def c__law_turn : Def := ⟨2, ["script", "town"], (.seq (.ret (.call f__law_pick (.cons (.var 0) (.cons (.var 1) (.cons (.lst (.cons (.str_ s_keep) (.cons (.str_ s_each) (.cons (.str_ s_twos) (.cons (.str_ s_pairs) (.cons (.str_ s_winner) (.cons (.str_ s_on) .nil))))))) .nil))))) .skip)⟩
def c__law_next : Def := ⟨4, ["turn", "first", "winners", "tail", "order"], (.seq (.if_ (.and2 (.cmp .isin (.var 0) (.tup (.cons (.str_ s_winner) (.cons (.str_ s_on) .nil)))) (.and1 (.cmp .ne (.var 2) (.lst .nil)))) (.seq (.ret (.ifx (.cmp .eq (.var 0) (.str_ s_winner)) (.ix (.var 2) (.neg (.int_ 1))) (.bin .sub (.int_ 1) (.var 3)))) .skip) .skip) (.seq (.set 4 (.meth .get (.dict (.kv (.str_ s_each) (.str_ s_0101) (.kv (.str_ s_twos) (.str_ s_0011) (.kv (.str_ s_pairs) (.str_ s_0110) .nil)))) (.cons (.var 0) (.cons (.str_ s_0000) .nil)))) (.seq (.ret (.bin .mod (.bin .add (.var 1) (.bi .int (.cons (.ix (.var 4) (.bin .mod (.bi .len (.cons (.var 2) .nil)) (.int_ 4))) .nil))) (.int_ 2))) .skip)))⟩
def c__law_over : Def := ⟨3, ["wins", "goal", "lead"], (.seq (.ret (.and2 (.cmp .ge (.bi .max (.cons (.var 0) .nil)) (.var 1)) (.and1 (.cmp .ge (.bin .sub (.bi .max (.cons (.var 0) .nil)) (.bi .min (.cons (.var 0) .nil))) (.var 2))))) .skip)⟩
def c__law_points : Def := ⟨6, ["outer", "inner", "goals", "leads", "first", "row", "found", "games", "tail", "marks", "by", "serve", "point"], (.seq (.set 6 (.lst .nil)) (.seq (.set 7 (.lst .nil)) (.seq (.set 8 (.var 4)) (.seq (.set 9 (.lst .nil)) (.seq (.set 10 (.var 4)) (.seq (.set 11 (.var 4)) (.seq (.for_ .seq [12] (.var 5) (.seq (.set 11 (.call f__law_next (.cons (.var 1) (.cons (.var 10) (.cons (.var 9) (.cons (.var 11) .nil)))))) (.seq (.expr (.meth .append (.var 6) (.cons (.var 11) .nil))) (.seq (.expr (.meth .append (.var 9) (.cons (.var 12) .nil))) (.seq (.if_ (.call f__law_over (.cons (.lst (.cons (.meth .count (.var 9) (.cons (.int_ 0) .nil)) (.cons (.meth .count (.var 9) (.cons (.int_ 1) .nil)) .nil))) (.cons (.ix (.var 2) (.int_ 1)) (.cons (.ix (.var 3) (.int_ 1)) .nil)))) (.seq (.expr (.meth .append (.var 7) (.cons (.var 12) .nil))) (.seq (.set 8 (.var 11)) (.seq (.set 9 (.lst .nil)) (.seq (.if_ (.call f__law_over (.cons (.lst (.cons (.meth .count (.var 7) (.cons (.int_ 0) .nil)) (.cons (.meth .count (.var 7) (.cons (.int_ 1) .nil)) .nil))) (.cons (.ix (.var 2) (.int_ 0)) (.cons (.ix (.var 3) (.int_ 0)) .nil)))) (.seq (.ret (.bin .add (.var 6) (.lst (.cons .none_ .nil)))) .skip) .skip) (.seq (.set 10 (.call f__law_next (.cons (.var 0) (.cons (.var 4) (.cons (.var 7) (.cons (.var 8) .nil)))))) .skip))))) .skip) .skip))))) (.seq (.ret (.bin .add (.var 6) (.lst (.cons (.call f__law_next (.cons (.var 1) (.cons (.var 10) (.cons (.var 9) (.cons (.var 11) .nil))))) .nil)))) .skip))))))))⟩
def c_law : Def := ⟨1, ["script", "town", "k", "turns", "goals", "leads", "form", "first", "row", "due", "plain", "marks", "by", "j"], (.seq (.set 1 (.lst .nil)) (.seq (.for_ .range [2] (.cons (.int_ 2) .nil) (.seq (.set 3 (.lst (.cons (.call f__law_turn (.cons (.var 0) (.cons (.var 1) .nil))) (.cons (.call f__law_turn (.cons (.var 0) (.cons (.var 1) .nil))) .nil)))) (.seq (.set 4 (.comp .range 13 (.cons (.int_ 2) .nil) .nil (.bin .add (.int_ 1) (.call f__law_draw (.cons (.var 0) (.cons (.var 1) (.cons (.int_ 4) .nil))))))) (.seq (.set 5 (.comp .range 13 (.cons (.int_ 2) .nil) .nil (.bin .add (.int_ 1) (.call f__law_draw (.cons (.var 0) (.cons (.var 1) (.cons (.int_ 3) .nil))))))) (.seq (.set 6 (.tup (.cons (.str_ s_race) (.cons (.tup (.cons (.str_ s_race) (.cons (.tup (.cons (.str_ s_point) .nil)) (.cons (.ix (.var 4) (.int_ 1)) (.cons (.ix (.var 5) (.int_ 1)) (.cons (.ix (.var 3) (.int_ 1)) .nil)))))) (.cons (.ix (.var 4) (.int_ 0)) (.cons (.ix (.var 5) (.int_ 0)) (.cons (.ix (.var 3) (.int_ 0)) .nil))))))) (.seq (.set 7 (.call f__law_draw (.cons (.var 0) (.cons (.var 1) (.cons (.int_ 2) .nil))))) (.seq (.set 8 (.comp .range 13 (.cons (.call f__law_draw (.cons (.var 0) (.cons (.var 1) (.cons (.int_ 61) .nil)))) .nil) .nil (.call f__law_draw (.cons (.var 0) (.cons (.var 1) (.cons (.int_ 2) .nil)))))) (.seq (.set 9 (.call f__law_points (.cons (.ix (.var 3) (.int_ 0)) (.cons (.ix (.var 3) (.int_ 1)) (.cons (.var 4) (.cons (.var 5) (.cons (.var 7) (.cons (.var 8) .nil)))))))) (.seq (.set 8 (.slice (.var 8) .nil (.bin .sub (.bi .len (.cons (.var 9) .nil)) (.int_ 1)))) (.seq (.if_ (.cmp .ne (.comp .range 13 (.cons (.bin .add (.bi .len (.cons (.var 8) .nil)) (.int_ 1)) .nil) .nil (.call f_server (.cons (.var 6) (.cons (.var 7) (.cons (.slice (.var 8) .nil (.var 13)) .nil))))) (.var 9)) (.seq (.ret (.bool_ false)) .skip) .skip) (.seq (.if_ (.cmp .ne (.cmp .is_ (.ix (.var 9) (.neg (.int_ 1))) .none_) (.cmp .isnot (.call f_winner (.cons (.var 6) (.cons (.var 7) (.cons (.var 8) .nil)))) .none_)) (.seq (.ret (.bool_ false)) .skip) .skip) (.seq (.set 10 (.tup (.cons (.str_ s_race) (.cons (.tup (.cons (.str_ s_point) .nil)) (.cons (.int_ 30) (.cons (.int_ 3) (.cons (.ix (.var 3) (.int_ 0)) .nil))))))) (.seq (.set 11 (.comp .range 13 (.cons (.call f__law_draw (.cons (.var 0) (.cons (.var 1) (.cons (.int_ 30) .nil)))) .nil) .nil (.bin .mod (.var 13) (.int_ 2)))) (.seq (.set 12 (.var 7)) (.seq (.for_ .range [13] (.cons (.bin .add (.bi .len (.cons (.var 11) .nil)) (.int_ 1)) .nil) (.seq (.set 12 (.call f__law_next (.cons (.ix (.var 3) (.int_ 0)) (.cons (.var 7) (.cons (.slice (.var 11) .nil (.var 13)) (.cons (.var 12) .nil)))))) (.seq (.if_ (.cmp .ne (.call f_server (.cons (.var 10) (.cons (.var 7) (.cons (.slice (.var 11) .nil (.var 13)) .nil)))) (.var 12)) (.seq (.ret (.bool_ false)) .skip) .skip) (.seq (.if_ (.cmp .ne (.call f_standing (.cons (.var 10) (.cons (.var 7) (.cons (.slice (.var 11) .nil (.var 13)) .nil)))) (.tup (.cons (.tup (.cons (.bin .sub (.var 13) (.bin .fdiv (.var 13) (.int_ 2))) (.cons (.bin .fdiv (.var 13) (.int_ 2)) .nil))) .nil))) (.seq (.ret (.bool_ false)) .skip) .skip) (.seq (.if_ (.cmp .ne (.call f_closes (.cons (.var 10) (.cons (.var 7) (.cons (.slice (.var 11) .nil (.var 13)) .nil)))) (.tup (.cons (.int_ 0) (.cons (.int_ 0) .nil)))) (.seq (.ret (.bool_ false)) .skip) .skip) .skip))))) .skip))))))))))))))) (.seq (.ret (.bool_ true)) .skip)))⟩
/-! ### what a table holds -/
structure Pg (T : Tab) (gl : Str → Option Val) : Prop where
  is_number : T.lookup f_is_number = some c_is_number
  is_turn : T.lookup f_is_turn = some c_is_turn
  is_race : T.lookup f_is_race = some c_is_race
  is_tied : T.lookup f_is_tied = some c_is_tied
  is_series : T.lookup f_is_series = some c_is_series
  is_shape : T.lookup f_is_shape = some c_is_shape
  parts : T.lookup f_parts = some c_parts
  size_of : T.lookup f_size_of = some c_size_of
  is_form : T.lookup f_is_form = some c_is_form
  look_form : T.lookup f_look_form = some c_look_form
  look_side : T.lookup f_look_side = some c_look_side
  look_row : T.lookup f_look_row = some c_look_row
  inner_at : T.lookup f_inner_at = some c_inner_at
  begun : T.lookup f_begun = some c_begun
  won_by : T.lookup f_won_by = some c_won_by
  served : T.lookup f_served = some c_served
  decided : T.lookup f_decided = some c_decided
  behind : T.lookup f_behind = some c_behind
  lifted : T.lookup f_lifted = some c_lifted
  pushed : T.lookup f_pushed = some c_pushed
  pairs : T.lookup f_pairs = some c_pairs
  server_of : T.lookup f_server_of = some c_server_of
  winner_of : T.lookup f_winner_of = some c_winner_of
  played : T.lookup f_played = some c_played
  state_of : T.lookup f_state_of = some c_state_of
  standing : T.lookup f_standing = some c_standing
  winner : T.lookup f_winner = some c_winner
  server : T.lookup f_server = some c_server
  closing : T.lookup f_closing = some c_closing
  closes : T.lookup f_closes = some c_closes
  _law_cell : T.lookup f__law_cell = some c__law_cell
  _law_mix : T.lookup f__law_mix = some c__law_mix
  _law_draw : T.lookup f__law_draw = some c__law_draw
  _law_pick : T.lookup f__law_pick = some c__law_pick
  _law_turn : T.lookup f__law_turn = some c__law_turn
  _law_next : T.lookup f__law_next = some c__law_next
  _law_over : T.lookup f__law_over = some c__law_over
  _law_points : T.lookup f__law_points = some c__law_points
  law : T.lookup f_law = some c_law
  g_TURNS : gl s_TURNS = some (.tup [(.str s_keep), (.str s_each), (.str s_twos), (.str s_pairs), (.str s_winner), (.str s_on)])
  g_MOST_DEEP : gl s_MOST_DEEP = some (.int 4)
  g_MOST_SIZE : gl s_MOST_SIZE = some (.int 20)
  g_MOST_GOAL : gl s_MOST_GOAL = some (.int 30)
  g_MOST_LEAD : gl s_MOST_LEAD = some (.int 3)
  g_SERIES : gl s_SERIES = some (.tup [(.int 1), (.int 3), (.int 5), (.int 7)])
  g_MOST_POINTS : gl s_MOST_POINTS = some (.int 500)
/-! ### the texts differ -/
@[simp] theorem ne_s_series_s_tied : (s_series = s_tied) = False := eq_false (by decide)
@[simp] theorem ne_s_series_s_race : (s_series = s_race) = False := eq_false (by decide)
@[simp] theorem ne_s_series_s_point : (s_series = s_point) = False := eq_false (by decide)
@[simp] theorem ne_s_series_s_pairs : (s_series = s_pairs) = False := eq_false (by decide)
@[simp] theorem ne_s_series_s_twos : (s_series = s_twos) = False := eq_false (by decide)
@[simp] theorem ne_s_series_s_each : (s_series = s_each) = False := eq_false (by decide)
@[simp] theorem ne_s_series_s_keep : (s_series = s_keep) = False := eq_false (by decide)
@[simp] theorem ne_s_series_s_on : (s_series = s_on) = False := eq_false (by decide)
@[simp] theorem ne_s_series_s_winner : (s_series = s_winner) = False := eq_false (by decide)
@[simp] theorem ne_s_series_s_over : (s_series = s_over) = False := eq_false (by decide)
@[simp] theorem ne_s_series_s_0110 : (s_series = s_0110) = False := eq_false (by decide)
@[simp] theorem ne_s_series_s_0011 : (s_series = s_0011) = False := eq_false (by decide)
@[simp] theorem ne_s_series_s_0101 : (s_series = s_0101) = False := eq_false (by decide)
@[simp] theorem ne_s_series_s_0000 : (s_series = s_0000) = False := eq_false (by decide)
@[simp] theorem ne_s_tied_s_series : (s_tied = s_series) = False := eq_false (by decide)
@[simp] theorem ne_s_tied_s_race : (s_tied = s_race) = False := eq_false (by decide)
@[simp] theorem ne_s_tied_s_point : (s_tied = s_point) = False := eq_false (by decide)
@[simp] theorem ne_s_tied_s_pairs : (s_tied = s_pairs) = False := eq_false (by decide)
@[simp] theorem ne_s_tied_s_twos : (s_tied = s_twos) = False := eq_false (by decide)
@[simp] theorem ne_s_tied_s_each : (s_tied = s_each) = False := eq_false (by decide)
@[simp] theorem ne_s_tied_s_keep : (s_tied = s_keep) = False := eq_false (by decide)
@[simp] theorem ne_s_tied_s_on : (s_tied = s_on) = False := eq_false (by decide)
@[simp] theorem ne_s_tied_s_winner : (s_tied = s_winner) = False := eq_false (by decide)
@[simp] theorem ne_s_tied_s_over : (s_tied = s_over) = False := eq_false (by decide)
@[simp] theorem ne_s_tied_s_0110 : (s_tied = s_0110) = False := eq_false (by decide)
@[simp] theorem ne_s_tied_s_0011 : (s_tied = s_0011) = False := eq_false (by decide)
@[simp] theorem ne_s_tied_s_0101 : (s_tied = s_0101) = False := eq_false (by decide)
@[simp] theorem ne_s_tied_s_0000 : (s_tied = s_0000) = False := eq_false (by decide)
@[simp] theorem ne_s_race_s_series : (s_race = s_series) = False := eq_false (by decide)
@[simp] theorem ne_s_race_s_tied : (s_race = s_tied) = False := eq_false (by decide)
@[simp] theorem ne_s_race_s_point : (s_race = s_point) = False := eq_false (by decide)
@[simp] theorem ne_s_race_s_pairs : (s_race = s_pairs) = False := eq_false (by decide)
@[simp] theorem ne_s_race_s_twos : (s_race = s_twos) = False := eq_false (by decide)
@[simp] theorem ne_s_race_s_each : (s_race = s_each) = False := eq_false (by decide)
@[simp] theorem ne_s_race_s_keep : (s_race = s_keep) = False := eq_false (by decide)
@[simp] theorem ne_s_race_s_on : (s_race = s_on) = False := eq_false (by decide)
@[simp] theorem ne_s_race_s_winner : (s_race = s_winner) = False := eq_false (by decide)
@[simp] theorem ne_s_race_s_over : (s_race = s_over) = False := eq_false (by decide)
@[simp] theorem ne_s_race_s_0110 : (s_race = s_0110) = False := eq_false (by decide)
@[simp] theorem ne_s_race_s_0011 : (s_race = s_0011) = False := eq_false (by decide)
@[simp] theorem ne_s_race_s_0101 : (s_race = s_0101) = False := eq_false (by decide)
@[simp] theorem ne_s_race_s_0000 : (s_race = s_0000) = False := eq_false (by decide)
@[simp] theorem ne_s_point_s_series : (s_point = s_series) = False := eq_false (by decide)
@[simp] theorem ne_s_point_s_tied : (s_point = s_tied) = False := eq_false (by decide)
@[simp] theorem ne_s_point_s_race : (s_point = s_race) = False := eq_false (by decide)
@[simp] theorem ne_s_point_s_pairs : (s_point = s_pairs) = False := eq_false (by decide)
@[simp] theorem ne_s_point_s_twos : (s_point = s_twos) = False := eq_false (by decide)
@[simp] theorem ne_s_point_s_each : (s_point = s_each) = False := eq_false (by decide)
@[simp] theorem ne_s_point_s_keep : (s_point = s_keep) = False := eq_false (by decide)
@[simp] theorem ne_s_point_s_on : (s_point = s_on) = False := eq_false (by decide)
@[simp] theorem ne_s_point_s_winner : (s_point = s_winner) = False := eq_false (by decide)
@[simp] theorem ne_s_point_s_over : (s_point = s_over) = False := eq_false (by decide)
@[simp] theorem ne_s_point_s_0110 : (s_point = s_0110) = False := eq_false (by decide)
@[simp] theorem ne_s_point_s_0011 : (s_point = s_0011) = False := eq_false (by decide)
@[simp] theorem ne_s_point_s_0101 : (s_point = s_0101) = False := eq_false (by decide)
@[simp] theorem ne_s_point_s_0000 : (s_point = s_0000) = False := eq_false (by decide)
@[simp] theorem ne_s_pairs_s_series : (s_pairs = s_series) = False := eq_false (by decide)
@[simp] theorem ne_s_pairs_s_tied : (s_pairs = s_tied) = False := eq_false (by decide)
@[simp] theorem ne_s_pairs_s_race : (s_pairs = s_race) = False := eq_false (by decide)
@[simp] theorem ne_s_pairs_s_point : (s_pairs = s_point) = False := eq_false (by decide)
@[simp] theorem ne_s_pairs_s_twos : (s_pairs = s_twos) = False := eq_false (by decide)
@[simp] theorem ne_s_pairs_s_each : (s_pairs = s_each) = False := eq_false (by decide)
@[simp] theorem ne_s_pairs_s_keep : (s_pairs = s_keep) = False := eq_false (by decide)
@[simp] theorem ne_s_pairs_s_on : (s_pairs = s_on) = False := eq_false (by decide)
@[simp] theorem ne_s_pairs_s_winner : (s_pairs = s_winner) = False := eq_false (by decide)
@[simp] theorem ne_s_pairs_s_over : (s_pairs = s_over) = False := eq_false (by decide)
@[simp] theorem ne_s_pairs_s_0110 : (s_pairs = s_0110) = False := eq_false (by decide)
@[simp] theorem ne_s_pairs_s_0011 : (s_pairs = s_0011) = False := eq_false (by decide)
@[simp] theorem ne_s_pairs_s_0101 : (s_pairs = s_0101) = False := eq_false (by decide)
@[simp] theorem ne_s_pairs_s_0000 : (s_pairs = s_0000) = False := eq_false (by decide)
@[simp] theorem ne_s_twos_s_series : (s_twos = s_series) = False := eq_false (by decide)
@[simp] theorem ne_s_twos_s_tied : (s_twos = s_tied) = False := eq_false (by decide)
@[simp] theorem ne_s_twos_s_race : (s_twos = s_race) = False := eq_false (by decide)
@[simp] theorem ne_s_twos_s_point : (s_twos = s_point) = False := eq_false (by decide)
@[simp] theorem ne_s_twos_s_pairs : (s_twos = s_pairs) = False := eq_false (by decide)
@[simp] theorem ne_s_twos_s_each : (s_twos = s_each) = False := eq_false (by decide)
@[simp] theorem ne_s_twos_s_keep : (s_twos = s_keep) = False := eq_false (by decide)
@[simp] theorem ne_s_twos_s_on : (s_twos = s_on) = False := eq_false (by decide)
@[simp] theorem ne_s_twos_s_winner : (s_twos = s_winner) = False := eq_false (by decide)
@[simp] theorem ne_s_twos_s_over : (s_twos = s_over) = False := eq_false (by decide)
@[simp] theorem ne_s_twos_s_0110 : (s_twos = s_0110) = False := eq_false (by decide)
@[simp] theorem ne_s_twos_s_0011 : (s_twos = s_0011) = False := eq_false (by decide)
@[simp] theorem ne_s_twos_s_0101 : (s_twos = s_0101) = False := eq_false (by decide)
@[simp] theorem ne_s_twos_s_0000 : (s_twos = s_0000) = False := eq_false (by decide)
@[simp] theorem ne_s_each_s_series : (s_each = s_series) = False := eq_false (by decide)
@[simp] theorem ne_s_each_s_tied : (s_each = s_tied) = False := eq_false (by decide)
@[simp] theorem ne_s_each_s_race : (s_each = s_race) = False := eq_false (by decide)
@[simp] theorem ne_s_each_s_point : (s_each = s_point) = False := eq_false (by decide)
@[simp] theorem ne_s_each_s_pairs : (s_each = s_pairs) = False := eq_false (by decide)
@[simp] theorem ne_s_each_s_twos : (s_each = s_twos) = False := eq_false (by decide)
@[simp] theorem ne_s_each_s_keep : (s_each = s_keep) = False := eq_false (by decide)
@[simp] theorem ne_s_each_s_on : (s_each = s_on) = False := eq_false (by decide)
@[simp] theorem ne_s_each_s_winner : (s_each = s_winner) = False := eq_false (by decide)
@[simp] theorem ne_s_each_s_over : (s_each = s_over) = False := eq_false (by decide)
@[simp] theorem ne_s_each_s_0110 : (s_each = s_0110) = False := eq_false (by decide)
@[simp] theorem ne_s_each_s_0011 : (s_each = s_0011) = False := eq_false (by decide)
@[simp] theorem ne_s_each_s_0101 : (s_each = s_0101) = False := eq_false (by decide)
@[simp] theorem ne_s_each_s_0000 : (s_each = s_0000) = False := eq_false (by decide)
@[simp] theorem ne_s_keep_s_series : (s_keep = s_series) = False := eq_false (by decide)
@[simp] theorem ne_s_keep_s_tied : (s_keep = s_tied) = False := eq_false (by decide)
@[simp] theorem ne_s_keep_s_race : (s_keep = s_race) = False := eq_false (by decide)
@[simp] theorem ne_s_keep_s_point : (s_keep = s_point) = False := eq_false (by decide)
@[simp] theorem ne_s_keep_s_pairs : (s_keep = s_pairs) = False := eq_false (by decide)
@[simp] theorem ne_s_keep_s_twos : (s_keep = s_twos) = False := eq_false (by decide)
@[simp] theorem ne_s_keep_s_each : (s_keep = s_each) = False := eq_false (by decide)
@[simp] theorem ne_s_keep_s_on : (s_keep = s_on) = False := eq_false (by decide)
@[simp] theorem ne_s_keep_s_winner : (s_keep = s_winner) = False := eq_false (by decide)
@[simp] theorem ne_s_keep_s_over : (s_keep = s_over) = False := eq_false (by decide)
@[simp] theorem ne_s_keep_s_0110 : (s_keep = s_0110) = False := eq_false (by decide)
@[simp] theorem ne_s_keep_s_0011 : (s_keep = s_0011) = False := eq_false (by decide)
@[simp] theorem ne_s_keep_s_0101 : (s_keep = s_0101) = False := eq_false (by decide)
@[simp] theorem ne_s_keep_s_0000 : (s_keep = s_0000) = False := eq_false (by decide)
@[simp] theorem ne_s_on_s_series : (s_on = s_series) = False := eq_false (by decide)
@[simp] theorem ne_s_on_s_tied : (s_on = s_tied) = False := eq_false (by decide)
@[simp] theorem ne_s_on_s_race : (s_on = s_race) = False := eq_false (by decide)
@[simp] theorem ne_s_on_s_point : (s_on = s_point) = False := eq_false (by decide)
@[simp] theorem ne_s_on_s_pairs : (s_on = s_pairs) = False := eq_false (by decide)
@[simp] theorem ne_s_on_s_twos : (s_on = s_twos) = False := eq_false (by decide)
@[simp] theorem ne_s_on_s_each : (s_on = s_each) = False := eq_false (by decide)
@[simp] theorem ne_s_on_s_keep : (s_on = s_keep) = False := eq_false (by decide)
@[simp] theorem ne_s_on_s_winner : (s_on = s_winner) = False := eq_false (by decide)
@[simp] theorem ne_s_on_s_over : (s_on = s_over) = False := eq_false (by decide)
@[simp] theorem ne_s_on_s_0110 : (s_on = s_0110) = False := eq_false (by decide)
@[simp] theorem ne_s_on_s_0011 : (s_on = s_0011) = False := eq_false (by decide)
@[simp] theorem ne_s_on_s_0101 : (s_on = s_0101) = False := eq_false (by decide)
@[simp] theorem ne_s_on_s_0000 : (s_on = s_0000) = False := eq_false (by decide)
@[simp] theorem ne_s_winner_s_series : (s_winner = s_series) = False := eq_false (by decide)
@[simp] theorem ne_s_winner_s_tied : (s_winner = s_tied) = False := eq_false (by decide)
@[simp] theorem ne_s_winner_s_race : (s_winner = s_race) = False := eq_false (by decide)
@[simp] theorem ne_s_winner_s_point : (s_winner = s_point) = False := eq_false (by decide)
@[simp] theorem ne_s_winner_s_pairs : (s_winner = s_pairs) = False := eq_false (by decide)
@[simp] theorem ne_s_winner_s_twos : (s_winner = s_twos) = False := eq_false (by decide)
@[simp] theorem ne_s_winner_s_each : (s_winner = s_each) = False := eq_false (by decide)
@[simp] theorem ne_s_winner_s_keep : (s_winner = s_keep) = False := eq_false (by decide)
@[simp] theorem ne_s_winner_s_on : (s_winner = s_on) = False := eq_false (by decide)
@[simp] theorem ne_s_winner_s_over : (s_winner = s_over) = False := eq_false (by decide)
@[simp] theorem ne_s_winner_s_0110 : (s_winner = s_0110) = False := eq_false (by decide)
@[simp] theorem ne_s_winner_s_0011 : (s_winner = s_0011) = False := eq_false (by decide)
@[simp] theorem ne_s_winner_s_0101 : (s_winner = s_0101) = False := eq_false (by decide)
@[simp] theorem ne_s_winner_s_0000 : (s_winner = s_0000) = False := eq_false (by decide)
@[simp] theorem ne_s_over_s_series : (s_over = s_series) = False := eq_false (by decide)
@[simp] theorem ne_s_over_s_tied : (s_over = s_tied) = False := eq_false (by decide)
@[simp] theorem ne_s_over_s_race : (s_over = s_race) = False := eq_false (by decide)
@[simp] theorem ne_s_over_s_point : (s_over = s_point) = False := eq_false (by decide)
@[simp] theorem ne_s_over_s_pairs : (s_over = s_pairs) = False := eq_false (by decide)
@[simp] theorem ne_s_over_s_twos : (s_over = s_twos) = False := eq_false (by decide)
@[simp] theorem ne_s_over_s_each : (s_over = s_each) = False := eq_false (by decide)
@[simp] theorem ne_s_over_s_keep : (s_over = s_keep) = False := eq_false (by decide)
@[simp] theorem ne_s_over_s_on : (s_over = s_on) = False := eq_false (by decide)
@[simp] theorem ne_s_over_s_winner : (s_over = s_winner) = False := eq_false (by decide)
@[simp] theorem ne_s_over_s_0110 : (s_over = s_0110) = False := eq_false (by decide)
@[simp] theorem ne_s_over_s_0011 : (s_over = s_0011) = False := eq_false (by decide)
@[simp] theorem ne_s_over_s_0101 : (s_over = s_0101) = False := eq_false (by decide)
@[simp] theorem ne_s_over_s_0000 : (s_over = s_0000) = False := eq_false (by decide)
@[simp] theorem ne_s_0110_s_series : (s_0110 = s_series) = False := eq_false (by decide)
@[simp] theorem ne_s_0110_s_tied : (s_0110 = s_tied) = False := eq_false (by decide)
@[simp] theorem ne_s_0110_s_race : (s_0110 = s_race) = False := eq_false (by decide)
@[simp] theorem ne_s_0110_s_point : (s_0110 = s_point) = False := eq_false (by decide)
@[simp] theorem ne_s_0110_s_pairs : (s_0110 = s_pairs) = False := eq_false (by decide)
@[simp] theorem ne_s_0110_s_twos : (s_0110 = s_twos) = False := eq_false (by decide)
@[simp] theorem ne_s_0110_s_each : (s_0110 = s_each) = False := eq_false (by decide)
@[simp] theorem ne_s_0110_s_keep : (s_0110 = s_keep) = False := eq_false (by decide)
@[simp] theorem ne_s_0110_s_on : (s_0110 = s_on) = False := eq_false (by decide)
@[simp] theorem ne_s_0110_s_winner : (s_0110 = s_winner) = False := eq_false (by decide)
@[simp] theorem ne_s_0110_s_over : (s_0110 = s_over) = False := eq_false (by decide)
@[simp] theorem ne_s_0110_s_0011 : (s_0110 = s_0011) = False := eq_false (by decide)
@[simp] theorem ne_s_0110_s_0101 : (s_0110 = s_0101) = False := eq_false (by decide)
@[simp] theorem ne_s_0110_s_0000 : (s_0110 = s_0000) = False := eq_false (by decide)
@[simp] theorem ne_s_0011_s_series : (s_0011 = s_series) = False := eq_false (by decide)
@[simp] theorem ne_s_0011_s_tied : (s_0011 = s_tied) = False := eq_false (by decide)
@[simp] theorem ne_s_0011_s_race : (s_0011 = s_race) = False := eq_false (by decide)
@[simp] theorem ne_s_0011_s_point : (s_0011 = s_point) = False := eq_false (by decide)
@[simp] theorem ne_s_0011_s_pairs : (s_0011 = s_pairs) = False := eq_false (by decide)
@[simp] theorem ne_s_0011_s_twos : (s_0011 = s_twos) = False := eq_false (by decide)
@[simp] theorem ne_s_0011_s_each : (s_0011 = s_each) = False := eq_false (by decide)
@[simp] theorem ne_s_0011_s_keep : (s_0011 = s_keep) = False := eq_false (by decide)
@[simp] theorem ne_s_0011_s_on : (s_0011 = s_on) = False := eq_false (by decide)
@[simp] theorem ne_s_0011_s_winner : (s_0011 = s_winner) = False := eq_false (by decide)
@[simp] theorem ne_s_0011_s_over : (s_0011 = s_over) = False := eq_false (by decide)
@[simp] theorem ne_s_0011_s_0110 : (s_0011 = s_0110) = False := eq_false (by decide)
@[simp] theorem ne_s_0011_s_0101 : (s_0011 = s_0101) = False := eq_false (by decide)
@[simp] theorem ne_s_0011_s_0000 : (s_0011 = s_0000) = False := eq_false (by decide)
@[simp] theorem ne_s_0101_s_series : (s_0101 = s_series) = False := eq_false (by decide)
@[simp] theorem ne_s_0101_s_tied : (s_0101 = s_tied) = False := eq_false (by decide)
@[simp] theorem ne_s_0101_s_race : (s_0101 = s_race) = False := eq_false (by decide)
@[simp] theorem ne_s_0101_s_point : (s_0101 = s_point) = False := eq_false (by decide)
@[simp] theorem ne_s_0101_s_pairs : (s_0101 = s_pairs) = False := eq_false (by decide)
@[simp] theorem ne_s_0101_s_twos : (s_0101 = s_twos) = False := eq_false (by decide)
@[simp] theorem ne_s_0101_s_each : (s_0101 = s_each) = False := eq_false (by decide)
@[simp] theorem ne_s_0101_s_keep : (s_0101 = s_keep) = False := eq_false (by decide)
@[simp] theorem ne_s_0101_s_on : (s_0101 = s_on) = False := eq_false (by decide)
@[simp] theorem ne_s_0101_s_winner : (s_0101 = s_winner) = False := eq_false (by decide)
@[simp] theorem ne_s_0101_s_over : (s_0101 = s_over) = False := eq_false (by decide)
@[simp] theorem ne_s_0101_s_0110 : (s_0101 = s_0110) = False := eq_false (by decide)
@[simp] theorem ne_s_0101_s_0011 : (s_0101 = s_0011) = False := eq_false (by decide)
@[simp] theorem ne_s_0101_s_0000 : (s_0101 = s_0000) = False := eq_false (by decide)
@[simp] theorem ne_s_0000_s_series : (s_0000 = s_series) = False := eq_false (by decide)
@[simp] theorem ne_s_0000_s_tied : (s_0000 = s_tied) = False := eq_false (by decide)
@[simp] theorem ne_s_0000_s_race : (s_0000 = s_race) = False := eq_false (by decide)
@[simp] theorem ne_s_0000_s_point : (s_0000 = s_point) = False := eq_false (by decide)
@[simp] theorem ne_s_0000_s_pairs : (s_0000 = s_pairs) = False := eq_false (by decide)
@[simp] theorem ne_s_0000_s_twos : (s_0000 = s_twos) = False := eq_false (by decide)
@[simp] theorem ne_s_0000_s_each : (s_0000 = s_each) = False := eq_false (by decide)
@[simp] theorem ne_s_0000_s_keep : (s_0000 = s_keep) = False := eq_false (by decide)
@[simp] theorem ne_s_0000_s_on : (s_0000 = s_on) = False := eq_false (by decide)
@[simp] theorem ne_s_0000_s_winner : (s_0000 = s_winner) = False := eq_false (by decide)
@[simp] theorem ne_s_0000_s_over : (s_0000 = s_over) = False := eq_false (by decide)
@[simp] theorem ne_s_0000_s_0110 : (s_0000 = s_0110) = False := eq_false (by decide)
@[simp] theorem ne_s_0000_s_0011 : (s_0000 = s_0011) = False := eq_false (by decide)
@[simp] theorem ne_s_0000_s_0101 : (s_0000 = s_0101) = False := eq_false (by decide)

/-! ### forms -/
inductive Turn where | keep | each | twos | pairs | winner | on
  deriving DecidableEq
def Turn.s : Turn → Str
  | .keep => s_keep | .each => s_each | .twos => s_twos | .pairs => s_pairs | .winner => s_winner | .on => s_on
inductive Form where
  | point
  | race (f : Form) (goal lead : Int) (t : Turn)
  | tied (f : Form) (goal lead even : Int) (l : Form) (t : Turn)
  | series (fs : List Form) (t : Turn)
mutual
def Form.enc : Form → Val
  | .point => .tup [.str s_point]
  | .race f g l t => .tup [.str s_race, f.enc, .int g, .int l, .str t.s]
  | .tied f g l e la t => .tup [.str s_tied, f.enc, .int g, .int l, .int e, la.enc, .str t.s]
  | .series fs t => .tup [.str s_series, .tup (encL fs), .str t.s]
def encL : List Form → List Val
  | [] => []
  | f :: fs => f.enc :: encL fs
end
theorem encL_map : ∀ fs : List Form, encL fs = fs.map Form.enc
  | [] => rfl
  | f :: fs => by rw [List.map_cons, ← encL_map fs]; rfl
mutual
def Form.deep : Form → Nat
  | .point => 1
  | .race f _ _ _ => 1 + f.deep
  | .tied f _ _ _ l _ => 1 + max f.deep l.deep
  | .series fs _ => 1 + deepL fs
def deepL : List Form → Nat
  | [] => 0
  | f :: fs => max f.deep (deepL fs)
end
mutual
def Form.size : Form → Nat
  | .point => 1
  | .race f _ _ _ => 1 + f.size
  | .tied f _ _ _ l _ => 1 + (f.size + l.size)
  | .series fs _ => 1 + sizeL fs
def sizeL : List Form → Nat
  | [] => 0
  | f :: fs => f.size + sizeL fs
end
mutual
/-- goals, leads, evens, numbers of forms as they may be -/
def Form.ok : Form → Prop
  | .point => True
  | .race f g l _ => f.ok ∧ (1 ≤ g ∧ g ≤ 30) ∧ (1 ≤ l ∧ l ≤ 3)
  | .tied f g l e la _ => f.ok ∧ (1 ≤ g ∧ g ≤ 30) ∧ (1 ≤ l ∧ l ≤ 3) ∧ (1 ≤ e ∧ e ≤ 30) ∧ la.ok ∧ (1 < l ∨ e < g)
  | .series fs _ => okL fs ∧ (fs.length = 1 ∨ fs.length = 3 ∨ fs.length = 5 ∨ fs.length = 7)
def okL : List Form → Prop
  | [] => True
  | f :: fs => f.ok ∧ okL fs
end
mutual
theorem low_enc (n : Nat) : ∀ f : Form, f.enc.lowB n = true
  | .point => rfl
  | .race f g l t => by simp [Form.enc, low_enc n f]
  | .tied f g l e la t => by simp [Form.enc, low_enc n f, low_enc n la]
  | .series fs t => by simp [Form.enc, low_encL n fs]
theorem low_encL (n : Nat) : ∀ fs : List Form, lowL n (encL fs) = true
  | [] => rfl
  | f :: fs => by simp [encL, low_enc n f, low_encL n fs]
end
theorem deep_pos : ∀ f : Form, 1 ≤ f.deep
  | .point => by simp [Form.deep]
  | .race _ _ _ _ => by simp [Form.deep]
  | .tied _ _ _ _ _ _ => by simp [Form.deep]
  | .series _ _ => by simp [Form.deep]
theorem deepL_mem : ∀ {fs : List Form} {f : Form}, f ∈ fs → f.deep ≤ deepL fs
  | _ :: fs, f, h => by
    rcases List.mem_cons.mp h with e | h
    · subst e; simp [deepL]; omega
    · have := deepL_mem h; simp [deepL]; omega
theorem okL_mem : ∀ {fs : List Form} {f : Form}, okL fs → f ∈ fs → f.ok
  | g :: fs, f, o, h => by
    rcases List.mem_cons.mp h with e | h
    · subst e; exact o.1
    · exact okL_mem o.2 h
theorem sizeL_sum : ∀ fs : List Form, sizeL fs = (fs.map Form.size).sum
  | [] => rfl
  | f :: fs => by rw [List.map_cons, List.sum_cons, ← sizeL_sum fs]; rfl
theorem encL_length (fs : List Form) : (encL fs).length = fs.length := by rw [encL_map, List.length_map]
/-! forms as data -/
mutual
def Form.py : Form → PyData
  | .point => .tuple [.str s_point]
  | .race f g l t => .tuple [.str s_race, f.py, .int g, .int l, .str t.s]
  | .tied f g l e la t => .tuple [.str s_tied, f.py, .int g, .int l, .int e, la.py, .str t.s]
  | .series fs t => .tuple [.str s_series, .tuple (pyL fs), .str t.s]
def pyL : List Form → List PyData
  | [] => []
  | f :: fs => f.py :: pyL fs
end
mutual
theorem toD_enc (st : Store) : ∀ (f : Form) (k : Nat), 2 * f.deep ≤ k → toD st k f.enc = some f.py
  | .point, k, h => by
    obtain ⟨m, rfl⟩ : ∃ m, k = m + 1 := ⟨k - 1, by simp [Form.deep] at h; omega⟩
    simp [Form.enc, toD, Form.py]
  | .race f g l t, k, h => by
    obtain ⟨m, rfl⟩ : ∃ m, k = m + 1 := ⟨k - 1, by simp [Form.deep] at h; omega⟩
    simp [Form.deep] at h
    simp [Form.enc, toD, Form.py, toD_enc st f m (by omega)]
  | .tied f g l e la t, k, h => by
    obtain ⟨m, rfl⟩ : ∃ m, k = m + 1 := ⟨k - 1, by simp [Form.deep] at h; omega⟩
    simp [Form.deep] at h
    simp [Form.enc, toD, Form.py, toD_enc st f m (by omega), toD_enc st la m (by omega)]
  | .series fs t, k, h => by
    obtain ⟨m, rfl⟩ : ∃ m, k = m + 2 := ⟨k - 2, by simp [Form.deep] at h; omega⟩
    simp [Form.deep] at h
    simp [Form.enc, toD, Form.py, toD_encL st fs m (by omega)]
theorem toD_encL (st : Store) : ∀ (fs : List Form) (k : Nat), 2 * deepL fs ≤ k → (encL fs).mapM (toD st k) = some (pyL fs)
  | [], k, h => by simp [encL, pyL]
  | f :: fs, k, h => by
    simp [deepL] at h
    simp [encL, pyL, toD_enc st f k (by omega), toD_encL st fs k (by omega)]
end
theorem turn_ok (t : Turn) : PyData.strOk t.s = true := by cases t <;> decide +kernel
theorem word_ok : PyData.strOk s_point = true ∧ PyData.strOk s_race = true ∧ PyData.strOk s_tied = true ∧ PyData.strOk s_series = true := by decide +kernel
mutual
theorem lay_py : ∀ f : Form, f.py.canLay0 = true
  | .point => by simp [Form.py, PyData.canLay0, PyData.canLayAll0, word_ok]
  | .race f g l t => by simp [Form.py, PyData.canLay0, PyData.canLayAll0, lay_py f, turn_ok, word_ok]
  | .tied f g l e la t => by simp [Form.py, PyData.canLay0, PyData.canLayAll0, lay_py f, lay_py la, turn_ok, word_ok]
  | .series fs t => by simp [Form.py, PyData.canLay0, PyData.canLayAll0, lay_pyL fs, turn_ok, word_ok]
theorem lay_pyL : ∀ fs : List Form, PyData.canLayAll0 (pyL fs) = true
  | [] => rfl
  | f :: fs => by simp [pyL, PyData.canLayAll0, lay_py f, lay_pyL fs]
end
mutual
theorem depth_py : ∀ f : Form, f.py.depth ≤ 2 * f.deep
  | .point => by simp [Form.py, PyData.depth, PyData.depthAll, Form.deep]
  | .race f g l t => by
    have := depth_py f
    simp [Form.py, PyData.depth, PyData.depthAll, Form.deep]; omega
  | .tied f g l e la t => by
    have := depth_py f
    have := depth_py la
    simp [Form.py, PyData.depth, PyData.depthAll, Form.deep]; omega
  | .series fs t => by
    have := depth_pyL fs
    simp [Form.py, PyData.depth, PyData.depthAll, Form.deep]; omega
theorem depth_pyL : ∀ fs : List Form, PyData.depthAll (pyL fs) ≤ 2 * deepL fs
  | [] => by simp [pyL, PyData.depthAll]
  | f :: fs => by
    have := depth_py f
    have := depth_pyL fs
    simp [pyL, PyData.depthAll, deepL]; omega
end
theorem shaped_py {f : Form} (h : f.deep ≤ 12) : SeqAt.shaped f.py = true := by
  unfold SeqAt.shaped
  have := depth_py f
  rw [lay_py, Bool.true_and, decide_eq_true_eq]; omega
theorem py_tuple : ∀ f : Form, ∃ d ds, f.py = .tuple (d :: ds)
  | .point => ⟨_, _, rfl⟩
  | .race _ _ _ _ => ⟨_, _, rfl⟩
  | .tied _ _ _ _ _ _ => ⟨_, _, rfl⟩
  | .series _ _ => ⟨_, _, rfl⟩
theorem enc_tup : ∀ f : Form, ∃ xs, f.enc = .tup xs
  | .point => ⟨_, rfl⟩
  | .race _ _ _ _ => ⟨_, rfl⟩
  | .tied _ _ _ _ _ _ => ⟨_, rfl⟩
  | .series _ _ => ⟨_, rfl⟩
/-- no form is the empty tuple -/
theorem enc_ne_nil {f : Form} (h : f.deep ≤ 12) (st : Store) : cmpop .eq f.enc (.tup []) st = .ok (.bool false) st := by
  have e : eqM st f.enc (.tup []) = some false := by
    obtain ⟨xs, e1⟩ := enc_tup f
    obtain ⟨d, ds, e2⟩ := py_tuple f
    have h1 : toD st eqDeep f.enc = some f.py := toD_enc st f eqDeep (by show 2 * f.deep ≤ 24; omega)
    have h2 : toD st eqDeep (.tup []) = some (.tuple []) := rfl
    have h3 : scalB f.enc (.tup []) = none := by rw [e1]; rfl
    unfold eqM
    rw [h3, h1, h2]
    simp only
    rw [if_pos ⟨shaped_py h, by decide +kernel⟩, e2]
    rfl
  show optB (eqM st f.enc (.tup [])) false st = _
  rw [e]; rfl
theorem small_line {n : Nat} (h : n ≤ 1000000) : n ≤ sizeLine := by rw [sizeLine_eq]; omega
@[simp] theorem line_0 : (0 ≤ sizeLine) = True := eq_true (small_line (by decide))
@[simp] theorem line_1 : (1 ≤ sizeLine) = True := eq_true (small_line (by decide))
@[simp] theorem line_2 : (2 ≤ sizeLine) = True := eq_true (small_line (by decide))
@[simp] theorem line_3 : (3 ≤ sizeLine) = True := eq_true (small_line (by decide))
@[simp] theorem line_4 : (4 ≤ sizeLine) = True := eq_true (small_line (by decide))
@[simp] theorem line_5 : (5 ≤ sizeLine) = True := eq_true (small_line (by decide))
@[simp] theorem line_6 : (6 ≤ sizeLine) = True := eq_true (small_line (by decide))
@[simp] theorem line_7 : (7 ≤ sizeLine) = True := eq_true (small_line (by decide))
theorem call_eq {T : Tab} {gl : Str → Option Val} {W n : Nat} {f : Str} {d : Def} {args : List Val} {st : Store} (h : T.lookup f = some d) (hn : 1 ≤ n) : callN T gl W n f args st = runBody ⟨callN T gl W (n - 1), gl, W⟩ d args st := by
  obtain ⟨m, rfl⟩ : ∃ m, n = m + 1 := ⟨n - 1, by omega⟩
  exact callN_succ h
section
variable {T : Tab} {gl : Str → Option Val} {W : Nat}
/-- a whole number between two -/
def isNum (v : Val) (a b : Int) : Bool := match v with
  | .int i => decide (a ≤ i) && decide (i ≤ b)
  | _ => false
theorem e_is_number (P : Pg T gl) {n : Nat} (hn : 1 ≤ n) (v : Val) (a b : Int) (st : Store) (hv : ∀ m, v ≠ .ref m) : callN T gl W n f_is_number [v, .int a, .int b] st = .ok (.bool (isNum v a b)) st := by
  rw [call_eq P.is_number hn]
  cases v with
  | ref m => exact absurd rfl (hv m)
  | int i =>
    by_cases h1 : a ≤ i <;> by_cases h2 : i ≤ b <;> simp [runBody, c_is_number, isNum, h1, h2]
  | _ => simp [runBody, c_is_number, isNum]
@[simp] theorem e_is_number_int (P : Pg T gl) {n : Nat} (hn : 1 ≤ n) (i a b : Int) (st : Store) : callN T gl W n f_is_number [.int i, .int a, .int b] st = .ok (.bool (decide (a ≤ i) && decide (i ≤ b))) st :=
  e_is_number P hn _ a b st (fun m => by simp)
theorem in_turns (t : Turn) (st : Store) : cmpop .isin (.str t.s) (.tup [.str s_keep, .str s_each, .str s_twos, .str s_pairs, .str s_winner, .str s_on]) st = .ok (.bool true) st := by
  cases t <;> simp [cmpop, inM, seqItems, flatB, flatEq, optB, Turn.s]
theorem e_is_turn (P : Pg T gl) {n : Nat} (hn : 1 ≤ n) (t : Turn) (st : Store) : callN T gl W n f_is_turn [.str t.s] st = .ok (.bool true) st := by
  rw [call_eq P.is_turn hn]
  simp [runBody, c_is_turn, P.g_TURNS, in_turns]
/-- what is asked of the forms within -/
def Shp (T : Tab) (gl : Str → Option Val) (W : Nat) (r : Nat) (m : Nat) : Prop := ∀ (f : Form) (n : Nat) (st : Store), f.ok → f.deep ≤ r → m ≤ n → callN T gl W n f_is_shape [f.enc, .int r] st = .ok (.bool true) st
theorem e_is_race (P : Pg T gl) {r m n : Nat} (ih : Shp T gl W r m) (hn : m + 2 ≤ n) {f : Form} {g l : Int} {t : Turn} (x : Val) (rest : List Val) (hx : x = .str s_race ∨ x = .str s_tied) (hl : (x :: f.enc :: .int g :: .int l :: rest).getLast? = some (.str t.s)) (ok : f.ok) (hg : 1 ≤ g ∧ g ≤ 30) (hl2 : 1 ≤ l ∧ l ≤ 3) (hd : f.deep ≤ r) (st : Store) :
    callN T gl W n f_is_race [.tup (x :: f.enc :: .int g :: .int l :: rest), .int r] st = .ok (.bool true) st := by
  rw [call_eq P.is_race (by omega)]
  have e1 := ih f (n - 1) st ok hd (by omega)
  simp [runBody, c_is_race, e1, P.g_MOST_GOAL, P.g_MOST_LEAD, e_is_number_int P (show 1 ≤ n - 1 by omega), hg, hl2, at_last hl, e_is_turn P (show 1 ≤ n - 1 by omega)]
theorem e_is_series (P : Pg T gl) {r m n : Nat} (ih : Shp T gl W r m) (hn : m + 2 ≤ n) {fs : List Form} {t : Turn} (ok : okL fs) (hl : fs.length = 1 ∨ fs.length = 3 ∨ fs.length = 5 ∨ fs.length = 7) (hd : deepL fs ≤ r) (st : Store) :
    callN T gl W n f_is_series [.tup [.str s_series, .tup (encL fs), .str t.s], .int r] st = .ok (.bool true) st := by
  rw [call_eq P.is_series (by omega)]
  have h1 : inM st (.int (encL fs).length) (.tup [.int 1, .int 3, .int 5, .int 7]) = some true := by
    rw [encL_length]
    simp only [inM, seqItems, Option.bind_some]
    rw [if_pos ⟨rfl, rfl⟩]
    rcases hl with e | e | e | e <;> rw [e] <;> rfl
  have h2 : cmpop .notin (.int (encL fs).length) (.tup [.int 1, .int 3, .int 5, .int 7]) st = .ok (.bool false) st := by
    simp [cmpop, h1, optB]
  have h3 : compLoop (runC ⟨callN T gl W (n - 1), gl, W⟩ 2 .nil (.call f_is_shape (.cons (.var 2) (.cons (.var 1) .nil))) [some (.tup [.str s_series, .tup (encL fs), .str t.s]), some (.int r), none]) (stays .seq (.tup (encL fs)) (encL fs)) st.length (encL fs) (st ++ [.lst []]) = .ok (.ref st.length) (st ++ [.lst (fs.map fun _ => Val.bool true)]) := by
    have := comp_map (f := runC ⟨callN T gl W (n - 1), gl, W⟩ 2 .nil (.call f_is_shape (.cons (.var 2) (.cons (.var 1) .nil))) [some (.tup [.str s_series, .tup (encL fs), .str t.s]), some (.int r), none]) (ok := stays .seq (.tup (encL fs)) (encL fs)) (D := st.length) (pre := st) (enc := Form.enc) (g := fun _ => Val.bool true) rfl (fun _ => trivial) fs []
      (fun g hg acc => by
        have e1 := ih g (n - 1) (st ++ [.lst acc]) (okL_mem ok hg) (Nat.le_trans (deepL_mem hg) hd) (by omega)
        simp [runC, isNil, e1]) (small_line (by simp; rcases hl with e | e | e | e <;> omega))
    rw [← encL_map, List.nil_append] at this
    exact this
  have h4 : listAt (st ++ [Cell.lst (fs.map fun _ => Val.bool true)]) st.length = some (fs.map fun _ => Val.bool true) := listAt_lst (by simp)
  simp [runBody, c_is_series, P.g_SERIES, h2, e_is_turn P (show 1 ≤ n - 1 by omega), srcItems, h3, bi_all h4 (allBools_map (f := fun _ => true) fs)]
theorem e_is_shape (P : Pg T gl) : ∀ r : Nat, r ≤ 12 → Shp T gl W r (4 * r + 1) := by
  intro r
  induction r with
  | zero =>
    intro _ f n st _ hd _
    have := deep_pos f
    omega
  | succ r ih =>
    intro h12 f n st ok hd hn
    have ih := ih (by omega)
    rw [call_eq P.is_shape (by omega)]
    have hr : ((r : Int) + 1 = 0) = False := eq_false (by omega)
    have hr2 : (((r + 1 : Nat) : Int)) = (r : Int) + 1 := by omega
    rw [hr2]
    have hc : f.deep ≤ r + 1 → r + 1 ≤ 12 → cmpop .eq f.enc (.tup []) st = .ok (.bool false) st := fun h1 h2 => enc_ne_nil (by omega) st
    cases f with
    | point =>
      have hc := hc hd h12
      simp only [Form.enc] at hc
      simp [runBody, c_is_shape, Form.enc, hr, hc]
    | race f g l t =>
      have hc := hc hd h12
      simp only [Form.enc] at hc
      simp only [Form.deep] at hd
      have e1 := e_is_race (W := W) P ih (n := n - 1) (by omega) (f := f) (g := g) (l := l) (t := t) (.str s_race) [.str t.s] (.inl rfl) rfl ok.1 ok.2.1 ok.2.2 (by omega) st
      simp [runBody, c_is_shape, Form.enc, hr, hc, e1]
    | tied f g l e la t =>
      have hc := hc hd h12
      simp only [Form.enc] at hc
      simp only [Form.deep] at hd
      obtain ⟨o1, o2, o3, o4, o5, o6⟩ := ok
      have hd3 : f.deep ≤ r ∧ la.deep ≤ r := by omega
      have e1 := e_is_race (W := W) P ih (n := n - 1 - 1) (by omega) (f := f) (g := g) (l := l) (t := t) (.str s_tied) [.int e, la.enc, .str t.s] (.inr rfl) rfl o1 o2 o3 hd3.1 st
      have e2 := ih la (n - 1 - 1) st o5 hd3.2 (by omega)
      have e3 : callN T gl W (n - 1) f_is_tied [.tup [.str s_tied, f.enc, .int g, .int l, .int e, la.enc, .str t.s], .int r] st = .ok (.bool true) st := by
        rw [call_eq P.is_tied (by omega)]
        by_cases hl : 1 < l
        · simp [runBody, c_is_tied, e1, e2, P.g_MOST_GOAL, e_is_number_int P (show 1 ≤ n - 1 - 1 by omega), o4, hl]
        · have he : e < g := by rcases o6 with z | z <;> omega
          simp [runBody, c_is_tied, e1, e2, P.g_MOST_GOAL, e_is_number_int P (show 1 ≤ n - 1 - 1 by omega), o4, hl, he]
      simp [runBody, c_is_shape, Form.enc, hr, hc, e3]
    | series fs t =>
      have hc := hc hd h12
      simp only [Form.enc] at hc
      simp only [Form.deep] at hd
      have e1 := e_is_series (W := W) P ih (n := n - 1) (by omega) (fs := fs) (t := t) ok.1 ok.2 (by omega) st
      simp [runBody, c_is_shape, Form.enc, hr, hc, e1]
/-- the forms right within -/
def Form.parts : Form → List Form
  | .point => []
  | .race f _ _ _ => [f]
  | .tied f _ _ _ l _ => [f, l]
  | .series fs _ => fs
theorem size_parts (f : Form) : f.size = 1 + sizeL f.parts := by
  cases f <;> simp [Form.size, Form.parts, sizeL]
theorem deep_parts {f g : Form} (h : g ∈ f.parts) : g.deep + 1 ≤ f.deep := by
  cases f with
  | point => cases h
  | race a _ _ _ => simp [Form.parts] at h; subst h; simp [Form.deep]; omega
  | tied a _ _ _ b _ => simp [Form.parts] at h; rcases h with h | h <;> subst h <;> simp [Form.deep] <;> omega
  | series fs _ => have := deepL_mem (show g ∈ fs from h); simp [Form.deep]; omega
theorem e_parts (P : Pg T gl) {n : Nat} (hn : 1 ≤ n) (f : Form) (st : Store) : callN T gl W n f_parts [f.enc] st = .ok (.ref st.length) (st ++ [.lst (f.parts.map Form.enc)]) := by
  rw [call_eq P.parts hn]
  cases f with
  | point => simp [runBody, c_parts, Form.enc, Form.parts]; rw [gc_ret rfl]
  | race a x y z => simp [runBody, c_parts, Form.enc, Form.parts]; rw [gc_ret (by simp [low_enc])]
  | tied a x y z b u => simp [runBody, c_parts, Form.enc, Form.parts]; rw [gc_ret (by simp [low_enc])]
  | series fs t =>
    have := low_encL st.length fs
    simp [runBody, c_parts, Form.enc, Form.parts]; rw [gc_ret this, encL_map]
theorem e_size_of (P : Pg T gl) : ∀ (r : Nat) (f : Form) (n : Nat) (st : Store), f.deep ≤ r → f.size ≤ 1000 → r + 1 ≤ n → callN T gl W n f_size_of [f.enc] st = .ok (.int f.size) st := by
  intro r
  induction r with
  | zero =>
    intro f n st hd _ _
    have := deep_pos f
    omega
  | succ r ih =>
    intro f n st hd hsz hn
    rw [call_eq P.size_of (by omega)]
    have hsp := size_parts f
    have hlen : f.parts.length ≤ sizeL f.parts := by
      have : ∀ fs : List Form, fs.length ≤ sizeL fs := by
        intro fs
        induction fs with
        | nil => simp
        | cons g gs ih => cases g <;> simp [sizeL, Form.size] <;> omega
      exact this _
    have k1 := comp_map (f := runC ⟨callN T gl W (n - 1), gl, W⟩ 1 .nil (.call f_size_of (.cons (.var 1) .nil)) [some f.enc, none]) (ok := stays .seq (.ref st.length) (f.parts.map Form.enc)) (D := st.length + 1) (pre := st ++ [.lst (f.parts.map Form.enc)]) (enc := Form.enc) (g := fun g => Val.int g.size) (by simp) (fun acc => listAt_lst (by simp)) f.parts []
      (fun g hg acc => by
        have hd2 := deep_parts hg
        have hs2 : g.size ≤ sizeL f.parts := by
          have : ∀ fs : List Form, g ∈ fs → g.size ≤ sizeL fs := by
            intro fs
            induction fs with
            | nil => intro h; cases h
            | cons a as ih => intro h; rcases List.mem_cons.mp h with e | h
                              · subst e; simp [sizeL]
                              · have := ih h; simp [sizeL]; omega
          exact this _ hg
        have e1 := ih g (n - 1) (st ++ [.lst (f.parts.map Form.enc)] ++ [.lst acc]) (by omega) (by omega) (by omega)
        simp at e1
        simp [runC, isNil, e1]) (small_line (by simp; omega))
    rw [List.nil_append] at k1
    have h4 : listAt (st ++ [Cell.lst (f.parts.map Form.enc)] ++ [Cell.lst (f.parts.map fun g => Val.int g.size)]) (st.length + 1) = some (f.parts.map fun g => Val.int g.size) := listAt_lst (by simp)
    have h5 : allInts (f.parts.map fun g => Val.int (g.size : Int)) = some (f.parts.map fun g => (g.size : Int)) := allInts_map (f := fun g : Form => (g.size : Int)) f.parts
    have h6 : ((f.parts.map fun g => (g.size : Int)).sum) = (sizeL f.parts : Int) := by
      rw [sizeL_sum]
      generalize f.parts = gs
      induction gs with
      | nil => rfl
      | cons g gs ih => simp [ih]
    have h7 := bi_sum h4 h5
    have e2 : listAt (st ++ [Cell.lst (f.parts.map Form.enc)]) st.length = some (f.parts.map Form.enc) := listAt_lst (by simp)
    simp only [List.append_assoc, List.singleton_append] at k1 h7
    simp [runBody, c_size_of, e_parts P (show 1 ≤ n - 1 by omega), srcItems, e2, k1, h7, h6, hsp]
theorem e_is_form (P : Pg T gl) {n : Nat} (hn : 18 ≤ n) (f : Form) (ok : f.ok) (hd : f.deep ≤ 4) (hs : f.size ≤ 20) (st : Store) : callN T gl W n f_is_form [f.enc] st = .ok (.bool true) st := by
  rw [call_eq P.is_form (by omega)]
  have e1 := e_is_shape (W := W) P 4 (by decide) f (n - 1) st ok hd (by omega)
  have e2 := e_size_of (W := W) P 4 f (n - 1) st hd (by omega) (by omega)
  have hs2 : (f.size : Int) ≤ 20 := by omega
  simp at e1
  simp [runBody, c_is_form, P.g_MOST_DEEP, P.g_MOST_SIZE, e1, e2, hs2]
theorem e_look_form (P : Pg T gl) {n : Nat} (hn : 19 ≤ n) (f : Form) (ok : f.ok) (hd : f.deep ≤ 4) (hs : f.size ≤ 20) (st : Store) : callN T gl W n f_look_form [f.enc] st = .ok .none st := by
  rw [call_eq P.look_form (by omega)]
  simp [runBody, c_look_form, e_is_form P (show 18 ≤ n - 1 by omega) f ok hd hs]
end

/-! ### contests as they are played -/
def Form.turn : Form → Turn
  | .point => .keep
  | .race _ _ _ t => t
  | .tied _ _ _ _ _ t => t
  | .series _ t => t
/-- at even -/
def Form.lastAt (f : Form) (m i : Int) : Bool := match f with
  | .tied _ _ _ e _ _ => decide (m = i) && decide (i = e)
  | _ => false
def Form.innerAt (f : Form) (m i : Int) : Form := match f with
  | .point => .point
  | .race f _ _ _ => f
  | .tied f _ _ e l _ => if m = i ∧ i = e then l else f
  | .series fs _ => fs.getD (m + i).toNat .point
def Form.goal : Form → Int
  | .point => 1
  | .race _ g _ _ => g
  | .tied _ g _ _ _ _ => g
  | .series fs _ => (fs.length : Int) / 2 + 1
def Form.lead : Form → Int
  | .point => 1
  | .race _ _ l _ => l
  | .tied _ _ l _ _ _ => l
  | .series _ _ => 1
def Form.wonBy (f : Form) (m i : Int) : Option Int := if imax m i < f.goal ∨ iabs (m - i) < f.lead then none else some (if i < m then 0 else 1)
def Turn.same : Turn → Int × Int
  | .each => (0, 2) | .twos => (0, 1) | .pairs => (0, 3) | _ => (0, 0)
def servedBy (t : Turn) (first number winner tail : Int) : Int := match t with
  | .winner => winner
  | .on => 1 - tail
  | .keep => first
  | t => if number % 4 = t.same.1 ∨ number % 4 = t.same.2 then first else 1 - first
def laterOf (m i w : Int) : Int × Int := if w = 0 then (m + 1, i) else (m, i + 1)
def Form.decided (f : Form) (m i w : Int) : Option Int := if f.lastAt m i = true then some w else f.wonBy (laterOf m i w).1 (laterOf m i w).2
inductive State where
  | pt (first : Int)
  | co (f : Form) (first m i : Int) (inner : State)
  | over (who tail : Int) (later : Option (Int × Int))
def encP : Option (Int × Int) → Val
  | none => .none
  | some p => .tup [.int p.1, .int p.2]
def State.enc : State → Val
  | .pt s => .tup [Form.point.enc, .int s]
  | .co f s m i inner => .tup [f.enc, .int s, .int m, .int i, inner.enc]
  | .over w t l => .tup [.str s_over, .int w, .int t, encP l]
mutual
def begun : Form → Int → State
  | .point, s => .pt s
  | .race f g l t, s => .co (.race f g l t) s 0 0 (begun f s)
  | .tied f g l e la t, s => .co (.tied f g l e la t) s 0 0 (if e = 0 then begun la s else begun f s)
  | .series fs t, s => .co (.series fs t) s 0 0 (begunH fs s)
def begunH : List Form → Int → State
  | [], s => .pt s
  | f :: _, s => begun f s
end
def State.first : State → Int
  | .pt s => s
  | .co _ s _ _ _ => s
  | .over _ t _ => t
def State.isOver : State → Bool
  | .over _ _ _ => true
  | _ => false
/-- what comes when the contest within ends -/
def behindS (f : Form) (s m i : Int) (inner : State) (w tail : Int) : State :=
  match f.decided m i w with
  | some who => .over who inner.first (some (laterOf m i w))
  | none => .co f s (laterOf m i w).1 (laterOf m i w).2 (begun (f.innerAt (laterOf m i w).1 (laterOf m i w).2) (servedBy f.turn s ((laterOf m i w).1 + (laterOf m i w).2) w tail))
def liftedS (f : Form) (s m i : Int) (inner : State) (p : State × Int) : State × Int :=
  match p.1 with
  | .over w t _ => (behindS f s m i inner w t, p.2 + (if (behindS f s m i inner w t).isOver then 1 else 0))
  | x => (.co f s m i x, p.2)
def pushed : State → Int → State × Int
  | .pt s, w => (.over w s none, 0)
  | .co f s m i inner, w => liftedS f s m i inner (pushed inner w)
  | .over a b c, _ => (.over a b c, 0)
def State.form : State → Form
  | .pt _ => .point
  | .co f _ _ _ _ => f
  | .over _ _ _ => .point
/-- counts of a series that goes on -/
def serOk (f : Form) (m i : Int) : Prop := match f with
  | .series _ _ => m < f.goal ∧ i < f.goal
  | _ => True
/-- a state as it may be: forms as they may be, counts of a contest that goes on -/
def State.good : State → Prop
  | .pt s => s = 0 ∨ s = 1
  | .co f s m i inner => f ≠ .point ∧ f.ok ∧ f.deep ≤ 4 ∧ (s = 0 ∨ s = 1) ∧ 0 ≤ m ∧ 0 ≤ i ∧ serOk f m i ∧ inner.form = f.innerAt m i ∧ inner.isOver = false ∧ inner.good
  | .over w t _ => (w = 0 ∨ w = 1) ∧ (t = 0 ∨ t = 1)
theorem low_state (n : Nat) : ∀ S : State, S.enc.lowB n = true
  | .pt s => by simp [State.enc, low_enc]
  | .co f s m i inner => by simp [State.enc, low_enc, low_state n inner]
  | .over w t l => by cases l <;> simp [State.enc, encP]
/-! what is known of the parts -/
theorem inner_deep {f : Form} (hf : f ≠ .point) {m i : Int} (hs : ∀ fs t, f = .series fs t → (m + i).toNat < fs.length) : (f.innerAt m i).deep + 1 ≤ f.deep ∧ (f.ok → (f.innerAt m i).ok) := by
  cases f with
  | point => exact absurd rfl hf
  | race a _ _ _ => exact ⟨by simp [Form.innerAt, Form.deep]; omega, fun o => o.1⟩
  | tied a _ _ e b _ =>
    by_cases h : m = i ∧ i = e
    · simp only [Form.innerAt, if_pos h]; exact ⟨by simp [Form.deep]; omega, fun o => o.2.2.2.2.1⟩
    · simp only [Form.innerAt, if_neg h]; exact ⟨by simp [Form.deep]; omega, fun o => o.1⟩
  | series fs t =>
    have h := hs fs t rfl
    have e : (Form.series fs t).innerAt m i = fs[(m + i).toNat] := by simp [Form.innerAt, h]
    have hm : fs[(m + i).toNat] ∈ fs := List.getElem_mem h
    rw [e]
    have := deepL_mem hm
    exact ⟨by simp [Form.deep]; omega, fun o => okL_mem o.1 hm⟩
theorem imax_le {a b : Int} : a ≤ imax a b ∧ b ≤ imax a b := by unfold imax; split <;> omega
theorem series_room {f : Form} {m i : Int} (ok : f.ok) (h0 : 0 ≤ m) (h1 : 0 ≤ i) (h : serOk f m i) : ∀ fs t, f = .series fs t → (m + i).toNat < fs.length := by
  intro fs t e
  subst e
  obtain ⟨_, hl⟩ := ok
  have h : m < (fs.length : Int) / 2 + 1 ∧ i < (fs.length : Int) / 2 + 1 := h
  omega
/-- .. one point more -/
theorem serOk_next {f : Form} {m i w : Int} (h0 : 0 ≤ m) (h1 : 0 ≤ i) (h : serOk f m i) (hd : f.decided m i w = none) : serOk f (laterOf m i w).1 (laterOf m i w).2 := by
  cases f with
  | series fs t =>
    have h : m < (Form.series fs t).goal ∧ i < (Form.series fs t).goal := h
    unfold Form.decided at hd
    rw [if_neg (by simp [Form.lastAt])] at hd
    unfold Form.wonBy at hd
    split at hd
    · rename_i hc
      show (laterOf m i w).1 < (Form.series fs t).goal ∧ (laterOf m i w).2 < (Form.series fs t).goal
      have hx := imax_le (a := (laterOf m i w).1) (b := (laterOf m i w).2)
      rcases hc with hc | hc
      · omega
      · have hc : iabs ((laterOf m i w).1 - (laterOf m i w).2) < 1 := hc
        have : (laterOf m i w).1 = (laterOf m i w).2 := by unfold iabs at hc; split at hc <;> omega
        unfold laterOf at this ⊢
        split at this <;> rename_i hw <;> simp only [hw, if_true, if_false] at this ⊢ <;> omega
    · cases hd
  | _ => trivial
theorem later_nonneg {m i w : Int} (h0 : 0 ≤ m) (h1 : 0 ≤ i) : 0 ≤ (laterOf m i w).1 ∧ 0 ≤ (laterOf m i w).2 := by unfold laterOf; split <;> simp <;> omega
section
variable {T : Tab} {gl : Str → Option Val} {W : Nat}
theorem e_inner_at (P : Pg T gl) {n : Nat} (hn : 1 ≤ n) {f : Form} (hf : f ≠ .point) (m i : Int) (h0 : 0 ≤ m) (h1 : 0 ≤ i) (hs : ∀ fs t, f = .series fs t → (m + i).toNat < fs.length) (st : Store) :
    callN T gl W n f_inner_at [f.enc, .int m, .int i] st = .ok (f.innerAt m i).enc st := by
  rw [call_eq P.inner_at hn]
  cases f with
  | point => exact absurd rfl hf
  | race a g l t => simp [runBody, c_inner_at, Form.enc, Form.innerAt, gc_self (low_enc _ _)]
  | tied a g l e b t =>
    by_cases c1 : m = i
    · by_cases c2 : i = e
      · simp [runBody, c_inner_at, Form.enc, Form.innerAt, gc_self (low_enc _ _), c1, c2]
      · simp [runBody, c_inner_at, Form.enc, Form.innerAt, gc_self (low_enc _ _), c1, c2]
    · simp [runBody, c_inner_at, Form.enc, Form.innerAt, gc_self (low_enc _ _), c1]
  | series fs t =>
    have h := hs fs t rfl
    have e : L2.atI (encL fs) (m + i) = some (fs[(m + i).toNat]).enc := by
      have q := at_nat (xs := encL fs) (k := (m + i).toNat) (v := (fs[(m + i).toNat]).enc) (by rw [encL_map, List.getElem?_map, List.getElem?_eq_getElem h]; rfl)
      rwa [Int.toNat_of_nonneg (by omega)] at q
    simp [runBody, c_inner_at, Form.enc, Form.innerAt, e, gc_self (low_enc _ _), h]
theorem begun_form : ∀ (f : Form) (s : Int), (begun f s).form = f
  | .point, s => rfl
  | .race _ _ _ _, s => rfl
  | .tied _ _ _ _ _ _, s => rfl
  | .series _ _, s => rfl
theorem begun_eq {f : Form} (hf : f ≠ .point) (ok : f.ok) (s : Int) : begun f s = .co f s 0 0 (begun (f.innerAt 0 0) s) := by
  cases f with
  | point => exact absurd rfl hf
  | race a _ _ _ => simp [begun, Form.innerAt]
  | tied a _ _ e b _ =>
    have : ¬ (0 : Int) = e := by have := ok.2.2.2.1; omega
    have h2 : ¬ e = 0 := fun z => this z.symm
    simp [begun, Form.innerAt, this, h2]
  | series fs t =>
    cases fs with
    | nil => simp [Form.ok] at ok
    | cons a as => simp [begun, begunH, Form.innerAt]
theorem begun_over (f : Form) (s : Int) : (begun f s).isOver = false := by
  cases f <;> rfl
theorem serOk_0 {f : Form} : serOk f 0 0 := by
  cases f with
  | series fs t => show (0 : Int) < (fs.length : Int) / 2 + 1 ∧ (0 : Int) < (fs.length : Int) / 2 + 1; omega
  | _ => trivial
theorem good_begun : ∀ (r : Nat) (f : Form) (s : Int), f.deep ≤ r → f.ok → f.deep ≤ 4 → (s = 0 ∨ s = 1) → (begun f s).good := by
  intro r
  induction r with
  | zero => intro f s h; have := deep_pos f; omega
  | succ r ih =>
    intro f s hd ok h4 hs
    by_cases hf : f = .point
    · subst hf; exact hs
    · rw [begun_eq hf ok]
      have q := inner_deep hf (series_room ok (Int.le_refl 0) (Int.le_refl 0) serOk_0)
      exact ⟨hf, ok, h4, hs, Int.le_refl 0, Int.le_refl 0, serOk_0, begun_form _ _, begun_over _ _, ih _ s (by omega) (q.2 ok) (by omega) hs⟩
theorem e_begun (P : Pg T gl) : ∀ (r : Nat) (f : Form) (s : Int) (n : Nat) (st : Store), f.deep ≤ r → f.ok → r + 2 ≤ n → callN T gl W n f_begun [f.enc, .int s] st = .ok (begun f s).enc st := by
  intro r
  induction r with
  | zero => intro f s n st h; have := deep_pos f; omega
  | succ r ih =>
    intro f s n st hd ok hn
    rw [call_eq P.begun (by omega)]
    by_cases hf : f = .point
    · subst hf
      simp [runBody, c_begun, Form.enc, begun, State.enc]
      rw [gc_self (by simp)]
    · have rm := series_room ok (Int.le_refl 0) (Int.le_refl 0) serOk_0
      have q := inner_deep hf rm
      have e1 := e_inner_at (W := W) P (n := n - 1) (by omega) hf 0 0 (Int.le_refl 0) (Int.le_refl 0) rm st
      have e2 := ih (f.innerAt 0 0) s (n - 1) st (by omega) (q.2 ok) (by omega)
      have hl : gc st (State.co f s 0 0 (begun (f.innerAt 0 0) s)).enc st = .ok (State.co f s 0 0 (begun (f.innerAt 0 0) s)).enc st := gc_self (low_state _ _)
      rw [begun_eq hf ok]
      cases f with
      | point => exact absurd rfl hf
      | race a g l t =>
        simp only [Form.enc, State.enc] at e1 hl
        simp [runBody, c_begun, Form.enc, e1, e2, State.enc, hl]
      | tied a g l e b t =>
        simp only [Form.enc, State.enc] at e1 hl
        simp [runBody, c_begun, Form.enc, e1, e2, State.enc, hl]
      | series fs t =>
        simp only [Form.enc, State.enc] at e1 hl
        simp [runBody, c_begun, Form.enc, e1, e2, State.enc, hl]
theorem e_won_by (P : Pg T gl) {n : Nat} (hn : 1 ≤ n) {f : Form} (hf : f ≠ .point) (m i : Int) (st : Store) :
    callN T gl W n f_won_by [f.enc, .int m, .int i] st = .ok (match f.wonBy m i with | some w => .int w | none => .none) st := by
  rw [call_eq P.won_by hn]
  have fin : ∀ g l : Int, f.goal = g → f.lead = l → (match f.wonBy m i with | some w => Val.int w | none => .none) = if imax m i < g ∨ iabs (m - i) < l then .none else .int (if i < m then 0 else 1) := fun g l e1 e2 => by
    unfold Form.wonBy
    rw [e1, e2]
    by_cases h : imax m i < g ∨ iabs (m - i) < l
    · rw [if_pos h, if_pos h]
    · rw [if_neg h, if_neg h]
  cases f with
  | point => exact absurd rfl hf
  | race a g l t =>
    rw [fin g l rfl rfl]
    by_cases c1 : imax m i < g
    · simp [runBody, c_won_by, Form.enc, c1]
    · by_cases c2 : iabs (m - i) < l
      · simp [runBody, c_won_by, Form.enc, c1, c2]
      · by_cases c3 : i < m <;> simp [runBody, c_won_by, Form.enc, c1, c2, c3]
  | tied a g l e b t =>
    rw [fin g l rfl rfl]
    by_cases c1 : imax m i < g
    · simp [runBody, c_won_by, Form.enc, c1]
    · by_cases c2 : iabs (m - i) < l
      · simp [runBody, c_won_by, Form.enc, c1, c2]
      · by_cases c3 : i < m <;> simp [runBody, c_won_by, Form.enc, c1, c2, c3]
  | series fs t =>
    rw [fin ((fs.length : Int) / 2 + 1) 1 rfl rfl]
    have q := b_fdiv (st := st) (i := (fs.length : Int)) (j := 2) (by decide) (by decide)
    by_cases c1 : imax m i < (fs.length : Int) / 2 + 1
    · simp [runBody, c_won_by, Form.enc, encL_length, q, c1]
    · by_cases c2 : iabs (m - i) < 1
      · simp [runBody, c_won_by, Form.enc, encL_length, q, c1, c2]
      · by_cases c3 : i < m <;> simp [runBody, c_won_by, Form.enc, encL_length, q, c1, c2, c3]
theorem e_decided (P : Pg T gl) {n : Nat} (hn : 2 ≤ n) {f : Form} (hf : f ≠ .point) (m i w : Int) (st : Store) :
    callN T gl W n f_decided [f.enc, .int m, .int i, .int w] st = .ok (.tup [.tup [.int (laterOf m i w).1, .int (laterOf m i w).2], match f.decided m i w with | some w => .int w | none => .none]) st := by
  rw [call_eq P.decided (by omega)]
  have e1 := e_won_by (W := W) P (n := n - 1) (by omega) hf (m + 1) i st
  have e2 := e_won_by (W := W) P (n := n - 1) (by omega) hf m (i + 1) st
  have lw : ∀ o : Option Int, Val.lowB st.length (match o with | some w => .int w | none => .none) = true := fun o => by cases o <;> rfl
  cases f with
  | point => exact absurd rfl hf
  | race a g l t =>
    simp only [Form.enc] at e1 e2
    by_cases c : w = 0
    · simp [runBody, c_decided, Form.enc, c, e1, laterOf, Form.decided, Form.lastAt]
      rw [gc_self (by simp [lw])]
    · simp [runBody, c_decided, Form.enc, c, e2, laterOf, Form.decided, Form.lastAt]
      rw [gc_self (by simp [lw])]
  | series fs t =>
    simp only [Form.enc] at e1 e2
    by_cases c : w = 0
    · simp [runBody, c_decided, Form.enc, c, e1, laterOf, Form.decided, Form.lastAt]
      rw [gc_self (by simp [lw])]
    · simp [runBody, c_decided, Form.enc, c, e2, laterOf, Form.decided, Form.lastAt]
      rw [gc_self (by simp [lw])]
  | tied a g l e b t =>
    simp only [Form.enc] at e1 e2
    by_cases c1 : m = i
    · by_cases c2 : i = e
      · by_cases c : w = 0
        · simp [runBody, c_decided, Form.enc, c, c1, c2, laterOf, Form.decided, Form.lastAt]
          rw [gc_self (by simp)]
        · simp [runBody, c_decided, Form.enc, c, c1, c2, laterOf, Form.decided, Form.lastAt]
          rw [gc_self (by simp)]
      · by_cases c : w = 0
        · subst c1
          simp [runBody, c_decided, Form.enc, c, c2, e1, laterOf, Form.decided, Form.lastAt]
          rw [gc_self (by simp [lw])]
        · subst c1
          simp [runBody, c_decided, Form.enc, c, c2, e2, laterOf, Form.decided, Form.lastAt]
          rw [gc_self (by simp [lw])]
    · by_cases c : w = 0
      · simp [runBody, c_decided, Form.enc, c, c1, e1, laterOf, Form.decided, Form.lastAt]
        rw [gc_self (by simp [lw])]
      · simp [runBody, c_decided, Form.enc, c, c1, e2, laterOf, Form.decided, Form.lastAt]
        rw [gc_self (by simp [lw])]
end

/-! ### who serves; what comes behind a point -/
section
variable {T : Tab} {gl : Str → Option Val} {W : Nat}
theorem in_pair (k a b : Int) (st : Store) : cmpop .isin (.int k) (.tup [.int a, .int b]) st = .ok (.bool (decide (k = a) || decide (k = b))) st := by
  have e : inM st (.int k) (.tup [.int a, .int b]) = some (decide (k = a) || decide (k = b)) := by
    simp only [inM, seqItems, Option.bind_some]
    rw [if_pos ⟨rfl, rfl⟩]
    simp only [List.any_cons, List.any_nil, Bool.or_false, flatEq]
    have q : ∀ x y : Int, (x == y) = decide (y = x) := fun x y => by rw [Bool.eq_iff_iff]; simp; exact eq_comm
    rw [q, q]
  show optB (inM st (.int k) (.tup [.int a, .int b])) false st = _
  rw [e]; rfl
theorem turn_last (f : Form) (hf : f ≠ .point) : ∃ xs, f.enc = .tup xs ∧ xs.getLast? = some (.str f.turn.s) := by
  cases f with
  | point => exact absurd rfl hf
  | race _ _ _ _ => exact ⟨_, rfl, rfl⟩
  | tied _ _ _ _ _ _ => exact ⟨_, rfl, rfl⟩
  | series _ _ => exact ⟨_, rfl, rfl⟩
theorem e_served (P : Pg T gl) {n : Nat} (hn : 1 ≤ n) {f : Form} (hf : f ≠ .point) (s k w t : Int) (st : Store) :
    callN T gl W n f_served [f.enc, .int s, .int k, .int w, .int t] st = .ok (.int (servedBy f.turn s k w t)) st := by
  rw [call_eq P.served hn]
  obtain ⟨xs, e1, e2⟩ := turn_last f hf
  rw [e1]
  have e3 := at_last e2
  have q := b_mod (st := st ++ [.dict [(Sum.inr s_each, .tup [.int 0, .int 2]), (Sum.inr s_twos, .tup [.int 0, .int 1]), (Sum.inr s_pairs, .tup [.int 0, .int 3])]]) (i := k) (j := 4) (by decide)
  generalize f.turn = u at e3
  have m : mergeKV [] [(Sum.inr s_each, Val.tup [.int 0, .int 2]), (Sum.inr s_twos, .tup [.int 0, .int 1]), (Sum.inr s_pairs, .tup [.int 0, .int 3])] = [(Sum.inr s_each, Val.tup [.int 0, .int 2]), (Sum.inr s_twos, .tup [.int 0, .int 1]), (Sum.inr s_pairs, .tup [.int 0, .int 3])] := by
    simp [mergeKV, putKV]
  cases u with
  | keep => simp [runBody, c_served, e3, Turn.s, servedBy]
  | winner => simp [runBody, c_served, e3, Turn.s, servedBy]
  | on => simp [runBody, c_served, e3, Turn.s, servedBy]
  | each =>
    by_cases c : k % 4 = 0 ∨ k % 4 = 2
    · simp [runBody, c_served, e3, Turn.s, servedBy, Turn.same, toPairs, keyOf, m, ixop, ixCell, valK, q, in_pair, c]
    · simp [runBody, c_served, e3, Turn.s, servedBy, Turn.same, toPairs, keyOf, m, ixop, ixCell, valK, q, in_pair, c]
  | twos =>
    by_cases c : k % 4 = 0 ∨ k % 4 = 1
    · simp [runBody, c_served, e3, Turn.s, servedBy, Turn.same, toPairs, keyOf, m, ixop, ixCell, valK, q, in_pair, c]
    · simp [runBody, c_served, e3, Turn.s, servedBy, Turn.same, toPairs, keyOf, m, ixop, ixCell, valK, q, in_pair, c]
  | pairs =>
    by_cases c : k % 4 = 0 ∨ k % 4 = 3
    · simp [runBody, c_served, e3, Turn.s, servedBy, Turn.same, toPairs, keyOf, m, ixop, ixCell, valK, q, in_pair, c]
    · simp [runBody, c_served, e3, Turn.s, servedBy, Turn.same, toPairs, keyOf, m, ixop, ixCell, valK, q, in_pair, c]
/-- a state's second item is who served it first -/
theorem state_first {S : State} (h : S.isOver = false) : ∃ xs, S.enc = .tup xs ∧ L2.atI xs 1 = some (.int S.first) := by
  cases S with
  | pt s => exact ⟨_, rfl, at_1⟩
  | co f s m i inner => exact ⟨_, rfl, at_1⟩
  | over _ _ _ => cases h
theorem e_behind (P : Pg T gl) {n : Nat} (hn : 8 ≤ n) {f : Form} (hf : f ≠ .point) (ok : f.ok) (hd : f.deep ≤ 4) (s m i : Int) (h0 : 0 ≤ m) (h1 : 0 ≤ i) (hs : serOk f m i) (inner : State) (ho : inner.isOver = false) (w t : Int) (st : Store) :
    callN T gl W n f_behind [(State.co f s m i inner).enc, .int w, .int t] st = .ok (behindS f s m i inner w t).enc st := by
  rw [call_eq P.behind (by omega)]
  have e1 := e_decided (W := W) P (n := n - 1) (by omega) hf m i w st
  have e4 : gc st (behindS f s m i inner w t).enc st = .ok (behindS f s m i inner w t).enc st := gc_self (low_state _ _)
  cases hdc : f.decided m i w with
  | some who =>
    rw [hdc] at e1
    obtain ⟨xs, x1, x2⟩ := state_first ho
    simp only [behindS, hdc, State.enc, encP] at e4
    simp [runBody, c_behind, State.enc, setAll, e1, x1, x2, behindS, hdc, encP, e4]
  | none =>
    rw [hdc] at e1
    have hs2 := serOk_next h0 h1 hs hdc
    have hn2 := later_nonneg (w := w) h0 h1
    have rm := series_room ok hn2.1 hn2.2 hs2
    have q := inner_deep hf rm
    have e2 := e_inner_at (W := W) P (n := n - 1) (by omega) hf (laterOf m i w).1 (laterOf m i w).2 hn2.1 hn2.2 rm st
    have e3 := e_served (W := W) P (n := n - 1) (by omega) hf s ((laterOf m i w).1 + (laterOf m i w).2) w t st
    have e5 := e_begun (W := W) P 4 (f.innerAt (laterOf m i w).1 (laterOf m i w).2) (servedBy f.turn s ((laterOf m i w).1 + (laterOf m i w).2) w t) (n - 1) st (by omega) (q.2 ok) (by omega)
    simp only [behindS, hdc, State.enc] at e4
    simp [runBody, c_behind, State.enc, setAll, e1, e2, e3, e5, behindS, hdc, e4]
/-- a form is no text -/
theorem enc_ne_str {f : Form} (h : f.deep ≤ 12) (x : Str) (hx : PyData.strOk x = true) (st : Store) : eqM st f.enc (.str x) = some false := by
  obtain ⟨xs, e1⟩ := enc_tup f
  obtain ⟨d, ds, e2⟩ := py_tuple f
  have h1 : toD st eqDeep f.enc = some f.py := toD_enc st f eqDeep (by show 2 * f.deep ≤ 24; omega)
  have h2 : toD st eqDeep (.str x) = some (.str x) := rfl
  have h3 : scalB f.enc (.str x) = none := by rw [e1]; rfl
  unfold eqM
  rw [h3, h1, h2]
  simp only
  have h4 : SeqAt.shaped (.str x) = true := by
    unfold SeqAt.shaped
    simp [PyData.canLay0, hx, PyData.depth]
  rw [if_pos ⟨shaped_py h, h4⟩, e2]
  rfl
theorem over_ok : PyData.strOk s_over = true := by decide +kernel
theorem ne_over {f : Form} (h : f.deep ≤ 12) (st : Store) : cmpop .ne f.enc (.str s_over) st = .ok (.bool true) st := by
  show optB (eqM st f.enc (.str s_over)) true st = _
  rw [enc_ne_str h _ over_ok]; rfl
theorem eq_over {f : Form} (h : f.deep ≤ 12) (st : Store) : cmpop .eq f.enc (.str s_over) st = .ok (.bool false) st := by
  show optB (eqM st f.enc (.str s_over)) false st = _
  rw [enc_ne_str h _ over_ok]; rfl
/-- how deep a state's forms are -/
def State.fdeep : State → Nat
  | .pt _ => 1
  | .co f _ _ _ _ => f.deep
  | .over _ _ _ => 0
theorem state_head {S : State} (h : S.isOver = false) : ∃ (f : Form) (xs : List Val), S.enc = .tup xs ∧ L2.atI xs 0 = some f.enc ∧ f = S.form := by
  cases S with
  | pt s => exact ⟨.point, _, rfl, at_0, rfl⟩
  | co f s m i inner => exact ⟨f, _, rfl, at_0, rfl⟩
  | over _ _ _ => cases h
theorem good_deep {S : State} (h : S.good) : S.form.deep ≤ 4 := by
  cases S with
  | pt s => simp [State.form, Form.deep]
  | co f s m i inner => exact h.2.2.1
  | over _ _ _ => simp [State.form, Form.deep]
theorem cut4 (a b c d e : Val) : cut [a, b, c, d, e] none (some 4) = [a, b, c, d] := by
  simp [cut, HT.sIx]
theorem behind_good {f : Form} (hf : f ≠ .point) (ok : f.ok) (hd : f.deep ≤ 4) {s m i : Int} (h0 : 0 ≤ m) (h1 : 0 ≤ i) (hs : serOk f m i) (hs1 : s = 0 ∨ s = 1) {inner : State} (hi : inner.first = 0 ∨ inner.first = 1) {w t : Int} (hw : w = 0 ∨ w = 1) (ht : t = 0 ∨ t = 1) : (behindS f s m i inner w t).good := by
  unfold behindS
  cases hdc : f.decided m i w with
  | some who =>
    refine ⟨?_, hi⟩
    unfold Form.decided at hdc
    split at hdc
    · cases hdc; exact hw
    · unfold Form.wonBy at hdc
      split at hdc
      · cases hdc
      · cases hdc; split
        · exact .inl rfl
        · exact .inr rfl
  | none =>
    have hs2 := serOk_next h0 h1 hs hdc
    have hn2 := later_nonneg (w := w) h0 h1
    have rm := series_room ok hn2.1 hn2.2 hs2
    have q := inner_deep hf rm
    refine ⟨hf, ok, hd, hs1, hn2.1, hn2.2, hs2, begun_form _ _, begun_over _ _, good_begun 4 _ _ (by omega) (q.2 ok) (by omega) ?_⟩
    unfold servedBy
    split
    · exact hw
    · omega
    · exact hs1
    · split <;> omega
theorem good_first {S : State} (h : S.good) : S.first = 0 ∨ S.first = 1 := by
  cases S with
  | pt s => exact h
  | co f s m i inner => exact h.2.2.2.1
  | over w t l => exact h.2
theorem pushed_good : ∀ {S : State} {w : Int}, S.good → S.isOver = false → (w = 0 ∨ w = 1) → (pushed S w).1.good ∧ ((pushed S w).1.isOver = false → (pushed S w).1.form = S.form)
  | .pt s, w, h, _, hw => ⟨⟨hw, h⟩, fun z => by cases z⟩
  | .co f s m i inner, w, h, _, hw => by
    obtain ⟨hf, ok, hd, hs1, h0, h1, hs, hfm, ho, hg⟩ := h
    obtain ⟨ih1, ih2⟩ := pushed_good hg ho hw
    show (liftedS f s m i inner (pushed inner w)).1.good ∧ ((liftedS f s m i inner (pushed inner w)).1.isOver = false → (liftedS f s m i inner (pushed inner w)).1.form = f)
    unfold liftedS
    cases e : (pushed inner w).1 with
    | pt s' =>
      rw [e] at ih1 ih2
      exact ⟨⟨hf, ok, hd, hs1, h0, h1, hs, (ih2 rfl).trans hfm, rfl, ih1⟩, fun _ => rfl⟩
    | co f' s' m' i' inner' =>
      rw [e] at ih1 ih2
      exact ⟨⟨hf, ok, hd, hs1, h0, h1, hs, (ih2 rfl).trans hfm, rfl, ih1⟩, fun _ => rfl⟩
    | over w' t' l' =>
      rw [e] at ih1
      refine ⟨behind_good hf ok hd h0 h1 hs hs1 (good_first hg) ih1.1 ih1.2, fun z => ?_⟩
      show (behindS f s m i inner w' t').form = f
      have z : (behindS f s m i inner w' t').isOver = false := z
      unfold behindS at z ⊢
      cases hdc : f.decided m i w' with
      | some who => rw [hdc] at z; cases z
      | none => rfl
  | .over _ _ _, w, h, z, hw => by cases z
/-- how deep a state is -/
def State.lev : State → Nat
  | .co _ _ _ _ inner => inner.lev + 1
  | _ => 1
theorem lev_le : ∀ {S : State}, S.good → S.isOver = false → S.lev ≤ S.form.deep
  | .pt s, _, _ => by simp [State.lev, State.form, Form.deep]
  | .co f s m i inner, h, _ => by
    obtain ⟨hf, ok, hd, hs1, h0, h1, hs, hfm, ho, hg⟩ := h
    have ih := lev_le hg ho
    have q := inner_deep hf (series_room ok h0 h1 hs)
    rw [hfm] at ih
    show inner.lev + 1 ≤ f.deep
    omega
  | .over _ _ _, _, z => by cases z
theorem e_lifted (P : Pg T gl) {n : Nat} (hn : 9 ≤ n) {f : Form} (hf : f ≠ .point) (ok : f.ok) (hd : f.deep ≤ 4) (s m i : Int) (h0 : 0 ≤ m) (h1 : 0 ≤ i) (hs : serOk f m i) (inner : State) (ho : inner.isOver = false) (p : State × Int) (hp : p.1.good) (st : Store) :
    callN T gl W n f_lifted [(State.co f s m i inner).enc, p.1.enc, .int p.2] st = .ok (.tup [(liftedS f s m i inner p).1.enc, .int (liftedS f s m i inner p).2]) st := by
  rw [call_eq P.lifted (by omega)]
  obtain ⟨S, c⟩ := p
  have fin : ∀ (X : State) (k : Int), gc st (.tup [X.enc, .int k]) st = .ok (.tup [X.enc, .int k]) st := fun X k => gc_self (by simp [low_state])
  have np : ∀ (S : State), S.good → S.isOver = false → evalS ⟨callN T gl W (n - 1), gl, W⟩ c_lifted.body [some (State.co f s m i inner).enc, some S.enc, some (.int c), none] st = .ok (.ret (.tup [(State.co f s m i S).enc, .int c]), [some (State.co f s m i inner).enc, some S.enc, some (.int c), none]) st := fun S hg ho => by
    obtain ⟨g, xs, x1, x2, x3⟩ := state_head ho
    have := good_deep hg
    have q := ne_over (f := g) (by rw [x3]; omega) st
    simp [c_lifted, State.enc, x1, x2, q, isNil, cut4]
  cases S with
  | pt s' =>
    have q := np (.pt s') hp rfl
    have z := fin (.co f s m i (.pt s')) c
    simp only [c_lifted] at q
    simp [runBody, c_lifted] at q ⊢
    simp [q, liftedS, z]
  | co f' s' m' i' inner' =>
    have q := np (.co f' s' m' i' inner') hp rfl
    have z := fin (.co f s m i (.co f' s' m' i' inner')) c
    simp only [c_lifted] at q
    simp [runBody, c_lifted] at q ⊢
    simp [q, liftedS, z]
  | over w t l =>
    have e1 := e_behind (W := W) P (n := n - 1) (by omega) hf ok hd s m i h0 h1 hs inner ho w t st
    have z := fin (behindS f s m i inner w t) (c + if (behindS f s m i inner w t).isOver then 1 else 0)
    have o1 : ∀ l, (State.over w t l).enc = .tup [.str s_over, .int w, .int t, encP l] := fun _ => rfl
    cases hb : (behindS f s m i inner w t).isOver with
    | true =>
      have : ∃ a b d, behindS f s m i inner w t = .over a b d := by
        cases q : behindS f s m i inner w t with
        | over a b d => exact ⟨a, b, d, rfl⟩
        | _ => rw [q] at hb; cases hb
      obtain ⟨a, b, d, hx⟩ := this
      rw [hx] at e1 z
      simp only [o1, State.enc] at e1 z
      simp [State.isOver] at z
      simp [runBody, c_lifted, o1, e1, liftedS, hx, State.isOver, z, State.enc]
    | false =>
      obtain ⟨g, xs, x1, x2, x3⟩ := state_head hb
      have hgd : g.deep ≤ 12 := by
        rw [x3]
        unfold behindS at hb ⊢
        cases hdc : f.decided m i w with
        | some who => rw [hdc] at hb; cases hb
        | none => simp [State.form]; omega
      have q := eq_over hgd st
      rw [hb] at z
      rw [x1] at e1 z
      simp at z
      simp [runBody, c_lifted, o1, e1, liftedS, hb, x1, x2, q, z]
theorem e_pushed (P : Pg T gl) : ∀ (S : State) (w : Int) (n : Nat) (st : Store), S.good → S.isOver = false → (w = 0 ∨ w = 1) → S.lev + 10 ≤ n →
    callN T gl W n f_pushed [S.enc, .int w] st = .ok (.tup [(pushed S w).1.enc, .int (pushed S w).2]) st
  | .pt s, w, n, st, h, _, hw, hn => by
    rw [call_eq P.pushed (by omega)]
    simp [runBody, c_pushed, State.enc, pushed, encP]
    rw [gc_self (by simp)]
  | .co f s m i inner, w, n, st, h, _, hw, hn => by
    have hG := h
    obtain ⟨hf, ok, hd, hs1, h0, h1, hs, hfm, ho, hg⟩ := h
    rw [call_eq P.pushed (by omega)]
    have hn : inner.lev + 1 + 10 ≤ n := hn
    have ih := e_pushed P inner w (n - 1) st hg ho hw (by omega)
    have q := pushed_good hg ho hw
    have e1 := e_lifted (W := W) P (n := n - 1) (by omega) hf ok hd s m i h0 h1 hs inner ho (pushed inner w) q.1 st
    have z : gc st (.tup [(liftedS f s m i inner (pushed inner w)).1.enc, .int (liftedS f s m i inner (pushed inner w)).2]) st = .ok (.tup [(liftedS f s m i inner (pushed inner w)).1.enc, .int (liftedS f s m i inner (pushed inner w)).2]) st := gc_self (by simp [low_state])
    simp only [State.enc] at e1
    simp [runBody, c_pushed, State.enc, ih, setAll, e1, pushed, z]
  | .over _ _ _, w, n, st, h, z, hw, hn => by cases z
end

/-! ### rows -/
def pairsS : State → List (Int × Int)
  | .over _ _ none => []
  | .over _ _ (some p) => [p]
  | .pt _ => []
  | .co _ _ m i inner => (m, i) :: pairsS inner
def serverS : State → Option Int
  | .over _ _ _ => none
  | .pt s => some s
  | .co _ _ _ _ inner => serverS inner
def winnerS : State → Option Int
  | .over w _ _ => some w
  | _ => none
def encO : Option Int → Val
  | none => .none
  | some k => .int k
def encPs (ps : List (Int × Int)) : Val := .tup (ps.map fun p => .tup [.int p.1, .int p.2])
def plays (S : State) (row : List Int) : State := row.foldl (fun S w => (pushed S w).1) S
/-- no point behind the end -/
def goesOn : State → List Int → Prop
  | _, [] => True
  | S, w :: r => S.isOver = false ∧ goesOn (pushed S w).1 r
def sides (row : List Int) : Prop := ∀ w ∈ row, w = 0 ∨ w = 1
def FormOk (f : Form) : Prop := f.ok ∧ f.deep ≤ 4 ∧ f.size ≤ 20
def RowOk (st : Store) (k : Nat) (row : List Int) : Prop := st[k]? = some (.lst (row.map Val.int)) ∧ row.length ≤ 500 ∧ sides row
theorem plays_good : ∀ (row : List Int) (S : State), S.good → sides row → goesOn S row → (plays S row).good
  | [], S, h, _, _ => h
  | w :: r, S, h, hr, hg => plays_good r (pushed S w).1 (pushed_good h hg.1 (hr w List.mem_cons_self)).1 (fun x hx => hr x (List.mem_cons_of_mem _ hx)) hg.2
section
variable {T : Tab} {gl : Str → Option Val} {W : Nat}
theorem low_ints {n : Nat} (row : List Int) : lowL n (row.map Val.int) = true := lowL_all.mpr fun x hx => by
  obtain ⟨k, _, rfl⟩ := List.mem_map.mp hx
  rfl
theorem low_encO {n : Nat} (o : Option Int) : (encO o).lowB n = true := by cases o <;> rfl
theorem low_encPs {n : Nat} (ps : List (Int × Int)) : (encPs ps).lowB n = true := lowL_all.mpr fun x hx => by
  obtain ⟨k, _, rfl⟩ := List.mem_map.mp hx
  rfl
theorem e_look_side (P : Pg T gl) {n : Nat} (hn : 2 ≤ n) {s : Int} (hs : s = 0 ∨ s = 1) (st : Store) : callN T gl W n f_look_side [.int s] st = .ok .none st := by
  rw [call_eq P.look_side (by omega)]
  have h1 : 0 ≤ s ∧ s ≤ 1 := by omega
  simp [runBody, c_look_side, e_is_number_int P (show 1 ≤ n - 1 by omega), h1]
theorem e_look_row (P : Pg T gl) {n : Nat} (hn : 2 ≤ n) {k : Nat} {row : List Int} {st : Store} (h : RowOk st k row) : callN T gl W n f_look_row [.ref k] st = .ok .none st := by
  rw [call_eq P.look_row (by omega)]
  obtain ⟨h1, h2, h3⟩ := h
  have hk : k < st.length := (List.getElem?_eq_some_iff.mp h1).1
  have g1 : ∀ acc, (st ++ [Cell.lst acc])[k]? = some (.lst (row.map Val.int)) := fun acc => by rw [List.getElem?_append_left hk]; exact h1
  have k1 := comp_map (f := runC ⟨callN T gl W (n - 1), gl, W⟩ 1 .nil (.call f_is_number (.cons (.var 1) (.cons (.int_ 0) (.cons (.int_ 1) .nil)))) [some (.ref k), none]) (ok := stays .seq (.ref k) (row.map Val.int)) (D := st.length) (pre := st) (enc := Val.int) (g := fun _ => Val.bool true) rfl (fun acc => listAt_lst (g1 acc)) row []
    (fun w hw acc => by
      have h1 : 0 ≤ w ∧ w ≤ 1 := by have := h3 w hw; omega
      simp [runC, isNil, e_is_number_int P (show 1 ≤ n - 1 by omega), h1]) (small_line (by simp; omega))
  rw [List.nil_append] at k1
  have h4 : listAt (st ++ [Cell.lst (row.map fun _ => Val.bool true)]) st.length = some (row.map fun _ => Val.bool true) := listAt_lst (by simp)
  have h5 : ((row.length : Int) > 500) = False := eq_false (by omega)
  have h6 : ((500 : Int) < row.length) = False := eq_false (by omega)
  simp [runBody, c_look_row, i_lst h1, l_ref (listAt_lst h1), P.g_MOST_POINTS, h6, srcItems, listAt_lst h1, k1, bi_all h4 (allBools_map (f := fun _ => true) row)]
theorem pairs_len : ∀ S : State, (pairsS S).length ≤ S.lev
  | .over _ _ none => by simp [pairsS]
  | .over _ _ (some _) => by simp [pairsS, State.lev]
  | .pt _ => by simp [pairsS]
  | .co _ _ _ _ inner => by have := pairs_len inner; simp [pairsS, State.lev]; omega
theorem e_pairs (P : Pg T gl) : ∀ (S : State) (n : Nat) (st : Store), S.good → S.lev ≤ 1000 → S.lev ≤ n → callN T gl W n f_pairs [S.enc] st = .ok (encPs (pairsS S)) st
  | .over w t none, n, st, _, _, hn => by
    have : 1 ≤ n := hn
    rw [call_eq P.pairs (by omega)]
    simp [runBody, c_pairs, State.enc, encP, encPs, pairsS]
    rw [gc_self (by simp)]
  | .over w t (some p), n, st, _, _, hn => by
    have : 1 ≤ n := hn
    rw [call_eq P.pairs (by omega)]
    simp [runBody, c_pairs, State.enc, encP, encPs, pairsS]
    rw [gc_self (by simp)]
  | .pt s, n, st, h, _, hn => by
    have : 1 ≤ n := hn
    rw [call_eq P.pairs (by omega)]
    have q := eq_over (f := .point) (by simp [Form.deep]) st
    simp [runBody, c_pairs, State.enc, q, encPs, pairsS]
    rw [gc_self (by simp)]
  | .co f s m i inner, n, st, h, hl, hn => by
    obtain ⟨hf, ok, hd, hs1, h0, h1, hs, hfm, ho, hg⟩ := h
    have hn : inner.lev + 1 ≤ n := hn
    have hl : inner.lev + 1 ≤ 1000 := hl
    rw [call_eq P.pairs (by omega)]
    have q := eq_over (f := f) (by omega) st
    have ih := e_pairs P inner (n - 1) st hg (by omega) (by omega)
    have hp := pairs_len inner
    have b : 1 + (pairsS inner).length ≤ sizeLine := small_line (by omega)
    have z : gc st (encPs (pairsS (.co f s m i inner))) st = .ok (encPs (pairsS (.co f s m i inner))) st := gc_self (low_encPs _)
    simp only [encPs, pairsS, List.map_cons] at ih z
    simp [runBody, c_pairs, State.enc, q, encPs, pairsS, ih, b, z]
theorem e_server_of (P : Pg T gl) : ∀ (S : State) (n : Nat) (st : Store), S.good → S.lev ≤ n → callN T gl W n f_server_of [S.enc] st = .ok (encO (serverS S)) st
  | .over w t l, n, st, _, hn => by
    have : 1 ≤ n := hn
    rw [call_eq P.server_of (by omega)]
    simp [runBody, c_server_of, State.enc, encO, serverS]
  | .pt s, n, st, h, hn => by
    have : 1 ≤ n := hn
    rw [call_eq P.server_of (by omega)]
    have q := eq_over (f := .point) (by simp [Form.deep]) st
    simp [runBody, c_server_of, State.enc, q, encO, serverS]
  | .co f s m i inner, n, st, h, hn => by
    obtain ⟨hf, ok, hd, hs1, h0, h1, hs, hfm, ho, hg⟩ := h
    have hn : inner.lev + 1 ≤ n := hn
    rw [call_eq P.server_of (by omega)]
    have q := eq_over (f := f) (by omega) st
    have ih := e_server_of P inner (n - 1) st hg (by omega)
    have z : gc st (encO (serverS inner)) st = .ok (encO (serverS inner)) st := gc_self (low_encO _)
    simp [runBody, c_server_of, State.enc, q, serverS, ih, z]
theorem e_winner_of (P : Pg T gl) {n : Nat} (hn : 1 ≤ n) (S : State) (h : S.good) (st : Store) : callN T gl W n f_winner_of [S.enc] st = .ok (encO (winnerS S)) st := by
  rw [call_eq P.winner_of (by omega)]
  cases S with
  | over w t l => simp [runBody, c_winner_of, State.enc, encO, winnerS]
  | pt s =>
    have q := eq_over (f := .point) (by simp [Form.deep]) st
    simp [runBody, c_winner_of, State.enc, q, encO, winnerS]
  | co f s m i inner =>
    have q := eq_over (f := f) (by have := h.2.2.1; omega) st
    simp [runBody, c_winner_of, State.enc, q, encO, winnerS]
theorem src_range {m : Nat} (h : m ≤ 1000000) {st : Store} : srcItems .range (.tup [.int m]) st = some ((List.range m).map fun (j : Nat) => Val.int (j : Int)) := by
  simp only [srcItems]
  rw [if_pos (by omega), Int.toNat_natCast]
theorem for_of {F : Fns} {k : Src} {is : List Nat} {src : CE} {a : CS} {env : Env} {st s1 : Store} {v : Val} {xs : List Val} (h1 : evalE F src env st = .ok v s1) (h2 : srcItems k v s1 = some xs) : evalS F (.for_ k is src a) env st = forLoop is (stays k v xs) (runS F a) xs env s1 := by
  rw [es_for, h1, bind_ok, h2]
theorem comp_of {F : Fns} {k : Src} {i : Nat} {src cond elt : CE} {env : Env} {st s1 : Store} {v : Val} {xs : List Val} (h1 : evalE F src env st = .ok v s1) (h2 : srcItems k v s1 = some xs) : evalE F (.comp k i src cond elt) env st = compLoop (runC F i cond elt env) (stays k v xs) s1.length xs (s1 ++ [.lst []]) := by
  rw [ev_comp, h1, bind_ok, h2]
/-- one round of a for -/
theorem for_next {is : List Nat} {ok : Store → Prop} {b : Env → Store → Res (Flow × Env)} {x : Val} {xs : List Val} {env env1 env2 : Env} {st s2 : Store} (h : ok st) (hb : bindTo is x env = some env1) (hr : b env1 st = .ok (.next, env2) s2) : forLoop is ok b (x :: xs) env st = forLoop is ok b xs env2 s2 := by
  simp only [forLoop]
  rw [if_pos h, hb]
  simp only [hr, bind_ok]
theorem for_end {is : List Nat} {ok : Store → Prop} {b : Env → Store → Res (Flow × Env)} {env : Env} {st : Store} (h : ok st) : forLoop is ok b [] env st = .ok (.next, env) st := by
  simp only [forLoop]
  rw [if_pos h]
theorem for_ret {is : List Nat} {ok : Store → Prop} {b : Env → Store → Res (Flow × Env)} {x v : Val} {xs : List Val} {env env1 env2 : Env} {st s2 : Store} (h : ok st) (hb : bindTo is x env = some env1) (hr : b env1 st = .ok (.ret v, env2) s2) : forLoop is ok b (x :: xs) env st = .ok (.ret v, env2) s2 := by
  simp only [forLoop]
  rw [if_pos h, hb]
  simp only [hr, bind_ok]
def playB : CS := (.seq (.if_ (.cmp .eq (.ix (.var 3) (.int_ 0)) (.str_ s_over)) (.seq .never .skip) .skip) (.seq (.set 3 (.ix (.call f_pushed (.cons (.var 3) (.cons (.ix (.var 2) (.var 4)) .nil))) (.int_ 0))) .skip))
theorem played_loop (P : Pg T gl) {n : Nat} (hn : 14 ≤ n) {row : List Int} {k : Nat} {st : Store} {ok : Store → Prop} (hok : ok st) (hrow : st[k]? = some (.lst (row.map Val.int))) (a b : Option Val) : ∀ (suf pre : List Int) (S : State) (x : Option Val), row = pre ++ suf → S.good → sides suf → goesOn S suf →
    ∃ y, forLoop [4] ok (runS ⟨callN T gl W n, gl, W⟩ playB) ((List.range' pre.length suf.length).map fun (j : Nat) => Val.int (j : Int)) [a, b, some (.ref k), some S.enc, x] st = .ok (.next, [a, b, some (.ref k), some (plays S suf).enc, y]) st
  | [], pre, S, x, _, _, _, _ => ⟨x, for_end hok⟩
  | w :: suf, pre, S, x, hr, hg, hw, hgo => by
    have hw1 := hw w List.mem_cons_self
    have hp := pushed_good hg hgo.1 hw1
    obtain ⟨y, hy⟩ := played_loop P hn hok hrow a b suf (pre ++ [w]) (pushed S w).1 (some (.int pre.length)) (by simp [hr]) hp.1 (fun z hz => hw z (List.mem_cons_of_mem _ hz)) hgo.2
    refine ⟨y, ?_⟩
    obtain ⟨f, xs, x1, x2, x3⟩ := state_head hgo.1
    have hd := good_deep hg
    have hl := lev_le hg hgo.1
    have q := eq_over (f := f) (by rw [x3]; omega) st
    have e1 := e_pushed (W := W) P S w n st hg hgo.1 hw1 (by omega)
    rw [x1] at e1
    have e2 : L2.atI (row.map Val.int) (pre.length : Int) = some (.int w) := at_nat (by simp [hr])
    have e3 := ix_lst (k := (pre.length : Int)) (listAt_lst hrow)
    rw [e2] at e3
    rw [show (w :: suf).length = suf.length + 1 from rfl, List.range'_succ, List.map_cons]
    have body : runS ⟨callN T gl W n, gl, W⟩ playB [a, b, some (.ref k), some S.enc, some (.int pre.length)] st = .ok (.next, [a, b, some (.ref k), some (pushed S w).1.enc, some (.int pre.length)]) st := by
      simp [runS, playB, x1, x2, q, e1, e3]
    rw [for_next hok rfl body]
    have : (pre ++ [w]).length = pre.length + 1 := by simp
    rw [this] at hy
    exact hy
theorem e_played (P : Pg T gl) {n : Nat} (hn : 15 ≤ n) {f : Form} (hf : FormOk f) {s : Int} (hs : s = 0 ∨ s = 1) {k : Nat} {row : List Int} {st : Store} (h : RowOk st k row) (hg : goesOn (begun f s) row) : callN T gl W n f_played [f.enc, .int s, .ref k] st = .ok (plays (begun f s) row).enc st := by
  rw [call_eq P.played (by omega)]
  have e1 := e_begun (W := W) P 4 f s (n - 1) st hf.2.1 hf.1 (by omega)
  have gb := good_begun 4 f s (by have := hf.2.1; omega) hf.1 (by have := hf.2.1; omega) hs
  obtain ⟨y, hy⟩ := played_loop (W := W) P (n := n - 1) (by omega) (ok := stays .range (.tup [.int row.length]) ((List.range row.length).map fun (j : Nat) => Val.int (j : Int))) trivial h.1 (some f.enc) (some (.int s)) row [] (begun f s) none rfl gb h.2.2 hg
  rw [List.length_nil, ← List.range_eq_range'] at hy
  have hr : srcItems .range (.tup [.int row.length]) st = some ((List.range row.length).map fun (j : Nat) => Val.int (j : Int)) := by
    have := h.2.1
    exact src_range (by omega)
  have z : gc st (plays (begun f s) row).enc st = .ok (plays (begun f s) row).enc st := gc_self (low_state _ _)
  have hl : evalE ⟨callN T gl W (n - 1), gl, W⟩ (.cons (.bi .len (.cons (.var 2) .nil)) .nil) [some f.enc, some (.int s), some (.ref k), some (begun f s).enc, none] st = .ok (.tup [.int row.length]) st := by
    simp [l_ref (listAt_lst h.1)]
  have hff := for_of (is := [4]) (a := playB) hl hr
  rw [hy] at hff
  simp only [playB] at hff
  simp [-es_for, runBody, c_played, e1, hff, z]
theorem e_state_of (P : Pg T gl) {n : Nat} (hn : 20 ≤ n) {f : Form} (hf : FormOk f) {s : Int} (hs : s = 0 ∨ s = 1) {k : Nat} {row : List Int} {st : Store} (h : RowOk st k row) (hg : goesOn (begun f s) row) : callN T gl W n f_state_of [f.enc, .int s, .ref k] st = .ok (plays (begun f s) row).enc st := by
  rw [call_eq P.state_of (by omega)]
  have e1 := e_look_form (W := W) P (n := n - 1) (by omega) f hf.1 hf.2.1 hf.2.2 st
  have e2 := e_look_side (W := W) P (n := n - 1) (by omega) hs st
  have e3 := e_look_row (W := W) P (n := n - 1) (by omega) h
  have e4 := e_played (W := W) P (n := n - 1) (by omega) hf hs h hg
  have z : gc st (plays (begun f s) row).enc st = .ok (plays (begun f s) row).enc st := gc_self (low_state _ _)
  simp [runBody, c_state_of, e1, e2, e3, e4, z]
theorem good_plays {f : Form} (hf : FormOk f) {s : Int} (hs : s = 0 ∨ s = 1) {row : List Int} (hr : sides row) (hg : goesOn (begun f s) row) : (plays (begun f s) row).good :=
  plays_good row _ (good_begun 4 f s (by have := hf.2.1; omega) hf.1 (by have := hf.2.1; omega) hs) hr hg
theorem lev_good {S : State} (h : S.good) : S.lev ≤ 4 := by
  cases e : S.isOver with
  | false => have := lev_le h e; have := good_deep h; omega
  | true => cases S with
    | over _ _ _ => simp [State.lev]
    | _ => cases e
theorem e_standing (P : Pg T gl) {n : Nat} (hn : 21 ≤ n) {f : Form} (hf : FormOk f) {s : Int} (hs : s = 0 ∨ s = 1) {k : Nat} {row : List Int} {st : Store} (h : RowOk st k row) (hg : goesOn (begun f s) row) : callN T gl W n f_standing [f.enc, .int s, .ref k] st = .ok (encPs (pairsS (plays (begun f s) row))) st := by
  rw [call_eq P.standing (by omega)]
  have e1 := e_state_of (W := W) P (n := n - 1) (by omega) hf hs h hg
  have gp := good_plays hf hs h.2.2 hg
  have l := lev_good gp
  have e2 := e_pairs (W := W) P _ (n - 1) st gp (by omega) (by omega)
  have z : gc st (encPs (pairsS (plays (begun f s) row))) st = _ := gc_self (low_encPs _)
  simp [runBody, c_standing, e1, e2, z]
theorem e_server (P : Pg T gl) {n : Nat} (hn : 21 ≤ n) {f : Form} (hf : FormOk f) {s : Int} (hs : s = 0 ∨ s = 1) {k : Nat} {row : List Int} {st : Store} (h : RowOk st k row) (hg : goesOn (begun f s) row) : callN T gl W n f_server [f.enc, .int s, .ref k] st = .ok (encO (serverS (plays (begun f s) row))) st := by
  rw [call_eq P.server (by omega)]
  have e1 := e_state_of (W := W) P (n := n - 1) (by omega) hf hs h hg
  have gp := good_plays hf hs h.2.2 hg
  have l := lev_good gp
  have e2 := e_server_of (W := W) P _ (n - 1) st gp (by omega)
  have z : gc st (encO (serverS (plays (begun f s) row))) st = _ := gc_self (low_encO _)
  simp [runBody, c_server, e1, e2, z]
theorem e_winner (P : Pg T gl) {n : Nat} (hn : 21 ≤ n) {f : Form} (hf : FormOk f) {s : Int} (hs : s = 0 ∨ s = 1) {k : Nat} {row : List Int} {st : Store} (h : RowOk st k row) (hg : goesOn (begun f s) row) : callN T gl W n f_winner [f.enc, .int s, .ref k] st = .ok (encO (winnerS (plays (begun f s) row))) st := by
  rw [call_eq P.winner (by omega)]
  have e1 := e_state_of (W := W) P (n := n - 1) (by omega) hf hs h hg
  have gp := good_plays hf hs h.2.2 hg
  have e2 := e_winner_of (W := W) P (n := n - 1) (by omega) _ gp st
  have z : gc st (encO (winnerS (plays (begun f s) row))) st = _ := gc_self (low_encO _)
  simp [runBody, c_winner, e1, e2, z]
def closingS (S : State) : Option (Int × Int) := if S.isOver = true then none else some ((pushed S 0).2, (pushed S 1).2)
theorem low_encP {n : Nat} (o : Option (Int × Int)) : (encP o).lowB n = true := by cases o <;> rfl
theorem e_closing (P : Pg T gl) {n : Nat} (hn : 15 ≤ n) (S : State) (h : S.good) (st : Store) : callN T gl W n f_closing [S.enc] st = .ok (encP (closingS S)) st := by
  rw [call_eq P.closing (by omega)]
  cases e : S.isOver with
  | true => cases S with
    | over w t l => simp [runBody, c_closing, State.enc, closingS, State.isOver, encP]
    | _ => cases e
  | false =>
    obtain ⟨f, xs, x1, x2, x3⟩ := state_head e
    have hd := good_deep h
    have l := lev_good h
    have q := eq_over (f := f) (by rw [x3]; omega) st
    have e1 := e_pushed (W := W) P S 0 (n - 1) st h e (.inl rfl) (by omega)
    have e2 := e_pushed (W := W) P S 1 (n - 1) st h e (.inr rfl) (by omega)
    rw [x1] at e1 e2
    have z : gc st (encP (closingS S)) st = _ := gc_self (low_encP _)
    simp only [closingS, e, encP] at z
    simp at z
    simp [runBody, c_closing, x1, x2, q, e1, e2, closingS, e, encP, z]
theorem e_closes (P : Pg T gl) {n : Nat} (hn : 21 ≤ n) {f : Form} (hf : FormOk f) {s : Int} (hs : s = 0 ∨ s = 1) {k : Nat} {row : List Int} {st : Store} (h : RowOk st k row) (hg : goesOn (begun f s) row) : callN T gl W n f_closes [f.enc, .int s, .ref k] st = .ok (encP (closingS (plays (begun f s) row))) st := by
  rw [call_eq P.closes (by omega)]
  have e1 := e_state_of (W := W) P (n := n - 1) (by omega) hf hs h hg
  have gp := good_plays hf hs h.2.2 hg
  have e2 := e_closing (W := W) P (n := n - 1) (by omega) _ gp st
  have z : gc st (encP (closingS (plays (begun f s) row))) st = _ := gc_self (low_encP _)
  simp [runBody, c_closes, e1, e2, z]
end

/-! ### numbers drawn from the script -/
def cellF (ns : List Int) (k : Nat) : Int := if ns = [] then 0 else ns.getD (k % ns.length) 0
def mixF (ns : List Int) (k : Nat) : Int :=
  let a := (cellF ns k + 104729 * ((k : Int) + 1)) % 4294967291
  let b := a ^ 5 % 4294967279
  (b / 64 * 69621 + b) % 4294967231
/-- the number drawn k-th, below m -/
def drawF (ns : List Int) (k : Nat) (m : Int) : Int := mixF ns k / 8 % m
theorem draw_lt (ns : List Int) (k : Nat) {m : Int} (h : 0 < m) : 0 ≤ drawF ns k m ∧ drawF ns k m < m := ⟨Int.emod_nonneg _ (by omega), Int.emod_lt_of_pos _ h⟩
/-- a store of a law: the script, the town, the rest -/
def base (ns : List Int) (d : Nat) (rest : Store) : Store := .ro (ns.map Val.int) :: .lst (List.replicate d (.int 0)) :: rest
@[simp] theorem base_length (ns : List Int) (d : Nat) (rest : Store) : (base ns d rest).length = rest.length + 2 := rfl
@[simp] theorem base_app (ns : List Int) (d : Nat) (rest g : Store) : base ns d rest ++ g = base ns d (rest ++ g) := rfl
@[simp] theorem base_0 (ns : List Int) (d : Nat) (rest : Store) : (base ns d rest)[0]? = some (.ro (ns.map Val.int)) := rfl
@[simp] theorem base_1 (ns : List Int) (d : Nat) (rest : Store) : (base ns d rest)[1]? = some (.lst (List.replicate d (.int 0))) := rfl
@[simp] theorem base_get (ns : List Int) (d : Nat) (rest : Store) (k : Nat) : (base ns d rest)[k + 2]? = rest[k]? := rfl
theorem low_zeros (n d : Nat) : lowL n (List.replicate d (.int 0)) = true := lowL_all.mpr fun x hx => by rw [(List.mem_replicate.mp hx).2]; rfl
theorem merge_base (ns : List Int) (n d e : Nat) (rest g : Store) : mergeS n (base ns d rest) (base ns e (rest ++ g)) = some (base ns e rest) := by
  unfold base
  unfold mergeS
  rw [if_pos (.inl rfl)]
  unfold mergeS
  rw [if_pos (.inr (low_zeros n e)), mergeS_app]
  rfl
theorem gc_base {ns : List Int} {d e : Nat} {rest g : Store} {v : Val} (h : v.lowB (rest.length + 2) = true) : gc (base ns d rest) v (base ns e (rest ++ g)) = .ok v (base ns e rest) := by
  unfold gc
  rw [merge_base]
  simp only
  exact if_pos h
theorem gc_base0 {ns : List Int} {d e : Nat} {rest : Store} {v : Val} (h : v.lowB (rest.length + 2) = true) : gc (base ns d rest) v (base ns e rest) = .ok v (base ns e rest) := by
  have := gc_base (ns := ns) (d := d) (e := e) (rest := rest) (g := []) h
  rwa [List.append_nil] at this
section
variable {T : Tab} {gl : Str → Option Val} {W : Nat}
theorem e_cell (P : Pg T gl) {n : Nat} (hn : 1 ≤ n) (ns : List Int) (k : Nat) {st : Store} (h : st[0]? = some (.ro (ns.map Val.int))) : callN T gl W n f__law_cell [.ref 0, .int k] st = .ok (.int (cellF ns k)) st := by
  rw [call_eq P._law_cell hn]
  have h1 := listAt_ro h
  by_cases c : ns = []
  · have t : testV (.ref 0) st = .ok false st := by
      show (match (listAt st 0).map fun xs => !xs.isEmpty with | some b => Res.ok b st | none => .stuck) = _
      rw [h1, c]; rfl
    simp [runBody, c__law_cell, t, cellF, c]
  · have hp : 0 < ns.length := List.length_pos_iff.mpr c
    have t : testV (.ref 0) st = .ok true st := by
      show (match (listAt st 0).map fun xs => !xs.isEmpty with | some b => Res.ok b st | none => .stuck) = _
      rw [h1]
      have : (ns.map Val.int).isEmpty = false := by cases ns with | nil => exact absurd rfl c | cons _ _ => rfl
      simp [this]
    have hm := b_mod (st := st) (i := k) (j := ns.length) (by omega)
    have e : ((k : Int) % (ns.length : Int)) = ((k % ns.length : Nat) : Int) := by omega
    have hlt : k % ns.length < ns.length := Nat.mod_lt _ hp
    have hx := ix_lst (k := ((k % ns.length : Nat) : Int)) h1
    rw [at_nat (v := .int (ns.getD (k % ns.length) 0)) (by simp [hlt])] at hx
    rw [← e] at hx
    simp [runBody, c__law_cell, t, l_ref h1, hm, hx, cellF, c]
theorem e_mix (P : Pg T gl) {n : Nat} (hn : 2 ≤ n) (ns : List Int) (k : Nat) {st : Store} (h : st[0]? = some (.ro (ns.map Val.int))) : callN T gl W n f__law_mix [.ref 0, .int k] st = .ok (.int (mixF ns k)) st := by
  rw [call_eq P._law_mix (by omega)]
  have e1 := e_cell (W := W) P (n := n - 1) (by omega) ns k h
  have e2 : binop .mul (.int 104729) (.int ((k : Int) + 1)) st = _ := b_mul (.inl (by decide))
  have e3 := b_mod (st := st) (i := cellF ns k + 104729 * ((k : Int) + 1)) (j := 4294967291) (by decide)
  generalize ha : (cellF ns k + 104729 * ((k : Int) + 1)) % 4294967291 = a at e3
  have ha1 : 0 ≤ a ∧ a < 4294967291 := by subst ha; exact ⟨Int.emod_nonneg _ (by decide), Int.emod_lt_of_pos _ (by decide)⟩
  have e4 : binop .pow (.int a) (.int 5) st = .ok (.int (a ^ 5)) st := b_pow (j := 5) ⟨by decide, by decide, by omega⟩
  have e5 := b_mod (st := st) (i := a ^ 5) (j := 4294967279) (by decide)
  generalize hb : a ^ 5 % 4294967279 = b at e5
  have e6 := b_fdiv (st := st) (i := b) (j := 64) (by decide) (by decide)
  have e7 : binop .mul (.int (b / 64)) (.int 69621) st = _ := b_mul (.inr (by decide))
  have e8 := b_mod (st := st) (i := b / 64 * 69621 + b) (j := 4294967231) (by decide)
  simp [runBody, c__law_mix, e1, e2, e3, e4, e5, e6, e7, e8]
  simp only [mixF, ha, hb]
theorem e_draw (P : Pg T gl) {n : Nat} (hn : 3 ≤ n) (ns : List Int) {d : Nat} (hd : d ≤ 100000) (rest : Store) {m : Int} (hm : 0 < m) : callN T gl W n f__law_draw [.ref 0, .ref 1, .int m] (base ns d rest) = .ok (.int (drawF ns (d + 1) m)) (base ns (d + 1) rest) := by
  rw [call_eq P._law_draw (by omega)]
  have e0 : mtOk .append (.ref 1) (base ns d rest) = true := mk_list (listAt_lst (base_1 ns d rest)) (by decide)
  have e1 := m_append (st := base ns d rest) (y := .int 0) (base_1 ns d rest) (by rw [List.length_replicate, sizeLine_eq]; omega)
  have e2 : (base ns d rest).set 1 (.lst (List.replicate d (.int 0) ++ [.int 0])) = base ns (d + 1) rest := by
    unfold base; rw [List.replicate_succ']; rfl
  rw [e2] at e1
  have e3 := l_ref (listAt_lst (base_1 ns (d + 1) rest))
  rw [List.length_replicate] at e3
  have e4 := e_mix (W := W) P (n := n - 1) (by omega) ns (d + 1) (base_0 ns (d + 1) rest)
  have e5 := b_fdiv (st := base ns (d + 1) rest) (i := mixF ns (d + 1)) (j := 8) (by decide) (by decide)
  have e6 := b_mod (st := base ns (d + 1) rest) (i := mixF ns (d + 1) / 8) hm
  have z : gc (base ns d rest) (.int (mixF ns (d + 1) / 8 % m)) (base ns (d + 1) rest) = _ := gc_base0 rfl
  simp at e4
  simp [runBody, c__law_draw, e0, e1, e3, e4, e5, e6, z, drawF]
theorem e_pick (P : Pg T gl) {n : Nat} (hn : 4 ≤ n) (ns : List Int) {d : Nat} (hd : d ≤ 100000) (rest : Store) {k : Nat} {xs : List Val} (hk : rest[k]? = some (.lst xs)) (hx : 0 < xs.length) (hlow : lowL (rest.length + 2) xs = true) : callN T gl W n f__law_pick [.ref 0, .ref 1, .ref (k + 2)] (base ns d rest) = .ok (xs.getD (drawF ns (d + 1) xs.length).toNat .none) (base ns (d + 1) rest) := by
  rw [call_eq P._law_pick (by omega)]
  have e1 := e_draw (W := W) P (n := n - 1) (by omega) ns hd rest (m := xs.length) (by omega)
  have e2 := l_ref (st := base ns d rest) (n := k + 2) (listAt_lst ((base_get ns d rest k).trans hk))
  have hb := draw_lt ns (d + 1) (m := xs.length) (by omega)
  have e3 := ix_lst (k := drawF ns (d + 1) xs.length) (listAt_lst ((base_get ns (d + 1) rest k).trans hk))
  generalize hj : drawF ns (d + 1) xs.length = j at *
  obtain ⟨i, rfl⟩ : ∃ i : Nat, j = i := ⟨j.toNat, by omega⟩
  have hi : i < xs.length := by omega
  rw [at_nat (v := xs.getD i .none) (by simp [hi])] at e3
  have z : gc (base ns d rest) (xs.getD i .none) (base ns (d + 1) rest) = _ := gc_base0 (lowL_all.mp hlow _ (by simp [hi]))
  simp at z e3
  simp [runBody, c__law_pick, e1, e2, e3, z]
/-- draws for each item -/
theorem comp_draw {ns : List Int} {f : Val → Store → Res (Option Val)} {ok : Store → Prop} {D : Nat} {rest : Store} {g : Nat → Val} (hD : D = rest.length + 2) (hok : ∀ d acc, ok (base ns d (rest ++ [.lst acc]))) (hf : ∀ x d acc, d ≤ 100000 → f x (base ns d (rest ++ [.lst acc])) = .ok (some (g d)) (base ns (d + 1) (rest ++ [.lst acc]))) :
    ∀ (xs : List Val) (d : Nat) (acc : List Val), d + xs.length ≤ 100000 → acc.length + xs.length ≤ 100000 → compLoop f ok D xs (base ns d (rest ++ [.lst acc])) = .ok (.ref D) (base ns (d + xs.length) (rest ++ [.lst (acc ++ (List.range' d xs.length).map g)]))
  | [], d, acc, _, _ => by
    rw [comp_nil]
    simp [hok]
  | x :: xs, d, acc, h1, h2 => by
    simp at h1 h2
    have hf1 := hf x d acc (by omega)
    have e : base ns d (rest ++ [.lst acc]) = base ns d rest ++ .lst acc :: [] := rfl
    have ok1 := hok d acc
    rw [e] at ok1 hf1 ⊢
    rw [comp_one (post := []) ok1 hD hf1 (by rw [hD, base_get]; simp) (by rw [sizeLine_eq]; omega)]
    have e2 : (base ns (d + 1) (rest ++ [.lst acc])).set D (.lst (acc ++ [g d])) = base ns (d + 1) (rest ++ [.lst (acc ++ [g d])]) := by
      rw [hD]; unfold base
      simp
    rw [e2, comp_draw hD hok hf xs (d + 1) (acc ++ [g d]) (by omega) (by simp; omega)]
    have : d + 1 + xs.length = d + (x :: xs).length := by simp; omega
    rw [this]
    simp [List.range'_succ]
end
/-! ### like things -/
theorem eq_same {st : Store} {a b : Val} {d : PyData} (h1 : toD st eqDeep a = some d) (h2 : toD st eqDeep b = some d) (hs : SeqAt.shaped d = true) (h3 : scalB a b = none) : eqM st a b = some true := by
  unfold eqM
  rw [h3, h1, h2]
  simp only
  rw [if_pos ⟨hs, hs⟩, SeqAt.eqv_refl d (by unfold SeqAt.shaped at hs; rw [Bool.and_eq_true] at hs; exact hs.1)]
theorem ne_same {st : Store} {a b : Val} {d : PyData} (h1 : toD st eqDeep a = some d) (h2 : toD st eqDeep b = some d) (hs : SeqAt.shaped d = true) (h3 : scalB a b = none) : cmpop .ne a b st = .ok (.bool false) st := by
  show optB (eqM st a b) true st = _
  rw [eq_same h1 h2 hs h3]; rfl
def dO : Option Int → PyData
  | none => .none
  | some k => .int k
theorem shaped_listO (xs : List (Option Int)) : SeqAt.shaped (.list (xs.map dO)) = true := by
  have h : PyData.canLayAll0 (xs.map dO) = true ∧ PyData.depthAll (xs.map dO) ≤ 0 := by
    induction xs with
    | nil => exact ⟨rfl, Nat.le_refl _⟩
    | cons x xs ih => cases x <;> simp [dO, PyData.canLayAll0, PyData.canLay0, PyData.depthAll, PyData.depth, ih.1] <;> omega
  unfold SeqAt.shaped
  simp [PyData.canLay0, PyData.depth, h.1]
  omega
theorem toD_listO {st : Store} {r : Nat} {xs : List (Option Int)} (h : listAt st r = some (xs.map encO)) : toD st eqDeep (.ref r) = some (.list (xs.map dO)) := by
  have e : ∀ xs : List (Option Int), (xs.map encO).mapM (toD st 23) = some (xs.map dO) := fun xs => by
    induction xs with
    | nil => simp
    | cons x xs ih =>
      have : toD st 23 (encO x) = some (dO x) := by cases x <;> rfl
      simp [ih, this]
  show (listAt st r).bind (fun xs => (xs.mapM (toD st 23)).map PyData.list) = _
  rw [h]
  show ((xs.map encO).mapM (toD st 23)).map PyData.list = _
  rw [e]; rfl
theorem ints_O (xs : List Int) : xs.map Val.int = (xs.map some).map encO := by simp [encO]

/-! ### the law's own: who serves next -/
def turnOf (k : Int) : Turn := if k = 0 then .keep else if k = 1 then .each else if k = 2 then .twos else if k = 3 then .pairs else if k = 4 then .winner else .on
def ordN : Turn → Nat → Int
  | .each, 1 => 1 | .each, 3 => 1
  | .twos, 2 => 1 | .twos, 3 => 1
  | .pairs, 1 => 1 | .pairs, 2 => 1
  | _, _ => 0
def ordS : Turn → Str
  | .each => s_0101 | .twos => s_0011 | .pairs => s_0110 | _ => s_0000
def lawNext (t : Turn) (first : Int) (ws : List Int) (tail : Int) : Int :=
  if (t = .winner ∨ t = .on) ∧ ws ≠ [] then (if t = .winner then ws.getLast?.getD 0 else 1 - tail) else (first + ordN t (ws.length % 4)) % 2
def lawOver (a b g l : Int) : Bool := decide (g ≤ imax a b) && decide (l ≤ imax a b - imin a b)
section
variable {T : Tab} {gl : Str → Option Val} {W : Nat}
theorem e_turn (P : Pg T gl) {n : Nat} (hn : 5 ≤ n) (ns : List Int) {d : Nat} (hd : d ≤ 100000) (rest : Store) : callN T gl W n f__law_turn [.ref 0, .ref 1] (base ns d rest) = .ok (.str (turnOf (drawF ns (d + 1) 6)).s) (base ns (d + 1) rest) := by
  rw [call_eq P._law_turn (by omega)]
  have e1 := e_pick (W := W) P (n := n - 1) (by omega) ns hd (rest ++ [.lst [.str s_keep, .str s_each, .str s_twos, .str s_pairs, .str s_winner, .str s_on]]) (k := rest.length) (xs := [.str s_keep, .str s_each, .str s_twos, .str s_pairs, .str s_winner, .str s_on]) (by simp) (by simp) rfl
  have hb := draw_lt ns (d + 1) (m := 6) (by decide)
  have e2 : [Val.str s_keep, .str s_each, .str s_twos, .str s_pairs, .str s_winner, .str s_on].getD (drawF ns (d + 1) 6).toNat .none = .str (turnOf (drawF ns (d + 1) 6)).s := by
    generalize drawF ns (d + 1) 6 = j at hb
    have : j = 0 ∨ j = 1 ∨ j = 2 ∨ j = 3 ∨ j = 4 ∨ j = 5 := by omega
    rcases this with rfl | rfl | rfl | rfl | rfl | rfl <;> rfl
  have e3 : (([Val.str s_keep, .str s_each, .str s_twos, .str s_pairs, .str s_winner, .str s_on].length : Nat) : Int) = 6 := rfl
  rw [e3, e2] at e1
  have z : gc (base ns d rest) (.str (turnOf (drawF ns (d + 1) 6)).s) (base ns (d + 1) (rest ++ [.lst [.str s_keep, .str s_each, .str s_twos, .str s_pairs, .str s_winner, .str s_on]])) = _ := gc_base rfl
  simp [runBody, c__law_turn, e1, z]
theorem int_0 (st : Store) : bifn .int [.str ⟨#[48]⟩] st = .ok (.int 0) st := by
  have e : PySem.intText? ⟨#[48]⟩ = some 0 := by decide +kernel
  show (match PySem.intText? ⟨#[48]⟩ with | some n => need ((⟨#[48]⟩ : Str).length ≤ 640) (Res.ok (Val.int n) st) | none => .stuck) = _
  rw [e]; rfl
theorem int_1 (st : Store) : bifn .int [.str ⟨#[49]⟩] st = .ok (.int 1) st := by
  have e : PySem.intText? ⟨#[49]⟩ = some 1 := by decide +kernel
  show (match PySem.intText? ⟨#[49]⟩ with | some n => need ((⟨#[49]⟩ : Str).length ≤ 640) (Res.ok (Val.int n) st) | none => .stuck) = _
  rw [e]; rfl
theorem at_str {s : Str} {k : Nat} {c : Nat} {st : Store} (h : s.cps.toList[k]? = some c) (hl : s.length ≤ 1000) : ixop (.str s) (.int k) st = .ok (.str ⟨#[c]⟩) st := by
  show (match L2.atI s.cps.toList (k : Int) with | some c => need (s.length ≤ sizeLine) (Res.ok (Val.str ⟨#[c]⟩) st) | none => .stuck) = _
  rw [at_nat h]
  exact need_pos (small_line (by omega))
theorem ord_item (t : Turn) (j : Nat) (hj : j < 4) (st : Store) : ∃ c, ixop (.str (ordS t)) (.int j) st = .ok (.str c) st ∧ bifn .int [.str c] st = .ok (.int (ordN t j)) st := by
  have : j = 0 ∨ j = 1 ∨ j = 2 ∨ j = 3 := by omega
  rcases this with rfl | rfl | rfl | rfl <;> cases t <;>
    first
    | exact ⟨_, at_str (c := 48) (by rfl) (by decide), int_0 st⟩
    | exact ⟨_, at_str (c := 49) (by rfl) (by decide), int_1 st⟩
theorem body_ret {F : Fns} {d : Def} {args : List Val} {st s1 : Store} {v : Val} {env1 : Env} {r : Res Val} (hl : args.length = d.params) (hb : evalS F d.body (args.map some ++ List.replicate (d.names.length - args.length) none) st = .ok (.ret v, env1) s1) (hg : gc st v s1 = r) : runBody F d args st = r := by
  unfold runBody
  rw [if_pos hl, hb]
  exact hg
theorem in_two (t : Turn) (st : Store) : cmpop .isin (.str t.s) (.tup [.str s_winner, .str s_on]) st = .ok (.bool (decide (t = .winner ∨ t = .on))) st := by
  cases t <;> simp [cmpop, inM, seqItems, flatB, flatEq, optB, Turn.s]
theorem ne_nil {st : Store} {k r : Nat} {ws : List Int} (h1 : listAt st k = some (ws.map Val.int)) (h2 : listAt st r = some []) : cmpop .ne (.ref k) (.ref r) st = .ok (.bool (decide (ws ≠ []))) st := by
  rw [ints_O] at h1
  have d1 := toD_listO h1
  have d2 := toD_listO (xs := []) h2
  have e : eqM st (.ref k) (.ref r) = some (decide (ws = [])) := by
    unfold eqM
    have s1 := shaped_listO (ws.map some)
    have s2 := shaped_listO []
    rw [d1, d2]
    show (if SeqAt.shaped (.list ((ws.map some).map dO)) = true ∧ SeqAt.shaped (.list (([] : List (Option Int)).map dO)) = true then some (PyData.eqv (.list ((ws.map some).map dO)) (.list (([] : List (Option Int)).map dO))) else none) = _
    rw [if_pos ⟨s1, s2⟩]
    cases ws <;> simp [PyData.eqv, PyData.eqvAll]
  show optB (eqM st (.ref k) (.ref r)) true st = _
  rw [e]
  simp [optB]
theorem e_next (P : Pg T gl) {n : Nat} (hn : 1 ≤ n) (t : Turn) (first tail : Int) (ws : List Int) {k : Nat} {st : Store} (h : st[k]? = some (.lst (ws.map Val.int))) : callN T gl W n f__law_next [.str t.s, .int first, .ref k, .int tail] st = .ok (.int (lawNext t first ws tail)) st := by
  rw [call_eq P._law_next hn]
  have hk : k < st.length := (List.getElem?_eq_some_iff.mp h).1
  have g1 : ∀ g, listAt (st ++ g) k = some (ws.map Val.int) := fun g => listAt_lst (by rw [List.getElem?_append_left hk]; exact h)
  have g2 : ∀ g, listAt (st ++ .lst [] :: g) st.length = some [] := fun g => listAt_lst (by rw [List.getElem?_append_right (Nat.le_refl _)]; simp)
  have nn := ne_nil (g1 [.lst []]) (g2 [])
  have m : mergeKV [] [(Sum.inr s_each, Val.str s_0101), (Sum.inr s_twos, .str s_0011), (Sum.inr s_pairs, .str s_0110)] = [(Sum.inr s_each, Val.str s_0101), (Sum.inr s_twos, .str s_0011), (Sum.inr s_pairs, .str s_0110)] := by
    simp [mergeKV, putKV]
  -- the second half, from any store on
  have part2 : ∀ g : Store, evalS ⟨callN T gl W (n - 1), gl, W⟩ (.seq (.set 4 (.meth .get (.dict (.kv (.str_ s_each) (.str_ s_0101) (.kv (.str_ s_twos) (.str_ s_0011) (.kv (.str_ s_pairs) (.str_ s_0110) .nil)))) (.cons (.var 0) (.cons (.str_ s_0000) .nil)))) (.seq (.ret (.bin .mod (.bin .add (.var 1) (.bi .int (.cons (.ix (.var 4) (.bin .mod (.bi .len (.cons (.var 2) .nil)) (.int_ 4))) .nil))) (.int_ 2))) .skip)) [some (.str t.s), some (.int first), some (.ref k), some (.int tail), none] (st ++ g) = .ok (.ret (.int ((first + ordN t (ws.length % 4)) % 2)), [some (.str t.s), some (.int first), some (.ref k), some (.int tail), some (.str (ordS t))]) (st ++ (g ++ [.dict [(Sum.inr s_each, Val.str s_0101), (Sum.inr s_twos, .str s_0011), (Sum.inr s_pairs, .str s_0110)]])) := by
    intro g
    have e1 : metop .get (.ref (st ++ g).length) [.str t.s, .str s_0000] (st ++ (g ++ [.dict [(Sum.inr s_each, Val.str s_0101), (Sum.inr s_twos, .str s_0011), (Sum.inr s_pairs, .str s_0110)]])) = .ok (.str (ordS t)) (st ++ (g ++ [.dict [(Sum.inr s_each, Val.str s_0101), (Sum.inr s_twos, .str s_0011), (Sum.inr s_pairs, .str s_0110)]])) := by
      rw [← List.append_assoc]
      simp only [metop]
      rw [List.getElem?_append_right (Nat.le_refl _)]
      cases t <;> simp [keyOf, Turn.s, valK, ordS]
    have e2 := l_ref (g1 (g ++ [.dict [(Sum.inr s_each, Val.str s_0101), (Sum.inr s_twos, .str s_0011), (Sum.inr s_pairs, .str s_0110)]]))
    generalize hs : st ++ (g ++ [.dict [(Sum.inr s_each, Val.str s_0101), (Sum.inr s_twos, .str s_0011), (Sum.inr s_pairs, .str s_0110)]]) = sx at *
    have e3 := b_mod (st := sx) (i := ws.length) (j := 4) (by decide)
    have e4 := ord_item t (ws.length % 4) (Nat.mod_lt _ (by decide)) sx
    have e5 : ((ws.length : Int) % 4) = ((ws.length % 4 : Nat) : Int) := by omega
    rw [e5] at e3
    obtain ⟨v, e6, e7⟩ := e4
    have e8 := b_mod (st := sx) (i := first + ordN t (ws.length % 4)) (j := 2) (by decide)
    have e10 : mtOk .get (.ref (st ++ g).length) sx = true := by
      rw [← hs, ← List.append_assoc]
      simp only [mtOk]
      rw [List.getElem?_append_right (Nat.le_refl _)]
      simp
    have e11 : (st ++ g ++ [Cell.dict [(Sum.inr s_each, Val.str s_0101), (Sum.inr s_twos, .str s_0011), (Sum.inr s_pairs, .str s_0110)]]) = sx := by rw [List.append_assoc]; exact hs
    simp at e1 e10 e11 e2 e3 e6
    simp [toPairs, keyOf, m, e11, e10, e1, e2, e3, e6, e7, e8]
  by_cases c : (t = .winner ∨ t = .on)
  · have q := in_two t st
    rw [decide_eq_true c] at q
    by_cases c2 : ws = []
    · have p2 := part2 [.lst []]
      simp only [c2] at nn
      simp only [ne_eq, not_true_eq_false, decide_false] at nn
      have e0 : lawNext t first ws tail = (first + ordN t (ws.length % 4)) % 2 := by unfold lawNext; rw [if_neg (by simp [c2])]
      rw [e0]
      have b : ∃ env1 g', evalS ⟨callN T gl W (n - 1), gl, W⟩ c__law_next.body ([Val.str t.s, .int first, .ref k, .int tail].map some ++ List.replicate (c__law_next.names.length - [Val.str t.s, .int first, .ref k, .int tail].length) none) st = .ok (.ret (.int ((first + ordN t (ws.length % 4)) % 2)), env1) (st ++ g') := by
        refine ⟨[some (.str t.s), some (.int first), some (.ref k), some (.int tail), some (.str (ordS t))], [.lst []] ++ [.dict [(Sum.inr s_each, Val.str s_0101), (Sum.inr s_twos, .str s_0011), (Sum.inr s_pairs, .str s_0110)]], ?_⟩
        show evalS ⟨callN T gl W (n - 1), gl, W⟩ c__law_next.body [some (.str t.s), some (.int first), some (.ref k), some (.int tail), none] st = _
        unfold c__law_next
        rw [es_seq]
        have hif : evalS ⟨callN T gl W (n - 1), gl, W⟩ (.if_ (.and2 (.cmp .isin (.var 0) (.tup (.cons (.str_ s_winner) (.cons (.str_ s_on) .nil)))) (.and1 (.cmp .ne (.var 2) (.lst .nil)))) (.seq (.ret (.ifx (.cmp .eq (.var 0) (.str_ s_winner)) (.ix (.var 2) (.neg (.int_ 1))) (.bin .sub (.int_ 1) (.var 3)))) .skip) .skip) [some (.str t.s), some (.int first), some (.ref k), some (.int tail), none] st = .ok (.next, [some (.str t.s), some (.int first), some (.ref k), some (.int tail), none]) (st ++ [.lst []]) := by
          simp [q, nn]
        rw [hif, bind_ok]
        simp only
        exact part2 [.lst []]
      obtain ⟨_, _, b⟩ := b
      exact body_ret rfl b gc_intA
    · have e0 : lawNext t first ws tail = if t = .winner then ws.getLast?.getD 0 else 1 - tail := by unfold lawNext; rw [if_pos ⟨c, c2⟩]
      rw [e0]
      simp only [ne_eq, c2, not_false_eq_true, decide_true] at nn
      obtain ⟨w, hw⟩ : ∃ w, ws.getLast? = some w := ⟨ws.getLast c2, List.getLast?_eq_some_getLast c2⟩
      have e1 := ix_lst (k := -1) (g1 [.lst []])
      rw [at_last (v := .int w) (by rw [List.getLast?_map, hw]; rfl)] at e1
      rcases c with rfl | rfl
      · simp only [Turn.s] at q
        simp [runBody, c__law_next, q, nn, e1, Turn.s, hw]
      · simp only [Turn.s] at q
        simp [runBody, c__law_next, q, nn, Turn.s]
  · have q := in_two t st
    rw [decide_eq_false c] at q
    have e0 : lawNext t first ws tail = (first + ordN t (ws.length % 4)) % 2 := by unfold lawNext; rw [if_neg (fun z => c z.1)]
    rw [e0]
    have b : ∃ env1 g', evalS ⟨callN T gl W (n - 1), gl, W⟩ c__law_next.body ([Val.str t.s, .int first, .ref k, .int tail].map some ++ List.replicate (c__law_next.names.length - [Val.str t.s, .int first, .ref k, .int tail].length) none) st = .ok (.ret (.int ((first + ordN t (ws.length % 4)) % 2)), env1) (st ++ g') := by
      refine ⟨[some (.str t.s), some (.int first), some (.ref k), some (.int tail), some (.str (ordS t))], [] ++ [.dict [(Sum.inr s_each, Val.str s_0101), (Sum.inr s_twos, .str s_0011), (Sum.inr s_pairs, .str s_0110)]], ?_⟩
      show evalS ⟨callN T gl W (n - 1), gl, W⟩ c__law_next.body [some (.str t.s), some (.int first), some (.ref k), some (.int tail), none] st = _
      unfold c__law_next
      rw [es_seq]
      have hif : evalS ⟨callN T gl W (n - 1), gl, W⟩ (.if_ (.and2 (.cmp .isin (.var 0) (.tup (.cons (.str_ s_winner) (.cons (.str_ s_on) .nil)))) (.and1 (.cmp .ne (.var 2) (.lst .nil)))) (.seq (.ret (.ifx (.cmp .eq (.var 0) (.str_ s_winner)) (.ix (.var 2) (.neg (.int_ 1))) (.bin .sub (.int_ 1) (.var 3)))) .skip) .skip) [some (.str t.s), some (.int first), some (.ref k), some (.int tail), none] st = .ok (.next, [some (.str t.s), some (.int first), some (.ref k), some (.int tail), none]) st := by
        simp [q]
      rw [hif, bind_ok]
      simp only
      have := part2 []
      rw [List.append_nil] at this
      exact this
    obtain ⟨_, _, b⟩ := b
    exact body_ret rfl b gc_intA
theorem e_over (P : Pg T gl) {n : Nat} (hn : 1 ≤ n) (a b g l : Int) {k : Nat} {st : Store} (h : st[k]? = some (.lst [.int a, .int b])) : callN T gl W n f__law_over [.ref k, .int g, .int l] st = .ok (.bool (lawOver a b g l)) st := by
  rw [call_eq P._law_over hn]
  have e1 : bifn .max [.ref k] st = .ok (.int (imax a b)) st := by
    show (match (listAt st k).bind fun xs => (allInts xs).bind maxI with | some m => Res.ok (Val.int m) st | none => .stuck) = _
    rw [listAt_lst h]; rfl
  have e2 : bifn .min [.ref k] st = .ok (.int (imin a b)) st := by
    show (match (listAt st k).bind fun xs => (allInts xs).bind minI with | some m => Res.ok (Val.int m) st | none => .stuck) = _
    rw [listAt_lst h]; rfl
  by_cases c : g ≤ imax a b
  · simp [runBody, c__law_over, e1, e2, c, lawOver]
  · simp [runBody, c__law_over, e1, e2, c, lawOver]
end

/-! ### the law's own points -/
def ptsB : CS := (.seq (.set 11 (.call f__law_next (.cons (.var 1) (.cons (.var 10) (.cons (.var 9) (.cons (.var 11) .nil)))))) (.seq (.expr (.meth .append (.var 6) (.cons (.var 11) .nil))) (.seq (.expr (.meth .append (.var 9) (.cons (.var 12) .nil))) (.seq (.if_ (.call f__law_over (.cons (.lst (.cons (.meth .count (.var 9) (.cons (.int_ 0) .nil)) (.cons (.meth .count (.var 9) (.cons (.int_ 1) .nil)) .nil))) (.cons (.ix (.var 2) (.int_ 1)) (.cons (.ix (.var 3) (.int_ 1)) .nil)))) (.seq (.expr (.meth .append (.var 7) (.cons (.var 12) .nil))) (.seq (.set 8 (.var 11)) (.seq (.set 9 (.lst .nil)) (.seq (.if_ (.call f__law_over (.cons (.lst (.cons (.meth .count (.var 7) (.cons (.int_ 0) .nil)) (.cons (.meth .count (.var 7) (.cons (.int_ 1) .nil)) .nil))) (.cons (.ix (.var 2) (.int_ 0)) (.cons (.ix (.var 3) (.int_ 0)) .nil)))) (.seq (.ret (.bin .add (.var 6) (.lst (.cons .none_ .nil)))) .skip) .skip) (.seq (.set 10 (.call f__law_next (.cons (.var 0) (.cons (.var 4) (.cons (.var 7) (.cons (.var 8) .nil)))))) .skip))))) .skip) .skip))))
def cnt (ws : List Int) (k : Int) : Int := (ws.count k : Nat)
def duePts (t0 t1 : Turn) (g0 g1 l0 l1 first : Int) : List Int → List Int → List Int → Int → Int → List (Option Int)
  | [], _, marks, b, serve => [some (lawNext t1 b marks serve)]
  | w :: r, games, marks, b, serve =>
    some (lawNext t1 b marks serve) ::
      (if lawOver (cnt (marks ++ [w]) 0) (cnt (marks ++ [w]) 1) g1 l1 = true then
        (if lawOver (cnt (games ++ [w]) 0) (cnt (games ++ [w]) 1) g0 l0 = true then [none]
          else duePts t0 t1 g0 g1 l0 l1 first r (games ++ [w]) [] (lawNext t0 first (games ++ [w]) (lawNext t1 b marks serve)) (lawNext t1 b marks serve))
        else duePts t0 t1 g0 g1 l0 l1 first r games (marks ++ [w]) b (lawNext t1 b marks serve))
structure LP (st0 s : Store) (F G M : Nat) (found : List Val) (games marks : List Int) : Prop where
  pre : ∃ g, s = st0 ++ g
  f : s[F]? = some (.lst found)
  g : s[G]? = some (.lst (games.map Val.int))
  m : s[M]? = some (.lst (marks.map Val.int))
  hF : st0.length ≤ F
  hG : st0.length ≤ G
  hM : st0.length ≤ M
  fg : F ≠ G
  fm : F ≠ M
  gm : G ≠ M
section
variable {st0 s : Store} {F G M : Nat} {found : List Val} {games marks : List Int}
theorem lt_of_some {α : Type} {xs : List α} {k : Nat} {v : α} (h : xs[k]? = some v) : k < xs.length := (List.getElem?_eq_some_iff.mp h).1
theorem pre_set (h : ∃ g, s = st0 ++ g) {k : Nat} (hk : st0.length ≤ k) (c : Cell) : ∃ g, s.set k c = st0 ++ g := by
  obtain ⟨g, rfl⟩ := h
  exact ⟨g.set (k - st0.length) c, List.set_append_right _ _ hk⟩
theorem LP.setF (h : LP st0 s F G M found games marks) (x : List Val) : LP st0 (s.set F (.lst x)) F G M x games marks :=
  ⟨pre_set h.pre h.hF _, by rw [List.getElem?_set_self (lt_of_some h.f)], by rw [List.getElem?_set_ne h.fg]; exact h.g, by rw [List.getElem?_set_ne h.fm]; exact h.m, h.hF, h.hG, h.hM, h.fg, h.fm, h.gm⟩
theorem LP.setG (h : LP st0 s F G M found games marks) (x : List Int) : LP st0 (s.set G (.lst (x.map Val.int))) F G M found x marks :=
  ⟨pre_set h.pre h.hG _, by rw [List.getElem?_set_ne h.fg.symm]; exact h.f, by rw [List.getElem?_set_self (lt_of_some h.g)], by rw [List.getElem?_set_ne h.gm]; exact h.m, h.hF, h.hG, h.hM, h.fg, h.fm, h.gm⟩
theorem LP.setM (h : LP st0 s F G M found games marks) (x : List Int) : LP st0 (s.set M (.lst (x.map Val.int))) F G M found games x :=
  ⟨pre_set h.pre h.hM _, by rw [List.getElem?_set_ne h.fm.symm]; exact h.f, by rw [List.getElem?_set_ne h.gm.symm]; exact h.g, by rw [List.getElem?_set_self (lt_of_some h.m)], h.hF, h.hG, h.hM, h.fg, h.fm, h.gm⟩
theorem LP.app (h : LP st0 s F G M found games marks) (c : Store) : LP st0 (s ++ c) F G M found games marks :=
  ⟨by obtain ⟨g, rfl⟩ := h.pre; exact ⟨g ++ c, List.append_assoc _ _ _⟩, by rw [List.getElem?_append_left (lt_of_some h.f)]; exact h.f, by rw [List.getElem?_append_left (lt_of_some h.g)]; exact h.g, by rw [List.getElem?_append_left (lt_of_some h.m)]; exact h.m, h.hF, h.hG, h.hM, h.fg, h.fm, h.gm⟩
theorem LP.newM (h : LP st0 s F G M found games marks) : LP st0 (s ++ [.lst []]) F G s.length found games [] :=
  ⟨(h.app _).pre, (h.app _).f, (h.app _).g, by simp, h.hF, h.hG, by obtain ⟨g, rfl⟩ := h.pre; simp, h.fg, by have := lt_of_some h.f; omega, by have := lt_of_some h.g; omega⟩
theorem LP.old (h : LP st0 s F G M found games marks) {k : Nat} {c : Cell} (hk : st0[k]? = some c) : s[k]? = some c := by
  obtain ⟨g, rfl⟩ := h.pre
  rw [List.getElem?_append_left (lt_of_some hk)]; exact hk
theorem LP.oldA (h : LP st0 s F G M found games marks) {k : Nat} {c : Cell} (hk : st0[k]? = some c) (x : Store) : (s ++ x)[k]? = some c := (h.app x).old hk
end
section
variable {T : Tab} {gl : Str → Option Val} {W : Nat}
abbrev envP (t0 t1 : Turn) (gk lk rk F G M : Nat) (first tail b serve : Int) (x : Option Val) : Env :=
  [some (.str t0.s), some (.str t1.s), some (.ref gk), some (.ref lk), some (.int first), some (.ref rk), some (.ref F), some (.ref G), some (.int tail), some (.ref M), some (.int b), some (.int serve), x]
theorem count_ints {s : Store} {k : Nat} {ws : List Int} (h : s[k]? = some (.lst (ws.map Val.int))) (x : Int) : metop .count (.ref k) [.int x] s = .ok (.int (cnt ws x)) s := by
  have := allInts_map (f := id) ws
  simp only [id, List.map_id'] at this
  have q := m_count (k := x) (listAt_lst h) this
  simp at q
  exact q
theorem mk_app {m : Mt} (hm : m ≠ .get) {s : Store} {k : Nat} {xs : List Val} (h : s[k]? = some (.lst xs)) : mtOk m (.ref k) s = true := mk_list (listAt_lst h) hm
theorem pts_step (P : Pg T gl) {n : Nat} (hn : 1 ≤ n) (t0 t1 : Turn) {g0 g1 l0 l1 first : Int} {st0 s : Store} {gk lk rk F G M : Nat} {found : List Val} {games marks : List Int} (tail b serve w : Int)
    (hg : st0[gk]? = some (.lst [.int g0, .int g1])) (hl : st0[lk]? = some (.lst [.int l0, .int l1])) (h : LP st0 s F G M found games marks) (bf : found.length ≤ 1000) (bg : games.length ≤ 1000) (bm : marks.length ≤ 1000) :
    (lawOver (cnt (marks ++ [w]) 0) (cnt (marks ++ [w]) 1) g1 l1 = false → ∃ s', runS ⟨callN T gl W n, gl, W⟩ ptsB (envP t0 t1 gk lk rk F G M first tail b serve (some (.int w))) s = .ok (.next, envP t0 t1 gk lk rk F G M first tail b (lawNext t1 b marks serve) (some (.int w))) s' ∧ LP st0 s' F G M (found ++ [.int (lawNext t1 b marks serve)]) games (marks ++ [w])) ∧
    (lawOver (cnt (marks ++ [w]) 0) (cnt (marks ++ [w]) 1) g1 l1 = true → lawOver (cnt (games ++ [w]) 0) (cnt (games ++ [w]) 1) g0 l0 = true → ∃ s' env' r, runS ⟨callN T gl W n, gl, W⟩ ptsB (envP t0 t1 gk lk rk F G M first tail b serve (some (.int w))) s = .ok (.ret (.ref r), env') s' ∧ (∃ g, s' = st0 ++ g) ∧ st0.length ≤ r ∧ s'[r]? = some (.lst (found ++ [.int (lawNext t1 b marks serve)] ++ [.none]))) ∧
    (lawOver (cnt (marks ++ [w]) 0) (cnt (marks ++ [w]) 1) g1 l1 = true → lawOver (cnt (games ++ [w]) 0) (cnt (games ++ [w]) 1) g0 l0 = false → ∃ s' M', runS ⟨callN T gl W n, gl, W⟩ ptsB (envP t0 t1 gk lk rk F G M first tail b serve (some (.int w))) s = .ok (.next, envP t0 t1 gk lk rk F G M' first (lawNext t1 b marks serve) (lawNext t0 first (games ++ [w]) (lawNext t1 b marks serve)) (lawNext t1 b marks serve) (some (.int w))) s' ∧ LP st0 s' F G M' (found ++ [.int (lawNext t1 b marks serve)]) (games ++ [w]) []) := by
  have eA := e_next (W := W) P hn t1 b serve marks h.m
  generalize lawNext t1 b marks serve = p at eA
  have kB := mk_app (m := .append) (by decide) h.f
  have eB := m_append (y := .int p) h.f (by rw [sizeLine_eq]; omega)
  have h1 := h.setF (found ++ [.int p])
  generalize s.set F (.lst (found ++ [.int p])) = s1 at eB h1
  have kC := mk_app (m := .append) (by decide) h1.m
  have eC := m_append (y := .int w) h1.m (by rw [List.length_map, sizeLine_eq]; omega)
  have h2 := h1.setM (marks ++ [w])
  rw [show marks.map Val.int ++ [Val.int w] = (marks ++ [w]).map Val.int by simp] at eC
  generalize s1.set M (.lst ((marks ++ [w]).map Val.int)) = s2 at eC h2
  have kD := mk_app (m := .count) (by decide) h2.m
  have eD0 := count_ints h2.m 0
  have eD1 := count_ints h2.m 1
  have eO := e_over (W := W) P hn (cnt (marks ++ [w]) 0) (cnt (marks ++ [w]) 1) g1 l1 (k := s2.length) (st := s2 ++ [.lst [.int (cnt (marks ++ [w]) 0), .int (cnt (marks ++ [w]) 1)]]) (by simp)
  have h3 := h2.app [.lst [.int (cnt (marks ++ [w]) 0), .int (cnt (marks ++ [w]) 1)]]
  generalize hs3 : s2 ++ [Cell.lst [.int (cnt (marks ++ [w]) 0), .int (cnt (marks ++ [w]) 1)]] = s3 at eO h3
  have xg := ix_lst (k := 1) (listAt_lst (h3.old hg))
  have xl := ix_lst (k := 1) (listAt_lst (h3.old hl))
  rw [at_1] at xg xl
  simp only at xg xl
  have kE := mk_app (m := .append) (by decide) h3.g
  have eE := m_append (y := .int w) h3.g (by rw [List.length_map, sizeLine_eq]; omega)
  have h4 := h3.setG (games ++ [w])
  rw [show games.map Val.int ++ [Val.int w] = (games ++ [w]).map Val.int by simp] at eE
  generalize s3.set G (.lst ((games ++ [w]).map Val.int)) = s4 at eE h4
  have h5 := h4.newM
  generalize hs5 : s4 ++ [Cell.lst []] = s5 at h5
  have kF := mk_app (m := .count) (by decide) h5.g
  have eF0 := count_ints h5.g 0
  have eF1 := count_ints h5.g 1
  have eP := e_over (W := W) P hn (cnt (games ++ [w]) 0) (cnt (games ++ [w]) 1) g0 l0 (k := s5.length) (st := s5 ++ [.lst [.int (cnt (games ++ [w]) 0), .int (cnt (games ++ [w]) 1)]]) (by simp)
  have h6 := h5.app [.lst [.int (cnt (games ++ [w]) 0), .int (cnt (games ++ [w]) 1)]]
  generalize hs6 : s5 ++ [Cell.lst [.int (cnt (games ++ [w]) 0), .int (cnt (games ++ [w]) 1)]] = s6 at eP h6
  have yg := ix_lst (k := 0) (listAt_lst (h6.old hg))
  have yl := ix_lst (k := 0) (listAt_lst (h6.old hl))
  rw [at_0] at yg yl
  simp only at yg yl
  have eN := e_next (W := W) P hn t0 first p (games ++ [w]) h6.g
  have h7 := h6.app [.lst [.none]]
  have eR := b_addL (st := s6 ++ [.lst [.none]]) (n := F) (m := s6.length) (ys := [.none]) h7.f (by simp) (small_line (by simp; omega))
  generalize hs7 : s6 ++ [Cell.lst [Val.none]] = s7 at eR h7
  refine ⟨fun c1 => ⟨s3, ?_, h3⟩, fun c1 c2 => ⟨_, envP t0 t1 gk lk rk F G s4.length first p b p (some (.int w)), s7.length, ?_, (h7.app [.lst (found ++ [.int p] ++ [.none])]).pre, ?_, ?_⟩, fun c1 c2 => ⟨s6, s4.length, ?_, h6⟩⟩
  · rw [c1] at eO
    simp [runS, ptsB, envP, eA, kB, eB, kC, eC, kD, eD0, eD1, hs3, xg, xl, eO]
  · rw [c1] at eO
    rw [c2] at eP
    simp [runS, ptsB, envP, eA, kB, eB, kC, eC, kD, eD0, eD1, hs3, xg, xl, eO, kE, eE, hs5, kF, eF0, eF1, hs6, yg, yl, eP, hs7, eR]
  · obtain ⟨g, e⟩ := h7.pre
    rw [e]; simp
  · simp
  · rw [c1] at eO
    rw [c2] at eP
    simp [runS, ptsB, envP, eA, kB, eB, kC, eC, kD, eD0, eD1, hs3, xg, xl, eO, kE, eE, hs5, kF, eF0, eF1, hs6, yg, yl, eP, eN]
end

section
variable {T : Tab} {gl : Str → Option Val} {W : Nat}
def ptsT : CS := (.seq (.ret (.bin .add (.var 6) (.lst (.cons (.call f__law_next (.cons (.var 1) (.cons (.var 10) (.cons (.var 9) (.cons (.var 11) .nil))))) .nil)))) .skip)
theorem pts_loop (P : Pg T gl) {n : Nat} (hn : 1 ≤ n) (t0 t1 : Turn) {g0 g1 l0 l1 first : Int} {st0 : Store} {gk lk rk F G : Nat} {row : List Int}
    (hg : st0[gk]? = some (.lst [.int g0, .int g1])) (hl : st0[lk]? = some (.lst [.int l0, .int l1])) (hr : st0[rk]? = some (.lst (row.map Val.int))) :
    ∀ (suf : List Int) (s : Store) (M : Nat) (found : List Val) (games marks : List Int) (tail b serve : Int) (x : Option Val), LP st0 s F G M found games marks → found.length + suf.length ≤ 1000 → games.length + suf.length ≤ 1000 → marks.length + suf.length ≤ 1000 →
    ∃ s' env' r, ((forLoop [12] (stays .seq (.ref rk) (row.map Val.int)) (runS ⟨callN T gl W n, gl, W⟩ ptsB) (suf.map Val.int) (envP t0 t1 gk lk rk F G M first tail b serve x) s).bind fun p s1 => match p.1 with
      | .next => evalS ⟨callN T gl W n, gl, W⟩ ptsT p.2 s1
      | f => .ok (f, p.2) s1) = .ok (.ret (.ref r), env') s' ∧ (∃ g, s' = st0 ++ g) ∧ st0.length ≤ r ∧ s'[r]? = some (.lst (found ++ (duePts t0 t1 g0 g1 l0 l1 first suf games marks b serve).map encO))
  | [], s, M, found, games, marks, tail, b, serve, x, h, bf, bg, bm => by
    have eA := e_next (W := W) P hn t1 b serve marks h.m
    rw [List.map_nil, for_end (listAt_lst (h.old hr)), bind_ok]
    simp only [duePts]
    generalize lawNext t1 b marks serve = p at eA
    have h7 := h.app [.lst [.int p]]
    have eR := b_addL (st := s ++ [.lst [.int p]]) (n := F) (m := s.length) (ys := [.int p]) h7.f (by simp) (small_line (by simp at bf ⊢; omega))
    generalize hs7 : s ++ [Cell.lst [Val.int p]] = s7 at eR h7
    refine ⟨_, envP t0 t1 gk lk rk F G M first tail b serve x, s7.length, ?_, (h7.app [.lst (found ++ [.int p])]).pre, ?_, ?_⟩
    · simp [ptsT, envP, eA, hs7, eR]
    · obtain ⟨g, e⟩ := h7.pre
      rw [e]; simp
    · simp [encO]
  | w :: suf, s, M, found, games, marks, tail, b, serve, x, h, bf, bg, bm => by
    simp at bf bg bm
    obtain ⟨q1, q2, q3⟩ := pts_step (W := W) P hn t0 t1 (rk := rk) (first := first) tail b serve w hg hl h (by omega) (by omega) (by omega)
    have ok := listAt_lst (h.old hr)
    rw [List.map_cons]
    simp only [duePts]
    cases c1 : lawOver (cnt (marks ++ [w]) 0) (cnt (marks ++ [w]) 1) g1 l1 with
    | false =>
      obtain ⟨s', e1, h'⟩ := q1 c1
      rw [for_next ok rfl e1]
      obtain ⟨s2, env2, r, k1, k2, k3, k4⟩ := pts_loop P hn t0 t1 hg hl hr suf s' M _ games _ tail b _ (some (.int w)) h' (by simp; omega) (by omega) (by simp; omega)
      refine ⟨s2, env2, r, k1, k2, k3, ?_⟩
      rw [k4]
      simp [encO]
    | true =>
      cases c2 : lawOver (cnt (games ++ [w]) 0) (cnt (games ++ [w]) 1) g0 l0 with
      | true =>
        obtain ⟨s', env', r, e1, k2, k3, k4⟩ := q2 c1 c2
        rw [for_ret ok rfl e1, bind_ok]
        refine ⟨s', env', r, rfl, k2, k3, ?_⟩
        rw [k4]
        simp [encO]
      | false =>
        obtain ⟨s', M', e1, h'⟩ := q3 c1 c2
        rw [for_next ok rfl e1]
        obtain ⟨s2, env2, r, k1, k2, k3, k4⟩ := pts_loop P hn t0 t1 hg hl hr suf s' M' _ (games ++ [w]) [] _ _ _ (some (.int w)) h' (by simp; omega) (by simp; omega) (by simp; omega)
        refine ⟨s2, env2, r, k1, k2, k3, ?_⟩
        rw [k4]
        simp [encO]
theorem e_points (P : Pg T gl) {n : Nat} (hn : 2 ≤ n) (t0 t1 : Turn) {g0 g1 l0 l1 first : Int} {st : Store} {gk lk rk : Nat} {row : List Int}
    (hg : st[gk]? = some (.lst [.int g0, .int g1])) (hl : st[lk]? = some (.lst [.int l0, .int l1])) (hr : st[rk]? = some (.lst (row.map Val.int))) (hb : row.length ≤ 1000) :
    callN T gl W n f__law_points [.str t0.s, .str t1.s, .ref gk, .ref lk, .int first, .ref rk] st = .ok (.ref st.length) (st ++ [.lst ((duePts t0 t1 g0 g1 l0 l1 first row [] [] first first).map encO)]) := by
  rw [call_eq P._law_points (by omega)]
  have h : LP st (st ++ [.lst []] ++ [.lst []] ++ [.lst []]) st.length (st.length + 1) (st.length + 2) [] [] [] :=
    ⟨⟨[.lst [], .lst [], .lst []], by simp⟩, by simp, by simp, by simp, by omega, by omega, by omega, by omega, by omega, by omega⟩
  have hr2 : srcItems .seq (.ref rk) (st ++ [Cell.lst []] ++ [Cell.lst []] ++ [Cell.lst []]) = some (row.map Val.int) := listAt_lst (h.old hr)
  obtain ⟨s', env', r, k1, ⟨g, k2⟩, k3, k4⟩ := pts_loop (W := W) P (n := n - 1) (by omega) t0 t1 (first := first) hg hl hr row _ _ [] [] [] first first first none h (by simp; omega) (by simp; omega) (by simp; omega)
  rw [List.nil_append] at k4
  have z : gc st (.ref r) s' = .ok (.ref st.length) (st ++ [.lst ((duePts t0 t1 g0 g1 l0 l1 first row [] [] first first).map encO)]) := by
    rw [k2] at k4 ⊢
    refine gc_new k3 k4 (lowL_all.mpr fun x hx => ?_)
    obtain ⟨y, _, rfl⟩ := List.mem_map.mp hx
    exact low_encO y
  have hfor := for_of (F := ⟨callN T gl W (n - 1), gl, W⟩) (is := [12]) (a := ptsB) (k := .seq) (src := .var 5) (env := envP t0 t1 gk lk rk st.length (st.length + 1) (st.length + 2) first first first first none) (st := st ++ [.lst []] ++ [.lst []] ++ [.lst []]) (s1 := st ++ [.lst []] ++ [.lst []] ++ [.lst []]) (v := .ref rk) (xs := row.map Val.int) rfl hr2
  rw [← hfor] at k1
  refine body_ret (env1 := env') rfl ?_ z
  rw [← k1]
  show evalS ⟨callN T gl W (n - 1), gl, W⟩ c__law_points.body [some (.str t0.s), some (.str t1.s), some (.ref gk), some (.ref lk), some (.int first), some (.ref rk), none, none, none, none, none, none, none] st = _
  unfold c__law_points
  simp only [es_seq, es_set, ev_lst, ev_nil, ev_var]
  simp [-es_for, -es_seq, -es_ret]
  rfl
end

/-! ### the mathematics -/
theorem over_won (f : Form) (m i : Int) : f.wonBy m i = if lawOver m i f.goal f.lead = true then some (if i < m then 0 else 1) else none := by
  unfold Form.wonBy lawOver
  have : imax m i - imin m i = iabs (m - i) := by unfold imax imin iabs; split <;> split <;> split <;> omega
  rw [this]
  by_cases c : imax m i < f.goal ∨ iabs (m - i) < f.lead
  · rw [if_pos c, if_neg (by rw [Bool.and_eq_true, decide_eq_true_eq, decide_eq_true_eq]; omega)]
  · have d : (decide (f.goal ≤ imax m i) && decide (f.lead ≤ iabs (m - i))) = true := by rw [Bool.and_eq_true, decide_eq_true_eq, decide_eq_true_eq]; omega
    rw [if_neg c, if_pos d]
theorem cnt_later (ws : List Int) {w : Int} (hw : w = 0 ∨ w = 1) : laterOf (cnt ws 0) (cnt ws 1) w = (cnt (ws ++ [w]) 0, cnt (ws ++ [w]) 1) := by
  unfold laterOf cnt
  rcases hw with rfl | rfl <;> simp
theorem cnt_sum : ∀ {ws : List Int}, sides ws → cnt ws 0 + cnt ws 1 = ws.length
  | [], _ => rfl
  | w :: ws, h => by
    have ih := cnt_sum (fun x hx => h x (List.mem_cons_of_mem _ hx))
    unfold cnt at ih ⊢
    rcases h w List.mem_cons_self with rfl | rfl <;> simp <;> omega
theorem cnt_pos (ws : List Int) (k : Int) : 0 ≤ cnt ws k := by unfold cnt; omega
theorem next_served (t : Turn) {first : Int} (hf : first = 0 ∨ first = 1) (ws : List Int) (w p : Int) : lawNext t first (ws ++ [w]) p = servedBy t first ((ws ++ [w]).length : Nat) w p := by
  have q : ∀ m : Nat, m % 4 = 0 ∨ m % 4 = 1 ∨ m % 4 = 2 ∨ m % 4 = 3 := fun m => by omega
  have z : (ws ++ [w]) ≠ [] := by simp
  have e : ∀ t : Turn, t ≠ .winner → t ≠ .on → lawNext t first (ws ++ [w]) p = (first + ordN t ((ws ++ [w]).length % 4)) % 2 := fun t h1 h2 => by
    unfold lawNext
    rw [if_neg (fun h => h.1.elim h1 h2)]
  cases t with
  | winner => simp [lawNext, servedBy]
  | on => simp [lawNext, servedBy]
  | keep =>
    rw [e .keep (by decide) (by decide)]
    show (first + 0) % 2 = first
    omega
  | each =>
    rw [e .each (by decide) (by decide)]
    generalize (ws ++ [w]).length = m
    show _ = if (m : Int) % 4 = 0 ∨ (m : Int) % 4 = 2 then first else 1 - first
    rcases q m with h | h | h | h <;> rw [h] <;> (first | rw [if_pos (by omega)] | rw [if_neg (by omega)]) <;> simp only [ordN] <;> omega
  | twos =>
    rw [e .twos (by decide) (by decide)]
    generalize (ws ++ [w]).length = m
    show _ = if (m : Int) % 4 = 0 ∨ (m : Int) % 4 = 1 then first else 1 - first
    rcases q m with h | h | h | h <;> rw [h] <;> (first | rw [if_pos (by omega)] | rw [if_neg (by omega)]) <;> simp only [ordN] <;> omega
  | pairs =>
    rw [e .pairs (by decide) (by decide)]
    generalize (ws ++ [w]).length = m
    show _ = if (m : Int) % 4 = 0 ∨ (m : Int) % 4 = 3 then first else 1 - first
    rcases q m with h | h | h | h <;> rw [h] <;> (first | rw [if_pos (by omega)] | rw [if_neg (by omega)]) <;> simp only [ordN] <;> omega
theorem next_nil (t : Turn) {first : Int} (hf : first = 0 ∨ first = 1) (p : Int) : lawNext t first [] p = first := by
  unfold lawNext
  rw [if_neg (by simp)]
  cases t <;> simp [ordN] <;> rcases hf with rfl | rfl <;> rfl
theorem served_side (t : Turn) {first w p : Int} (k : Int) (hf : first = 0 ∨ first = 1) (hw : w = 0 ∨ w = 1) (hp : p = 0 ∨ p = 1) : servedBy t first k w p = 0 ∨ servedBy t first k w p = 1 := by
  unfold servedBy
  split
  · exact hw
  · omega
  · exact hf
  · split <;> omega
/-- who wins is who won the last one -/
theorem who_won {m i w g l : Int} (hw : w = 0 ∨ w = 1) (hl : 1 ≤ l) (h : lawOver m i g l = false) (h2 : lawOver (laterOf m i w).1 (laterOf m i w).2 g l = true) : (if (laterOf m i w).2 < (laterOf m i w).1 then (0 : Int) else 1) = w := by
  unfold lawOver at h h2
  simp only [Bool.and_eq_true, decide_eq_true_eq, Bool.and_eq_false_iff, decide_eq_false_iff_not] at h h2
  rcases hw with rfl | rfl
  · have e : laterOf m i 0 = (m + 1, i) := rfl
    rw [e] at h2 ⊢
    simp only [imax, imin] at h h2 ⊢
    split at h2 <;> split at h2 <;> split at h <;> split at h <;> split <;> omega
  · have e : laterOf m i 1 = (m, i + 1) := by unfold laterOf; rw [if_neg (by decide)]
    rw [e] at h2 ⊢
    simp only [imax, imin] at h h2 ⊢
    split at h2 <;> split at h2 <;> split at h <;> split at h <;> split <;> omega
section
variable (t0 t1 : Turn) (g0 g1 l0 l1 first : Int)
def fIn : Form := .race .point g1 l1 t1
def fOut : Form := .race (fIn t1 g1 l1) g0 l0 t0
def stIn (b : Int) (marks : List Int) (p : Int) : State := .co (fIn t1 g1 l1) b (cnt marks 0) (cnt marks 1) (.pt p)
def stOut (games : List Int) (b : Int) (marks : List Int) (p : Int) : State := .co (fOut t0 t1 g0 g1 l0 l1) first (cnt games 0) (cnt games 1) (stIn t1 g1 l1 b marks p)
variable {t0 t1 g0 g1 l0 l1 first}
theorem push_in {b p w : Int} {marks : List Int} (hl : 1 ≤ l1) (hb : b = 0 ∨ b = 1) (hw : w = 0 ∨ w = 1) (hm : sides marks) (hno : lawOver (cnt marks 0) (cnt marks 1) g1 l1 = false) :
    pushed (stIn t1 g1 l1 b marks p) w = if lawOver (cnt (marks ++ [w]) 0) (cnt (marks ++ [w]) 1) g1 l1 = true then (.over w p (some (cnt (marks ++ [w]) 0, cnt (marks ++ [w]) 1)), 1) else (stIn t1 g1 l1 b (marks ++ [w]) (lawNext t1 b (marks ++ [w]) p), 0) := by
  have e1 := cnt_later marks hw
  have e2 : (fIn t1 g1 l1).decided (cnt marks 0) (cnt marks 1) w = if lawOver (cnt (marks ++ [w]) 0) (cnt (marks ++ [w]) 1) g1 l1 = true then some w else none := by
    unfold Form.decided
    rw [if_neg (by simp [fIn, Form.lastAt]), over_won, e1]
    show (if lawOver (cnt (marks ++ [w]) 0) (cnt (marks ++ [w]) 1) g1 l1 = true then _ else _) = _
    by_cases c : lawOver (cnt (marks ++ [w]) 0) (cnt (marks ++ [w]) 1) g1 l1 = true
    · rw [if_pos c, if_pos c]
      have := who_won (m := cnt marks 0) (i := cnt marks 1) hw hl hno (by rw [e1]; exact c)
      rw [e1] at this
      exact congrArg some this
    · rw [if_neg c, if_neg c]
  have e3 : behindS (fIn t1 g1 l1) b (cnt marks 0) (cnt marks 1) (.pt p) w p = if lawOver (cnt (marks ++ [w]) 0) (cnt (marks ++ [w]) 1) g1 l1 = true then .over w p (some (cnt (marks ++ [w]) 0, cnt (marks ++ [w]) 1)) else stIn t1 g1 l1 b (marks ++ [w]) (lawNext t1 b (marks ++ [w]) p) := by
    unfold behindS
    rw [e2, e1]
    by_cases c : lawOver (cnt (marks ++ [w]) 0) (cnt (marks ++ [w]) 1) g1 l1 = true
    · rw [if_pos c, if_pos c]; rfl
    · rw [if_neg c, if_neg c]
      have hs : sides (marks ++ [w]) := fun x hx => by
        rcases List.mem_append.mp hx with z | z
        · exact hm x z
        · rw [List.mem_singleton.mp z]; exact hw
      rw [next_served t1 hb, ← cnt_sum hs]
      rfl
  show liftedS (fIn t1 g1 l1) b (cnt marks 0) (cnt marks 1) (.pt p) (.over w p none, 0) = _
  unfold liftedS
  simp only
  rw [e3]
  by_cases c : lawOver (cnt (marks ++ [w]) 0) (cnt (marks ++ [w]) 1) g1 l1 = true
  · rw [if_pos c, if_pos c]; rfl
  · rw [if_neg c, if_neg c]; rfl
theorem push_out {games : List Int} {b p w : Int} {marks : List Int} (hl : 1 ≤ l1) (hl0 : 1 ≤ l0) (hf : first = 0 ∨ first = 1) (hb : b = 0 ∨ b = 1) (hw : w = 0 ∨ w = 1) (hm : sides marks) (hgs : sides games) (hno : lawOver (cnt marks 0) (cnt marks 1) g1 l1 = false) (hng : lawOver (cnt games 0) (cnt games 1) g0 l0 = false) :
    (pushed (stOut t0 t1 g0 g1 l0 l1 first games b marks p) w).1 =
      if lawOver (cnt (marks ++ [w]) 0) (cnt (marks ++ [w]) 1) g1 l1 = true then
        (if lawOver (cnt (games ++ [w]) 0) (cnt (games ++ [w]) 1) g0 l0 = true then .over w b (some (cnt (games ++ [w]) 0, cnt (games ++ [w]) 1))
        else stOut t0 t1 g0 g1 l0 l1 first (games ++ [w]) (lawNext t0 first (games ++ [w]) p) [] (lawNext t0 first (games ++ [w]) p))
      else stOut t0 t1 g0 g1 l0 l1 first games b (marks ++ [w]) (lawNext t1 b (marks ++ [w]) p) := by
  have e1 := cnt_later games hw
  show (liftedS (fOut t0 t1 g0 g1 l0 l1) first (cnt games 0) (cnt games 1) (stIn t1 g1 l1 b marks p) (pushed (stIn t1 g1 l1 b marks p) w)).1 = _
  rw [push_in hl hb hw hm hno]
  by_cases c : lawOver (cnt (marks ++ [w]) 0) (cnt (marks ++ [w]) 1) g1 l1 = true
  · rw [if_pos c, if_pos c]
    show behindS (fOut t0 t1 g0 g1 l0 l1) first (cnt games 0) (cnt games 1) (stIn t1 g1 l1 b marks p) w p = _
    have e2 : (fOut t0 t1 g0 g1 l0 l1).decided (cnt games 0) (cnt games 1) w = if lawOver (cnt (games ++ [w]) 0) (cnt (games ++ [w]) 1) g0 l0 = true then some w else none := by
      unfold Form.decided
      rw [if_neg (by simp [fOut, Form.lastAt]), over_won, e1]
      show (if lawOver (cnt (games ++ [w]) 0) (cnt (games ++ [w]) 1) g0 l0 = true then _ else _) = _
      by_cases c : lawOver (cnt (games ++ [w]) 0) (cnt (games ++ [w]) 1) g0 l0 = true
      · rw [if_pos c, if_pos c]
        have := who_won (m := cnt games 0) (i := cnt games 1) hw hl0 hng (by rw [e1]; exact c)
        rw [e1] at this
        exact congrArg some this
      · rw [if_neg c, if_neg c]
    unfold behindS
    rw [e2, e1]
    by_cases c2 : lawOver (cnt (games ++ [w]) 0) (cnt (games ++ [w]) 1) g0 l0 = true
    · rw [if_pos c2, if_pos c2]; rfl
    · rw [if_neg c2, if_neg c2]
      have hs : sides (games ++ [w]) := fun x hx => by
        rcases List.mem_append.mp hx with z | z
        · exact hgs x z
        · rw [List.mem_singleton.mp z]; exact hw
      rw [next_served t0 hf, ← cnt_sum hs]
      rfl
  · rw [if_neg c, if_neg c]; rfl
end
def trace : State → List Int → List (Option Int)
  | S, [] => [serverS S]
  | S, w :: r => serverS S :: trace (pushed S w).1 r
theorem trace_map : ∀ (r : List Int) (S : State), trace S r = (List.range (r.length + 1)).map fun j => serverS (plays S (r.take j))
  | [], S => rfl
  | w :: r, S => by
    rw [List.length_cons, List.range_succ_eq_map, List.map_cons, List.map_map]
    show serverS S :: trace (pushed S w).1 r = _
    rw [trace_map r]
    rfl
theorem goesOn_take : ∀ (r : List Int) (S : State) (j : Nat), goesOn S r → goesOn S (r.take j)
  | [], S, j, h => by simp [goesOn]
  | w :: r, S, 0, h => trivial
  | w :: r, S, j + 1, h => ⟨h.1, goesOn_take r _ j h.2⟩
theorem due_pos (t0 t1 : Turn) (g0 g1 l0 l1 first : Int) : ∀ (row games marks : List Int) (b serve : Int), 1 ≤ (duePts t0 t1 g0 g1 l0 l1 first row games marks b serve).length
  | [], _, _, _, _ => by simp [duePts]
  | w :: r, _, _, _, _ => by simp only [duePts, List.length_cons]; omega
theorem due_ok {t0 t1 : Turn} {g0 g1 l0 l1 first : Int} (hg : 1 ≤ g1) (hl : 1 ≤ l1) (hl0 : 1 ≤ l0) (hf : first = 0 ∨ first = 1) : ∀ (row games marks : List Int) (b serve : Int), sides row → sides games → sides marks → (b = 0 ∨ b = 1) → (lawNext t1 b marks serve = 0 ∨ lawNext t1 b marks serve = 1) → lawOver (cnt marks 0) (cnt marks 1) g1 l1 = false → lawOver (cnt games 0) (cnt games 1) g0 l0 = false →
    goesOn (stOut t0 t1 g0 g1 l0 l1 first games b marks (lawNext t1 b marks serve)) (row.take ((duePts t0 t1 g0 g1 l0 l1 first row games marks b serve).length - 1)) ∧
    trace (stOut t0 t1 g0 g1 l0 l1 first games b marks (lawNext t1 b marks serve)) (row.take ((duePts t0 t1 g0 g1 l0 l1 first row games marks b serve).length - 1)) = duePts t0 t1 g0 g1 l0 l1 first row games marks b serve ∧
    ∃ o, (duePts t0 t1 g0 g1 l0 l1 first row games marks b serve).getLast? = some o ∧ (o = none ↔ winnerS (plays (stOut t0 t1 g0 g1 l0 l1 first games b marks (lawNext t1 b marks serve)) (row.take ((duePts t0 t1 g0 g1 l0 l1 first row games marks b serve).length - 1))) ≠ none)
  | [], games, marks, b, serve, _, _, _, _, _, _, _ => by
    refine ⟨trivial, rfl, some (lawNext t1 b marks serve), rfl, ?_⟩
    simp [plays, stOut, winnerS]
  | w :: r, games, marks, b, serve, hr, hgs, hm, hb, hp, hno, hng => by
    have hw := hr w List.mem_cons_self
    have hr2 : sides r := fun x hx => hr x (List.mem_cons_of_mem _ hx)
    have ap : ∀ ws, sides ws → sides (ws ++ [w]) := fun ws h x hx => by
      rcases List.mem_append.mp hx with z | z
      · exact h x z
      · rw [List.mem_singleton.mp z]; exact hw
    have q := push_out (p := lawNext t1 b marks serve) (t0 := t0) (t1 := t1) hl hl0 hf hb hw hm hgs hno hng
    have pr : ∀ (due : List (Option Int)), 1 ≤ due.length → (w :: r).take ((some (lawNext t1 b marks serve) :: due).length - 1) = w :: r.take (due.length - 1) := fun due h => by
      rw [List.length_cons, Nat.add_sub_cancel]
      obtain ⟨k, hk⟩ : ∃ k, due.length = k + 1 := ⟨due.length - 1, by omega⟩
      rw [hk]; rfl
    have fin : ∀ (due : List (Option Int)) (S' : State), 1 ≤ due.length → (pushed (stOut t0 t1 g0 g1 l0 l1 first games b marks (lawNext t1 b marks serve)) w).1 = S' →
        (goesOn S' (r.take (due.length - 1)) ∧ trace S' (r.take (due.length - 1)) = due ∧ ∃ o, due.getLast? = some o ∧ (o = none ↔ winnerS (plays S' (r.take (due.length - 1))) ≠ none)) →
        goesOn (stOut t0 t1 g0 g1 l0 l1 first games b marks (lawNext t1 b marks serve)) ((w :: r).take ((some (lawNext t1 b marks serve) :: due).length - 1)) ∧
        trace (stOut t0 t1 g0 g1 l0 l1 first games b marks (lawNext t1 b marks serve)) ((w :: r).take ((some (lawNext t1 b marks serve) :: due).length - 1)) = some (lawNext t1 b marks serve) :: due ∧
        ∃ o, (some (lawNext t1 b marks serve) :: due).getLast? = some o ∧ (o = none ↔ winnerS (plays (stOut t0 t1 g0 g1 l0 l1 first games b marks (lawNext t1 b marks serve)) ((w :: r).take ((some (lawNext t1 b marks serve) :: due).length - 1))) ≠ none) := by
      intro due S' hd hS ⟨k1, k2, o, k3, k4⟩
      rw [pr due hd]
      refine ⟨⟨rfl, by rw [hS]; exact k1⟩, ?_, o, ?_, ?_⟩
      · show serverS _ :: trace (pushed _ w).1 _ = _
        rw [hS, k2]; rfl
      · rw [List.getLast?_cons, k3]; rfl
      · show _ ↔ winnerS (plays (pushed _ w).1 _) ≠ none
        rw [hS]; exact k4
    simp only [duePts]
    cases c1 : lawOver (cnt (marks ++ [w]) 0) (cnt (marks ++ [w]) 1) g1 l1 with
    | false =>
      rw [c1] at q
      simp only [Bool.false_eq_true, if_false] at q ⊢
      have hp2 : lawNext t1 b (marks ++ [w]) (lawNext t1 b marks serve) = 0 ∨ lawNext t1 b (marks ++ [w]) (lawNext t1 b marks serve) = 1 := by
        rw [next_served t1 hb]; exact served_side t1 _ hb hw hp
      exact fin _ _ (due_pos ..) q (due_ok hg hl hl0 hf r games (marks ++ [w]) b (lawNext t1 b marks serve) hr2 hgs (ap _ hm) hb hp2 c1 hng)
    | true =>
      rw [c1] at q
      simp only [if_true] at q ⊢
      cases c2 : lawOver (cnt (games ++ [w]) 0) (cnt (games ++ [w]) 1) g0 l0 with
      | true =>
        rw [c2] at q
        simp only [if_true] at q ⊢
        refine fin [none] _ (by simp) q ⟨by simp [goesOn], by simp [trace, serverS], none, rfl, ?_⟩
        simp [plays, winnerS]
      | false =>
        rw [c2] at q
        simp only [Bool.false_eq_true, if_false] at q ⊢
        have hb2 : lawNext t0 first (games ++ [w]) (lawNext t1 b marks serve) = 0 ∨ lawNext t0 first (games ++ [w]) (lawNext t1 b marks serve) = 1 := by
          rw [next_served t0 hf]; exact served_side t0 _ hf hw hp
        have no0 : lawOver (cnt [] 0) (cnt [] 1) g1 l1 = false := by
          unfold lawOver
          have : decide (g1 ≤ imax (cnt [] 0) (cnt [] 1)) = false := decide_eq_false (by simp [cnt, imax]; omega)
          rw [this]; rfl
        have ih := due_ok (t0 := t0) (t1 := t1) hg hl hl0 hf r (games ++ [w]) [] (lawNext t0 first (games ++ [w]) (lawNext t1 b marks serve)) (lawNext t1 b marks serve) hr2 (ap _ hgs) (fun x hx => by cases hx) hb2 (by rw [next_nil t1 hb2]; exact hb2) no0 c2
        rw [next_nil t1 hb2] at ih
        exact fin _ _ (due_pos ..) q ih

/-! ### a race of points to thirty, by turns -/
def alt (n : Nat) : List Int := (List.range n).map fun (i : Nat) => (i : Int) % 2
def fPl (t : Turn) : Form := .race .point 30 3 t
def byN (t : Turn) (first : Int) : Nat → Int
  | 0 => first
  | j + 1 => lawNext t first (alt (j + 1)) (byN t first j)
def altS (t : Turn) (first : Int) (j : Nat) : State := .co (fPl t) first ((j : Int) - (j : Int) / 2) ((j : Int) / 2) (.pt (byN t first j))
theorem alt_succ (n : Nat) : alt (n + 1) = alt n ++ [(n : Int) % 2] := by unfold alt; rw [List.range_succ]; simp
theorem alt_len (n : Nat) : (alt n).length = n := by unfold alt; simp
theorem alt_sides (n : Nat) : sides (alt n) := fun x hx => by
  obtain ⟨i, _, rfl⟩ := List.mem_map.mp hx
  omega
theorem alt_take {n j : Nat} (h : j ≤ n) : (alt n).take j = alt j := by
  unfold alt; rw [← List.map_take, List.take_range, Nat.min_eq_left h]
theorem alt_push (t : Turn) {first : Int} (hf : first = 0 ∨ first = 1) {j : Nat} (hj : j ≤ 40) {w : Int} (hw : w = 0 ∨ w = 1) : (pushed (altS t first j) w).2 = 0 ∧ (w = (j : Int) % 2 → (pushed (altS t first j) w).1 = altS t first (j + 1)) := by
  have e1 : (fPl t).decided ((j : Int) - (j : Int) / 2) ((j : Int) / 2) w = none := by
    unfold Form.decided
    rw [if_neg (by simp [fPl, Form.lastAt])]
    unfold Form.wonBy
    rw [if_pos]
    left
    show imax (laterOf ((j : Int) - (j : Int) / 2) ((j : Int) / 2) w).1 (laterOf ((j : Int) - (j : Int) / 2) ((j : Int) / 2) w).2 < 30
    unfold laterOf imax
    split <;> split <;> simp only <;> omega
  have e2 : behindS (fPl t) first ((j : Int) - (j : Int) / 2) ((j : Int) / 2) (.pt (byN t first j)) w (byN t first j) = .co (fPl t) first (laterOf ((j : Int) - (j : Int) / 2) ((j : Int) / 2) w).1 (laterOf ((j : Int) - (j : Int) / 2) ((j : Int) / 2) w).2 (.pt (servedBy t first ((laterOf ((j : Int) - (j : Int) / 2) ((j : Int) / 2) w).1 + (laterOf ((j : Int) - (j : Int) / 2) ((j : Int) / 2) w).2) w (byN t first j))) := by
    unfold behindS
    rw [e1]; rfl
  have e3 : pushed (altS t first j) w = (behindS (fPl t) first ((j : Int) - (j : Int) / 2) ((j : Int) / 2) (.pt (byN t first j)) w (byN t first j), 0) := by
    show liftedS (fPl t) first _ _ (.pt (byN t first j)) (.over w (byN t first j) none, 0) = _
    unfold liftedS
    simp only
    rw [e2]; rfl
  rw [e3]
  refine ⟨rfl, fun h => ?_⟩
  show behindS (fPl t) first ((j : Int) - (j : Int) / 2) ((j : Int) / 2) (.pt (byN t first j)) w (byN t first j) = _
  rw [e2]
  unfold altS
  have k1 : (laterOf ((j : Int) - (j : Int) / 2) ((j : Int) / 2) w).1 = ((j + 1 : Nat) : Int) - ((j + 1 : Nat) : Int) / 2 := by unfold laterOf; split <;> simp only <;> omega
  have k2 : (laterOf ((j : Int) - (j : Int) / 2) ((j : Int) / 2) w).2 = ((j + 1 : Nat) : Int) / 2 := by unfold laterOf; split <;> simp only <;> omega
  have k3 : byN t first (j + 1) = servedBy t first ((laterOf ((j : Int) - (j : Int) / 2) ((j : Int) / 2) w).1 + (laterOf ((j : Int) - (j : Int) / 2) ((j : Int) / 2) w).2) w (byN t first j) := by
    show lawNext t first (alt (j + 1)) (byN t first j) = _
    rw [alt_succ, next_served t hf, ← alt_succ, alt_len, k1, k2, ← h]
    congr 1
    omega
  rw [k1, k2] at *
  rw [k3]
theorem alt_plays (t : Turn) {first : Int} (hf : first = 0 ∨ first = 1) : ∀ j : Nat, j ≤ 40 → plays (begun (fPl t) first) (alt j) = altS t first j
  | 0, _ => rfl
  | j + 1, h => by
    rw [alt_succ]
    have ih := alt_plays t hf j (by omega)
    unfold plays at ih ⊢
    rw [List.foldl_append, ih]
    exact (alt_push t hf (by omega) (by omega)).2 rfl
theorem goesOn_app : ∀ (r : List Int) (S : State) (w : Int), goesOn S r → (plays S r).isOver = false → goesOn S (r ++ [w])
  | [], S, w, _, h => ⟨h, trivial⟩
  | x :: r, S, w, hg, h => ⟨hg.1, goesOn_app r _ w hg.2 h⟩
theorem alt_goes (t : Turn) {first : Int} (hf : first = 0 ∨ first = 1) : ∀ j : Nat, j ≤ 40 → goesOn (begun (fPl t) first) (alt j)
  | 0, _ => trivial
  | j + 1, h => by
    rw [alt_succ]
    exact goesOn_app _ _ _ (alt_goes t hf j (by omega)) (by rw [alt_plays t hf j (by omega)]; rfl)
def altB : CS := (.seq (.set 12 (.call f__law_next (.cons (.ix (.var 3) (.int_ 0)) (.cons (.var 7) (.cons (.slice (.var 11) .nil (.var 13)) (.cons (.var 12) .nil)))))) (.seq (.if_ (.cmp .ne (.call f_server (.cons (.var 10) (.cons (.var 7) (.cons (.slice (.var 11) .nil (.var 13)) .nil)))) (.var 12)) (.seq (.ret (.bool_ false)) .skip) .skip) (.seq (.if_ (.cmp .ne (.call f_standing (.cons (.var 10) (.cons (.var 7) (.cons (.slice (.var 11) .nil (.var 13)) .nil)))) (.tup (.cons (.tup (.cons (.bin .sub (.var 13) (.bin .fdiv (.var 13) (.int_ 2))) (.cons (.bin .fdiv (.var 13) (.int_ 2)) .nil))) .nil))) (.seq (.ret (.bool_ false)) .skip) .skip) (.seq (.if_ (.cmp .ne (.call f_closes (.cons (.var 10) (.cons (.var 7) (.cons (.slice (.var 11) .nil (.var 13)) .nil)))) (.tup (.cons (.int_ 0) (.cons (.int_ 0) .nil)))) (.seq (.ret (.bool_ false)) .skip) .skip) .skip))))
section
variable {T : Tab} {gl : Str → Option Val} {W : Nat}
theorem cut_take {α : Type} {xs : List α} {j : Nat} : cut xs none (some (j : Int)) = xs.take j := by
  unfold cut
  rw [HT.sIx_none, HT.sIx_nat, Nat.sub_zero, List.drop_zero]
  by_cases h : j ≤ xs.length
  · rw [Nat.min_eq_left h]
  · rw [Nat.min_eq_right (by omega), List.take_of_length_le (Nat.le_refl _), List.take_of_length_le (by omega)]
theorem fPl_ok (t : Turn) : FormOk (fPl t) := ⟨⟨trivial, by decide, by decide⟩, by simp [fPl, Form.deep], by simp [fPl, Form.size]⟩
theorem ne_pair {a b : Int} {st : Store} : cmpop .ne (.tup [.int a, .int b]) (.tup [.int a, .int b]) st = .ok (.bool false) st :=
  ne_same (d := .tuple [.int a, .int b]) rfl rfl rfl rfl
theorem ne_pairs {a b : Int} {st : Store} : cmpop .ne (.tup [.tup [.int a, .int b]]) (.tup [.tup [.int a, .int b]]) st = .ok (.bool false) st :=
  ne_same (d := .tuple [.tuple [.int a, .int b]]) rfl rfl rfl rfl
theorem alt_step (P : Pg T gl) {n : Nat} (hn : 21 ≤ n) (t0 : Turn) {first b : Int} (hf : first = 0 ∨ first = 1) {s : Store} {tk mk : Nat} {tv : List Val} {m j : Nat} (hm : m ≤ 40) (hj : j ≤ m) (h1 : s[tk]? = some (.lst (.str t0.s :: tv))) (h2 : s[mk]? = some (.lst ((alt m).map Val.int))) (hb : lawNext t0 first (alt j) b = byN t0 first j) (e0 e1 e2 e4 e5 e6 e8 e9 : Option Val) :
    ∃ g, runS ⟨callN T gl W n, gl, W⟩ altB [e0, e1, e2, some (.ref tk), e4, e5, e6, some (.int first), e8, e9, some (fPl t0).enc, some (.ref mk), some (.int b), some (.int j)] s = .ok (.next, [e0, e1, e2, some (.ref tk), e4, e5, e6, some (.int first), e8, e9, some (fPl t0).enc, some (.ref mk), some (.int (byN t0 first j)), some (.int j)]) (s ++ g) := by
  have lk : ∀ g, listAt (s ++ g) mk = some ((alt m).map Val.int) := fun g => listAt_lst (by rw [List.getElem?_append_left (lt_of_some h2)]; exact h2)
  have cu : cut ((alt m).map Val.int) none (some (j : Int)) = (alt j).map Val.int := by rw [cut_take, ← List.map_take, alt_take hj]
  have x1 := ix_lst (k := 0) (listAt_lst h1)
  rw [at_0] at x1
  simp only at x1
  have sl : ∀ g, sliceop (.ref mk) none (some (j : Int)) (s ++ g) = .ok (.ref (s ++ g).length) (s ++ g ++ [.lst ((alt j).map Val.int)]) := fun g => by
    have := sl_list (l := none) (h := some (j : Int)) (lk g)
    rw [cu] at this
    exact this
  have ro : ∀ g, RowOk (s ++ g ++ [.lst ((alt j).map Val.int)]) (s ++ g).length (alt j) := fun g => ⟨by rw [List.getElem?_append_right (Nat.le_refl _)]; simp, by rw [alt_len]; omega, alt_sides j⟩
  have s0 := sl []
  have r0 := ro []
  rw [List.append_nil] at s0 r0
  have eN := e_next (W := W) P (n := n) (by omega) t0 first b (alt j) r0.1
  rw [hb] at eN
  have s1 := sl [.lst ((alt j).map Val.int)]
  have r1 := ro [.lst ((alt j).map Val.int)]
  have go := alt_goes t0 hf j (by omega)
  have pl := alt_plays t0 hf j (by omega)
  have eS := e_server (W := W) P hn (fPl_ok t0) hf r1 go
  generalize hq1 : s ++ [Cell.lst ((alt j).map Val.int)] = q1 at *
  have s2 := sl ([.lst ((alt j).map Val.int)] ++ [.lst ((alt j).map Val.int)])
  have r2 := ro ([.lst ((alt j).map Val.int)] ++ [.lst ((alt j).map Val.int)])
  rw [← List.append_assoc, hq1] at s2 r2
  generalize hq2 : q1 ++ [Cell.lst ((alt j).map Val.int)] = q2 at *
  have eT := e_standing (W := W) P hn (fPl_ok t0) hf r2 go
  have s3 := sl ([.lst ((alt j).map Val.int)] ++ [.lst ((alt j).map Val.int)] ++ [.lst ((alt j).map Val.int)])
  have r3 := ro ([.lst ((alt j).map Val.int)] ++ [.lst ((alt j).map Val.int)] ++ [.lst ((alt j).map Val.int)])
  rw [← List.append_assoc, ← List.append_assoc, hq1, hq2] at s3 r3
  generalize hq3 : q2 ++ [Cell.lst ((alt j).map Val.int)] = q3 at *
  have eC := e_closes (W := W) P hn (fPl_ok t0) hf r3 go
  generalize hq4 : q3 ++ [Cell.lst ((alt j).map Val.int)] = q4 at *
  rw [pl] at eS eT eC
  have c0 : closingS (altS t0 first j) = some (0, 0) := by
    unfold closingS
    rw [if_neg (by simp [altS, State.isOver]), (alt_push t0 hf (by omega) (.inl rfl)).1, (alt_push t0 hf (by omega) (.inr rfl)).1]
  rw [c0] at eC
  have c1 : serverS (altS t0 first j) = some (byN t0 first j) := rfl
  have c2 : pairsS (altS t0 first j) = [((j : Int) - (j : Int) / 2, (j : Int) / 2)] := rfl
  rw [c1] at eS
  rw [c2] at eT
  simp only [encO, encPs, encP, List.map_cons, List.map_nil] at eS eT eC
  have d3 := b_fdiv (st := q3) (i := j) (j := 2) (by decide) (by decide)
  have np := ne_pairs (a := (j : Int) - (j : Int) / 2) (b := (j : Int) / 2) (st := q3)
  have np2 := ne_pair (a := 0) (b := 0) (st := q4)
  have fin : q4 = s ++ [.lst ((alt j).map Val.int), .lst ((alt j).map Val.int), .lst ((alt j).map Val.int), .lst ((alt j).map Val.int)] := by
    rw [← hq4, ← hq3, ← hq2, ← hq1]; simp
  refine ⟨_, Eq.trans ?_ (congrArg _ fin)⟩
  simp [runS, altB, isNil, x1, s0, eN, s1, eS, s2, eT, d3, np, s3, eC, np2]
theorem alt_loop (P : Pg T gl) {n : Nat} (hn : 21 ≤ n) (t0 : Turn) {first : Int} (hf : first = 0 ∨ first = 1) {ok : Store → Prop} (hok : ∀ s, ok s) {tk mk : Nat} {tv : List Val} {m : Nat} (hm : m ≤ 40) (e0 e1 e2 e4 e5 e6 e8 e9 : Option Val) :
    ∀ (k j : Nat) (b : Int) (x : Option Val) (s : Store), j + k = m + 1 → s[tk]? = some (.lst (.str t0.s :: tv)) → s[mk]? = some (.lst ((alt m).map Val.int)) → lawNext t0 first (alt j) b = byN t0 first j →
    ∃ g b' x', forLoop [13] ok (runS ⟨callN T gl W n, gl, W⟩ altB) ((List.range' j k).map fun (i : Nat) => Val.int (i : Int)) [e0, e1, e2, some (.ref tk), e4, e5, e6, some (.int first), e8, e9, some (fPl t0).enc, some (.ref mk), some (.int b), x] s = .ok (.next, [e0, e1, e2, some (.ref tk), e4, e5, e6, some (.int first), e8, e9, some (fPl t0).enc, some (.ref mk), some (.int b'), x']) (s ++ g)
  | 0, j, b, x, s, _, _, _, _ => ⟨[], b, x, by rw [List.append_nil]; exact for_end (hok s)⟩
  | k + 1, j, b, x, s, hjk, h1, h2, hb => by
    obtain ⟨g, hs⟩ := alt_step (W := W) P hn t0 hf hm (by omega) h1 h2 hb e0 e1 e2 e4 e5 e6 e8 e9
    rw [List.range'_succ, List.map_cons, for_next (hok s) rfl hs]
    obtain ⟨g', b', x', h⟩ := alt_loop P hn t0 hf hok hm e0 e1 e2 e4 e5 e6 e8 e9 k (j + 1) (byN t0 first j) (some (.int j)) (s ++ g) (by omega) (by rw [List.getElem?_append_left (lt_of_some h1)]; exact h1) (by rw [List.getElem?_append_left (lt_of_some h2)]; exact h2) rfl
    exact ⟨g ++ g', b', x', by rw [h, List.append_assoc]⟩
end

section
variable {T : Tab} {gl : Str → Option Val} {W : Nat}
/-- each item gives one, the store grows -/
theorem comp_grow {f : Val → Store → Res (Option Val)} {ok : Store → Prop} {D : Nat} {α : Type} {g : α → Val} {enc : α → Val} {pre : Store} (hD : D = pre.length) (hok : ∀ acc post, ok (pre ++ .lst acc :: post)) :
    ∀ (xs : List α) (acc : List Val) (post : Store), (∀ a ∈ xs, ∀ acc post, ∃ post', f (enc a) (pre ++ .lst acc :: post) = .ok (some (g a)) (pre ++ .lst acc :: post')) → acc.length + xs.length ≤ sizeLine → ∃ post', compLoop f ok D (xs.map enc) (pre ++ .lst acc :: post) = .ok (.ref D) (pre ++ .lst (acc ++ xs.map g) :: post')
  | [], acc, post, _, _ => by
    refine ⟨post, ?_⟩
    rw [List.map_nil, List.map_nil, List.append_nil, comp_nil]
    exact if_pos (hok _ _)
  | x :: xs, acc, post, hf, hl => by
    obtain ⟨post', hx⟩ := hf x List.mem_cons_self acc post
    have e : (pre ++ Cell.lst acc :: post')[D]? = some (.lst acc) := by rw [hD, List.getElem?_append_right (Nat.le_refl _)]; simp
    have e2 : (pre ++ Cell.lst acc :: post').set D (.lst (acc ++ [g x])) = pre ++ .lst (acc ++ [g x]) :: post' := by
      rw [hD, List.set_append_right _ _ (Nat.le_refl _)]; simp
    obtain ⟨post2, h2⟩ := comp_grow hD hok xs (acc ++ [g x]) post' (fun a ha => hf a (List.mem_cons_of_mem _ ha)) (by simp at hl ⊢; omega)
    refine ⟨post2, ?_⟩
    rw [List.map_cons, comp_one (hok _ _) hD hx e (by simp at hl; omega), e2, h2]
    simp
def srvE : CE := .comp .range 13 (.cons (.bin .add (.bi .len (.cons (.var 8) .nil)) (.int_ 1)) .nil) .nil (.call f_server (.cons (.var 6) (.cons (.var 7) (.cons (.slice (.var 8) .nil (.var 13)) .nil))))
theorem e_servers (P : Pg T gl) {n : Nat} (hn : 21 ≤ n) {f : Form} (hff : FormOk f) {first : Int} (hf : first = 0 ∨ first = 1) {k : Nat} {row : List Int} {s : Store} (h : RowOk s k row) (hg : goesOn (begun f first) row) {env : Env} (h6 : env[6]? = some (some f.enc)) (h7 : env[7]? = some (some (.int first))) (h8 : env[8]? = some (some (.ref k))) (hlen : 13 < env.length) :
    ∃ post, evalE ⟨callN T gl W n, gl, W⟩ srvE env s = .ok (.ref s.length) (s ++ .lst ((trace (begun f first) row).map encO) :: post) := by
  have e1 : evalE ⟨callN T gl W n, gl, W⟩ (.cons (.bin .add (.bi .len (.cons (.var 8) .nil)) (.int_ 1)) .nil) env s = .ok (.tup [.int ((row.length + 1 : Nat) : Int)]) s := by
    have := l_ref (listAt_lst h.1)
    simp [h8, this]
  have e2 := src_range (m := row.length + 1) (by have := h.2.1; omega) (st := s)
  unfold srvE
  rw [comp_of e1 e2]
  have hk := lt_of_some h.1
  have := comp_grow (f := runC ⟨callN T gl W n, gl, W⟩ 13 .nil (.call f_server (.cons (.var 6) (.cons (.var 7) (.cons (.slice (.var 8) .nil (.var 13)) .nil)))) env) (ok := stays .range (.tup [.int ((row.length + 1 : Nat) : Int)]) ((List.range (row.length + 1)).map fun (j : Nat) => Val.int (j : Int))) (D := s.length) (pre := s) (enc := fun (j : Nat) => Val.int (j : Int)) (g := fun j => encO (serverS (plays (begun f first) (row.take j)))) rfl (fun _ _ => trivial) (List.range (row.length + 1)) [] []
    (fun j hj acc post => by
      have g1 : listAt (s ++ .lst acc :: post) k = some (row.map Val.int) := listAt_lst (by rw [List.getElem?_append_left hk]; exact h.1)
      have g2 := sl_list (l := none) (h := some (j : Int)) g1
      rw [cut_take, ← List.map_take] at g2
      have g3 : RowOk (s ++ .lst acc :: post ++ [.lst ((row.take j).map Val.int)]) (s ++ .lst acc :: post).length (row.take j) := ⟨by rw [List.getElem?_append_right (Nat.le_refl _)]; simp, by have := h.2.1; simp; omega, fun x hx => h.2.2 x (List.mem_of_mem_take hx)⟩
      have g4 := e_server (W := W) P hn hff hf g3 (goesOn_take _ _ j hg)
      refine ⟨post ++ [.lst ((row.take j).map Val.int)], ?_⟩
      have v6 : (env.set 13 (some (.int (j : Int))))[6]? = some (some f.enc) := by rw [List.getElem?_set_ne (by decide)]; exact h6
      have v7 : (env.set 13 (some (.int (j : Int))))[7]? = some (some (.int first)) := by rw [List.getElem?_set_ne (by decide)]; exact h7
      have v8 : (env.set 13 (some (.int (j : Int))))[8]? = some (some (.ref k)) := by rw [List.getElem?_set_ne (by decide)]; exact h8
      have v13 : (env.set 13 (some (.int (j : Int))))[13]? = some (some (.int j)) := by rw [List.getElem?_set_self hlen]
      have e9 : s ++ .lst acc :: post ++ [.lst ((row.take j).map Val.int)] = s ++ .lst acc :: (post ++ [.lst ((row.take j).map Val.int)]) := by simp
      rw [e9] at g2 g4
      simp only [runC, isNil, if_true, ev_call, ev_cons, ev_var, ev_slice, ev_nil, v6, v7, v8, v13, bind_ok, part_int, Bool.false_eq_true, if_false, g2, g4])
    (small_line (by have := h.2.1; simp; omega))
  rw [trace_map, List.map_map]
  exact this
end
def st1 : CS := (.set 3 (.lst (.cons (.call f__law_turn (.cons (.var 0) (.cons (.var 1) .nil))) (.cons (.call f__law_turn (.cons (.var 0) (.cons (.var 1) .nil))) .nil))))
def st2 : CS := (.set 4 (.comp .range 13 (.cons (.int_ 2) .nil) .nil (.bin .add (.int_ 1) (.call f__law_draw (.cons (.var 0) (.cons (.var 1) (.cons (.int_ 4) .nil)))))))
def st3 : CS := (.set 5 (.comp .range 13 (.cons (.int_ 2) .nil) .nil (.bin .add (.int_ 1) (.call f__law_draw (.cons (.var 0) (.cons (.var 1) (.cons (.int_ 3) .nil)))))))
def st4 : CS := (.set 6 (.tup (.cons (.str_ s_race) (.cons (.tup (.cons (.str_ s_race) (.cons (.tup (.cons (.str_ s_point) .nil)) (.cons (.ix (.var 4) (.int_ 1)) (.cons (.ix (.var 5) (.int_ 1)) (.cons (.ix (.var 3) (.int_ 1)) .nil)))))) (.cons (.ix (.var 4) (.int_ 0)) (.cons (.ix (.var 5) (.int_ 0)) (.cons (.ix (.var 3) (.int_ 0)) .nil)))))))
def st5 : CS := (.set 7 (.call f__law_draw (.cons (.var 0) (.cons (.var 1) (.cons (.int_ 2) .nil)))))
def st6 : CS := (.set 8 (.comp .range 13 (.cons (.call f__law_draw (.cons (.var 0) (.cons (.var 1) (.cons (.int_ 61) .nil)))) .nil) .nil (.call f__law_draw (.cons (.var 0) (.cons (.var 1) (.cons (.int_ 2) .nil))))))
def st7 : CS := (.set 9 (.call f__law_points (.cons (.ix (.var 3) (.int_ 0)) (.cons (.ix (.var 3) (.int_ 1)) (.cons (.var 4) (.cons (.var 5) (.cons (.var 7) (.cons (.var 8) .nil))))))))
def st8 : CS := (.set 8 (.slice (.var 8) .nil (.bin .sub (.bi .len (.cons (.var 9) .nil)) (.int_ 1))))
def st9 : CS := (.if_ (.cmp .ne (.comp .range 13 (.cons (.bin .add (.bi .len (.cons (.var 8) .nil)) (.int_ 1)) .nil) .nil (.call f_server (.cons (.var 6) (.cons (.var 7) (.cons (.slice (.var 8) .nil (.var 13)) .nil))))) (.var 9)) (.seq (.ret (.bool_ false)) .skip) .skip)
def st10 : CS := (.if_ (.cmp .ne (.cmp .is_ (.ix (.var 9) (.neg (.int_ 1))) .none_) (.cmp .isnot (.call f_winner (.cons (.var 6) (.cons (.var 7) (.cons (.var 8) .nil)))) .none_)) (.seq (.ret (.bool_ false)) .skip) .skip)
def st11 : CS := (.set 10 (.tup (.cons (.str_ s_race) (.cons (.tup (.cons (.str_ s_point) .nil)) (.cons (.int_ 30) (.cons (.int_ 3) (.cons (.ix (.var 3) (.int_ 0)) .nil)))))))
def st12 : CS := (.set 11 (.comp .range 13 (.cons (.call f__law_draw (.cons (.var 0) (.cons (.var 1) (.cons (.int_ 30) .nil)))) .nil) .nil (.bin .mod (.var 13) (.int_ 2))))
def st13 : CS := (.set 12 (.var 7))
def st14 : CS := (.for_ .range [13] (.cons (.bin .add (.bi .len (.cons (.var 11) .nil)) (.int_ 1)) .nil) altB)
def rndC : CS := (.seq st7 (.seq st8 (.seq st9 (.seq st10 (.seq st11 (.seq st12 (.seq st13 (.seq st14 .skip))))))))
def rndB : CS := (.seq st1 (.seq st2 (.seq st3 (.seq st4 (.seq st5 (.seq st6 rndC))))))

theorem seq_next {F : Fns} {s r : CS} {env env1 : Env} {st st1 : Store} (h : evalS F s env st = .ok (.next, env1) st1) : evalS F (.seq s r) env st = evalS F r env1 st1 := by
  rw [es_seq, h, bind_ok]
section
variable {T : Tab} {gl : Str → Option Val} {W : Nat}
theorem e_comp_draw {n : Nat} (ns : List Int) {d d1 : Nat} {rest : Store} {env : Env} {src elt : CE} {i m : Nat} {g : Nat → Val} (h1 : evalE ⟨callN T gl W n, gl, W⟩ src env (base ns d rest) = .ok (.tup [.int (m : Int)]) (base ns d1 rest)) (hm : m ≤ 1000) (hd : d1 + m ≤ 100000)
    (he : ∀ x d acc, d ≤ 100000 → evalE ⟨callN T gl W n, gl, W⟩ elt (env.set i (some x)) (base ns d (rest ++ [.lst acc])) = .ok (g d) (base ns (d + 1) (rest ++ [.lst acc]))) :
    evalE ⟨callN T gl W n, gl, W⟩ (.comp .range i src .nil elt) env (base ns d rest) = .ok (.ref (rest.length + 2)) (base ns (d1 + m) (rest ++ [.lst ((List.range' d1 m).map g)])) := by
  rw [comp_of h1 (src_range (by omega))]
  have := comp_draw (ns := ns) (f := runC ⟨callN T gl W n, gl, W⟩ i .nil elt env) (ok := stays .range (.tup [.int (m : Int)]) ((List.range m).map fun (j : Nat) => Val.int (j : Int))) (D := rest.length + 2) (rest := rest) (g := g) rfl (fun _ _ => trivial) (fun x d acc hd => by
    simp only [runC, isNil, if_true]
    rw [he x d acc hd, bind_ok]) ((List.range m).map fun (j : Nat) => Val.int (j : Int)) d1 [] (by simp; omega) (by simp; omega)
  simp only [List.length_map, List.length_range, List.nil_append] at this
  exact this
theorem range2 (d : Nat) (g : Nat → Val) : (List.range' d 2).map g = [g d, g (d + 1)] := rfl
theorem rnd_draws (P : Pg T gl) {n : Nat} (hn : 5 ≤ n) (ns : List Int) {d : Nat} (hd : d ≤ 50000) (rest : Store) (x2 x3 x4 x5 x6 x7 x8 x9 x10 x11 x12 x13 : Option Val) :
    ∃ (t0 t1 : Turn) (g0 g1 l0 l1 first : Int) (row : List Int) (d' : Nat), (1 ≤ g0 ∧ g0 ≤ 4) ∧ (1 ≤ g1 ∧ g1 ≤ 4) ∧ (1 ≤ l0 ∧ l0 ≤ 3) ∧ (1 ≤ l1 ∧ l1 ≤ 3) ∧ (first = 0 ∨ first = 1) ∧ row.length ≤ 60 ∧ sides row ∧ d' ≤ d + 100 ∧
    evalS ⟨callN T gl W n, gl, W⟩ rndB [some (.ref 0), some (.ref 1), x2, x3, x4, x5, x6, x7, x8, x9, x10, x11, x12, x13] (base ns d rest) = evalS ⟨callN T gl W n, gl, W⟩ rndC [some (.ref 0), some (.ref 1), x2, some (.ref (rest.length + 2)), some (.ref (rest.length + 3)), some (.ref (rest.length + 4)), some (fOut t0 t1 g0 g1 l0 l1).enc, some (.int first), some (.ref (rest.length + 5)), x9, x10, x11, x12, x13] (base ns d' (rest ++ [.lst [.str t0.s, .str t1.s]] ++ [.lst [.int g0, .int g1]] ++ [.lst [.int l0, .int l1]] ++ [.lst (row.map Val.int)])) := by
  have a1 := e_turn (W := W) P hn ns (d := d) (by omega) rest
  have a2 := e_turn (W := W) P hn ns (d := d + 1) (by omega) rest
  generalize turnOf (drawF ns (d + 1) 6) = t0 at a1
  generalize turnOf (drawF ns (d + 1 + 1) 6) = t1 at a2
  have s1 : evalS ⟨callN T gl W n, gl, W⟩ st1 [some (.ref 0), some (.ref 1), x2, x3, x4, x5, x6, x7, x8, x9, x10, x11, x12, x13] (base ns d rest) = .ok (.next, [some (.ref 0), some (.ref 1), x2, some (.ref (rest.length + 2)), x4, x5, x6, x7, x8, x9, x10, x11, x12, x13]) (base ns (d + 2) (rest ++ [.lst [.str t0.s, .str t1.s]])) := by
    simp [st1, a1, a2]
  generalize hr1 : rest ++ [Cell.lst [.str t0.s, .str t1.s]] = r1 at s1
  have n1 : r1.length = rest.length + 1 := by rw [← hr1]; simp
  have c2 := e_comp_draw (W := W) (T := T) (gl := gl) (n := n) ns (d := d + 2) (d1 := d + 2) (rest := r1) (env := [some (.ref 0), some (.ref 1), x2, some (.ref (rest.length + 2)), x4, x5, x6, x7, x8, x9, x10, x11, x12, x13]) (src := .cons (.int_ 2) .nil) (i := 13) (m := 2) (elt := .bin .add (.int_ 1) (.call f__law_draw (.cons (.var 0) (.cons (.var 1) (.cons (.int_ 4) .nil))))) (g := fun d => .int (1 + drawF ns (d + 1) 4)) rfl (by decide) (by omega) (fun x d acc hd => by
    simp [e_draw (W := W) P (show 3 ≤ n by omega) ns hd (r1 ++ [.lst acc]) (m := 4) (by decide)])
  rw [range2] at c2
  have b2 := draw_lt ns (d + 2 + 1) (m := 4) (by decide)
  have b3 := draw_lt ns (d + 2 + 1 + 1) (m := 4) (by decide)
  generalize drawF ns (d + 2 + 1) 4 = g0 at b2 c2
  generalize drawF ns (d + 2 + 1 + 1) 4 = g1 at b3 c2
  have s2 : evalS ⟨callN T gl W n, gl, W⟩ st2 [some (.ref 0), some (.ref 1), x2, some (.ref (rest.length + 2)), x4, x5, x6, x7, x8, x9, x10, x11, x12, x13] (base ns (d + 2) r1) = .ok (.next, [some (.ref 0), some (.ref 1), x2, some (.ref (rest.length + 2)), some (.ref (rest.length + 3)), x5, x6, x7, x8, x9, x10, x11, x12, x13]) (base ns (d + 4) (r1 ++ [.lst [.int (1 + g0), .int (1 + g1)]])) := by
    unfold st2
    rw [es_set, c2, bind_ok, n1]; rfl
  generalize hr2 : r1 ++ [Cell.lst [.int (1 + g0), .int (1 + g1)]] = r2 at s2
  have n2 : r2.length = rest.length + 2 := by rw [← hr2]; simp; omega
  have c3 := e_comp_draw (W := W) (T := T) (gl := gl) (n := n) ns (d := d + 4) (d1 := d + 4) (rest := r2) (env := [some (.ref 0), some (.ref 1), x2, some (.ref (rest.length + 2)), some (.ref (rest.length + 3)), x5, x6, x7, x8, x9, x10, x11, x12, x13]) (src := .cons (.int_ 2) .nil) (i := 13) (m := 2) (elt := .bin .add (.int_ 1) (.call f__law_draw (.cons (.var 0) (.cons (.var 1) (.cons (.int_ 3) .nil))))) (g := fun d => .int (1 + drawF ns (d + 1) 3)) rfl (by decide) (by omega) (fun x d acc hd => by
    simp [e_draw (W := W) P (show 3 ≤ n by omega) ns hd (r2 ++ [.lst acc]) (m := 3) (by decide)])
  rw [range2] at c3
  have b4 := draw_lt ns (d + 4 + 1) (m := 3) (by decide)
  have b5 := draw_lt ns (d + 4 + 1 + 1) (m := 3) (by decide)
  generalize drawF ns (d + 4 + 1) 3 = l0 at b4 c3
  generalize drawF ns (d + 4 + 1 + 1) 3 = l1 at b5 c3
  have s3 : evalS ⟨callN T gl W n, gl, W⟩ st3 [some (.ref 0), some (.ref 1), x2, some (.ref (rest.length + 2)), some (.ref (rest.length + 3)), x5, x6, x7, x8, x9, x10, x11, x12, x13] (base ns (d + 4) r2) = .ok (.next, [some (.ref 0), some (.ref 1), x2, some (.ref (rest.length + 2)), some (.ref (rest.length + 3)), some (.ref (rest.length + 4)), x6, x7, x8, x9, x10, x11, x12, x13]) (base ns (d + 6) (r2 ++ [.lst [.int (1 + l0), .int (1 + l1)]])) := by
    unfold st3
    rw [es_set, c3, bind_ok, n2]; rfl
  generalize hr3 : r2 ++ [Cell.lst [.int (1 + l0), .int (1 + l1)]] = r3 at s3
  have n3 : r3.length = rest.length + 3 := by rw [← hr3]; simp; omega
  have k3 : ∀ d, (base ns d r3)[rest.length + 2]? = some (.lst [.str t0.s, .str t1.s]) := fun d => by rw [base_get, ← hr3, ← hr2, ← hr1]; simp
  have k4 : ∀ d, (base ns d r3)[rest.length + 3]? = some (.lst [.int (1 + g0), .int (1 + g1)]) := fun d => by rw [show rest.length + 3 = rest.length + 1 + 2 from rfl, base_get, ← hr3, ← hr2, ← hr1]; simp
  have k5 : ∀ d, (base ns d r3)[rest.length + 4]? = some (.lst [.int (1 + l0), .int (1 + l1)]) := fun d => by rw [show rest.length + 4 = rest.length + 2 + 2 from rfl, base_get, ← hr3, ← hr2, ← hr1]; simp
  have s4 : evalS ⟨callN T gl W n, gl, W⟩ st4 [some (.ref 0), some (.ref 1), x2, some (.ref (rest.length + 2)), some (.ref (rest.length + 3)), some (.ref (rest.length + 4)), x6, x7, x8, x9, x10, x11, x12, x13] (base ns (d + 6) r3) = .ok (.next, [some (.ref 0), some (.ref 1), x2, some (.ref (rest.length + 2)), some (.ref (rest.length + 3)), some (.ref (rest.length + 4)), some (fOut t0 t1 (1 + g0) (1 + g1) (1 + l0) (1 + l1)).enc, x7, x8, x9, x10, x11, x12, x13]) (base ns (d + 6) r3) := by
    simp [st4, ix_lst (listAt_lst (k3 (d + 6))), ix_lst (listAt_lst (k4 (d + 6))), ix_lst (listAt_lst (k5 (d + 6))), fOut, fIn, Form.enc]
  have a5 := e_draw (W := W) P (show 3 ≤ n by omega) ns (d := d + 6) (by omega) r3 (m := 2) (by decide)
  have b6 := draw_lt ns (d + 6 + 1) (m := 2) (by decide)
  generalize drawF ns (d + 6 + 1) 2 = first at a5 b6
  generalize hE : (fOut t0 t1 (1 + g0) (1 + g1) (1 + l0) (1 + l1)).enc = fe at s4
  have s5 : evalS ⟨callN T gl W n, gl, W⟩ st5 [some (.ref 0), some (.ref 1), x2, some (.ref (rest.length + 2)), some (.ref (rest.length + 3)), some (.ref (rest.length + 4)), some fe, x7, x8, x9, x10, x11, x12, x13] (base ns (d + 6) r3) = .ok (.next, [some (.ref 0), some (.ref 1), x2, some (.ref (rest.length + 2)), some (.ref (rest.length + 3)), some (.ref (rest.length + 4)), some fe, some (.int first), x8, x9, x10, x11, x12, x13]) (base ns (d + 7) r3) := by
    simp [st5, a5]
  have a6 := e_draw (W := W) P (show 3 ≤ n by omega) ns (d := d + 7) (by omega) r3 (m := 61) (by decide)
  have b7 := draw_lt ns (d + 7 + 1) (m := 61) (by decide)
  generalize drawF ns (d + 7 + 1) 61 = q at a6 b7
  obtain ⟨m, rfl⟩ : ∃ m : Nat, q = m := ⟨q.toNat, by omega⟩
  have c6 := e_comp_draw (W := W) (T := T) (gl := gl) (n := n) ns (d := d + 7) (d1 := d + 8) (rest := r3) (env := [some (.ref 0), some (.ref 1), x2, some (.ref (rest.length + 2)), some (.ref (rest.length + 3)), some (.ref (rest.length + 4)), some fe, some (.int first), x8, x9, x10, x11, x12, x13]) (src := .cons (.call f__law_draw (.cons (.var 0) (.cons (.var 1) (.cons (.int_ 61) .nil)))) .nil) (i := 13) (m := m) (elt := .call f__law_draw (.cons (.var 0) (.cons (.var 1) (.cons (.int_ 2) .nil)))) (g := fun d => .int (drawF ns (d + 1) 2)) (by simp [a6]) (by omega) (by omega) (fun x d acc hd => by
    simp [e_draw (W := W) P (show 3 ≤ n by omega) ns hd (r3 ++ [.lst acc]) (m := 2) (by decide)])
  have s6 : evalS ⟨callN T gl W n, gl, W⟩ st6 [some (.ref 0), some (.ref 1), x2, some (.ref (rest.length + 2)), some (.ref (rest.length + 3)), some (.ref (rest.length + 4)), some fe, some (.int first), x8, x9, x10, x11, x12, x13] (base ns (d + 7) r3) = .ok (.next, [some (.ref 0), some (.ref 1), x2, some (.ref (rest.length + 2)), some (.ref (rest.length + 3)), some (.ref (rest.length + 4)), some fe, some (.int first), some (.ref (rest.length + 5)), x9, x10, x11, x12, x13]) (base ns (d + 8 + m) (r3 ++ [.lst (((List.range' (d + 8) m).map fun d => drawF ns (d + 1) 2).map Val.int)])) := by
    unfold st6
    rw [es_set, c6, bind_ok, n3, List.map_map]; rfl
  refine ⟨t0, t1, 1 + g0, 1 + g1, 1 + l0, 1 + l1, first, (List.range' (d + 8) m).map fun d => drawF ns (d + 1) 2, d + 8 + m, by omega, by omega, by omega, by omega, by omega, by simp; omega, ?_, by omega, ?_⟩
  · intro x hx
    obtain ⟨i, _, rfl⟩ := List.mem_map.mp hx
    have := draw_lt ns (i + 1) (m := 2) (by decide)
    omega
  · unfold rndB
    rw [seq_next s1, seq_next s2, seq_next s3, seq_next s4, seq_next s5, seq_next s6, hr1, hr2, hr3, hE]
end

theorem app_get {R g : Store} {a : Nat} {c : Cell} (h : R[a]? = some c) : (R ++ g)[a]? = some c := by
  rw [List.getElem?_append_left (lt_of_some h)]; exact h
theorem end_get {R : Store} {c : Cell} {a : Nat} (h : a = R.length) (g : Store) : (R ++ c :: g)[a]? = some c := by
  subst h; rw [List.getElem?_append_right (Nat.le_refl _)]; simp
section
variable {T : Tab} {gl : Str → Option Val} {W : Nat}
theorem rnd_main (P : Pg T gl) {n : Nat} (hn : 21 ≤ n) (ns : List Int) {d : Nat} (hd : d ≤ 60000) {R : Store} {ta ga la ra : Nat} {t0 t1 : Turn} {g0 g1 l0 l1 first : Int} {row : List Int}
    (b1 : 1 ≤ g0 ∧ g0 ≤ 4) (b2 : 1 ≤ g1 ∧ g1 ≤ 4) (b3 : 1 ≤ l0 ∧ l0 ≤ 3) (b4 : 1 ≤ l1 ∧ l1 ≤ 3) (hf : first = 0 ∨ first = 1) (hlen : row.length ≤ 60) (hs : sides row)
    (ht : R[ta]? = some (.lst [.str t0.s, .str t1.s])) (hg : R[ga]? = some (.lst [.int g0, .int g1])) (hl : R[la]? = some (.lst [.int l0, .int l1])) (hr : R[ra]? = some (.lst (row.map Val.int))) (x2 x9 x10 x11 x12 x13 : Option Val) :
    ∃ d' R' y2 y3 y4 y5 y6 y7 y8 y9 y10 y11 y12 y13, d' ≤ d + 1 ∧ evalS ⟨callN T gl W n, gl, W⟩ rndC [some (.ref 0), some (.ref 1), x2, some (.ref (ta + 2)), some (.ref (ga + 2)), some (.ref (la + 2)), some (fOut t0 t1 g0 g1 l0 l1).enc, some (.int first), some (.ref (ra + 2)), x9, x10, x11, x12, x13] (base ns d R) = .ok (.next, [some (.ref 0), some (.ref 1), y2, y3, y4, y5, y6, y7, y8, y9, y10, y11, y12, y13]) (base ns d' R') := by
  have no0 : ∀ g l : Int, 1 ≤ g → lawOver (cnt [] 0) (cnt [] 1) g l = false := fun g l h => by
    unfold lawOver
    have : decide (g ≤ imax (cnt [] 0) (cnt [] 1)) = false := decide_eq_false (by simp [cnt, imax]; omega)
    rw [this]; rfl
  have M := due_ok (t0 := t0) (t1 := t1) (g0 := g0) b2.1 b4.1 b3.1 hf row [] [] first first hs (fun x hx => by cases hx) (fun x hx => by cases hx) hf (by rw [next_nil t1 hf]; exact hf) (no0 g1 l1 b2.1) (no0 g0 l0 b1.1)
  rw [next_nil t1 hf] at M
  have eB : stOut t0 t1 g0 g1 l0 l1 first [] first [] first = begun (fOut t0 t1 g0 g1 l0 l1) first := rfl
  rw [eB] at M
  have hdp := due_pos t0 t1 g0 g1 l0 l1 first row [] [] first first
  have e7 := e_points (W := W) P (n := n) (by omega) t0 t1 (first := first) (st := base ns d R) (gk := ga + 2) (lk := la + 2) (rk := ra + 2) (row := row) ((base_get ns d R ga).trans hg) ((base_get ns d R la).trans hl) ((base_get ns d R ra).trans hr) (by omega)
  generalize hdue : duePts t0 t1 g0 g1 l0 l1 first row [] [] first first = due at *
  obtain ⟨m1, m2, o, m3, m4⟩ := M
  have ok : FormOk (fOut t0 t1 g0 g1 l0 l1) := ⟨⟨⟨trivial, ⟨b2.1, by omega⟩, b4⟩, ⟨b1.1, by omega⟩, b3⟩, by simp [fOut, fIn, Form.deep], by simp [fOut, fIn, Form.size]⟩
  generalize hF : fOut t0 t1 g0 g1 l0 l1 = f at *
  generalize hrw : row.take (due.length - 1) = row2 at *
  have hs2 : sides row2 := fun x hx => hs x (by rw [← hrw] at hx; exact List.mem_of_mem_take hx)
  have hl2 : row2.length ≤ 60 := by rw [← hrw, List.length_take]; omega
  have xt0 : ∀ (R : Store) (d : Nat), R[ta]? = some (.lst [.str t0.s, .str t1.s]) → ixop (.ref (ta + 2)) (.int 0) (base ns d R) = .ok (.str t0.s) (base ns d R) := fun R d h => by
    rw [ix_lst (listAt_lst ((base_get ns d R ta).trans h)), at_0]
  have xt1 : ∀ (R : Store) (d : Nat), R[ta]? = some (.lst [.str t0.s, .str t1.s]) → ixop (.ref (ta + 2)) (.int 1) (base ns d R) = .ok (.str t1.s) (base ns d R) := fun R d h => by
    rw [ix_lst (listAt_lst ((base_get ns d R ta).trans h)), at_1]
  have s7 : evalS ⟨callN T gl W n, gl, W⟩ st7 [some (.ref 0), some (.ref 1), x2, some (.ref (ta + 2)), some (.ref (ga + 2)), some (.ref (la + 2)), some f.enc, some (.int first), some (.ref (ra + 2)), x9, x10, x11, x12, x13] (base ns d R) = .ok (.next, [some (.ref 0), some (.ref 1), x2, some (.ref (ta + 2)), some (.ref (ga + 2)), some (.ref (la + 2)), some f.enc, some (.int first), some (.ref (ra + 2)), some (.ref (R.length + 2)), x10, x11, x12, x13]) (base ns d (R ++ [.lst (due.map encO)])) := by
    simp [st7, xt0 R d ht, xt1 R d ht, e7]
  have ht1 := app_get (g := [.lst (due.map encO)]) ht
  have hr1 := app_get (g := [.lst (due.map encO)]) hr
  have hd1 := end_get (c := .lst (due.map encO)) (R := R) rfl []
  generalize hR1 : R ++ [Cell.lst (due.map encO)] = R1 at s7 ht1 hr1 hd1
  have n1 : R1.length = R.length + 1 := by rw [← hR1]; simp
  have len7 := l_ref (listAt_lst ((base_get ns d R1 R.length).trans hd1))
  rw [List.length_map] at len7
  have sl8 := sl_list (l := none) (h := some ((due.length - 1 : Nat) : Int)) (listAt_lst ((base_get ns d R1 ra).trans hr1))
  rw [cut_take, ← List.map_take, hrw] at sl8
  have ee : ((due.length : Int) - 1) = ((due.length - 1 : Nat) : Int) := by omega
  have s8 : evalS ⟨callN T gl W n, gl, W⟩ st8 [some (.ref 0), some (.ref 1), x2, some (.ref (ta + 2)), some (.ref (ga + 2)), some (.ref (la + 2)), some f.enc, some (.int first), some (.ref (ra + 2)), some (.ref (R.length + 2)), x10, x11, x12, x13] (base ns d R1) = .ok (.next, [some (.ref 0), some (.ref 1), x2, some (.ref (ta + 2)), some (.ref (ga + 2)), some (.ref (la + 2)), some f.enc, some (.int first), some (.ref (R1.length + 2)), some (.ref (R.length + 2)), x10, x11, x12, x13]) (base ns d (R1 ++ [.lst (row2.map Val.int)])) := by
    rw [base_app, base_length] at sl8
    rw [← ee] at sl8
    simp [st8, isNil, len7, sl8]
  have ht2 := app_get (g := [.lst (row2.map Val.int)]) ht1
  have hd2 := app_get (g := [.lst (row2.map Val.int)]) hd1
  have hr2 := end_get (c := .lst (row2.map Val.int)) (R := R1) rfl []
  generalize hR2 : R1 ++ [Cell.lst (row2.map Val.int)] = R2 at s8 ht2 hd2 hr2
  have ro2 : ∀ (d : Nat) (R3 : Store), R3[R1.length]? = some (.lst (row2.map Val.int)) → RowOk (base ns d R3) (R1.length + 2) row2 := fun d R3 h => ⟨(base_get ns d R3 R1.length).trans h, by omega, hs2⟩
  obtain ⟨post, e9⟩ := e_servers (W := W) P hn ok hf (ro2 d R2 hr2) m1 (env := [some (.ref 0), some (.ref 1), x2, some (.ref (ta + 2)), some (.ref (ga + 2)), some (.ref (la + 2)), some f.enc, some (.int first), some (.ref (R1.length + 2)), some (.ref (R.length + 2)), x10, x11, x12, x13]) rfl rfl rfl (by simp)
  rw [base_app, base_length, m2] at e9
  have ht3 := app_get (g := .lst (due.map encO) :: post) ht2
  have hd3 := app_get (g := .lst (due.map encO) :: post) hd2
  have hr3 := app_get (g := .lst (due.map encO) :: post) hr2
  have hv3 := end_get (c := .lst (due.map encO)) (R := R2) rfl post
  generalize hR3 : R2 ++ Cell.lst (due.map encO) :: post = R3 at e9 ht3 hd3 hr3 hv3
  have c9 : cmpop .ne (.ref (R2.length + 2)) (.ref (R.length + 2)) (base ns d R3) = .ok (.bool false) (base ns d R3) :=
    ne_same (toD_listO (listAt_lst ((base_get ns d R3 R2.length).trans hv3))) (toD_listO (listAt_lst ((base_get ns d R3 R.length).trans hd3))) (shaped_listO due) rfl
  have s9 : evalS ⟨callN T gl W n, gl, W⟩ st9 [some (.ref 0), some (.ref 1), x2, some (.ref (ta + 2)), some (.ref (ga + 2)), some (.ref (la + 2)), some f.enc, some (.int first), some (.ref (R1.length + 2)), some (.ref (R.length + 2)), x10, x11, x12, x13] (base ns d R2) = .ok (.next, [some (.ref 0), some (.ref 1), x2, some (.ref (ta + 2)), some (.ref (ga + 2)), some (.ref (la + 2)), some f.enc, some (.int first), some (.ref (R1.length + 2)), some (.ref (R.length + 2)), x10, x11, x12, x13]) (base ns d R3) := by
    unfold srvE at e9
    simp [-ev_comp, st9, e9, c9]
  have x10' : ixop (.ref (R.length + 2)) (.int (-1)) (base ns d R3) = .ok (encO o) (base ns d R3) := by
    rw [ix_lst (listAt_lst ((base_get ns d R3 R.length).trans hd3)), at_last (v := encO o) (by rw [List.getLast?_map, m3]; rfl)]
  have e10 := e_winner (W := W) P hn ok hf (ro2 d R3 hr3) m1
  have s10 : evalS ⟨callN T gl W n, gl, W⟩ st10 [some (.ref 0), some (.ref 1), x2, some (.ref (ta + 2)), some (.ref (ga + 2)), some (.ref (la + 2)), some f.enc, some (.int first), some (.ref (R1.length + 2)), some (.ref (R.length + 2)), x10, x11, x12, x13] (base ns d R3) = .ok (.next, [some (.ref 0), some (.ref 1), x2, some (.ref (ta + 2)), some (.ref (ga + 2)), some (.ref (la + 2)), some f.enc, some (.int first), some (.ref (R1.length + 2)), some (.ref (R.length + 2)), x10, x11, x12, x13]) (base ns d R3) := by
    cases o with
    | none =>
      cases hw : winnerS (plays (begun f first) row2) with
      | none => exact absurd hw (m4.mp rfl)
      | some k =>
        rw [hw] at e10
        simp only [encO] at x10' e10
        simp [st10, x10', e10]
    | some i =>
      cases hw : winnerS (plays (begun f first) row2) with
      | none =>
        rw [hw] at e10
        simp only [encO] at x10' e10
        simp [st10, x10', e10]
      | some k => exact absurd (m4.mpr (by rw [hw]; simp)) (by simp)
  have s11 : evalS ⟨callN T gl W n, gl, W⟩ st11 [some (.ref 0), some (.ref 1), x2, some (.ref (ta + 2)), some (.ref (ga + 2)), some (.ref (la + 2)), some f.enc, some (.int first), some (.ref (R1.length + 2)), some (.ref (R.length + 2)), x10, x11, x12, x13] (base ns d R3) = .ok (.next, [some (.ref 0), some (.ref 1), x2, some (.ref (ta + 2)), some (.ref (ga + 2)), some (.ref (la + 2)), some f.enc, some (.int first), some (.ref (R1.length + 2)), some (.ref (R.length + 2)), some (fPl t0).enc, x11, x12, x13]) (base ns d R3) := by
    simp [st11, xt0 R3 d ht3, fPl, Form.enc]
  have a12 := e_draw (W := W) P (show 3 ≤ n by omega) ns (d := d) (by omega) R3 (m := 30) (by decide)
  have b12 := draw_lt ns (d + 1) (m := 30) (by decide)
  generalize drawF ns (d + 1) 30 = q at a12 b12
  obtain ⟨m, rfl⟩ : ∃ m : Nat, q = m := ⟨q.toNat, by omega⟩
  have s12 : evalS ⟨callN T gl W n, gl, W⟩ st12 [some (.ref 0), some (.ref 1), x2, some (.ref (ta + 2)), some (.ref (ga + 2)), some (.ref (la + 2)), some f.enc, some (.int first), some (.ref (R1.length + 2)), some (.ref (R.length + 2)), some (fPl t0).enc, x11, x12, x13] (base ns d R3) = .ok (.next, [some (.ref 0), some (.ref 1), x2, some (.ref (ta + 2)), some (.ref (ga + 2)), some (.ref (la + 2)), some f.enc, some (.int first), some (.ref (R1.length + 2)), some (.ref (R.length + 2)), some (fPl t0).enc, some (.ref (R3.length + 2)), x12, x13]) (base ns (d + 1) (R3 ++ [.lst ((alt m).map Val.int)])) := by
    have h1 : evalE ⟨callN T gl W n, gl, W⟩ (.cons (.call f__law_draw (.cons (.var 0) (.cons (.var 1) (.cons (.int_ 30) .nil)))) .nil) [some (.ref 0), some (.ref 1), x2, some (.ref (ta + 2)), some (.ref (ga + 2)), some (.ref (la + 2)), some f.enc, some (.int first), some (.ref (R1.length + 2)), some (.ref (R.length + 2)), some (fPl t0).enc, x11, x12, x13] (base ns d R3) = .ok (.tup [.int (m : Int)]) (base ns (d + 1) R3) := by simp [a12]
    have h2 := comp_map (f := runC ⟨callN T gl W n, gl, W⟩ 13 .nil (.bin .mod (.var 13) (.int_ 2)) [some (.ref 0), some (.ref 1), x2, some (.ref (ta + 2)), some (.ref (ga + 2)), some (.ref (la + 2)), some f.enc, some (.int first), some (.ref (R1.length + 2)), some (.ref (R.length + 2)), some (fPl t0).enc, x11, x12, x13]) (ok := stays .range (.tup [.int (m : Int)]) ((List.range m).map fun (j : Nat) => Val.int (j : Int))) (D := R3.length + 2) (pre := base ns (d + 1) R3) (enc := fun (j : Nat) => Val.int (j : Int)) (g := fun (j : Nat) => Val.int ((j : Int) % 2)) rfl (fun _ => trivial) (List.range m) [] (fun j _ acc => by
      have := b_mod (st := base ns (d + 1) (R3 ++ [.lst acc])) (i := j) (j := 2) (by decide)
      simp [runC, isNil, this]) (small_line (by simp; omega))
    unfold st12
    rw [es_set, comp_of h1 (src_range (by omega)), base_length, h2, bind_ok, base_app]
    unfold alt
    rw [List.map_map]
    rfl
  have ht4 := app_get (g := [.lst ((alt m).map Val.int)]) ht3
  have hm4 := end_get (c := .lst ((alt m).map Val.int)) (R := R3) rfl []
  generalize hR4 : R3 ++ [Cell.lst ((alt m).map Val.int)] = R4 at s12 ht4 hm4
  have s13 : evalS ⟨callN T gl W n, gl, W⟩ st13 [some (.ref 0), some (.ref 1), x2, some (.ref (ta + 2)), some (.ref (ga + 2)), some (.ref (la + 2)), some f.enc, some (.int first), some (.ref (R1.length + 2)), some (.ref (R.length + 2)), some (fPl t0).enc, some (.ref (R3.length + 2)), x12, x13] (base ns (d + 1) R4) = .ok (.next, [some (.ref 0), some (.ref 1), x2, some (.ref (ta + 2)), some (.ref (ga + 2)), some (.ref (la + 2)), some f.enc, some (.int first), some (.ref (R1.length + 2)), some (.ref (R.length + 2)), some (fPl t0).enc, some (.ref (R3.length + 2)), some (.int first), x13]) (base ns (d + 1) R4) := by
    simp [st13]
  obtain ⟨g, b', x', hlp⟩ := alt_loop (W := W) P hn t0 hf (ok := stays .range (.tup [.int ((m + 1 : Nat) : Int)]) ((List.range (m + 1)).map fun (j : Nat) => Val.int (j : Int))) (fun _ => trivial) (tk := ta + 2) (mk := R3.length + 2) (tv := [.str t1.s]) (m := m) (by omega) (some (.ref 0)) (some (.ref 1)) x2 (some (.ref (ga + 2))) (some (.ref (la + 2))) (some f.enc) (some (.ref (R1.length + 2))) (some (.ref (R.length + 2))) (m + 1) 0 first x13 (base ns (d + 1) R4) (by omega) ((base_get ns (d + 1) R4 ta).trans ht4) ((base_get ns (d + 1) R4 R3.length).trans hm4) (next_nil t0 hf first)
  rw [← List.range_eq_range'] at hlp
  have len14 := l_ref (listAt_lst ((base_get ns (d + 1) R4 R3.length).trans hm4))
  rw [List.length_map, alt_len] at len14
  have h14 : evalE ⟨callN T gl W n, gl, W⟩ (.cons (.bin .add (.bi .len (.cons (.var 11) .nil)) (.int_ 1)) .nil) [some (.ref 0), some (.ref 1), x2, some (.ref (ta + 2)), some (.ref (ga + 2)), some (.ref (la + 2)), some f.enc, some (.int first), some (.ref (R1.length + 2)), some (.ref (R.length + 2)), some (fPl t0).enc, some (.ref (R3.length + 2)), some (.int first), x13] (base ns (d + 1) R4) = .ok (.tup [.int ((m + 1 : Nat) : Int)]) (base ns (d + 1) R4) := by
    simp [len14]
  have s14 := for_of (is := [13]) (a := altB) h14 (src_range (m := m + 1) (by omega))
  rw [hlp] at s14
  refine ⟨d + 1, R4 ++ g, x2, some (.ref (ta + 2)), some (.ref (ga + 2)), some (.ref (la + 2)), some f.enc, some (.int first), some (.ref (R1.length + 2)), some (.ref (R.length + 2)), some (fPl t0).enc, some (.ref (R3.length + 2)), some (.int b'), x', Nat.le_refl _, ?_⟩
  have s14' : evalS ⟨callN T gl W n, gl, W⟩ st14 [some (.ref 0), some (.ref 1), x2, some (.ref (ta + 2)), some (.ref (ga + 2)), some (.ref (la + 2)), some f.enc, some (.int first), some (.ref (R1.length + 2)), some (.ref (R.length + 2)), some (fPl t0).enc, some (.ref (R3.length + 2)), some (.int first), x13] (base ns (d + 1) R4) = _ := s14
  unfold rndC
  rw [seq_next s7, seq_next s8, seq_next s9, seq_next s10, seq_next s11, seq_next s12, seq_next s13, seq_next s14', es_skip, base_app]
theorem round (P : Pg T gl) {n : Nat} (hn : 21 ≤ n) (ns : List Int) {d : Nat} (hd : d ≤ 50000) (rest : Store) (x2 x3 x4 x5 x6 x7 x8 x9 x10 x11 x12 x13 : Option Val) :
    ∃ d' R' y2 y3 y4 y5 y6 y7 y8 y9 y10 y11 y12 y13, d' ≤ d + 101 ∧ runS ⟨callN T gl W n, gl, W⟩ rndB [some (.ref 0), some (.ref 1), x2, x3, x4, x5, x6, x7, x8, x9, x10, x11, x12, x13] (base ns d rest) = .ok (.next, [some (.ref 0), some (.ref 1), y2, y3, y4, y5, y6, y7, y8, y9, y10, y11, y12, y13]) (base ns d' R') := by
  obtain ⟨t0, t1, g0, g1, l0, l1, first, row, d1, b1, b2, b3, b4, hf, hlen, hs, hd1, e⟩ := rnd_draws (W := W) P (n := n) (by omega) ns hd rest x2 x3 x4 x5 x6 x7 x8 x9 x10 x11 x12 x13
  obtain ⟨d', R', y2, y3, y4, y5, y6, y7, y8, y9, y10, y11, y12, y13, hd', e2⟩ := rnd_main (W := W) P hn ns (d := d1) (by omega) (R := rest ++ [.lst [.str t0.s, .str t1.s]] ++ [.lst [.int g0, .int g1]] ++ [.lst [.int l0, .int l1]] ++ [.lst (row.map Val.int)]) (ta := rest.length) (ga := rest.length + 1) (la := rest.length + 2) (ra := rest.length + 3) (t0 := t0) (t1 := t1) b1 b2 b3 b4 hf hlen hs (by simp) (by simp) (by simp) (by simp) x2 x9 x10 x11 x12 x13
  exact ⟨d', R', y2, y3, y4, y5, y6, y7, y8, y9, y10, y11, y12, y13, by omega, by unfold runS; rw [e]; exact e2⟩
end
theorem law_true {T : Tab} {gl : Str → Option Val} {W : Nat} (P : Pg T gl) (hW : 100000 ≤ W) (ns : List Int) (hl : ns.length ≤ 63) : ∃ s, callN T gl W 60 f_law [.ref 0] [.ro (ns.map Val.int)] = .ok (.bool true) s := by
  obtain ⟨d1, R1, a2, a3, a4, a5, a6, a7, a8, a9, a10, a11, a12, a13, hd1, e1⟩ := round (W := W) P (n := 59) (by omega) ns (d := 0) (by omega) [] (some (.int 0)) none none none none none none none none none none none
  obtain ⟨d2, R2, b2, b3, b4, b5, b6, b7, b8, b9, b10, b11, b12, b13, hd2, e2⟩ := round (W := W) P (n := 59) (by omega) ns (d := d1) (by omega) R1 (some (.int 1)) a3 a4 a5 a6 a7 a8 a9 a10 a11 a12 a13
  have hr : srcItems .range (.tup [.int ((2 : Nat) : Int)]) (base ns 0 []) = _ := src_range (m := 2) (by decide)
  have h1 : evalE ⟨callN T gl W 59, gl, W⟩ (.cons (.int_ 2) .nil) [some (.ref 0), some (.ref 1), none, none, none, none, none, none, none, none, none, none, none, none] (base ns 0 []) = .ok (.tup [.int ((2 : Nat) : Int)]) (base ns 0 []) := rfl
  have hfor := for_of (is := [2]) (a := rndB) h1 hr
  have hl2 : forLoop [2] (stays .range (.tup [.int ((2 : Nat) : Int)]) ((List.range 2).map fun (j : Nat) => Val.int (j : Int))) (runS ⟨callN T gl W 59, gl, W⟩ rndB) ((List.range 2).map fun (j : Nat) => Val.int (j : Int)) [some (.ref 0), some (.ref 1), none, none, none, none, none, none, none, none, none, none, none, none] (base ns 0 []) = .ok (.next, [some (.ref 0), some (.ref 1), b2, b3, b4, b5, b6, b7, b8, b9, b10, b11, b12, b13]) (base ns d2 R2) := by
    have : ((List.range 2).map fun (j : Nat) => Val.int (j : Int)) = [.int 0, .int 1] := rfl
    rw [this, for_next trivial rfl e1, for_next trivial rfl e2]
    exact for_end trivial
  rw [hl2] at hfor
  have run : evalS ⟨callN T gl W 59, gl, W⟩ c_law.body [some (.ref 0), none, none, none, none, none, none, none, none, none, none, none, none, none] [.ro (ns.map Val.int)] = .ok (.ret (.bool true), [some (.ref 0), some (.ref 1), b2, b3, b4, b5, b6, b7, b8, b9, b10, b11, b12, b13]) (base ns d2 R2) := by
    have s1 : evalS ⟨callN T gl W 59, gl, W⟩ (.set 1 (.lst .nil)) [some (.ref 0), none, none, none, none, none, none, none, none, none, none, none, none, none] [.ro (ns.map Val.int)] = .ok (.next, [some (.ref 0), some (.ref 1), none, none, none, none, none, none, none, none, none, none, none, none]) (base ns 0 []) := by
      simp [base]
    show evalS ⟨callN T gl W 59, gl, W⟩ (.seq (.set 1 (.lst .nil)) (.seq (.for_ .range [2] (.cons (.int_ 2) .nil) rndB) (.seq (.ret (.bool_ true)) .skip))) _ _ = _
    rw [seq_next s1, seq_next hfor]
    rfl
  refine ⟨[.ro (ns.map Val.int)], ?_⟩
  rw [call_eq P.law (by decide)]
  refine body_ret (env1 := [some (.ref 0), some (.ref 1), b2, b3, b4, b5, b6, b7, b8, b9, b10, b11, b12, b13]) rfl run ?_
  have : base ns d2 R2 = [.ro (ns.map Val.int)] ++ (.lst (List.replicate d2 (.int 0)) :: R2) := rfl
  rw [this]
  exact gc_boolA

end Ev
namespace Lw
open PySem PySem.Spec PyProof.Rows L2 Ev
def top (i : Nat) : Stmt := PySem.Challenge.pw_setpoints_k12_whole_turns.main.body.getD i (.Pass ⟨0, 0, 0, 0⟩)
abbrev R : PySem.W.OpenRow := PySem.W.OpenLaw.row PySem.Challenge.rw_setpoints_k12_whole_turns
def dfn (i : Nat) (n : Str) : He.DefD := ⟨(n, none), n, n, defArgs (top i), defBody (top i), defScope (top i), [], []⟩
def fn : List He.DefD := [dfn 13 f_is_number, dfn 14 f_is_turn, dfn 15 f_is_race, dfn 16 f_is_tied, dfn 17 f_is_series, dfn 18 f_is_shape, dfn 19 f_parts, dfn 20 f_size_of, dfn 21 f_is_form, dfn 22 f_look_form, dfn 25 f_look_side, dfn 26 f_look_row, dfn 27 f_inner_at, dfn 28 f_begun, dfn 29 f_won_by, dfn 30 f_served, dfn 31 f_decided, dfn 32 f_behind, dfn 33 f_lifted, dfn 34 f_pushed, dfn 35 f_pairs, dfn 36 f_server_of, dfn 37 f_winner_of, dfn 38 f_played, dfn 40 f_state_of, dfn 41 f_standing, dfn 42 f_winner, dfn 43 f_server, dfn 44 f_closing, dfn 45 f_closes, dfn 47 f__law_cell, dfn 48 f__law_mix, dfn 49 f__law_draw, dfn 50 f__law_pick, dfn 51 f__law_turn, dfn 52 f__law_next, dfn 53 f__law_over, dfn 54 f__law_points, dfn 55 f_law]
def fa : List He.Fa := [.glo f_is_number, .glo f_is_turn, .glo f_is_race, .glo f_is_tied, .glo f_is_series, .glo f_is_shape, .glo f_parts, .glo f_size_of, .glo f_is_form, .glo f_look_form, .glo f_look_side, .glo f_look_row, .glo f_inner_at, .glo f_begun, .glo f_won_by, .glo f_served, .glo f_decided, .glo f_behind, .glo f_lifted, .glo f_pushed, .glo f_pairs, .glo f_server_of, .glo f_winner_of, .glo f_played, .glo f_state_of, .glo f_standing, .glo f_winner, .glo f_server, .glo f_closing, .glo f_closes, .glo f__law_cell, .glo f__law_mix, .glo f__law_draw, .glo f__law_pick, .glo f__law_turn, .glo f__law_next, .glo f__law_over, .glo f__law_points, .glo f_law, .glo s_TURNS, .int s_MOST_DEEP 4, .int s_MOST_SIZE 20, .int s_MOST_GOAL 30, .int s_MOST_LEAD 3, .glo s_SERIES, .int s_MOST_POINTS 500, .free "len", .free "abs", .free "max", .free "min", .free "sum", .free "all", .free "int", .free "str", .free "list", .free "tuple", .free "isinstance", .free "bool", .free "range"]
def ex (K : PySem.W.Frag) : Bool := He.tupB K s_TURNS [.str s_keep, .str s_each, .str s_twos, .str s_pairs, .str s_winner, .str s_on] && He.tupB K s_SERIES [.int 1, .int 3, .int 5, .int 7]
def loose0 : List Str := ["ScoreError", "BadForm", "BadSide", "BadRow", "Over", "TURNS", "MOST_DEEP", "MOST_SIZE", "MOST_GOAL", "MOST_LEAD", "SERIES", "is_number", "is_turn", "is_race", "is_tied", "is_series", "is_shape", "parts", "size_of", "is_form", "look_form", "MOST_POINTS", "look_side", "look_row", "inner_at", "begun", "won_by", "served", "decided", "behind"]
def loose1 : List Str := ["lifted", "pushed", "pairs", "server_of", "winner_of", "played", "state_of", "standing", "winner", "server", "closing", "closes", "_law_cell", "_law_mix", "_law_draw", "_law_pick", "_law_turn", "_law_next", "_law_over", "_law_points"]
def loose : List Str := loose0 ++ loose1
abbrev hk : PySem.W.Hook := hookX 4 fa fn ex
def ob (s : PySem.W.SharedT) : AlX := obsXG 4 fa fn ex (HandSHeadRun.getT s)
theorem ob_eq (s : PySem.W.SharedT) : ob s = hk.obs s.abs := obsXG_eq (HandSHeadRun.getT_eq s)
theorem run (w : World) : HandSHeadRun.RunEq R (PySem.W.view R.prog [55]) hk ob 6000 loose w := by
  intro os
  kernel_rfl
def T : Tab := [(f_is_number, c_is_number), (f_is_turn, c_is_turn), (f_is_race, c_is_race), (f_is_tied, c_is_tied), (f_is_series, c_is_series), (f_is_shape, c_is_shape), (f_parts, c_parts), (f_size_of, c_size_of), (f_is_form, c_is_form), (f_look_form, c_look_form), (f_look_side, c_look_side), (f_look_row, c_look_row), (f_inner_at, c_inner_at), (f_begun, c_begun), (f_won_by, c_won_by), (f_served, c_served), (f_decided, c_decided), (f_behind, c_behind), (f_lifted, c_lifted), (f_pushed, c_pushed), (f_pairs, c_pairs), (f_server_of, c_server_of), (f_winner_of, c_winner_of), (f_played, c_played), (f_state_of, c_state_of), (f_standing, c_standing), (f_winner, c_winner), (f_server, c_server), (f_closing, c_closing), (f_closes, c_closes), (f__law_cell, c__law_cell), (f__law_mix, c__law_mix), (f__law_draw, c__law_draw), (f__law_pick, c__law_pick), (f__law_turn, c__law_turn), (f__law_next, c__law_next), (f__law_over, c__law_over), (f__law_points, c__law_points), (f_law, c_law)]
def glT : List (Str × Val) := [(s_TURNS, (.tup [(.str s_keep), (.str s_each), (.str s_twos), (.str s_pairs), (.str s_winner), (.str s_on)])), (s_MOST_DEEP, (.int 4)), (s_MOST_SIZE, (.int 20)), (s_MOST_GOAL, (.int 30)), (s_MOST_LEAD, (.int 3)), (s_SERIES, (.tup [(.int 1), (.int 3), (.int 5), (.int 7)])), (s_MOST_POINTS, (.int 500))]
def gl (x : Str) : Option Val := glT.lookup x
theorem pg : Pg T gl := by
  constructor <;> rfl
section
variable {K : PySem.W.Frag} {h : Heap} {mg : Str → Option Value}
theorem d_is_number (X : K.In h) (G : h.Ns mainGlobals mg) (c : SaysX fa fn ex K) : ∃ a fd, DefOk K mg f_is_number c_is_number a fd :=
  defOk_of (ps := ["thing", "least", "most"]) X G (c.d.fact 0 (f := .glo f_is_number) rfl) (c.d.def_ 0 (d := dfn 13 f_is_number) rfl) rfl (by decide) ⟨rfl, rfl, rfl, by decide +kernel, rfl, by decide +kernel, by decide +kernel⟩ (by decide +kernel) fun _ _ _ _ _ _ us hl => match us, hl with | [_, _, _], _ => rfl
theorem d_is_turn (X : K.In h) (G : h.Ns mainGlobals mg) (c : SaysX fa fn ex K) : ∃ a fd, DefOk K mg f_is_turn c_is_turn a fd :=
  defOk_of (ps := ["thing"]) X G (c.d.fact 1 (f := .glo f_is_turn) rfl) (c.d.def_ 1 (d := dfn 14 f_is_turn) rfl) rfl (by decide) ⟨rfl, rfl, rfl, by decide +kernel, rfl, by decide +kernel, by decide +kernel⟩ (by decide +kernel) fun _ _ _ _ _ _ us hl => match us, hl with | [_], _ => rfl
theorem d_is_race (X : K.In h) (G : h.Ns mainGlobals mg) (c : SaysX fa fn ex K) : ∃ a fd, DefOk K mg f_is_race c_is_race a fd :=
  defOk_of (ps := ["thing", "room"]) X G (c.d.fact 2 (f := .glo f_is_race) rfl) (c.d.def_ 2 (d := dfn 15 f_is_race) rfl) rfl (by decide) ⟨rfl, rfl, rfl, by decide +kernel, rfl, by decide +kernel, by decide +kernel⟩ (by decide +kernel) fun _ _ _ _ _ _ us hl => match us, hl with | [_, _], _ => rfl
theorem d_is_tied (X : K.In h) (G : h.Ns mainGlobals mg) (c : SaysX fa fn ex K) : ∃ a fd, DefOk K mg f_is_tied c_is_tied a fd :=
  defOk_of (ps := ["thing", "room"]) X G (c.d.fact 3 (f := .glo f_is_tied) rfl) (c.d.def_ 3 (d := dfn 16 f_is_tied) rfl) rfl (by decide) ⟨rfl, rfl, rfl, by decide +kernel, rfl, by decide +kernel, by decide +kernel⟩ (by decide +kernel) fun _ _ _ _ _ _ us hl => match us, hl with | [_, _], _ => rfl
theorem d_is_series (X : K.In h) (G : h.Ns mainGlobals mg) (c : SaysX fa fn ex K) : ∃ a fd, DefOk K mg f_is_series c_is_series a fd :=
  defOk_of (ps := ["thing", "room"]) X G (c.d.fact 4 (f := .glo f_is_series) rfl) (c.d.def_ 4 (d := dfn 17 f_is_series) rfl) rfl (by decide) ⟨rfl, rfl, rfl, by decide +kernel, rfl, by decide +kernel, by decide +kernel⟩ (by decide +kernel) fun _ _ _ _ _ _ us hl => match us, hl with | [_, _], _ => rfl
theorem d_is_shape (X : K.In h) (G : h.Ns mainGlobals mg) (c : SaysX fa fn ex K) : ∃ a fd, DefOk K mg f_is_shape c_is_shape a fd :=
  defOk_of (ps := ["thing", "room"]) X G (c.d.fact 5 (f := .glo f_is_shape) rfl) (c.d.def_ 5 (d := dfn 18 f_is_shape) rfl) rfl (by decide) ⟨rfl, rfl, rfl, by decide +kernel, rfl, by decide +kernel, by decide +kernel⟩ (by decide +kernel) fun _ _ _ _ _ _ us hl => match us, hl with | [_, _], _ => rfl
theorem d_parts (X : K.In h) (G : h.Ns mainGlobals mg) (c : SaysX fa fn ex K) : ∃ a fd, DefOk K mg f_parts c_parts a fd :=
  defOk_of (ps := ["form"]) X G (c.d.fact 6 (f := .glo f_parts) rfl) (c.d.def_ 6 (d := dfn 19 f_parts) rfl) rfl (by decide) ⟨rfl, rfl, rfl, by decide +kernel, rfl, by decide +kernel, by decide +kernel⟩ (by decide +kernel) fun _ _ _ _ _ _ us hl => match us, hl with | [_], _ => rfl
theorem d_size_of (X : K.In h) (G : h.Ns mainGlobals mg) (c : SaysX fa fn ex K) : ∃ a fd, DefOk K mg f_size_of c_size_of a fd :=
  defOk_of (ps := ["form"]) X G (c.d.fact 7 (f := .glo f_size_of) rfl) (c.d.def_ 7 (d := dfn 20 f_size_of) rfl) rfl (by decide) ⟨rfl, rfl, rfl, by decide +kernel, rfl, by decide +kernel, by decide +kernel⟩ (by decide +kernel) fun _ _ _ _ _ _ us hl => match us, hl with | [_], _ => rfl
theorem d_is_form (X : K.In h) (G : h.Ns mainGlobals mg) (c : SaysX fa fn ex K) : ∃ a fd, DefOk K mg f_is_form c_is_form a fd :=
  defOk_of (ps := ["thing"]) X G (c.d.fact 8 (f := .glo f_is_form) rfl) (c.d.def_ 8 (d := dfn 21 f_is_form) rfl) rfl (by decide) ⟨rfl, rfl, rfl, by decide +kernel, rfl, by decide +kernel, by decide +kernel⟩ (by decide +kernel) fun _ _ _ _ _ _ us hl => match us, hl with | [_], _ => rfl
theorem d_look_form (X : K.In h) (G : h.Ns mainGlobals mg) (c : SaysX fa fn ex K) : ∃ a fd, DefOk K mg f_look_form c_look_form a fd :=
  defOk_of (ps := ["form"]) X G (c.d.fact 9 (f := .glo f_look_form) rfl) (c.d.def_ 9 (d := dfn 22 f_look_form) rfl) rfl (by decide) ⟨rfl, rfl, rfl, by decide +kernel, rfl, by decide +kernel, by decide +kernel⟩ (by decide +kernel) fun _ _ _ _ _ _ us hl => match us, hl with | [_], _ => rfl
theorem d_look_side (X : K.In h) (G : h.Ns mainGlobals mg) (c : SaysX fa fn ex K) : ∃ a fd, DefOk K mg f_look_side c_look_side a fd :=
  defOk_of (ps := ["side"]) X G (c.d.fact 10 (f := .glo f_look_side) rfl) (c.d.def_ 10 (d := dfn 25 f_look_side) rfl) rfl (by decide) ⟨rfl, rfl, rfl, by decide +kernel, rfl, by decide +kernel, by decide +kernel⟩ (by decide +kernel) fun _ _ _ _ _ _ us hl => match us, hl with | [_], _ => rfl
theorem d_look_row (X : K.In h) (G : h.Ns mainGlobals mg) (c : SaysX fa fn ex K) : ∃ a fd, DefOk K mg f_look_row c_look_row a fd :=
  defOk_of (ps := ["row"]) X G (c.d.fact 11 (f := .glo f_look_row) rfl) (c.d.def_ 11 (d := dfn 26 f_look_row) rfl) rfl (by decide) ⟨rfl, rfl, rfl, by decide +kernel, rfl, by decide +kernel, by decide +kernel⟩ (by decide +kernel) fun _ _ _ _ _ _ us hl => match us, hl with | [_], _ => rfl
theorem d_inner_at (X : K.In h) (G : h.Ns mainGlobals mg) (c : SaysX fa fn ex K) : ∃ a fd, DefOk K mg f_inner_at c_inner_at a fd :=
  defOk_of (ps := ["form", "mine", "its"]) X G (c.d.fact 12 (f := .glo f_inner_at) rfl) (c.d.def_ 12 (d := dfn 27 f_inner_at) rfl) rfl (by decide) ⟨rfl, rfl, rfl, by decide +kernel, rfl, by decide +kernel, by decide +kernel⟩ (by decide +kernel) fun _ _ _ _ _ _ us hl => match us, hl with | [_, _, _], _ => rfl
theorem d_begun (X : K.In h) (G : h.Ns mainGlobals mg) (c : SaysX fa fn ex K) : ∃ a fd, DefOk K mg f_begun c_begun a fd :=
  defOk_of (ps := ["form", "first"]) X G (c.d.fact 13 (f := .glo f_begun) rfl) (c.d.def_ 13 (d := dfn 28 f_begun) rfl) rfl (by decide) ⟨rfl, rfl, rfl, by decide +kernel, rfl, by decide +kernel, by decide +kernel⟩ (by decide +kernel) fun _ _ _ _ _ _ us hl => match us, hl with | [_, _], _ => rfl
theorem d_won_by (X : K.In h) (G : h.Ns mainGlobals mg) (c : SaysX fa fn ex K) : ∃ a fd, DefOk K mg f_won_by c_won_by a fd :=
  defOk_of (ps := ["form", "mine", "its"]) X G (c.d.fact 14 (f := .glo f_won_by) rfl) (c.d.def_ 14 (d := dfn 29 f_won_by) rfl) rfl (by decide) ⟨rfl, rfl, rfl, by decide +kernel, rfl, by decide +kernel, by decide +kernel⟩ (by decide +kernel) fun _ _ _ _ _ _ us hl => match us, hl with | [_, _, _], _ => rfl
theorem d_served (X : K.In h) (G : h.Ns mainGlobals mg) (c : SaysX fa fn ex K) : ∃ a fd, DefOk K mg f_served c_served a fd :=
  defOk_of (ps := ["form", "first", "number", "winner", "tail"]) X G (c.d.fact 15 (f := .glo f_served) rfl) (c.d.def_ 15 (d := dfn 30 f_served) rfl) rfl (by decide) ⟨rfl, rfl, rfl, by decide +kernel, rfl, by decide +kernel, by decide +kernel⟩ (by decide +kernel) fun _ _ _ _ _ _ us hl => match us, hl with | [_, _, _, _, _], _ => rfl
theorem d_decided (X : K.In h) (G : h.Ns mainGlobals mg) (c : SaysX fa fn ex K) : ∃ a fd, DefOk K mg f_decided c_decided a fd :=
  defOk_of (ps := ["form", "mine", "its", "winner"]) X G (c.d.fact 16 (f := .glo f_decided) rfl) (c.d.def_ 16 (d := dfn 31 f_decided) rfl) rfl (by decide) ⟨rfl, rfl, rfl, by decide +kernel, rfl, by decide +kernel, by decide +kernel⟩ (by decide +kernel) fun _ _ _ _ _ _ us hl => match us, hl with | [_, _, _, _], _ => rfl
theorem d_behind (X : K.In h) (G : h.Ns mainGlobals mg) (c : SaysX fa fn ex K) : ∃ a fd, DefOk K mg f_behind c_behind a fd :=
  defOk_of (ps := ["state", "winner", "tail"]) X G (c.d.fact 17 (f := .glo f_behind) rfl) (c.d.def_ 17 (d := dfn 32 f_behind) rfl) rfl (by decide) ⟨rfl, rfl, rfl, by decide +kernel, rfl, by decide +kernel, by decide +kernel⟩ (by decide +kernel) fun _ _ _ _ _ _ us hl => match us, hl with | [_, _, _], _ => rfl
theorem d_lifted (X : K.In h) (G : h.Ns mainGlobals mg) (c : SaysX fa fn ex K) : ∃ a fd, DefOk K mg f_lifted c_lifted a fd :=
  defOk_of (ps := ["state", "inner", "closed"]) X G (c.d.fact 18 (f := .glo f_lifted) rfl) (c.d.def_ 18 (d := dfn 33 f_lifted) rfl) rfl (by decide) ⟨rfl, rfl, rfl, by decide +kernel, rfl, by decide +kernel, by decide +kernel⟩ (by decide +kernel) fun _ _ _ _ _ _ us hl => match us, hl with | [_, _, _], _ => rfl
theorem d_pushed (X : K.In h) (G : h.Ns mainGlobals mg) (c : SaysX fa fn ex K) : ∃ a fd, DefOk K mg f_pushed c_pushed a fd :=
  defOk_of (ps := ["state", "side"]) X G (c.d.fact 19 (f := .glo f_pushed) rfl) (c.d.def_ 19 (d := dfn 34 f_pushed) rfl) rfl (by decide) ⟨rfl, rfl, rfl, by decide +kernel, rfl, by decide +kernel, by decide +kernel⟩ (by decide +kernel) fun _ _ _ _ _ _ us hl => match us, hl with | [_, _], _ => rfl
theorem d_pairs (X : K.In h) (G : h.Ns mainGlobals mg) (c : SaysX fa fn ex K) : ∃ a fd, DefOk K mg f_pairs c_pairs a fd :=
  defOk_of (ps := ["state"]) X G (c.d.fact 20 (f := .glo f_pairs) rfl) (c.d.def_ 20 (d := dfn 35 f_pairs) rfl) rfl (by decide) ⟨rfl, rfl, rfl, by decide +kernel, rfl, by decide +kernel, by decide +kernel⟩ (by decide +kernel) fun _ _ _ _ _ _ us hl => match us, hl with | [_], _ => rfl
theorem d_server_of (X : K.In h) (G : h.Ns mainGlobals mg) (c : SaysX fa fn ex K) : ∃ a fd, DefOk K mg f_server_of c_server_of a fd :=
  defOk_of (ps := ["state"]) X G (c.d.fact 21 (f := .glo f_server_of) rfl) (c.d.def_ 21 (d := dfn 36 f_server_of) rfl) rfl (by decide) ⟨rfl, rfl, rfl, by decide +kernel, rfl, by decide +kernel, by decide +kernel⟩ (by decide +kernel) fun _ _ _ _ _ _ us hl => match us, hl with | [_], _ => rfl
theorem d_winner_of (X : K.In h) (G : h.Ns mainGlobals mg) (c : SaysX fa fn ex K) : ∃ a fd, DefOk K mg f_winner_of c_winner_of a fd :=
  defOk_of (ps := ["state"]) X G (c.d.fact 22 (f := .glo f_winner_of) rfl) (c.d.def_ 22 (d := dfn 37 f_winner_of) rfl) rfl (by decide) ⟨rfl, rfl, rfl, by decide +kernel, rfl, by decide +kernel, by decide +kernel⟩ (by decide +kernel) fun _ _ _ _ _ _ us hl => match us, hl with | [_], _ => rfl
theorem d_played (X : K.In h) (G : h.Ns mainGlobals mg) (c : SaysX fa fn ex K) : ∃ a fd, DefOk K mg f_played c_played a fd :=
  defOk_of (ps := ["form", "first", "row"]) X G (c.d.fact 23 (f := .glo f_played) rfl) (c.d.def_ 23 (d := dfn 38 f_played) rfl) rfl (by decide) ⟨rfl, rfl, rfl, by decide +kernel, rfl, by decide +kernel, by decide +kernel⟩ (by decide +kernel) fun _ _ _ _ _ _ us hl => match us, hl with | [_, _, _], _ => rfl
theorem d_state_of (X : K.In h) (G : h.Ns mainGlobals mg) (c : SaysX fa fn ex K) : ∃ a fd, DefOk K mg f_state_of c_state_of a fd :=
  defOk_of (ps := ["form", "first", "row"]) X G (c.d.fact 24 (f := .glo f_state_of) rfl) (c.d.def_ 24 (d := dfn 40 f_state_of) rfl) rfl (by decide) ⟨rfl, rfl, rfl, by decide +kernel, rfl, by decide +kernel, by decide +kernel⟩ (by decide +kernel) fun _ _ _ _ _ _ us hl => match us, hl with | [_, _, _], _ => rfl
theorem d_standing (X : K.In h) (G : h.Ns mainGlobals mg) (c : SaysX fa fn ex K) : ∃ a fd, DefOk K mg f_standing c_standing a fd :=
  defOk_of (ps := ["form", "first", "row"]) X G (c.d.fact 25 (f := .glo f_standing) rfl) (c.d.def_ 25 (d := dfn 41 f_standing) rfl) rfl (by decide) ⟨rfl, rfl, rfl, by decide +kernel, rfl, by decide +kernel, by decide +kernel⟩ (by decide +kernel) fun _ _ _ _ _ _ us hl => match us, hl with | [_, _, _], _ => rfl
theorem d_winner (X : K.In h) (G : h.Ns mainGlobals mg) (c : SaysX fa fn ex K) : ∃ a fd, DefOk K mg f_winner c_winner a fd :=
  defOk_of (ps := ["form", "first", "row"]) X G (c.d.fact 26 (f := .glo f_winner) rfl) (c.d.def_ 26 (d := dfn 42 f_winner) rfl) rfl (by decide) ⟨rfl, rfl, rfl, by decide +kernel, rfl, by decide +kernel, by decide +kernel⟩ (by decide +kernel) fun _ _ _ _ _ _ us hl => match us, hl with | [_, _, _], _ => rfl
theorem d_server (X : K.In h) (G : h.Ns mainGlobals mg) (c : SaysX fa fn ex K) : ∃ a fd, DefOk K mg f_server c_server a fd :=
  defOk_of (ps := ["form", "first", "row"]) X G (c.d.fact 27 (f := .glo f_server) rfl) (c.d.def_ 27 (d := dfn 43 f_server) rfl) rfl (by decide) ⟨rfl, rfl, rfl, by decide +kernel, rfl, by decide +kernel, by decide +kernel⟩ (by decide +kernel) fun _ _ _ _ _ _ us hl => match us, hl with | [_, _, _], _ => rfl
theorem d_closing (X : K.In h) (G : h.Ns mainGlobals mg) (c : SaysX fa fn ex K) : ∃ a fd, DefOk K mg f_closing c_closing a fd :=
  defOk_of (ps := ["state"]) X G (c.d.fact 28 (f := .glo f_closing) rfl) (c.d.def_ 28 (d := dfn 44 f_closing) rfl) rfl (by decide) ⟨rfl, rfl, rfl, by decide +kernel, rfl, by decide +kernel, by decide +kernel⟩ (by decide +kernel) fun _ _ _ _ _ _ us hl => match us, hl with | [_], _ => rfl
theorem d_closes (X : K.In h) (G : h.Ns mainGlobals mg) (c : SaysX fa fn ex K) : ∃ a fd, DefOk K mg f_closes c_closes a fd :=
  defOk_of (ps := ["form", "first", "row"]) X G (c.d.fact 29 (f := .glo f_closes) rfl) (c.d.def_ 29 (d := dfn 45 f_closes) rfl) rfl (by decide) ⟨rfl, rfl, rfl, by decide +kernel, rfl, by decide +kernel, by decide +kernel⟩ (by decide +kernel) fun _ _ _ _ _ _ us hl => match us, hl with | [_, _, _], _ => rfl
theorem d__law_cell (X : K.In h) (G : h.Ns mainGlobals mg) (c : SaysX fa fn ex K) : ∃ a fd, DefOk K mg f__law_cell c__law_cell a fd :=
  defOk_of (ps := ["script", "k"]) X G (c.d.fact 30 (f := .glo f__law_cell) rfl) (c.d.def_ 30 (d := dfn 47 f__law_cell) rfl) rfl (by decide) ⟨rfl, rfl, rfl, by decide +kernel, rfl, by decide +kernel, by decide +kernel⟩ (by decide +kernel) fun _ _ _ _ _ _ us hl => match us, hl with | [_, _], _ => rfl
theorem d__law_mix (X : K.In h) (G : h.Ns mainGlobals mg) (c : SaysX fa fn ex K) : ∃ a fd, DefOk K mg f__law_mix c__law_mix a fd :=
  defOk_of (ps := ["script", "k"]) X G (c.d.fact 31 (f := .glo f__law_mix) rfl) (c.d.def_ 31 (d := dfn 48 f__law_mix) rfl) rfl (by decide) ⟨rfl, rfl, rfl, by decide +kernel, rfl, by decide +kernel, by decide +kernel⟩ (by decide +kernel) fun _ _ _ _ _ _ us hl => match us, hl with | [_, _], _ => rfl
theorem d__law_draw (X : K.In h) (G : h.Ns mainGlobals mg) (c : SaysX fa fn ex K) : ∃ a fd, DefOk K mg f__law_draw c__law_draw a fd :=
  defOk_of (ps := ["script", "town", "many"]) X G (c.d.fact 32 (f := .glo f__law_draw) rfl) (c.d.def_ 32 (d := dfn 49 f__law_draw) rfl) rfl (by decide) ⟨rfl, rfl, rfl, by decide +kernel, rfl, by decide +kernel, by decide +kernel⟩ (by decide +kernel) fun _ _ _ _ _ _ us hl => match us, hl with | [_, _, _], _ => rfl
theorem d__law_pick (X : K.In h) (G : h.Ns mainGlobals mg) (c : SaysX fa fn ex K) : ∃ a fd, DefOk K mg f__law_pick c__law_pick a fd :=
  defOk_of (ps := ["script", "town", "some"]) X G (c.d.fact 33 (f := .glo f__law_pick) rfl) (c.d.def_ 33 (d := dfn 50 f__law_pick) rfl) rfl (by decide) ⟨rfl, rfl, rfl, by decide +kernel, rfl, by decide +kernel, by decide +kernel⟩ (by decide +kernel) fun _ _ _ _ _ _ us hl => match us, hl with | [_, _, _], _ => rfl
theorem d__law_turn (X : K.In h) (G : h.Ns mainGlobals mg) (c : SaysX fa fn ex K) : ∃ a fd, DefOk K mg f__law_turn c__law_turn a fd :=
  defOk_of (ps := ["script", "town"]) X G (c.d.fact 34 (f := .glo f__law_turn) rfl) (c.d.def_ 34 (d := dfn 51 f__law_turn) rfl) rfl (by decide) ⟨rfl, rfl, rfl, by decide +kernel, rfl, by decide +kernel, by decide +kernel⟩ (by decide +kernel) fun _ _ _ _ _ _ us hl => match us, hl with | [_, _], _ => rfl
theorem d__law_next (X : K.In h) (G : h.Ns mainGlobals mg) (c : SaysX fa fn ex K) : ∃ a fd, DefOk K mg f__law_next c__law_next a fd :=
  defOk_of (ps := ["turn", "first", "winners", "tail"]) X G (c.d.fact 35 (f := .glo f__law_next) rfl) (c.d.def_ 35 (d := dfn 52 f__law_next) rfl) rfl (by decide) ⟨rfl, rfl, rfl, by decide +kernel, rfl, by decide +kernel, by decide +kernel⟩ (by decide +kernel) fun _ _ _ _ _ _ us hl => match us, hl with | [_, _, _, _], _ => rfl
theorem d__law_over (X : K.In h) (G : h.Ns mainGlobals mg) (c : SaysX fa fn ex K) : ∃ a fd, DefOk K mg f__law_over c__law_over a fd :=
  defOk_of (ps := ["wins", "goal", "lead"]) X G (c.d.fact 36 (f := .glo f__law_over) rfl) (c.d.def_ 36 (d := dfn 53 f__law_over) rfl) rfl (by decide) ⟨rfl, rfl, rfl, by decide +kernel, rfl, by decide +kernel, by decide +kernel⟩ (by decide +kernel) fun _ _ _ _ _ _ us hl => match us, hl with | [_, _, _], _ => rfl
theorem d__law_points (X : K.In h) (G : h.Ns mainGlobals mg) (c : SaysX fa fn ex K) : ∃ a fd, DefOk K mg f__law_points c__law_points a fd :=
  defOk_of (ps := ["outer", "inner", "goals", "leads", "first", "row"]) X G (c.d.fact 37 (f := .glo f__law_points) rfl) (c.d.def_ 37 (d := dfn 54 f__law_points) rfl) rfl (by decide) ⟨rfl, rfl, rfl, by decide +kernel, rfl, by decide +kernel, by decide +kernel⟩ (by decide +kernel) fun _ _ _ _ _ _ us hl => match us, hl with | [_, _, _, _, _, _], _ => rfl
theorem d_law (X : K.In h) (G : h.Ns mainGlobals mg) (c : SaysX fa fn ex K) : ∃ a fd, DefOk K mg f_law c_law a fd :=
  defOk_of (ps := ["script"]) X G (c.d.fact 38 (f := .glo f_law) rfl) (c.d.def_ 38 (d := dfn 55 f_law) rfl) rfl (by decide) ⟨rfl, rfl, rfl, by decide +kernel, rfl, by decide +kernel, by decide +kernel⟩ (by decide +kernel) fun _ _ _ _ _ _ us hl => match us, hl with | [_], _ => rfl
theorem all_d (X : K.In h) (G : h.Ns mainGlobals mg) (c : SaysX fa fn ex K) : AllD K mg T := .cons (d_is_number X G c) (.cons (d_is_turn X G c) (.cons (d_is_race X G c) (.cons (d_is_tied X G c) (.cons (d_is_series X G c) (.cons (d_is_shape X G c) (.cons (d_parts X G c) (.cons (d_size_of X G c) (.cons (d_is_form X G c) (.cons (d_look_form X G c) (.cons (d_look_side X G c) (.cons (d_look_row X G c) (.cons (d_inner_at X G c) (.cons (d_begun X G c) (.cons (d_won_by X G c) (.cons (d_served X G c) (.cons (d_decided X G c) (.cons (d_behind X G c) (.cons (d_lifted X G c) (.cons (d_pushed X G c) (.cons (d_pairs X G c) (.cons (d_server_of X G c) (.cons (d_winner_of X G c) (.cons (d_played X G c) (.cons (d_state_of X G c) (.cons (d_standing X G c) (.cons (d_winner X G c) (.cons (d_server X G c) (.cons (d_closing X G c) (.cons (d_closes X G c) (.cons (d__law_cell X G c) (.cons (d__law_mix X G c) (.cons (d__law_draw X G c) (.cons (d__law_pick X G c) (.cons (d__law_turn X G c) (.cons (d__law_next X G c) (.cons (d__law_over X G c) (.cons (d__law_points X G c) (.cons (d_law X G c) (.nil)))))))))))))))))))))))))))))))))))))))
theorem all_g (X : K.In h) (G : h.Ns mainGlobals mg) (c : SaysX fa fn ex K) : AllG K mg glT := by
  have z := c.x
  unfold ex at z
  simp only [Bool.and_eq_true] at z
  obtain ⟨t0, t1⟩ := z
  exact .cons (glob_tup X G (c.d.fact 39 (f := .glo s_TURNS) rfl) t0 (fun ρ H => .cons (.str _) (.cons (.str _) (.cons (.str _) (.cons (.str _) (.cons (.str _) (.cons (.str _) (.nil)))))))) (.cons (glob_int X G (c.d.fact 40 (f := .int s_MOST_DEEP 4) rfl)) (.cons (glob_int X G (c.d.fact 41 (f := .int s_MOST_SIZE 20) rfl)) (.cons (glob_int X G (c.d.fact 42 (f := .int s_MOST_GOAL 30) rfl)) (.cons (glob_int X G (c.d.fact 43 (f := .int s_MOST_LEAD 3) rfl)) (.cons (glob_tup X G (c.d.fact 44 (f := .glo s_SERIES) rfl) t1 (fun ρ H => .cons (.int _) (.cons (.int _) (.cons (.int _) (.cons (.int _) (.nil)))))) (.cons (glob_int X G (c.d.fact 45 (f := .int s_MOST_POINTS 500) rfl)) (.nil)))))))
theorem all_f (X : K.In h) (G : h.Ns mainGlobals mg) (c : SaysX fa fn ex K) : ∀ x ∈ freeNames, mg x = none := by
  intro x hx
  simp only [freeNames, List.mem_cons, List.not_mem_nil, or_false] at hx
  rcases hx with rfl | rfl | rfl | rfl | rfl | rfl | rfl | rfl | rfl | rfl | rfl | rfl | rfl
  · exact He.free_ok X G (c.d.fact 46 (f := .free "len") rfl)
  · exact He.free_ok X G (c.d.fact 47 (f := .free "abs") rfl)
  · exact He.free_ok X G (c.d.fact 48 (f := .free "max") rfl)
  · exact He.free_ok X G (c.d.fact 49 (f := .free "min") rfl)
  · exact He.free_ok X G (c.d.fact 50 (f := .free "sum") rfl)
  · exact He.free_ok X G (c.d.fact 51 (f := .free "all") rfl)
  · exact He.free_ok X G (c.d.fact 52 (f := .free "int") rfl)
  · exact He.free_ok X G (c.d.fact 53 (f := .free "str") rfl)
  · exact He.free_ok X G (c.d.fact 54 (f := .free "list") rfl)
  · exact He.free_ok X G (c.d.fact 55 (f := .free "tuple") rfl)
  · exact He.free_ok X G (c.d.fact 56 (f := .free "isinstance") rfl)
  · exact He.free_ok X G (c.d.fact 57 (f := .free "bool") rfl)
  · exact He.free_ok X G (c.d.fact 58 (f := .free "range") rfl)
end
end Lw
open PySem PySem.W PySem.Calls PyProof.Rows
set_option maxRecDepth 100000 in
set_option maxHeartbeats 8000000 in
theorem PySem.Challenge.cw_setpoints_k12_whole_turns_holds : PySem.Challenge.rw_setpoints_k12_whole_turns.Holds := by
  w_on; o_law
  refine HandSHeadRun.head_any (r := OpenLaw.row PySem.Challenge.rw_setpoints_k12_whole_turns) (q := view (OpenLaw.row PySem.Challenge.rw_setpoints_k12_whole_turns).prog [55]) (H := Lw.hk) (ob := Lw.ob) (M := 6000) (loose := Lw.loose) (d := HandSHeadRun.topDef (OpenLaw.row PySem.Challenge.rw_setpoints_k12_whole_turns).prog 55) (kwd := []) Lw.ob_eq
    (by kernel_rfl) (fun s => by kernel_rfl) Lw.run (by kernel_rfl) (by kernel_rfl) (by kernel_rfl) (by rfl) (by first | assumption | decide +kernel) (by decide +kernel) ⟨rfl, rfl, rfl, rfl, rfl, by decide +kernel⟩ ?hw ?hc
  case hw => w_witness2
  case hc =>
    refine L2.walk_ofE (l := PySem.Challenge.rw_setpoints_k12_whole_turns) (n := 63) (k := 60) (x := "script") (CX := L2.CX0) rfl (by decide) (by kernel_rfl) ⟨rfl, by decide, by decide⟩ ?F (fun _ _ _ _ z => z)
    intro w mg fa h Y G hmg0
    obtain ⟨K, KX, c⟩ := Y
    have hmg : mg Ev.f_law = some (.ref fa) := by
      have e : (HandSHeadRun.topDef (OpenLaw.row PySem.Challenge.rw_setpoints_k12_whole_turns).prog 55).name = Ev.f_law := by kernel_rfl
      rw [← e]
      exact hmg0
    obtain ⟨fd, F⟩ := c.d.def_ 38 (d := Lw.dfn 55 Ev.f_law) rfl
    have D : Ev.DefOk K mg Ev.f_law Ev.c_law (He.ga K Ev.f_law) fd := Ev.defOk_fd (ps := ["script"]) KX G (c.d.fact 38 (f := .glo Ev.f_law) rfl) F rfl (by decide) ⟨rfl, rfl, rfl, by decide +kernel, rfl, by decide +kernel, by decide +kernel⟩ (by decide +kernel) fun _ _ _ _ _ _ us hl => match us, hl with | [_], _ => rfl
    have ea : He.ga K Ev.f_law = fa := by
      have e := D.mgf.symm.trans hmg
      injection e with e
      injection e
    rw [ea] at D
    refine ⟨K, fd, Ev.spOf K ⟨Ev.callN Lw.T Lw.gl 1000000 60, Lw.gl, 1000000⟩ Ev.f_law, KX, fun s u => ?_, fun H b ns hl hO hS => Ev.law_sp hO hS (Ev.law_true Lw.pg (by decide) ns hl), fun base KB GB => ?_⟩
    · exact L2.FunD.bindsA (ps := ["script"]) F (fun _ _ _ _ _ _ us hl => match us, hl with | [_], _ => rfl) s [u] rfl
    · exact Ev.fns_ok (fun f d e => (Lw.all_d KB GB c).at_ e) (fun x v e => (Lw.all_g KB GB c).at_ e) (Lw.all_f KB GB c) 60 Ev.f_law Ev.c_law fa fd rfl D

